import PyProof.Rows.All
import Wide.All
import OpenK.AllK
import Wide.FinOn
import HandS.Base
import HandS.Call
import HandS.Dict
import HandS.Iter
import HandS.Comp
import HandS.DictComp
import HandS.IsInst
import KE.KDictKeyed
import KE.KeyNested
import KE.KDictWalk
import HandS.ForMost
import HandS.ForExc
import HandS.Wide
import HandS.Defaults
import HandS.MakeKwOnly
import HandS.CallSlots
import HandS.TupAny
import HandS.Rev
import HandS.Zip
import HandS.ExcSuper
import HandS.ExcInit
import HandS.TryOnly
import HandS.TryMany
import KE.KExcSuper
import KE.KSuper
import HandS.ExcField
import HandS.ExcIs
import HandS.More
import HandS.Conv
import HandS.Gcd
import HandS.Deep
import PyProof.ReprReads
import PyProof.ReprRoads
import HandS.RaiseMore
import PyProof.Draws
import PyProof.TupleIter
import PyProof.EnumMake
import HandS.MakeKw
import KE.KIsAll
import KE.KEqNest
import KE.KOpsOwn
import PySem.Challenge.RW_labelgaps_k03_share_quotients
import KE.KExcLine
set_option Elab.async false
set_option linter.all false
set_option maxRecDepth 100000
set_option maxHeartbeats 2000000
set_option autoImplicit false
/-! dicts whose keys are tuples of whole numbers, bools, None and such tuples: told by the exact object -/
namespace DL
open PySem L2 PySem.Spec PyProof.Rows
mutual
/-- a key's hash: no world is in it where no text is -/
def nh : NestedKey → Int
  | .none => reduceHash 0xFCA86420
  | .num i => hashInt i
  | .text _ => 0
  | .tup ks => reduceHash (Builtin.Tuple.tupleHashOf (nhs ks))
def nhs : List NestedKey → List Int
  | [] => []
  | k :: ks => nh k :: nhs ks
end
mutual
def noT : NestedKey → Bool
  | .none => true
  | .num _ => true
  | .text _ => false
  | .tup ks => noTs ks
def noTs : List NestedKey → Bool
  | [] => true
  | k :: ks => noT k && noTs ks
end
mutual
theorem nh_eq (w : World) : ∀ k : NestedKey, noT k = true → NestedKey.hash w k = nh k
  | .none, _ => rfl
  | .num _, _ => rfl
  | .text _, h => by cases h
  | .tup ks, h => by rw [NestedKey.hash, nh, nhs_eq w ks h]
theorem nhs_eq (w : World) : ∀ ks : List NestedKey, noTs ks = true → NestedKey.hashes w ks = nhs ks
  | [], _ => rfl
  | k :: ks, h => by
    rw [noTs, Bool.and_eq_true] at h
    rw [NestedKey.hashes, nhs, nh_eq w k h.1, nhs_eq w ks h.2]
end
abbrev NEnt := NestedKey × Addr × Value
def ent (x : NEnt) : DictEntry := ⟨nh x.1, .ref x.2.1, x.2.2⟩
def okK (k : NestedKey) : Bool := noT k && decide (k.depth ≤ 8)
/-- the object is a dict of these entries -/
structure DOb (o : Obj) (xs : List NEnt) : Prop where
  ex : o.ExactDict
  dat : ∃ es ep, o.data = .dict es ep ∧ es.toList = xs.map ent
  nod : (xs.map (·.1)).Nodup
  ok : ∀ x ∈ xs, okK x.1 = true
  len : xs.length ≤ sizeLine
/-- known to the object -/
def exO (a : Addr) (o : Obj) : HO := .ext fun h => h.get? a = some o
theorem okK_hash {P : Program} {w : World} {x : NEnt} (h : okK x.1 = true) : entryOfKey (nestedKind P w) x = ent x := by
  unfold okK at h
  rw [Bool.and_eq_true] at h
  show (⟨NestedKey.hash w x.1, _, _⟩ : DictEntry) = _
  rw [nh_eq w x.1 h.1]
  rfl
theorem ents_eq {P : Program} {w : World} : ∀ {xs : List NEnt}, (∀ x ∈ xs, okK x.1 = true) → xs.map (entryOfKey (nestedKind P w)) = xs.map ent := fun {xs} h => List.map_congr_left fun x hx => okK_hash (h x hx)
mutual
/-- the value is the key -/
inductive KA (K : PySem.W.Frag) (H : Hp) : NestedKey → V → Prop
  | none : KA K H .none .non
  | bl (b : Bool) : KA K H (.num (if b = true then 1 else 0)) (.bl b)
  | int (i : Int) : KA K H (.num i) (.int i)
  | tup {a : Addr} {vs : List V} {ks : List NestedKey} : SqT K H a vs → KAs K H ks vs → KA K H (.tup ks) (.ref a)
inductive KAs (K : PySem.W.Frag) (H : Hp) : List NestedKey → List V → Prop
  | nil : KAs K H [] []
  | cons {k : NestedKey} {v : V} {ks : List NestedKey} {vs : List V} : KA K H k v → KAs K H ks vs → KAs K H (k :: ks) (v :: vs)
end
section
variable {X : Cx} {pins : List (Addr × Obj)} {σ : L2.St} {H : Hp} {s : Shared}
mutual
theorem KA.is (I : Inv X pins σ H s) : ∀ {k : NestedKey} {v : V} {u : Value}, KA X.K H k v → RelV v u → NestedIs s.heap k u
  | _, _, _, .none, r => by cases (show _ = Value.none from r); exact .none
  | _, _, _, .bl b, r => by cases (show _ = Value.bool b from r); exact .bool rfl
  | _, _, _, .int i, r => by obtain ⟨t, rfl⟩ := r; exact .int i t
  | _, _, _, .tup (a := a) (vs := vs) h r, e => by
    cases (show _ = Value.ref a from e)
    obtain ⟨its, rv, ⟨o, ho, hc, n, hd⟩, _⟩ := I.tuple h
    exact .tup ho hc hd (by simpa using KAs.is I r rv)
theorem KAs.is (I : Inv X pins σ H s) : ∀ {ks : List NestedKey} {vs : List V} {us : List Value}, KAs X.K H ks vs → Vals vs us → NestedAll s.heap ks us
  | _, _, _, .nil, .nil => .nil
  | _, _, _, .cons h r, .cons e q => .cons (KA.is I h e) (KAs.is I r q)
end
theorem exO_get {a : Addr} {o : Obj} (I : Inv X pins σ H s) (h : H a = some (exO a o)) : s.heap.get? a = some o := (I.hok a _ h).1
theorem exO_ok {P : Program} {w : World} {h : Heap} {a : Addr} {o : Obj} (e : h.get? a = some o) : ObjOk P w H h a (exO a o) := ⟨e, ⟨o, e⟩, fun _ _ h1 k => k o h1⟩
/-- the keys of all entries are there -/
def KeysA (K : PySem.W.Frag) (H : Hp) (xs : List NEnt) : Prop := ∀ x ∈ xs, KA K H x.1 (.ref x.2.1)
theorem dob_of {a : Addr} {o : Obj} {xs : List NEnt} (I : Inv X pins σ H s) (h : H a = some (exO a o)) (d : DOb o xs) (hk : KeysA X.K H xs) : s.heap.DictOfH (nestedKind X.prog X.w) a xs := by
  obtain ⟨es, ep, hd, he⟩ := d.dat
  refine ⟨o, es, ep, exO_get I h, d.ex, hd, by rw [he, ents_eq d.ok], fun x hx => ⟨KA.is I (hk x hx) rfl, ?_⟩, d.nod⟩
  have := d.ok x hx
  unfold okK at this
  rw [Bool.and_eq_true] at this
  exact of_decide_eq_true this.2
theorem key_is {k : NestedKey} {b : Addr} (I : Inv X pins σ H s) (h : KA X.K H k (.ref b)) (ok : okK k = true) : (nestedKind X.prog X.w).is s.heap k b := by
  refine ⟨KA.is I h rfl, ?_⟩
  unfold okK at ok
  rw [Bool.and_eq_true] at ok
  exact of_decide_eq_true ok.2
theorem room_n {A : Around} (hu : A.units + 64 < cLine) : (nestedKind X.prog X.w).room A.in1 := by
  show A.units + 1 + 8 < cLine
  omega
theorem dict_ty {a : Addr} {o : Obj} {xs : List NEnt} (I : Inv X pins σ H s) (h : H a = some (exO a o)) (d : DOb o xs) : s.TypeIs (.ref a) "dict" := ⟨o, exO_get I h, d.ex.1⟩
end
/-- d[k] -/
def rIxN (K : PySem.W.Frag) : R2 := fun x y H Q => ∃ (a b : Addr) (o : Obj) (xs : List NEnt) (k : NestedKey) (p : Addr × Value) (v : V), x = .ref a ∧ y = .ref b ∧ H a = some (exO a o) ∧ DOb o xs ∧ KeysA K H xs ∧ KA K H k (.ref b) ∧ okK k = true ∧ atKey xs k = some p ∧ RelV v p.2 ∧ Q v H
theorem ix_n {X : Cx} (hu : X.A.units + 64 < cLine) : IxR X (rIxN X.K) := by
  intro value slice pins s σ H x y v u Q I rx ry h hs
  obtain ⟨a, b, o, xs, k, p, z, rfl, rfl, hd, d, hk, hb, ok, ha, rz, q⟩ := h
  cases (show v = Value.ref a from rx)
  cases (show u = Value.ref b from ry)
  have dd := dob_of I hd d hk
  exact subscriptTail_builtinR (x := p.2) dd.typeIs PySem.F.slot_dict_getitem.lookup
    (wpAny_getItem_heap (Q := fun r s' => r = p.2 ∧ EP X pins σ Q r s') (room_n hu) (key_is I hb ok) dd ha ⟨rfl, z, H, I.tok _, rz, q⟩) hs
/-- what the dict at a is: of these entries -/
def DAt (K : PySem.W.Frag) (H : Hp) (a : Addr) (xs : List NEnt) : Prop := (H a = some (.dK []) ∧ xs = []) ∨ ∃ o, H a = some (exO a o) ∧ DOb o xs ∧ (a == sysModules) = false ∧ KeysA K H xs
theorem dat_of {X : Cx} {pins : List (Addr × Obj)} {σ : L2.St} {H : Hp} {s : Shared} {a : Addr} {xs : List NEnt} (I : Inv X pins σ H s) (h : DAt X.K H a xs) : s.heap.DictOfH (nestedKind X.prog X.w) a xs ∧ (a == sysModules) = false ∧ xs.length ≤ sizeLine ∧ Mut (H a) ∧ ∀ x ∈ xs, okK x.1 = true := by
  rcases h with ⟨h, rfl⟩ | ⟨o, h, d, hm, hk⟩
  · obtain ⟨_, hs, vs, rel, dd⟩ := dk_of I.hok h
    cases rel
    obtain ⟨o, es, ep, ho, hx, hdt, r⟩ := dd
    refine ⟨⟨o, es, ep, ho, hx, hdt, ?_, fun _ h => (nomatch h), List.nodup_nil⟩, hs, Nat.zero_le _, by rw [h]; exact True.intro, fun _ h => (nomatch h)⟩
    have l := r.2.1.length
    simpa using l
  · exact ⟨dob_of I h d hk, hm, d.len, by rw [h]; exact True.intro, d.ok⟩
/-- k in d, k not in d -/
def rInN (K : PySem.W.Frag) (g : Bool → Bool) : R2 := fun y x H Q => ∃ (a b : Addr) (xs : List NEnt) (k : NestedKey), x = .ref a ∧ y = .ref b ∧ DAt K H a xs ∧ KA K H k (.ref b) ∧ okK k = true ∧ Q (.bl (g (atKey xs k).isSome)) H
theorem op_inN {X : Cx} (hu : X.A.units + 64 < cLine) : OpR X (compareOp .In) (rInN X.K fun b => b) := by
  intro pins s σ H x y v u Q I rx ry h
  obtain ⟨a, b, xs, k, rfl, rfl, d, hb, ok, q⟩ := h
  cases (show v = Value.ref b from rx)
  cases (show u = Value.ref a from ry)
  obtain ⟨dd, hm, _⟩ := dat_of I d
  exact wpAny_in_heap (room_n hu) (key_is I hb ok) hm dd ⟨.bl (atKey xs k).isSome, H, I.tok _, rfl, q⟩
theorem op_notInN {X : Cx} (hu : X.A.units + 64 < cLine) : OpR X (compareOp .NotIn) (rInN X.K not) := by
  intro pins s σ H x y v u Q I rx ry h
  obtain ⟨a, b, xs, k, rfl, rfl, d, hb, ok, q⟩ := h
  cases (show v = Value.ref b from rx)
  cases (show u = Value.ref a from ry)
  obtain ⟨dd, hm, _⟩ := dat_of I d
  exact wpAny_notIn_heap (room_n hu) (key_is I hb ok) hm dd ⟨.bl (!(atKey xs k).isSome), H, I.tok _, rfl, q⟩
/-- d[k] = v -/
def sNPut (K : PySem.W.Frag) (td ty tv : TE) : TS := fun D σ H => tv σ H fun v H1 => td σ H1 fun x H2 => ty σ H2 fun y H3 => ∃ (a b : Addr) (xs : List NEnt) (k : NestedKey), x = .ref a ∧ y = .ref b ∧ DAt K H3 a xs ∧ KA K H3 k (.ref b) ∧ okK k = true ∧ xs.length < sizeLine ∧
  ∀ (o' : Obj) (u : Value), RelV v u → (a == sysModules) = false → DOb o' (storedH xs k b u) → D.nx σ (upd H3 a (exO a o'))
theorem storedH_len (xs : List NEnt) (k : NestedKey) (b : Addr) (u : Value) : (storedH xs k b u).length ≤ xs.length + 1 := by
  unfold storedH
  split <;> simp
theorem storedH_ok {xs : List NEnt} {k : NestedKey} {b : Addr} {u : Value} (h : ∀ x ∈ xs, okK x.1 = true) (hk : okK k = true) : ∀ x ∈ storedH xs k b u, okK x.1 = true := by
  intro x hx
  unfold storedH at hx
  split at hx
  · obtain ⟨y, hy, rfl⟩ := List.mem_map.mp hx
    unfold putAt
    split <;> exact h y hy
  · rcases List.mem_append.mp hx with q | q
    · exact h x q
    · cases List.mem_singleton.mp q
      exact hk
theorem n_setItem {X : Cx} {pins : List (Addr × Obj)} {σ : L2.St} {H : Hp} {s : Shared} {a b : Addr} {xs : List NEnt} {k : NestedKey} {r : Value} {E : Value → Shared → Prop} {Q : Unit → Shared → Prop} (hu : X.A.units + 64 < cLine) (I : Inv X pins σ H s) (d : DAt X.K H a xs) (hb : KA X.K H k (.ref b)) (ok : okK k = true) (hl : xs.length < sizeLine)
    (h : ∀ (o' : Obj) (s' : Shared), (a == sysModules) = false → DOb o' (storedH xs k b r) → Inv X pins σ (upd H a (exO a o')) s' → Q () s') : wpAny (model X.prog X.w) X.A (setItem (.ref a) (.ref b) r) Q E s := by
  obtain ⟨dd, hm, hz, mu, hok⟩ := dat_of I d
  refine wpAny_setItem_heap (hsz := hz) (room_n hu) (key_is I hb ok) dd fun h' dd' hs => ?_
  obtain ⟨q, es, ep, hq, h2, h3, h4, _, h5⟩ := dd'
  have hok' := storedH_ok (b := b) (u := r) hok ok
  refine h q _ hm ⟨h2, ⟨es, ep, h3, by rw [h4, ents_eq hok']⟩, h5, hok', ?_⟩ (d_write I mu hs ⟨q, hq⟩ (exO_ok hq))
  have := storedH_len xs k b r
  omega
theorem ps_nput {X : Cx} {o i value : Expr} {pos pos' : Pos} {td ty tv : TE} (hu : X.A.units + 64 < cLine) (ho : PE X o td) (hi : PE X i ty) (hv : PE X value tv) (hs : swapsWith value (some (.Subscript o i pos')) pos.line X.env = pure false) :
    PS X (.Assign [.Subscript o i pos'] value pos) (sNPut X.K td ty tv) := by
  refine ⟨fun pins s σ H D I h => ?_⟩
  refine wpAny_Assign_Subscript (thn (hv.run pins s σ H _ I h) fun r s1 ⟨v, H1, I1, rv, q1⟩ => thn (ho.run pins s1 σ H1 _ I1 q1) fun u s2 ⟨x, H2, I2, rx, q2⟩ => thn (hi.run pins s2 σ H2 _ I2 q2) fun iv s3 ⟨y, H3, I3, ry, a, b, xs, k, ex, ey, d, hb, ok, hl, q3⟩ => ?_) hs
  subst ex ey
  obtain rfl : u = Value.ref a := rx
  obtain rfl : iv = Value.ref b := ry
  exact n_setItem hu I3 d hb ok hl fun o' s4 hm d' I4 => ⟨σ, _, I4, q3 o' r rv hm d'⟩
/-! ### the keys, one by one -/
def Itn (a : Addr) (o : Obj) (xs : List NEnt) : It :=
  ⟨fun i H => H a = some (exO a o) ∧ i < xs.length, fun i H x H' => H' = H ∧ ∃ y, xs[i]? = some y ∧ x = .ref y.2.1, fun i H => H a = some (exO a o) ∧ xs.length ≤ i⟩
theorem ent_get {xs : List NEnt} {es : Array DictEntry} (he : es.toList = xs.map ent) (i : Nat) : es[i]? = (xs[i]?).map ent := by
  rw [← Array.getElem?_toList, he, List.getElem?_map]
theorem ent_size {xs : List NEnt} {es : Array DictEntry} (he : es.toList = xs.map ent) : es.size = xs.length := by
  have := congrArg List.length he
  simpa using this
theorem turn_n {P : Program} {w : World} {K : PySem.W.Frag} {tg : Expr} {a : Addr} {o : Obj} {es : Array DictEntry} {ep : Nat} {xs : List NEnt} (it : Addr) (hod : o.data = .dict es ep) (he : es.toList = xs.map ent) : Turn P w K tg (Itn a o xs) [it] it (fun i h => h.IsKeyIter it a i xs.length ep) where
  mem := by simp
  obj := fun i h st b hb => by
    have e : b = it := by simpa using hb
    subst e
    obtain ⟨oi, e, c, dd⟩ := st
    exact ⟨oi, e, fun v z => by rw [dd] at z; cases z⟩
  keep := fun i h h' st k => st.at fun oi e => k it (by simp) oi e
  item := by
    intro X hP hw hK hc i pins s σ H E I hf st hg
    subst hP hw hK
    obtain ⟨hd, hi⟩ := hg
    obtain ⟨f0, f1, f2, f3, f4, f5⟩ := hf it (by simp)
    have hgd := exO_get I hd
    have hen : es[i]? = some (ent xs[i]) := by rw [ent_get he, List.getElem?_eq_getElem hi]; rfl
    refine next_key_item st hgd hod (ent_size he) hen fun h' st' sb => ?_
    have I1 : Inv X pins σ H { s with heap := h' } := I.turned (t' := s.toks) (fun b ob hb e => (sb.2 b hb).trans e) f0 f1 f3 f4 f5
    obtain ⟨oi, e, c, dd⟩ := id st'
    exact ⟨_, rfl, go_of (s := { s with heap := h' }) e c dd (by decide) ⟨.ref (xs[i]).2.1, H, I1, rfl, ⟨rfl, xs[i], List.getElem?_eq_getElem hi, rfl⟩, st', fun b hb => (hf b hb).1⟩⟩
  done := by
    intro X hP hw hK hc i pins s σ H E I hf st hg
    subst hP hw hK
    obtain ⟨hd, hi⟩ := hg
    obtain ⟨f0, f1, f2, f3, f4, f5⟩ := hf it (by simp)
    exact next_key_end (I.ok.hd hc) st (exO_get I hd) hod (ent_size he) hi fun h' eb => ⟨rfl, I.turned (t' := s.toks) (fun b ob hb e => eb b ob hb e) f0 f1 f3 f4 f5⟩
  self := fun A i s Q E st h => by
    refine wpAny_pyIter_slot st.typeIs F.slot_dict_keyiterator_iter (wpAny_call_entry F.slot_dict_keyiterator_iter st.typeIs F.entry_dict_keyiterator_iter ?_ (F.args_dict_keyiterator_iter_1 _))
    show wpAny _ _ (ret (.ref it)) _ _ s
    exact wpAny_pure ⟨_, rfl, "dict_keyiterator", _, st.typeIs, F.slot_dict_keyiterator_next.lookup, h⟩
def iKeysN (td : TE) : TI := fun σ H R => td σ H fun x H1 => ∃ (a : Addr) (o : Obj) (xs : List NEnt), x = .ref a ∧ H1 a = some (exO a o) ∧ DOb o xs ∧ (a == sysModules) = false ∧ R (Itn a o xs) H1
theorem pi_keysN {X : Cx} {tg e : Expr} {td : TE} (he : PE X e td) : PI X tg e (iKeysN td) := by
  refine ⟨fun pins s σ H R I h => ?_⟩
  refine thn (he.run pins s σ H _ I h) fun u s1 ⟨x, H1, I1, rx, a, o, xs, ex, hd, d, hm, q⟩ => ?_
  subst ex
  obtain rfl : u = Value.ref a := rx
  obtain ⟨es, ep, hdt, hes⟩ := d.dat
  refine iter_keys hm (exO_get I1 hd) d.ex hdt (pi_one (tk := s1.toks) I1 _ (turn_n _ hdt hes) ⟨_, Heap.get?_push_size _ rfl, rfl, ?_⟩ q)
  rw [ent_size hes] <;> rfl
end DL
namespace DL
open PySem L2 PySem.Spec PyProof.Rows
/-- a value's type, with the dicts that are told by their object -/
inductive TyY (K : PySem.W.Frag) (H : Hp) : V → Value → Prop where
  | x {v : V} {t : Value} (h : TyX K H v t) : TyY K H v t
  | ex {a : Addr} {o : Obj} (e : H a = some (exO a o)) (c : o.cls = .type "dict") : TyY K H (.ref a) (.type "dict")
theorem kit_ofY {X : Cx} {pins : List (Addr × Obj)} {σ : L2.St} {H : Hp} {s : Shared} {x : V} {u t : Value} (I : Inv X pins σ H s) (rx : RelV x u) (ty : TyY X.K H x t) : ∃ P : Heap → Prop, PySem.W.KitX X.K u t P ∧ P s.heap ∧ u ≠ .builtin "__main__.__loader__#opaque" := by
  cases ty with
  | x h => exact kit_of I rx h
  | @ex a o e c =>
    cases (show u = Value.ref a from rx)
    exact ⟨_, PySem.W.kitx_dict, ⟨o, exO_get I e, c⟩, fun z => nomatch z⟩
def rIsiA (K : PySem.W.Frag) : List V → Hp → VK → Prop := fun xs H Q => ∃ (x c : V) (t u : Value) (b : Bool), xs = [x, c] ∧ ClsV c u ∧ TyY K H x t ∧ PySem.W.kitOne K t u = some b ∧ Q (.bl b) H
theorem call_isiA {X : Cx} : CallR X (.builtin "isinstance") (rIsiA X.K) := by
  intro pins s σ H xs us Q I r h
  obtain ⟨x, c, t, u, b, rfl, k, ty, e, q⟩ := h
  obtain ⟨u1, u2, rfl, r1, r2⟩ := vals2 r
  have e2 := k.eq r2
  subst e2
  obtain ⟨P, Z, p, hx⟩ := kit_ofY I r1 ty
  exact PySem.W.kia_one Z I.kIn p e hx fun tk => ⟨.bl b, H, I.tok tk, rfl, q⟩
end DL

set_option maxRecDepth 100000
set_option maxHeartbeats 2000000
set_option autoImplicit false
/-! DL: a layer of plain data over the hand layer: every def's body as a function on data (its run), proved once for each construct. -/
namespace DL
open PySem L2

/-! ### data -/
/-- a class: a built-in one by its name, one of the program's own by its number -/
inductive Ty where
  | b (T : String) | o (c : Nat)
inductive D where
  | non | bl (b : Bool) | int (i : Int) | str (s : Str)
  | tup (xs : List D) | lst (xs : List D)
  | scr (xs : List D)
  | dk (kvs : List (Key × D))
  | dn (kvs : List (D × D))
  | obj (c : Nat) (fs : List (Str × D))
  | cls (t : Ty)

mutual
/-- data as a key -/
def keyD : D → Option NestedKey
  | .non => some .none
  | .bl b => some (.num (if b = true then 1 else 0))
  | .int i => some (.num i)
  | .tup ds => (keyDs ds).map .tup
  | _ => none
def keyDs : List D → Option (List NestedKey)
  | [] => some []
  | d :: ds => (keyD d).bind fun k => (keyDs ds).map fun ks => k :: ks
end
/-- a tuple as a key -/
def keyN (d : D) : Option NestedKey := match d with
  | .tup ds => (keyDs ds).bind fun ks => if okK (.tup ks) = true then some (.tup ks) else none
  | _ => none

mutual
inductive Rep (K : PySem.W.Frag) (kap : Nat → Addr) (F : Hp) : V → D → Prop
  | non : Rep K kap F .non .non
  | bl (b : Bool) : Rep K kap F (.bl b) (.bl b)
  | int (i : Int) : Rep K kap F (.int i) (.int i)
  | str (s : Str) : Rep K kap F (.str s) (.str s)
  | tup {a : Addr} {vs : List V} {ds : List D} : SqT K F a vs → Reps K kap F vs ds → Rep K kap F (.ref a) (.tup ds)
  | lst {a : Addr} {vs : List V} {ds : List D} : F a = some (.lst vs) → Reps K kap F vs ds → Rep K kap F (.ref a) (.lst ds)
  | scr {a : Addr} {vs : List V} {ds : List D} : SqL K F a vs → Reps K kap F vs ds → Rep K kap F (.ref a) (.scr ds)
  | dk {a : Addr} {kvs : List (Key × V)} {ds : List (Key × D)} : F a = some (.dK kvs) → kvs.map (·.1) = ds.map (·.1) → Reps K kap F (kvs.map (·.2)) (ds.map (·.2)) → Rep K kap F (.ref a) (.dk ds)
  | dn {a : Addr} {o : Obj} {xs : List NEnt} {vs : List V} {ds : List (D × D)} : F a = some (exO a o) → DOb o xs → (a == sysModules) = false → Vals vs (xs.map (·.2.2)) → (xs.map fun x => some x.1) = ds.map (fun p => keyN p.1) → Reps K kap F (xs.map fun x => V.ref x.2.1) (ds.map (·.1)) → Reps K kap F vs (ds.map (·.2)) → Rep K kap F (.ref a) (.dn ds)
  | obj {a dx : Addr} {vs : List (Str × V)} {fs : List (Str × D)} {c : Nat} : F a = some (.ins (kap c) dx vs) → vs.map (·.1) = fs.map (·.1) → Reps K kap F (vs.map (·.2)) (fs.map (·.2)) → Rep K kap F (.ref a) (.obj c fs)
  | clsB (T : String) : Rep K kap F (.ty T) (.cls (.b T))
  | clsO (c : Nat) : Rep K kap F (.ref (kap c)) (.cls (.o c))
inductive Reps (K : PySem.W.Frag) (kap : Nat → Addr) (F : Hp) : List V → List D → Prop
  | nil : Reps K kap F [] []
  | cons {v : V} {d : D} {vs : List V} {ds : List D} : Rep K kap F v d → Reps K kap F vs ds → Reps K kap F (v :: vs) (d :: ds)
end

theorem sqT_mono {K : PySem.W.Frag} {F F' : Hp} {a : Addr} {xs : List V} (e : Same F F') (h : SqT K F a xs) : SqT K F' a xs := by
  rcases h with (h | ⟨o, h⟩) | h
  · exact .inl (.inl (e _ _ h))
  · exact .inl (.inr ⟨o, e _ _ h⟩)
  · exact .inr h
theorem sqL_mono {K : PySem.W.Frag} {F F' : Hp} {a : Addr} {xs : List V} (e : Same F F') (h : SqL K F a xs) : SqL K F' a xs := e.seq h

section
variable {K : PySem.W.Frag} {kap : Nat → Addr} {F F' H H' : Hp}
mutual
theorem Rep.mono (e : Same F F') : ∀ {v : V} {d : D}, Rep K kap F v d → Rep K kap F' v d
  | _, _, .non => .non
  | _, _, .bl b => .bl b
  | _, _, .int i => .int i
  | _, _, .str s => .str s
  | _, _, .tup h r => .tup (sqT_mono e h) (Reps.mono e r)
  | _, _, .lst h r => .lst (e _ _ h) (Reps.mono e r)
  | _, _, .scr h r => .scr (sqL_mono e h) (Reps.mono e r)
  | _, _, .dk h n r => .dk (e _ _ h) n (Reps.mono e r)
  | _, _, .dn h d m v n r q => .dn (e _ _ h) d m v n (Reps.mono e r) (Reps.mono e q)
  | _, _, .obj h n r => .obj (e _ _ h) n (Reps.mono e r)
  | _, _, .clsB T => .clsB T
  | _, _, .clsO c => .clsO c
theorem Reps.mono (e : Same F F') : ∀ {vs : List V} {ds : List D}, Reps K kap F vs ds → Reps K kap F' vs ds
  | _, _, .nil => .nil
  | _, _, .cons h r => .cons (Rep.mono e h) (Reps.mono e r)
end
theorem Reps.length : ∀ {vs : List V} {ds : List D}, Reps K kap F vs ds → vs.length = ds.length
  | _, _, .nil => rfl
  | _, _, .cons _ r => congrArg Nat.succ (Reps.length r)
theorem Reps.get : ∀ {vs : List V} {ds : List D} {i : Nat} {d : D}, Reps K kap F vs ds → ds[i]? = some d → ∃ v, vs[i]? = some v ∧ Rep K kap F v d
  | _, _, _, _, .nil, e => by simp at e
  | _, _, 0, _, .cons h _, e => by simp at e; subst e; exact ⟨_, rfl, h⟩
  | _, _, i + 1, d, .cons _ r, e => by
    obtain ⟨v, h1, h2⟩ := Reps.get (i := i) (d := d) r (by simpa using e)
    exact ⟨v, by simpa using h1, h2⟩
theorem Reps.append : ∀ {vs ws : List V} {ds es : List D}, Reps K kap F vs ds → Reps K kap F ws es → Reps K kap F (vs ++ ws) (ds ++ es)
  | _, _, _, _, .nil, q => q
  | _, _, _, _, .cons h r, q => .cons h (Reps.append r q)
theorem Reps.drop : ∀ {vs : List V} {ds : List D} (n : Nat), Reps K kap F vs ds → Reps K kap F (vs.drop n) (ds.drop n)
  | _, _, 0, r => r
  | _, _, n + 1, .nil => .nil
  | _, _, n + 1, .cons _ r => Reps.drop n r
theorem Reps.take : ∀ {vs : List V} {ds : List D} (n : Nat), Reps K kap F vs ds → Reps K kap F (vs.take n) (ds.take n)
  | _, _, 0, _ => .nil
  | _, _, n + 1, .nil => .nil
  | _, _, n + 1, .cons h r => .cons h (Reps.take n r)
theorem Reps.set {v : V} {d : D} (h : Rep K kap F v d) : ∀ {vs : List V} {ds : List D} (n : Nat), Reps K kap F vs ds → Reps K kap F (vs.set n v) (ds.set n d)
  | _, _, _, .nil => .nil
  | _, _, 0, .cons _ r => .cons h r
  | _, _, n + 1, .cons q r => .cons q (Reps.set h n r)
theorem Reps.ints : ∀ (l : List Int), Reps K kap F (l.map V.int) (l.map D.int)
  | [] => .nil
  | i :: l => .cons (.int i) (Reps.ints l)
/-- fields by name -/
theorem field_get : ∀ {vs : List (Str × V)} {fs : List (Str × D)} {f : Str} {d : D}, vs.map (·.1) = fs.map (·.1) → Reps K kap F (vs.map (·.2)) (fs.map (·.2)) → fs.lookup f = some d → ∃ v, vs.lookup f = some v ∧ Rep K kap F v d
  | [], [], f, d, _, _, e => by simp at e
  | [], _ :: _, f, d, n, _, _ => by simp at n
  | _ :: _, [], f, d, n, _, _ => by simp at n
  | (g, v) :: vs, (g', d') :: fs, f, d, n, .cons h r, e => by
    simp only [List.map_cons, List.cons.injEq] at n
    obtain ⟨rfl, n⟩ := n
    by_cases q : f = g
    · subst q
      simp [List.lookup] at e
      subst e
      exact ⟨v, by simp [List.lookup], h⟩
    · have hq : (f == g) = false := by simpa using q
      simp only [List.lookup, hq] at e ⊢
      exact field_get n r e
theorem field_none : ∀ {vs : List (Str × V)} {fs : List (Str × D)} {f : Str}, vs.map (·.1) = fs.map (·.1) → fs.lookup f = none → vs.lookup f = none
  | [], [], f, _, _ => rfl
  | [], _ :: _, f, n, _ => by simp at n
  | _ :: _, [], f, n, _ => by simp at n
  | (g, v) :: vs, (g', d') :: fs, f, n, e => by
    simp only [List.map_cons, List.cons.injEq] at n
    obtain ⟨rfl, n⟩ := n
    by_cases q : f = g
    · subst q
      simp [List.lookup] at e
    · have hq : (f == g) = false := by simpa using q
      simp only [List.lookup, hq] at e ⊢
      exact field_none n e
/-- a field is stored -/
def putD (f : Str) (v : D) : List (Str × D) → List (Str × D)
  | [] => [(f, v)]
  | (g, x) :: r => if g = f then (g, v) :: r else (g, x) :: putD f v r
theorem put_names (f : Str) (v : V) (d : D) : ∀ {vs : List (Str × V)} {fs : List (Str × D)}, vs.map (·.1) = fs.map (·.1) → (putF f v vs).map (·.1) = (putD f d fs).map (·.1)
  | [], [], _ => rfl
  | [], _ :: _, n => by simp at n
  | _ :: _, [], n => by simp at n
  | (g, x) :: vs, (g', y) :: fs, n => by
    simp only [List.map_cons, List.cons.injEq] at n
    obtain ⟨rfl, n⟩ := n
    unfold putF putD
    split
    · simp [n]
    · simp [put_names f v d n]
theorem put_reps {f : Str} {v : V} {d : D} (h : Rep K kap F v d) : ∀ {vs : List (Str × V)} {fs : List (Str × D)}, vs.map (·.1) = fs.map (·.1) → Reps K kap F (vs.map (·.2)) (fs.map (·.2)) → Reps K kap F ((putF f v vs).map (·.2)) ((putD f d fs).map (·.2))
  | [], [], _, _ => .cons h .nil
  | [], _ :: _, n, _ => by simp at n
  | _ :: _, [], n, _ => by simp at n
  | (g, x) :: vs, (g', y) :: fs, n, .cons q r => by
    simp only [List.map_cons, List.cons.injEq] at n
    obtain ⟨rfl, n⟩ := n
    unfold putF putD
    split
    · exact .cons h r
    · exact .cons q (put_reps h n r)
end

/-! ### what is owned -/
/-- the content of an owned object at p: told of the heap, its parts of the frozen part -/
def Own (K : PySem.W.Frag) (kap : Nat → Addr) (F H : Hp) (p : Addr) : D → Prop
  | .lst ds => ∃ vs, H p = some (.lst vs) ∧ Reps K kap F vs ds
  | .dk ds => ∃ kvs : List (Key × V), H p = some (.dK kvs) ∧ kvs.map (·.1) = ds.map (·.1) ∧ Reps K kap F (kvs.map (·.2)) (ds.map (·.2))
  | .dn ds => ∃ (o : Obj) (xs : List NEnt) (vs : List V), H p = some (exO p o) ∧ DOb o xs ∧ (p == sysModules) = false ∧ Vals vs (xs.map (·.2.2)) ∧ (xs.map fun x => some x.1) = ds.map (fun p => keyN p.1) ∧ Reps K kap F (xs.map fun x => V.ref x.2.1) (ds.map (·.1)) ∧ Reps K kap F vs (ds.map (·.2))
  | .obj c fs => ∃ dx vs, H p = some (.ins (kap c) dx vs) ∧ vs.map (·.1) = fs.map (·.1) ∧ Reps K kap F (vs.map (·.2)) (fs.map (·.2))
  | _ => False
section
variable {K : PySem.W.Frag} {kap : Nat → Addr} {F F' H H' : Hp} {p : Addr} {d : D}
theorem Own.mono (e : Same F F') (hp : H' p = H p) (h : Own K kap F H p d) : Own K kap F' H' p d := by
  cases d with
  | lst ds => obtain ⟨vs, h1, h2⟩ := h; exact ⟨vs, hp.trans h1, h2.mono e⟩
  | dk ds => obtain ⟨vs, h1, h2, h3⟩ := h; exact ⟨vs, hp.trans h1, h2, h3.mono e⟩
  | dn ds => obtain ⟨o, xs, vs, h1, h2, h3, h4, h5, h6, h7⟩ := h; exact ⟨o, xs, vs, hp.trans h1, h2, h3, h4, h5, h6.mono e, h7.mono e⟩
  | obj c fs => obtain ⟨dx, vs, h1, h2, h3⟩ := h; exact ⟨dx, vs, hp.trans h1, h2, h3.mono e⟩
  | _ => exact h.elim
theorem Own.some (h : Own K kap F H p d) : ∃ o, H p = some o := by
  cases d with
  | lst ds => obtain ⟨vs, h1, h2⟩ := h; exact ⟨_, h1⟩
  | dk ds => obtain ⟨vs, h1, h2, h3⟩ := h; exact ⟨_, h1⟩
  | dn ds => obtain ⟨o, xs, vs, h1, _⟩ := h; exact ⟨_, h1⟩
  | obj c fs => obtain ⟨dx, vs, h1, h2, h3⟩ := h; exact ⟨_, h1⟩
  | _ => exact h.elim
/-- read in the heap as it is -/
theorem Own.rep (e : Same F H) (h : Own K kap F H p d) : Rep K kap H (.ref p) d := by
  cases d with
  | lst ds => obtain ⟨vs, h1, h2⟩ := h; exact .lst h1 (h2.mono e)
  | dk ds => obtain ⟨vs, h1, h2, h3⟩ := h; exact .dk h1 h2 (h3.mono e)
  | dn ds => obtain ⟨o, xs, vs, h1, h2, h3, h4, h5, h6, h7⟩ := h; exact .dn h1 h2 h3 h4 h5 (h6.mono e) (h7.mono e)
  | obj c fs => obtain ⟨dx, vs, h1, h2, h3⟩ := h; exact .obj h1 h2 (h3.mono e)
  | _ => exact h.elim
theorem same_upd {F : Hp} {p : Addr} {o : HO} (h : F p = none) : Same F (upd F p o) := fun b u e => by
  rw [upd_ne (ne_of_none e h)]; exact e
/-- frozen -/
theorem Own.freeze (hp : F p = none) (h : Own K kap F H p d) : ∃ o, H p = Option.some o ∧ Rep K kap (upd F p o) (.ref p) d := by
  cases d with
  | lst ds => obtain ⟨vs, h1, h2⟩ := h; exact ⟨_, h1, .lst upd_same (h2.mono (same_upd hp))⟩
  | dk ds => obtain ⟨vs, h1, h2, h3⟩ := h; exact ⟨_, h1, .dk upd_same h2 (h3.mono (same_upd hp))⟩
  | dn ds => obtain ⟨o, xs, vs, h1, h2, h3, h4, h5, h6, h7⟩ := h; exact ⟨_, h1, .dn upd_same h2 h3 h4 h5 (h6.mono (same_upd hp)) (h7.mono (same_upd hp))⟩
  | obj c fs => obtain ⟨dx, vs, h1, h2, h3⟩ := h; exact ⟨_, h1, .obj upd_same h2 (h3.mono (same_upd hp))⟩
  | _ => exact h.elim
end

/-! ### the state: slots -/
inductive Sl where
  | no | va (d : D) | ow (d : D) | pn (d : D) | ex (c : Nat) (fs : List (Str × D))
abbrev DEnv := List Sl
def Sl.owd : Sl → Option D
  | .ow d => some d
  | .pn d => some d
  | _ => none
def Sl.dat : Sl → Option D
  | .va d => some d
  | .ow d => some d
  | .pn d => some d
  | _ => none
abbrev Own? := Nat → Option Addr
/-- the exception that a suite holds: its place, class and dict -/
abbrev Xi := Option (Addr × Value × Option Addr)

/-- an exception's dict -/
def XR (K : PySem.W.Frag) (kap : Nat → Addr) (F : Hp) (d : Option Addr) (fs : List (Str × D)) : Prop := match d with
  | none => fs = []
  | some dd => ∃ vs : List (Str × V), F dd = some (HO.xd vs) ∧ vs.map (·.1) = fs.map (·.1) ∧ Reps K kap F (vs.map (·.2)) (fs.map (·.2))
theorem XR.mono {K : PySem.W.Frag} {kap : Nat → Addr} {F F' : Hp} (e : Same F F') {d : Option Addr} {fs : List (Str × D)} (h : XR K kap F d fs) : XR K kap F' d fs := by
  cases d with
  | none => exact h
  | some dd => obtain ⟨vs, h1, h2, h3⟩ := h; exact ⟨vs, e _ _ h1, h2, h3.mono e⟩

structure RS (K : PySem.W.Frag) (kap : Nat → Addr) (xi : Xi) (F H : Hp) (sg : St) (de : DEnv) (O : Own?) : Prop where
  len : sg.length = de.length
  va : ∀ (i : Nat) (d : D), de[i]? = some (Sl.va d) → ∃ v, sg[i]? = some (some v) ∧ Rep K kap F v d
  ow : ∀ (i : Nat) (s : Sl) (d : D), de[i]? = some s → s.owd = some d → ∃ p, O i = some p ∧ sg[i]? = some (some (V.ref p)) ∧ F p = none ∧ Own K kap F H p d
  ex : ∀ (i : Nat) (c : Nat) (fs : List (Str × D)), de[i]? = some (Sl.ex c fs) → ∃ (a : Addr) (d : Option Addr), xi = some (a, Value.ref (kap c), d) ∧ sg[i]? = some (some (V.ref a)) ∧ XR K kap F d fs
  onl : ∀ (i : Nat) (p : Addr), O i = some p → ∃ (s : Sl) (d : D), de[i]? = some s ∧ s.owd = some d
  inj : ∀ i j p, O i = some p → O j = some p → i = j
  sub : Same F H

structure Go (F H : Hp) (de : DEnv) (O : Own?) (F' H' : Hp) (de' : DEnv) (O' : Own?) : Prop where
  ex : Same F F'
  keep : ∀ a o, H a = some o → (∀ i, O i ≠ some a) → H' a = some o
  new : ∀ i a, O' i = some a → (∃ j, O j = some a) ∨ H a = none
  dom : ∀ a, H' a = none → H a = none
  fnew : ∀ a, F' a ≠ none → F a ≠ none ∨ H a = none ∨ ∃ i, O i = some a
  pin : ∀ (i : Nat) (d' : D), de'[i]? = some (Sl.pn d') → O' i = O i ∧ ∃ d, de[i]? = some (Sl.pn d)
theorem Go.refl {F H : Hp} {de : DEnv} {O : Own?} : Go F H de O F H de O :=
  ⟨Same.refl F, fun _ _ h _ => h, fun i a h => .inl ⟨i, h⟩, fun _ h => h, fun _ h => .inl h, fun _ d h => ⟨rfl, d, h⟩⟩
theorem Go.trans {F H F1 H1 F2 H2 : Hp} {de de1 de2 : DEnv} {O O1 O2 : Own?} (a : Go F H de O F1 H1 de1 O1) (b : Go F1 H1 de1 O1 F2 H2 de2 O2) : Go F H de O F2 H2 de2 O2 where
  ex := a.ex.trans b.ex
  keep := fun x o h n => b.keep x o (a.keep x o h n) fun i e => by
    rcases a.new i x e with ⟨j, q⟩ | q
    · exact n j q
    · rw [h] at q; cases q
  new := fun i x e => by
    rcases b.new i x e with ⟨j, q⟩ | q
    · exact a.new j x q
    · exact .inr (a.dom x q)
  dom := fun x e => a.dom x (b.dom x e)
  fnew := fun x e => by
    rcases b.fnew x e with q | q | ⟨i, q⟩
    · exact a.fnew x q
    · exact .inr (.inl (a.dom x q))
    · rcases a.new i x q with q | q
      · exact .inr (.inr q)
      · exact .inr (.inl q)
  pin := fun i d e => by
    obtain ⟨e1, d1, q1⟩ := b.pin i d e
    obtain ⟨e2, d2, q2⟩ := a.pin i d1 q1
    exact ⟨e1.trans e2, d2, q2⟩

/-- only new objects were laid -/
structure New (F H F' H' : Hp) : Prop where
  f : Same F F'
  h : Same H H'
  fnew : ∀ a, F' a ≠ none → F a ≠ none ∨ H a = none
theorem New.refl {F H : Hp} : New F H F H := ⟨Same.refl F, Same.refl H, fun _ h => .inl h⟩
theorem New.trans {F H F1 H1 F2 H2 : Hp} (a : New F H F1 H1) (b : New F1 H1 F2 H2) : New F H F2 H2 :=
  ⟨a.f.trans b.f, a.h.trans b.h, fun x e => by
    rcases b.fnew x e with q | q
    · exact a.fnew x q
    · exact .inr (a.h.free q)⟩
theorem New.one {F H : Hp} {p : Addr} {o : HO} (sub : Same F H) (h : H p = none) : New F H (upd F p o) (upd H p o) ∧ Same (upd F p o) (upd H p o) := by
  have hf : F p = none := sub.free h
  refine ⟨⟨same_upd hf, same_upd h, fun a e => ?_⟩, fun a u e => ?_⟩
  · by_cases q : a = p
    · subst q; exact .inr h
    · rw [upd_ne q] at e; exact .inl e
  · by_cases q : a = p
    · subst q; rw [upd_same] at e ⊢; exact e
    · rw [upd_ne q] at e ⊢; exact sub a u e
theorem New.free {F H F' H' : Hp} (n : New F H F' H') {p : Addr} (hf : F p = none) (hh : H p ≠ none) : F' p = none := by
  cases e : F' p with
  | none => rfl
  | some o =>
    rcases n.fnew p (by rw [e]; simp) with q | q
    · exact absurd hf q
    · exact absurd q hh
/-- new objects: the state stands -/
theorem RS.new {K : PySem.W.Frag} {kap : Nat → Addr} {xi : Xi} {F H F' H' : Hp} {sg : St} {de : DEnv} {O : Own?} (R : RS K kap xi F H sg de O) (n : New F H F' H') (sub : Same F' H') : RS K kap xi F' H' sg de O where
  len := R.len
  va := fun i d e => by
    obtain ⟨v, h1, h2⟩ := R.va i d e
    exact ⟨v, h1, h2.mono n.f⟩
  ow := fun i s d e h => by
    obtain ⟨p, h1, h2, h3, h4⟩ := R.ow i s d e h
    obtain ⟨o, ho⟩ := h4.some
    exact ⟨p, h1, h2, n.free h3 (by rw [ho]; simp), h4.mono n.f (by rw [ho, n.h p o ho])⟩
  ex := fun i c fs e => by
    obtain ⟨a, d, h1, h2, h3⟩ := R.ex i c fs e
    exact ⟨a, d, h1, h2, h3.mono n.f⟩
  onl := R.onl
  inj := R.inj
  sub := sub
theorem New.go {F H F' H' : Hp} {de : DEnv} {O : Own?} (n : New F H F' H') : Go F H de O F' H' de O where
  ex := n.f
  keep := fun a o h _ => n.h a o h
  new := fun i a h => .inl ⟨i, h⟩
  dom := fun a h => n.h.free h
  fnew := fun a h => (n.fnew a h).elim .inl fun q => .inr (.inl q)
  pin := fun _ d h => ⟨rfl, d, h⟩
/-- an owned slot is frozen -/
theorem RS.freeze {K : PySem.W.Frag} {kap : Nat → Addr} {xi : Xi} {F H : Hp} {sg : St} {de : DEnv} {O : Own?} {i : Nat} {d : D} (R : RS K kap xi F H sg de O) (hi : de[i]? = some (Sl.ow d)) :
    ∃ F' O' v, RS K kap xi F' H sg (de.set i (Sl.va d)) O' ∧ Go F H de O F' H (de.set i (Sl.va d)) O' ∧ sg[i]? = some (some v) ∧ Rep K kap F' v d := by
  obtain ⟨p, hO, hs, hf, hw⟩ := R.ow i _ d hi rfl
  obtain ⟨o, ho, hr⟩ := hw.freeze hf
  have il : i < de.length := (List.getElem?_eq_some_iff.mp hi).1
  have e1 : Same F (upd F p o) := same_upd hf
  have get : ∀ (j : Nat) (s : Sl), (de.set i (Sl.va d))[j]? = some s → (j = i ∧ s = .va d) ∨ (j ≠ i ∧ de[j]? = some s) := fun j s e => by
    by_cases q : j = i
    · subst q
      rw [List.getElem?_set_self il] at e
      cases e
      exact .inl ⟨rfl, rfl⟩
    · rw [List.getElem?_set_ne (Ne.symm q)] at e
      exact .inr ⟨q, e⟩
  refine ⟨upd F p o, fun j => if j = i then none else O j, .ref p, ⟨by rw [List.length_set]; exact R.len, fun j e h => ?_, fun j s e h1 h2 => ?_, fun j c fs h => ?_, fun j q h => ?_, fun j k q h1 h2 => ?_, fun a u h => ?_⟩, ⟨e1, fun _ _ h _ => h, fun j a h => ?_, fun _ h => h, fun a h => ?_, fun j e h => ?_⟩, hs, hr⟩
  · rcases get j _ h with ⟨rfl, q⟩ | ⟨q, h⟩
    · cases q
      exact ⟨_, hs, hr⟩
    · obtain ⟨v, h1, h2⟩ := R.va j e h
      exact ⟨v, h1, h2.mono e1⟩
  · rcases get j _ h1 with ⟨rfl, q⟩ | ⟨q, h1⟩
    · subst q; cases h2
    · obtain ⟨p', g1, g2, g3, g4⟩ := R.ow j s e h1 h2
      refine ⟨p', by simp [q, g1], g2, ?_, g4.mono e1 rfl⟩
      have : p' ≠ p := fun z => q (R.inj j i p (by rw [g1, z]) hO)
      rw [upd_ne this]; exact g3
  · rcases get j _ h with ⟨rfl, q⟩ | ⟨q, h⟩
    · cases q
    · obtain ⟨a, d, h1, h2, h3⟩ := R.ex j c fs h
      exact ⟨a, d, h1, h2, h3.mono e1⟩
  · by_cases z : j = i
    · simp [z] at h
    · simp only [z, if_false] at h
      obtain ⟨s, e, h1, h2⟩ := R.onl j q h
      exact ⟨s, e, by rw [List.getElem?_set_ne (Ne.symm z)]; exact h1, h2⟩
  · by_cases z : j = i
    · simp [z] at h1
    · by_cases z2 : k = i
      · simp [z2] at h2
      · simp only [z, z2, if_false] at h1 h2
        exact R.inj j k q h1 h2
  · by_cases z : a = p
    · subst z; rw [upd_same] at h; cases h; exact ho
    · rw [upd_ne z] at h; exact R.sub a u h
  · by_cases z : j = i
    · simp [z] at h
    · simp only [z, if_false] at h
      exact .inl ⟨j, h⟩
  · by_cases z : a = p
    · subst z; exact .inr (.inr ⟨i, hO⟩)
    · rw [upd_ne z] at h; exact .inl h
  · rcases get j _ h with ⟨rfl, q⟩ | ⟨q, h⟩
    · cases q
    · exact ⟨by simp [q], e, h⟩

/-! ### results -/
inductive Rs (α : Type) where
  | ok (a : α) (de : DEnv) | ex (c : Nat) (fs : List (Str × D)) (de : DEnv) | bad
def Rs.bind {α β : Type} : Rs α → (α → DEnv → Rs β) → Rs β
  | .ok a de, f => f a de
  | .ex c fs de, _ => .ex c fs de
  | .bad, _ => .bad
inductive Ot where
  | nx (de : DEnv) | ret (d : D) (de : DEnv) | retF (d : D) (de : DEnv) | brk (de : DEnv) | ct (de : DEnv) | ex (c : Nat) (fs : List (Str × D)) (de : DEnv) | bad
def Rs.out {α : Type} : Rs α → (α → DEnv → Ot) → Ot
  | .ok a de, f => f a de
  | .ex c fs de, _ => .ex c fs de
  | .bad, _ => .bad
def Ot.andThen : Ot → (DEnv → Ot) → Ot
  | .nx de, f => f de
  | o, _ => o

/-- how an answer is told: by what it is, and by where its own object (if it is nobody's yet) comes from -/
structure Rel (β α : Type) where
  rel : St → Hp → Hp → Own? → β → α → Prop
  org : β → Addr → Prop := fun _ _ => False
section
variable (K : PySem.W.Frag) (kap : Nat → Addr)
/-- what is wanted of an exception here -/
def PX (xi : Xi) (F H : Hp) (de : DEnv) (O : Own?) (W : WX) (c : Nat) (fs : List (Str × D)) (de' : DEnv) : Prop :=
  ∀ F' H' sg' O' d, RS K kap xi F' H' sg' de' O' → Go F H de O F' H' de' O' → XR K kap F' d fs → W (.ref (kap c)) d sg' H'
def PE1 {α β : Type} (Rl : Rel β α) (xi : Xi) (F H : Hp) (sg : St) (de : DEnv) (O : Own?) (W : WX) (Q : β → Hp → Prop) : Rs α → Prop
  | .ok a de' => ∀ v F' H' O', RS K kap xi F' H' sg de' O' → Go F H de O F' H' de' O' → Rl.rel sg F' H' O' v a → (∀ p, Rl.org v p → H p = none ∨ ∃ i, O i = some p) → Q v H'
  | .ex c fs de' => PX K kap xi F H de O W c fs de'
  | .bad => False
/-- a fresh object: nobody's yet -/
def Frs (F H : Hp) (O : Own?) (v : V) (d : D) : Prop := ∃ p, v = .ref p ∧ F p = none ∧ Own K kap F H p d ∧ ∀ i, O i ≠ some p
def PS1 (xi : Xi) (F H : Hp) (de : DEnv) (O : Own?) (W : WX) (Dn : Ends) : Ot → Prop
  | .nx de' => ∀ F' H' sg' O', RS K kap xi F' H' sg' de' O' → Go F H de O F' H' de' O' → Dn.nx sg' H'
  | .ret d de' => ∀ v F' H' sg' O', RS K kap xi F' H' sg' de' O' → Go F H de O F' H' de' O' → Rep K kap F' v d → Dn.rt v H'
  | .retF d de' => ∀ v F' H' sg' O', RS K kap xi F' H' sg' de' O' → Go F H de O F' H' de' O' → Frs K kap F' H' O' v d → (∀ p, v = .ref p → H p = none ∨ ∃ i, O i = some p) → Dn.rt v H'
  | .brk de' => ∀ F' H' sg' O', RS K kap xi F' H' sg' de' O' → Go F H de O F' H' de' O' → Dn.bk sg' H'
  | .ct de' => ∀ F' H' sg' O', RS K kap xi F' H' sg' de' O' → Go F H de O F' H' de' O' → Dn.ct sg' H'
  | .ex c fs de' => PX K kap xi F H de O W c fs de'
  | .bad => False
end
section
variable {K : PySem.W.Frag} {kap : Nat → Addr} {xi : Xi} {F H F1 H1 : Hp} {sg : St} {de de1 : DEnv} {O O1 : Own?} {W : WX}
theorem PX.shift {c : Nat} {fs : List (Str × D)} {de' : DEnv} (g : Go F H de O F1 H1 de1 O1) (h : PX K kap xi F H de O W c fs de') : PX K kap xi F1 H1 de1 O1 W c fs de' :=
  fun F' H' sg' O' d R' g' r => h F' H' sg' O' d R' (g.trans g') r
theorem PE1.shift {α β : Type} {Rl : Rel β α} {Q : β → Hp → Prop} {r : Rs α} (g : Go F H de O F1 H1 de1 O1) (h : PE1 K kap Rl xi F H sg de O W Q r) : PE1 K kap Rl xi F1 H1 sg de1 O1 W Q r := by
  cases r with
  | ok a de' => exact fun v F' H' O' R' g' q n => h v F' H' O' R' (g.trans g') q fun p e => (n p e).elim (fun q => .inl (g.dom _ q)) fun ⟨i, q⟩ => (g.new i p q).symm
  | ex c fs de' => exact PX.shift g h
  | bad => exact h
theorem PS1.shift {Dn : Ends} {o : Ot} (g : Go F H de O F1 H1 de1 O1) (h : PS1 K kap xi F H de O W Dn o) : PS1 K kap xi F1 H1 de1 O1 W Dn o := by
  cases o with
  | nx de' => exact fun F' H' sg' O' R' g' => h F' H' sg' O' R' (g.trans g')
  | ret d de' => exact fun v F' H' sg' O' R' g' r => h v F' H' sg' O' R' (g.trans g') r
  | retF d de' => exact fun v F' H' sg' O' R' g' r n => h v F' H' sg' O' R' (g.trans g') r fun p e => (n p e).elim (fun q => .inl (g.dom _ q)) fun ⟨i, q⟩ => (g.new i p q).symm
  | brk de' => exact fun F' H' sg' O' R' g' => h F' H' sg' O' R' (g.trans g')
  | ct de' => exact fun F' H' sg' O' R' g' => h F' H' sg' O' R' (g.trans g')
  | ex c fs de' => exact PX.shift g h
  | bad => exact h
end

/-! ### soundness -/
section
variable (K : PySem.W.Frag) (kap : Nat → Addr) (xi : Xi)
/-- t (what is read off a syntax) does what ev says -/
def Snd {α β : Type} (Rl : Rel β α) (t : WX → St → Hp → (β → Hp → Prop) → Prop) (ev : DEnv → Rs α) : Prop :=
  ∀ W F H sg de O Q, RS K kap xi F H sg de O → PE1 K kap Rl xi F H sg de O W Q (ev de) → t W sg H Q
def RlE : Rel V D := { rel := fun _ F _ _ v d => Rep K kap F v d }
def RlA : Rel (List V) (List D) := { rel := fun _ F _ _ v d => Reps K kap F v d }
def RlF : Rel V D := { rel := fun _ F H O v d => Frs K kap F H O v d, org := fun v p => v = .ref p }
def RlQ (α : Type) : Rel α α := { rel := fun _ _ _ _ b c => b = c }
abbrev RlB : Rel Bool Bool := RlQ Bool
def SndS (t : WX → TS) (ev : DEnv → Ot) : Prop :=
  ∀ W F H sg de O Dn, RS K kap xi F H sg de O → PS1 K kap xi F H de O W Dn (ev de) → t W Dn sg H
end
section
variable {K : PySem.W.Frag} {kap : Nat → Addr} {xi : Xi} {F H : Hp} {sg : St} {de : DEnv} {O : Own?} {W : WX}
/-- one part, then the rest -/
theorem Snd.bind {α β γ δ : Type} {Ra : Rel β α} {Rl : Rel δ γ} {t : WX → St → Hp → (β → Hp → Prop) → Prop} {ev : DEnv → Rs α} {g : α → DEnv → Rs γ} {Q : δ → Hp → Prop} {k : β → Hp → Prop}
    (h : Snd K kap xi Ra t ev) (R : RS K kap xi F H sg de O) (hp : PE1 K kap Rl xi F H sg de O W Q ((ev de).bind g))
    (hk : ∀ v a F1 H1 de1 O1, RS K kap xi F1 H1 sg de1 O1 → Go F H de O F1 H1 de1 O1 → Ra.rel sg F1 H1 O1 v a → (∀ p, Ra.org v p → H p = none ∨ ∃ i, O i = some p) → PE1 K kap Rl xi F1 H1 sg de1 O1 W Q (g a de1) → k v H1) : t W sg H k := by
  refine h W F H sg de O k R ?_
  cases e : ev de with
  | ok a de1 =>
    rw [e] at hp
    exact fun v F1 H1 O1 R1 g1 r1 n1 => hk v a F1 H1 de1 O1 R1 g1 r1 n1 (hp.shift g1)
  | ex c fs de1 => rw [e] at hp; exact hp
  | bad => rw [e] at hp; exact hp
theorem Snd.out {α β : Type} {Ra : Rel β α} {t : WX → St → Hp → (β → Hp → Prop) → Prop} {ev : DEnv → Rs α} {g : α → DEnv → Ot} {Dn : Ends} {k : β → Hp → Prop}
    (h : Snd K kap xi Ra t ev) (R : RS K kap xi F H sg de O) (hp : PS1 K kap xi F H de O W Dn ((ev de).out g))
    (hk : ∀ v a F1 H1 de1 O1, RS K kap xi F1 H1 sg de1 O1 → Go F H de O F1 H1 de1 O1 → Ra.rel sg F1 H1 O1 v a → (∀ p, Ra.org v p → H p = none ∨ ∃ i, O i = some p) → PS1 K kap xi F1 H1 de1 O1 W Dn (g a de1) → k v H1) : t W sg H k := by
  refine h W F H sg de O k R ?_
  cases e : ev de with
  | ok a de1 =>
    rw [e] at hp
    exact fun v F1 H1 O1 R1 g1 r1 n1 => hk v a F1 H1 de1 O1 R1 g1 r1 n1 (hp.shift g1)
  | ex c fs de1 => rw [e] at hp; exact hp
  | bad => rw [e] at hp; exact hp
/-- the end of an expression: a value, new objects at most -/
theorem PE1.done {α β : Type} {Rl : Rel β α} {Q : β → Hp → Prop} {a : α} {v : β} {F' H' : Hp} (R : RS K kap xi F H sg de O) (hp : PE1 K kap Rl xi F H sg de O W Q (.ok a de)) (n : New F H F' H') (sub : Same F' H') (r : Rl.rel sg F' H' O v a) (o : ∀ p, Rl.org v p → H p = none := by exact fun _ h => h.elim) : Q v H' :=
  hp v F' H' O (R.new n sub) n.go r fun p h => .inl (o p h)
end
end DL

set_option maxRecDepth 100000
set_option maxHeartbeats 2000000
set_option autoImplicit false
namespace DL
open PySem L2

/-! ### borrowed operands -/
/-- read: frozen, or owned as it stands -/
def RB (K : PySem.W.Frag) (kap : Nat → Addr) (F H : Hp) (v : V) (d : D) : Prop := Rep K kap F v d ∨ ∃ p, v = .ref p ∧ F p = none ∧ Own K kap F H p d
theorem RB.rep {K : PySem.W.Frag} {kap : Nat → Addr} {F H : Hp} {v : V} {d : D} (e : Same F H) (h : RB K kap F H v d) : Rep K kap H v d := by
  rcases h with h | ⟨p, rfl, _, h⟩
  · exact h.mono e
  · exact h.rep e
theorem RB.int {K : PySem.W.Frag} {kap : Nat → Addr} {F H : Hp} {v : V} {i : Int} (h : RB K kap F H v (.int i)) : v = .int i := by
  rcases h with h | ⟨p, rfl, _, h⟩
  · cases h; rfl
  · exact h.elim
theorem RB.lst {K : PySem.W.Frag} {kap : Nat → Addr} {F H : Hp} {v : V} {ds : List D} (e : Same F H) (h : RB K kap F H v (.lst ds)) : ∃ a vs, v = .ref a ∧ H a = some (.lst vs) ∧ Reps K kap F vs ds := by
  rcases h with h | ⟨p, rfl, _, vs, h1, h2⟩
  · cases h with
    | lst h r => exact ⟨_, _, rfl, e _ _ h, r⟩
  · exact ⟨p, vs, rfl, h1, h2⟩
theorem RB.scr {K : PySem.W.Frag} {kap : Nat → Addr} {F H : Hp} {v : V} {ds : List D} (h : RB K kap F H v (.scr ds)) : ∃ a vs, v = .ref a ∧ SqL K F a vs ∧ Reps K kap F vs ds := by
  rcases h with h | ⟨p, rfl, _, h⟩
  · cases h with
    | scr h r => exact ⟨_, _, rfl, h, r⟩
  · exact h.elim
theorem RB.str {K : PySem.W.Frag} {kap : Nat → Addr} {F H : Hp} {v : V} {i : Str} (h : RB K kap F H v (.str i)) : v = .str i := by
  rcases h with h | ⟨p, rfl, _, h⟩
  · cases h; rfl
  · exact h.elim
theorem RB.bl {K : PySem.W.Frag} {kap : Nat → Addr} {F H : Hp} {v : V} {i : Bool} (h : RB K kap F H v (.bl i)) : v = .bl i := by
  rcases h with h | ⟨p, rfl, _, h⟩
  · cases h; rfl
  · exact h.elim
theorem RB.non {K : PySem.W.Frag} {kap : Nat → Addr} {F H : Hp} {v : V} (h : RB K kap F H v .non) : v = .non := by
  rcases h with h | ⟨p, rfl, _, h⟩
  · cases h; rfl
  · exact h.elim
theorem RB.dk {K : PySem.W.Frag} {kap : Nat → Addr} {F H : Hp} {v : V} {ds : List (Key × D)} (e : Same F H) (h : RB K kap F H v (.dk ds)) : ∃ (a : Addr) (kvs : List (Key × V)), v = .ref a ∧ H a = some (.dK kvs) ∧ kvs.map (·.1) = ds.map (·.1) ∧ Reps K kap F (kvs.map (·.2)) (ds.map (·.2)) := by
  rcases h with h | ⟨p, rfl, _, kvs, h1, h2, h3⟩
  · cases h with
    | dk h n r => exact ⟨_, _, rfl, e _ _ h, n, r⟩
  · exact ⟨p, kvs, rfl, h1, h2, h3⟩
theorem RB.dn {K : PySem.W.Frag} {kap : Nat → Addr} {F H : Hp} {v : V} {ds : List (D × D)} (e : Same F H) (h : RB K kap F H v (.dn ds)) : ∃ (a : Addr) (o : Obj) (xs : List NEnt) (vs : List V), v = .ref a ∧ H a = some (exO a o) ∧ DOb o xs ∧ (a == sysModules) = false ∧ Vals vs (xs.map (·.2.2)) ∧ (xs.map fun x => some x.1) = ds.map (fun p => keyN p.1) ∧ Reps K kap F (xs.map fun x => V.ref x.2.1) (ds.map (·.1)) ∧ Reps K kap F vs (ds.map (·.2)) := by
  rcases h with h | ⟨p, rfl, _, o, xs, vs, h1, h2⟩
  · cases h with
    | dn h h1 h2 h3 h4 h5 h6 => exact ⟨_, _, _, _, rfl, e _ _ h, h1, h2, h3, h4, h5, h6⟩
  · exact ⟨p, o, xs, vs, rfl, h1, h2⟩
theorem RB.tup {K : PySem.W.Frag} {kap : Nat → Addr} {F H : Hp} {v : V} {ds : List D} (h : RB K kap F H v (.tup ds)) : ∃ a vs, v = .ref a ∧ SqT K F a vs ∧ Reps K kap F vs ds := by
  rcases h with h | ⟨p, rfl, _, h⟩
  · cases h with
    | tup h r => exact ⟨_, _, rfl, h, r⟩
  · exact h.elim
theorem RB.obj {K : PySem.W.Frag} {kap : Nat → Addr} {F H : Hp} {v : V} {c : Nat} {fs : List (Str × D)} (e : Same F H) (h : RB K kap F H v (.obj c fs)) :
    ∃ a dx vs, v = .ref a ∧ H a = some (.ins (kap c) dx vs) ∧ vs.map (·.1) = fs.map (·.1) ∧ Reps K kap F (vs.map (·.2)) (fs.map (·.2)) := by
  rcases h with h | ⟨p, rfl, _, dx, vs, h1, h2, h3⟩
  · cases h with
    | obj h n r => exact ⟨_, _, _, rfl, e _ _ h, n, r⟩
  · exact ⟨p, dx, vs, rfl, h1, h2, h3⟩

inductive Op where
  | e (ev : DEnv → Rs D) | s (i : Nat)
def slotAt (i : Nat) (de : DEnv) : Option D := (de[i]?).bind Sl.dat
def slotRun (i : Nat) (de : DEnv) : Rs (DEnv → Option D) :=
  match slotAt i de with
  | some _ => .ok (slotAt i) de
  | none => .bad
def Op.run : Op → DEnv → Rs (DEnv → Option D)
  | .e ev, de => (ev de).bind fun d de' => .ok (fun _ => some d) de'
  | .s i, de => slotRun i de
def runs : List Op → DEnv → Rs (List (DEnv → Option D))
  | [], de => .ok [] de
  | o :: r, de => (o.run de).bind fun f de' => (runs r de').bind fun fs de'' => .ok (f :: fs) de''
def reads (fs : List (DEnv → Option D)) (de : DEnv) : Option (List D) := fs.foldr (fun f acc => (f de).bind fun d => acc.map fun ds => d :: ds) (some [])
theorem reads_cons (f : DEnv → Option D) (fs : List (DEnv → Option D)) (de : DEnv) : reads (f :: fs) de = (f de).bind fun d => (reads fs de).map fun ds => d :: ds := rfl
/-- an operand's value: whenever it is looked at later, it is what the slots say then -/
def RlO (K : PySem.W.Frag) (kap : Nat → Addr) : Rel V (DEnv → Option D) where
  rel := fun sg F _ _ v f => ∀ xi F2 H2 de2 O2, RS K kap xi F2 H2 sg de2 O2 → Same F F2 → ∀ d, f de2 = some d → RB K kap F2 H2 v d
def RlOs (K : PySem.W.Frag) (kap : Nat → Addr) : Rel (List V) (List (DEnv → Option D)) where
  rel := fun sg F _ _ vs fs => ∀ xi F2 H2 de2 O2, RS K kap xi F2 H2 sg de2 O2 → Same F F2 → ∀ ds, reads fs de2 = some ds → Paired (RB K kap F2 H2) vs ds

/-! ### the judgements -/
section
variable (kap : Nat → Addr) (xi : Xi) (X : Cx) (W : WX)
structure JE (e : Expr) (t : WX → TE) (ev : DEnv → Rs D) : Prop where
  p : PE X e (t W)
  s : Snd X.K kap xi (RlE X.K kap) t ev
structure JF (e : Expr) (t : WX → TE) (ev : DEnv → Rs D) : Prop where
  p : PE X e (t W)
  s : Snd X.K kap xi (RlF X.K kap) t ev
structure JT (e : Expr) (t : WX → TT) (ev : DEnv → Rs Bool) : Prop where
  p : PT X e (t W)
  s : Snd X.K kap xi RlB t ev
structure JO (e : Expr) (t : WX → TE) (o : Op) : Prop where
  p : PE X e (t W)
  s : Snd X.K kap xi (RlO X.K kap) t o.run
structure JOs (es : List Expr) (t : WX → TA) (os : List Op) : Prop where
  p : PA X es (t W)
  s : Snd X.K kap xi (RlOs X.K kap) t (runs os)
structure JA (es : List Expr) (t : WX → TA) (ev : DEnv → Rs (List D)) : Prop where
  p : PA X es (t W)
  s : Snd X.K kap xi (RlA X.K kap) t ev
structure JS (st : Stmt) (t : WX → TS) (ev : DEnv → Ot) : Prop where
  p : PS X st (t W)
  s : SndS X.K kap xi t ev
structure JSs (sts : List Stmt) (t : WX → TS) (ev : DEnv → Ot) : Prop where
  p : PSs X sts (t W)
  s : SndS X.K kap xi t ev
end

section
variable {K : PySem.W.Frag} {kap : Nat → Addr} {xi : Xi} {F H : Hp} {sg : St} {de : DEnv} {O : Own?}
theorem RS.nofresh (R : RS K kap xi F H sg de O) {p : Addr} (h : H p = none) : ∀ i, O i ≠ some p := fun i e => by
  obtain ⟨s, d, h1, h2⟩ := R.onl i p e
  obtain ⟨q, g1, _, _, g4⟩ := R.ow i s d h1 h2
  rw [e] at g1
  cases g1
  obtain ⟨o, ho⟩ := g4.some
  rw [h] at ho
  cases ho
theorem RS.rb (R : RS K kap xi F H sg de O) {i : Nat} {d : D} (h : slotAt i de = some d) : ∃ v, sg[i]? = some (some v) ∧ RB K kap F H v d := by
  unfold slotAt at h
  cases e : de[i]? with
  | none => rw [e] at h; cases h
  | some s =>
    rw [e] at h
    cases s with
    | va d' => cases h; obtain ⟨v, h1, h2⟩ := R.va i _ e; exact ⟨v, h1, .inl h2⟩
    | ow d' => cases h; obtain ⟨p, h1, h2, h3, h4⟩ := R.ow i _ _ e rfl; exact ⟨_, h2, .inr ⟨p, rfl, h3, h4⟩⟩
    | pn d' => cases h; obtain ⟨p, h1, h2, h3, h4⟩ := R.ow i _ _ e rfl; exact ⟨_, h2, .inr ⟨p, rfl, h3, h4⟩⟩
    | no => cases h
    | ex c fs => cases h
end

/-! ### names, constants -/
def vVar (i : Nat) (de : DEnv) : Rs D :=
  match de[i]? with
  | some (.va d) => .ok d de
  | some (.ow d) => .ok d (de.set i (.va d))
  | _ => .bad
def vC (d : D) (de : DEnv) : Rs D := .ok d de
section
variable {kap : Nat → Addr} {xi : Xi} {X : Cx} {W : WX} {K : PySem.W.Frag}
theorem snd_var (i : Nat) : Snd K kap xi (RlE K kap) (fun _ => tVar i) (vVar i) := by
  intro W F H sg de O Q R hp
  unfold vVar at hp
  split at hp
  · rename_i d e
    obtain ⟨v, h1, h2⟩ := R.va i d e
    exact ⟨v, h1, hp.done R New.refl R.sub h2⟩
  · rename_i d e
    obtain ⟨F', O', v, R', g, h1, h2⟩ := R.freeze e
    exact ⟨v, h1, hp v F' H O' R' g h2 fun _ z => z.elim⟩
  · exact hp.elim
theorem jVar (i : Nat) {x : Str} {pos : Pos} (hN : X.N[i]? = some x := by rfl) (hv : Vis X.env.scope x := by first | exact Or.inl rfl | exact Or.inr (Or.inl rfl) | exact Or.inr (Or.inr rfl)) (hd : (x == ("__debug__" : Str)) = false := by decide)
    (hcd : (x == ("__classdict__" : Str)) = false := by decide) : JE kap xi X W (.Name x pos) (fun _ => tVar i) (vVar i) := ⟨pe_var hN hv hd hcd, snd_var i⟩
theorem snd_c {v : V} {d : D} (r : ∀ F, Rep K kap F v d) : Snd K kap xi (RlE K kap) (fun _ => tC v) (vC d) := by
  intro W F H sg de O Q R hp
  exact hp.done R New.refl R.sub (r F)
theorem jInt {i : Int} {j : Nat} {pos : Pos} : JE kap xi X W (.Constant (.int i) j pos) (fun _ => tC (.int i)) (vC (.int i)) := ⟨pe_int, snd_c fun _ => .int i⟩
theorem jBl {b : Bool} {j : Nat} {pos : Pos} : JE kap xi X W (.Constant (.bool b) j pos) (fun _ => tC (.bl b)) (vC (.bl b)) := ⟨pe_bl, snd_c fun _ => .bl b⟩
theorem jNon {j : Nat} {pos : Pos} : JE kap xi X W (.Constant .none j pos) (fun _ => tC .non) (vC .non) := ⟨pe_non, snd_c fun _ => .non⟩
theorem jStr {x : Str} {j : Nat} {pos : Pos} : JE kap xi X W (.Constant (.str x) j pos) (fun _ => tC (.str x)) (vC (.str x)) := ⟨pe_str, snd_c fun _ => .str x⟩
/-- a module's number, text -/
theorem jGlobI {x : Str} {i : Int} {u : Tok} {pos : Pos} (hm : X.mg x = some (.int i u)) (hg : Gl X x := by rfl) (hd : (x == ("__debug__" : Str)) = false := by decide) : JE kap xi X W (.Name x pos) (fun _ => tC (.int i)) (vC (.int i)) := ⟨pe_glob hg hm ⟨u, rfl⟩ hd, snd_c fun _ => .int i⟩
theorem jGlobS {x : Str} {i : Str} {u : Tok} {pos : Pos} (hm : X.mg x = some (.str i u)) (hg : Gl X x := by rfl) (hd : (x == ("__debug__" : Str)) = false := by decide) : JE kap xi X W (.Name x pos) (fun _ => tC (.str i)) (vC (.str i)) := ⟨pe_glob hg hm ⟨u, rfl⟩ hd, snd_c fun _ => .str i⟩
/-- a class of one's own, a built-in class, as a value -/
theorem jCls (c : Nat) {x : Str} {C : Addr} {pos : Pos} (hk : kap c = C) (hm : X.mg x = some (.ref C)) (hg : Gl X x := by rfl) (hd : (x == ("__debug__" : Str)) = false := by decide) : JE kap xi X W (.Name x pos) (fun _ => tC (.ref C)) (vC (.cls (.o c))) := ⟨pe_glob hg hm rfl hd, snd_c fun _ => by rw [← hk]; exact .clsO c⟩
theorem jTy {x : Str} {n : String} {pos : Pos} (hm : X.mg x = none) (hv : bootBuiltins x = some (.type n)) (hg : Gl X x := by rfl) (hn : x ≠ "__name__" := by decide) (hd : (x == ("__debug__" : Str)) = false := by decide) : JE kap xi X W (.Name x pos) (fun _ => tC (.ty n)) (vC (.cls (.b n))) := ⟨pe_bltn hg hm hv rfl hn hd, snd_c fun _ => .clsB n⟩
/-- operands -/
theorem JE.o {e : Expr} {t : WX → TE} {ev : DEnv → Rs D} (h : JE kap xi X W e t ev) : JO kap xi X W e t (.e ev) := ⟨h.p, by
  intro W F H sg de O Q R hp
  refine h.s.bind R hp fun v d F1 H1 de1 O1 R1 g1 r _ hp => ?_
  exact hp.done R1 New.refl R1.sub fun xi F2 H2 de2 O2 R2 e d' hd => by cases hd; exact .inl (r.mono e)⟩
theorem jSlot (i : Nat) {x : Str} {pos : Pos} (hN : X.N[i]? = some x := by rfl) (hv : Vis X.env.scope x := by first | exact Or.inl rfl | exact Or.inr (Or.inl rfl) | exact Or.inr (Or.inr rfl)) (hd : (x == ("__debug__" : Str)) = false := by decide)
    (hcd : (x == ("__classdict__" : Str)) = false := by decide) : JO kap xi X W (.Name x pos) (fun _ => tVar i) (.s i) := ⟨pe_var hN hv hd hcd, by
  intro W F H sg de O Q R hp
  have hp : PE1 X.K kap (RlO X.K kap) xi F H sg de O W Q (slotRun i de) := hp
  unfold slotRun at hp
  split at hp
  · rename_i d e
    obtain ⟨v, hv, _⟩ := R.rb e
    refine ⟨v, hv, hp.done R New.refl R.sub fun xi F2 H2 de2 O2 R2 e d hd => ?_⟩
    obtain ⟨v', h1, h2⟩ := R2.rb hd
    rw [hv] at h1
    cases h1
    exact h2
  · exact hp.elim⟩
/-- lists of operands -/
theorem josNil : JOs kap xi X W [] (fun _ => tNil) [] := ⟨pa_nil, fun W F H sg de O Q R hp => hp.done R New.refl R.sub fun _ _ _ _ _ _ _ ds h => by cases h; exact .nil⟩
theorem josCons {e : Expr} {es : List Expr} {t : WX → TE} {o : Op} {ts : WX → TA} {os : List Op} (h : JO kap xi X W e t o) (hr : JOs kap xi X W es ts os) (hs : starEach (e :: es) X.env = (false, eval e X.env) :: starEach es X.env := by rfl) :
    JOs kap xi X W (e :: es) (fun W => tCons (t W) (ts W)) (o :: os) := ⟨pa_cons h.p hr.p hs, by
  intro W F H sg de O Q R hp
  refine h.s.bind R hp fun v f F1 H1 de1 O1 R1 g1 r _ hp => ?_
  refine hr.s.bind R1 hp fun vs fs F2 H2 de2 O2 R2 g2 rs _ hp => ?_
  refine hp.done (v := v :: vs) R2 New.refl R2.sub fun xi F3 H3 de3 O3 R3 e3 ds hd => ?_
  rw [reads_cons] at hd
  cases e1 : f de3 with
  | none => rw [e1] at hd; cases hd
  | some d =>
    cases e2 : reads fs de3 with
    | none => rw [e1, e2] at hd; cases hd
    | some ds' =>
      rw [e1, e2] at hd
      cases hd
      exact .cons (r xi F3 H3 de3 O3 R3 (g2.ex.trans e3) d e1) (rs xi F3 H3 de3 O3 R3 e3 ds' e2)⟩
end
end DL

set_option maxRecDepth 100000
set_option maxHeartbeats 2000000
set_option autoImplicit false
namespace DL
open PySem L2

/-! ### operations on values -/
section
variable (K : PySem.W.Frag) (kap : Nat → Addr)
def SP2 (r : R2) (f : D → D → Option D) : Prop := ∀ F H x y a b z Q, Same F H → RB K kap F H x a → RB K kap F H y b → f a b = some z → (∀ v F' H', New F H F' H' → Same F' H' → Rep K kap F' v z → Q v H') → r x y H Q
def SP1 (r : V → Hp → VK → Prop) (f : D → Option D) : Prop := ∀ F H x a z Q, Same F H → RB K kap F H x a → f a = some z → (∀ v F' H', New F H F' H' → Same F' H' → Rep K kap F' v z → Q v H') → r x H Q
def SPN (r : List V → Hp → VK → Prop) (f : List D → Option D) : Prop := ∀ F H xs as z Q, Same F H → Paired (RB K kap F H) xs as → f as = some z → (∀ v F' H', New F H F' H' → Same F' H' → Rep K kap F' v z → Q v H') → r xs H Q
/-- the same with a fresh object as the answer -/
def SF2 (r : R2) (f : D → D → Option D) : Prop := ∀ F H x y a b z Q, Same F H → RB K kap F H x a → RB K kap F H y b → f a b = some z → (∀ p H', New F H F H' → Same F H' → H p = none → Own K kap F H' p z → Q (.ref p) H') → r x y H Q
def SFN (r : List V → Hp → VK → Prop) (f : List D → Option D) : Prop := ∀ F H xs as z Q, Same F H → Paired (RB K kap F H) xs as → f as = some z → (∀ p H', New F H F H' → Same F H' → H p = none → Own K kap F H' p z → Q (.ref p) H') → r xs H Q
end
def ofO {α : Type} (o : Option α) (de : DEnv) : Rs α := match o with | some a => .ok a de | none => .bad
def vO2 (f : D → D → Option D) (oa ob : Op) (de : DEnv) : Rs D :=
  (oa.run de).bind fun fa de1 => (ob.run de1).bind fun fb de2 => ofO ((fa de2).bind fun x => (fb de2).bind fun y => f x y) de2
def vO1 (f : D → Option D) (oa : Op) (de : DEnv) : Rs D := (oa.run de).bind fun fa de1 => ofO ((fa de1).bind f) de1
def vON (f : List D → Option D) (os : List Op) (de : DEnv) : Rs D := (runs os de).bind fun fs de1 => ofO ((reads fs de1).bind f) de1
section
variable {K : PySem.W.Frag} {kap : Nat → Addr} {xi : Xi} {F H : Hp} {sg : St} {de : DEnv} {O : Own?} {W : WX}
theorem ofO_some {α β : Type} {Rl : Rel β α} {Q : β → Hp → Prop} {o : Option α} (hp : PE1 K kap Rl xi F H sg de O W Q (ofO o de)) : ∃ a, o = some a ∧ PE1 K kap Rl xi F H sg de O W Q (.ok a de) := by
  cases o with
  | none => exact hp.elim
  | some a => exact ⟨a, rfl, hp⟩
theorem bind_some {α β : Type} {o : Option α} {f : α → Option β} {b : β} (h : o.bind f = some b) : ∃ a, o = some a ∧ f a = some b := Option.bind_eq_some_iff.mp h
theorem fresh_new (R : RS K kap xi F H sg de O) {p : Addr} {H' : Hp} {z : D} (n : New F H F H') (sub : Same F H') (hp : H p = none) (h : Own K kap F H' p z) : Frs K kap F H' O (.ref p) z :=
  ⟨p, rfl, R.sub.free hp, h, R.nofresh hp⟩
theorem snd_o2 {ta tb : WX → TE} {oa ob : Op} {r : R2} {f : D → D → Option D} (s : SP2 K kap r f) (ha : Snd K kap xi (RlO K kap) ta oa.run) (hb : Snd K kap xi (RlO K kap) tb ob.run) : Snd K kap xi (RlE K kap) (fun W => tOp r (ta W) (tb W)) (vO2 f oa ob) := by
  intro W F H sg de O Q R hp
  refine ha.bind R hp fun x fa F1 H1 de1 O1 R1 g1 ra _ hp => ?_
  refine hb.bind R1 hp fun y fb F2 H2 de2 O2 R2 g2 rb _ hp => ?_
  obtain ⟨z, e, hp⟩ := ofO_some hp
  obtain ⟨a, e1, e⟩ := bind_some e
  obtain ⟨b, e2, e⟩ := bind_some e
  refine s F2 H2 x y a b z Q R2.sub (ra xi F2 H2 de2 O2 R2 g2.ex a e1) (rb xi F2 H2 de2 O2 R2 (Same.refl _) b e2) e fun v F' H' n sub r => ?_
  exact hp.done R2 n sub r
theorem snd_f2 {ta tb : WX → TE} {oa ob : Op} {r : R2} {f : D → D → Option D} (s : SF2 K kap r f) (ha : Snd K kap xi (RlO K kap) ta oa.run) (hb : Snd K kap xi (RlO K kap) tb ob.run) : Snd K kap xi (RlF K kap) (fun W => tOp r (ta W) (tb W)) (vO2 f oa ob) := by
  intro W F H sg de O Q R hp
  refine ha.bind R hp fun x fa F1 H1 de1 O1 R1 g1 ra _ hp => ?_
  refine hb.bind R1 hp fun y fb F2 H2 de2 O2 R2 g2 rb _ hp => ?_
  obtain ⟨z, e, hp⟩ := ofO_some hp
  obtain ⟨a, e1, e⟩ := bind_some e
  obtain ⟨b, e2, e⟩ := bind_some e
  refine s F2 H2 x y a b z Q R2.sub (ra xi F2 H2 de2 O2 R2 g2.ex a e1) (rb xi F2 H2 de2 O2 R2 (Same.refl _) b e2) e fun p H' n sub hq h => ?_
  exact hp.done R2 n sub (fresh_new R2 n sub hq h) fun p' e => by cases e; exact hq
theorem snd_o1 {ta : WX → TE} {oa : Op} {r : V → Hp → VK → Prop} {f : D → Option D} (s : SP1 K kap r f) (ha : Snd K kap xi (RlO K kap) ta oa.run) : Snd K kap xi (RlE K kap) (fun W => tUn r (ta W)) (vO1 f oa) := by
  intro W F H sg de O Q R hp
  refine ha.bind R hp fun x fa F1 H1 de1 O1 R1 g1 ra _ hp => ?_
  obtain ⟨z, e, hp⟩ := ofO_some hp
  obtain ⟨a, e1, e⟩ := bind_some e
  refine s F1 H1 x a z Q R1.sub (ra xi F1 H1 de1 O1 R1 (Same.refl _) a e1) e fun v F' H' n sub r => ?_
  exact hp.done R1 n sub r
theorem snd_oN {t : WX → TA} {os : List Op} {r : List V → Hp → VK → Prop} {f : List D → Option D} (s : SPN K kap r f) (ha : Snd K kap xi (RlOs K kap) t (runs os)) : Snd K kap xi (RlE K kap) (fun W => tCB r (t W)) (vON f os) := by
  intro W F H sg de O Q R hp
  refine ha.bind R hp fun x fa F1 H1 de1 O1 R1 g1 ra _ hp => ?_
  obtain ⟨z, e, hp⟩ := ofO_some hp
  obtain ⟨a, e1, e⟩ := bind_some e
  refine s F1 H1 x a z Q R1.sub (ra xi F1 H1 de1 O1 R1 (Same.refl _) a e1) e fun v F' H' n sub r => ?_
  exact hp.done R1 n sub r
theorem snd_fN {t : WX → TA} {os : List Op} {r : List V → Hp → VK → Prop} {f : List D → Option D} (s : SFN K kap r f) (ha : Snd K kap xi (RlOs K kap) t (runs os)) : Snd K kap xi (RlF K kap) (fun W => tCB r (t W)) (vON f os) := by
  intro W F H sg de O Q R hp
  refine ha.bind R hp fun x fa F1 H1 de1 O1 R1 g1 ra _ hp => ?_
  obtain ⟨z, e, hp⟩ := ofO_some hp
  obtain ⟨a, e1, e⟩ := bind_some e
  refine s F1 H1 x a z Q R1.sub (ra xi F1 H1 de1 O1 R1 (Same.refl _) a e1) e fun p H' n sub hq h => ?_
  exact hp.done R1 n sub (fresh_new R1 n sub hq h) fun p' e => by cases e; exact hq
end
section
variable {kap : Nat → Addr} {xi : Xi} {X : Cx} {W : WX} {a b : Expr} {ta tb : WX → TE} {oa ob : Op} {pos p : Pos} {r : R2} {f : D → D → Option D}
theorem jOp {op : Operator} (ho : OpR X (binaryOp op) r) (s : SP2 X.K kap r f) (ha : JO kap xi X W a ta oa) (hb : JO kap xi X W b tb ob) : JE kap xi X W (.BinOp a op b pos) (fun W => tOp r (ta W) (tb W)) (vO2 f oa ob) := ⟨pe_op ho ha.p hb.p, snd_o2 s ha.s hb.s⟩
theorem jOpF {op : Operator} (ho : OpR X (binaryOp op) r) (s : SF2 X.K kap r f) (ha : JO kap xi X W a ta oa) (hb : JO kap xi X W b tb ob) : JF kap xi X W (.BinOp a op b pos) (fun W => tOp r (ta W) (tb W)) (vO2 f oa ob) := ⟨pe_op ho ha.p hb.p, snd_f2 s ha.s hb.s⟩
theorem jUn {op : UnaryOp} {r : V → Hp → VK → Prop} {f : D → Option D} (ho : UnR X (unaryOp op) r) (s : SP1 X.K kap r f) (ha : JO kap xi X W a ta oa) : JE kap xi X W (.UnaryOp op a pos) (fun W => tUn r (ta W)) (vO1 f oa) := ⟨pe_un ho ha.p, snd_o1 s ha.s⟩
theorem jCmp {op : CmpOp} (ho : OpR X (compareOp op) r) (s : SP2 X.K kap r f) (ha : JO kap xi X W a ta oa) (hb : JO kap xi X W b tb ob) (hm : behindInMarks op b = false := by first | exact nomark _ | rfl) : JE kap xi X W (.Compare a [op] [b] pos) (fun W => tOp r (ta W) (tb W)) (vO2 f oa ob) := ⟨pe_cmpR ho ha.p hb.p hm, snd_o2 s ha.s hb.s⟩
theorem jIx {r : R2} (hr : IxR X r) (s : SP2 X.K kap r f) (ha : JO kap xi X W a ta oa) (hb : JO kap xi X W b tb ob) (hs : PlainIx b := by exact fun _ _ => rfl) : JE kap xi X W (.Subscript a b pos) (fun W => tOp r (ta W) (tb W)) (vO2 f oa ob) := ⟨pe_ix hr ha.p hb.p hs, snd_o2 s ha.s hb.s⟩
variable {e : Expr} {es : List Expr} {t : WX → TA} {os : List Op} {x : Str} {id T : String} {rN : List V → Hp → VK → Prop} {fN : List D → Option D}
theorem jCB (hc : CallR X (.builtin id) rN) (s : SPN X.K kap rN fN) (hm : X.mg x = none) (hv : bootBuiltins x = some (.builtin id)) (ha : JOs kap xi X W (e :: es) t os) (hg : Gl X x := by rfl) (hn : x ≠ "__name__" := by decide) (hdb : (x == ("__debug__" : Str)) = false := by decide)
    (he : starEach (e :: es) X.env = (false, eval e X.env) :: starEach es X.env := by rfl) (hpl : (backTo pos (starEach es X.env)).any (·.1) = false := by rfl) : JE kap xi X W (.Call (.Name x p) (e :: es) [] pos) (fun W => tCB rN (t W)) (vON fN os) := ⟨pe_callB hc hg hm hv ha.p hn hdb he hpl, snd_oN s ha.s⟩
theorem jCT (hc : CallR X (.type T) rN) (s : SPN X.K kap rN fN) (hm : X.mg x = none) (hv : bootBuiltins x = some (.type T)) (ha : JOs kap xi X W (e :: es) t os) (hg : Gl X x := by rfl) (hn : x ≠ "__name__" := by decide) (hdb : (x == ("__debug__" : Str)) = false := by decide)
    (he : starEach (e :: es) X.env = (false, eval e X.env) :: starEach es X.env := by rfl) (hpl : (backTo pos (starEach es X.env)).any (·.1) = false := by rfl) : JE kap xi X W (.Call (.Name x p) (e :: es) [] pos) (fun W => tCB rN (t W)) (vON fN os) := ⟨pe_callTy hc hg hm hv ha.p hn hdb he hpl, snd_oN s ha.s⟩
theorem jCTF (hc : CallR X (.type T) rN) (s : SFN X.K kap rN fN) (hm : X.mg x = none) (hv : bootBuiltins x = some (.type T)) (ha : JOs kap xi X W (e :: es) t os) (hg : Gl X x := by rfl) (hn : x ≠ "__name__" := by decide) (hdb : (x == ("__debug__" : Str)) = false := by decide)
    (he : starEach (e :: es) X.env = (false, eval e X.env) :: starEach es X.env := by rfl) (hpl : (backTo pos (starEach es X.env)).any (·.1) = false := by rfl) : JF kap xi X W (.Call (.Name x p) (e :: es) [] pos) (fun W => tCB rN (t W)) (vON fN os) := ⟨pe_callTy hc hg hm hv ha.p hn hdb he hpl, snd_fN s ha.s⟩
end

/-! ### whole numbers -/
def fI (g : Int → Int → D) : D → D → Option D
  | .int i, .int j => some (g i j)
  | _, _ => none
def fIC (c : Int → Int → Bool) (g : Int → Int → D) : D → D → Option D
  | .int i, .int j => if c i j then some (g i j) else none
  | _, _ => none
def fU (g : Int → Int) : D → Option D
  | .int i => some (.int (g i))
  | _ => none
section
variable {K : PySem.W.Frag} {kap : Nat → Addr} {xi : Xi}
theorem spI {gv : Int → Int → V} {g : Int → Int → D} (hg : ∀ i j F, Rep K kap F (gv i j) (g i j)) : SP2 K kap (rI0 gv) (fI g) := by
  intro F H x y a b z Q sub ra rb e q
  unfold fI at e
  split at e
  · cases e
    exact ⟨_, _, ra.int, rb.int, q _ F H New.refl sub (hg _ _ F)⟩
  · cases e
theorem spIC {C : Int → Int → Prop} {c : Int → Int → Bool} {gv : Int → Int → V} {g : Int → Int → D} (hc : ∀ i j, c i j = true → C i j) (hg : ∀ i j F, Rep K kap F (gv i j) (g i j)) : SP2 K kap (rI C gv) (fIC c g) := by
  intro F H x y a b z Q sub ra rb e q
  unfold fIC at e
  split at e
  · split at e
    · rename_i hh
      cases e
      exact ⟨_, _, ra.int, rb.int, hc _ _ hh, q _ F H New.refl sub (hg _ _ F)⟩
    · cases e
  · cases e
theorem spU {gv : Int → Int} : SP1 K kap (rU fun i => .int (gv i)) (fU gv) := by
  intro F H x a z Q sub ra e q
  unfold fU at e
  split at e
  · cases e
    exact ⟨_, ra.int, q _ F H New.refl sub (.int _)⟩
  · cases e
end
def fSub : D → D → Option D := fI fun i j => .int (i - j)
def cMul (i j : Int) : Bool := decide (i.natAbs < 2 ^ 4000) && decide (j.natAbs < 2 ^ 4000)
def fMul : D → D → Option D := fIC cMul fun i j => .int (i * j)
def cDiv (_ j : Int) : Bool := decide (0 < j) && decide (j.natAbs < 2 ^ 8000)
def fFdiv : D → D → Option D := fIC cDiv fun i j => .int (i / j)
def cMod (_ j : Int) : Bool := decide (0 < j)
def fMod : D → D → Option D := fIC cMod fun i j => .int (i % j)
def cPow (i j : Int) : Bool := decide (0 ≤ j) && decide (j ≤ 1000000) && decide (i.natAbs < 2 ^ 64)
def fPow : D → D → Option D := fIC cPow fun i j => .int (i ^ j.toNat)
def fLt : D → D → Option D := fI fun i j => .bl (decide (i < j))
def fLe : D → D → Option D := fI fun i j => .bl (decide (i ≤ j))
def fGt : D → D → Option D := fI fun i j => .bl (decide (j < i))
def fGe : D → D → Option D := fI fun i j => .bl (decide (j ≤ i))
def fNeg : D → Option D := fU fun i => -i
section
variable {kap : Nat → Addr} {xi : Xi} {X : Cx} {W : WX} {a b : Expr} {ta tb : WX → TE} {oa ob : Op} {pos : Pos}
theorem jSub (ha : JO kap xi X W a ta oa) (hb : JO kap xi X W b tb ob) : JE kap xi X W (.BinOp a .Sub b pos) (fun W => tOp (rI0 fun i j => .int (i - j)) (ta W) (tb W)) (vO2 fSub oa ob) := jOp op_sub (spI fun _ _ _ => .int _) ha hb
theorem jMul (ha : JO kap xi X W a ta oa) (hb : JO kap xi X W b tb ob) : JE kap xi X W (.BinOp a .Mult b pos) (fun W => tOp (rI CMulW fun i j => .int (i * j)) (ta W) (tb W)) (vO2 fMul oa ob) := jOp op_mulW (spIC (fun i j h => by
    unfold cMul at h
    rw [Bool.and_eq_true, decide_eq_true_eq, decide_eq_true_eq] at h
    exact wide_mul h.1 h.2 (by decide) (by decide) (by decide)) fun _ _ _ => .int _) ha hb
theorem jFdiv (ha : JO kap xi X W a ta oa) (hb : JO kap xi X W b tb ob) : JE kap xi X W (.BinOp a .FloorDiv b pos) (fun W => tOp (rI CDivW fun i j => .int (i / j)) (ta W) (tb W)) (vO2 fFdiv oa ob) := jOp op_fdivW (spIC (fun i j h => by
    unfold cDiv at h
    rw [Bool.and_eq_true, decide_eq_true_eq, decide_eq_true_eq] at h
    exact wide_div h.1 h.2 (by decide) (by decide)) fun _ _ _ => .int _) ha hb
theorem jMod (ha : JO kap xi X W a ta oa) (hb : JO kap xi X W b tb ob) : JE kap xi X W (.BinOp a .Mod b pos) (fun W => tOp (rI (fun _ j => 0 < j) fun i j => .int (i % j)) (ta W) (tb W)) (vO2 fMod oa ob) := jOp op_mod (spIC (fun i j h => by
    unfold cMod at h
    exact of_decide_eq_true h) fun _ _ _ => .int _) ha hb
theorem jPow (ha : JO kap xi X W a ta oa) (hb : JO kap xi X W b tb ob) : JE kap xi X W (.BinOp a .Pow b pos) (fun W => tOp (rI CPow fun i j => .int (i ^ j.toNat)) (ta W) (tb W)) (vO2 fPow oa ob) := jOp op_pow (spIC (fun i j h => by
    unfold cPow at h
    rw [Bool.and_eq_true, Bool.and_eq_true, decide_eq_true_eq, decide_eq_true_eq, decide_eq_true_eq] at h
    exact ⟨h.1.1, h.1.2, h.2⟩) fun _ _ _ => .int _) ha hb
theorem jLt (ha : JO kap xi X W a ta oa) (hb : JO kap xi X W b tb ob) : JE kap xi X W (.Compare a [.Lt] [b] pos) (fun W => tOp (rI0 fun i j => .bl (decide (i < j))) (ta W) (tb W)) (vO2 fLt oa ob) := jCmp op_lt (spI fun _ _ _ => .bl _) ha hb
theorem jLe (ha : JO kap xi X W a ta oa) (hb : JO kap xi X W b tb ob) : JE kap xi X W (.Compare a [.LtE] [b] pos) (fun W => tOp (rI0 fun i j => .bl (decide (i ≤ j))) (ta W) (tb W)) (vO2 fLe oa ob) := jCmp op_le (spI fun _ _ _ => .bl _) ha hb
theorem jGt (ha : JO kap xi X W a ta oa) (hb : JO kap xi X W b tb ob) : JE kap xi X W (.Compare a [.Gt] [b] pos) (fun W => tOp (rI0 fun i j => .bl (decide (j < i))) (ta W) (tb W)) (vO2 fGt oa ob) := jCmp op_gt (spI fun _ _ _ => .bl _) ha hb
theorem jGe (ha : JO kap xi X W a ta oa) (hb : JO kap xi X W b tb ob) : JE kap xi X W (.Compare a [.GtE] [b] pos) (fun W => tOp (rI0 fun i j => .bl (decide (j ≤ i))) (ta W) (tb W)) (vO2 fGe oa ob) := jCmp op_ge (spI fun _ _ _ => .bl _) ha hb
theorem jNeg (ha : JO kap xi X W a ta oa) : JE kap xi X W (.UnaryOp .USub a pos) (fun W => tUn (rU fun i => .int (-i)) (ta W)) (vO1 fNeg oa) := jUn un_neg spU ha
end

/-! ### + of anything -/
def fAdd : D → D → Option D
  | .int i, .int j => some (.int (i + j))
  | .str x, .str y => if x.length + y.length ≤ 16777216 then some (.str (x ++ y)) else none
  | .tup xs, .tup ys => if xs.length + ys.length ≤ 16777216 then some (.tup (xs ++ ys)) else none
  | .lst xs, .lst ys => if xs.length + ys.length ≤ 16777216 then some (.lst (xs ++ ys)) else none
  | _, _ => none
def fCat : D → D → Option D
  | .lst xs, .lst ys => if xs.length + ys.length ≤ 16777216 then some (.lst (xs ++ ys)) else none
  | _, _ => none

theorem line_eq : (sizeLine : Nat) = 16777216 := sizeLine_eq
theorem nil_of {K : PySem.W.Frag} {kap : Nat → Addr} {F : Hp} {vs : List V} {ds : List D} (r : Reps K kap F vs ds) : vs = [] ↔ ds = [] := by
  cases r with
  | nil => simp
  | cons => simp
section
variable {K : PySem.W.Frag} {kap : Nat → Addr} {xi : Xi}
def rAddA (K : PySem.W.Frag) : R2 := fun x y H Q => rI0 (fun i j => .int (i + j)) x y H Q ∨ (∃ i j, x = .str i ∧ y = .str j ∧ i.length + j.length ≤ sizeLine ∧ Q (.str (i ++ j)) H) ∨ rCatA K x y H Q ∨ rCat x y H Q
theorem op_addA {X : Cx} : OpR X (binaryOp .Add) (rAddA X.K) := op_add.or (op_add_str.or (op_catA.or op_cat))
theorem sp_addA : SP2 K kap (rAddA K) fAdd := by
  intro F H x y a b z Q sub ra rb e q
  unfold fAdd at e
  split at e
  · cases e
    exact .inl ⟨_, _, ra.int, rb.int, q _ F H New.refl sub (.int _)⟩
  · split at e
    · rename_i hl
      cases e
      exact .inr (.inl ⟨_, _, ra.str, rb.str, by rw [line_eq]; exact hl, q _ F H New.refl sub (.str _)⟩)
    · cases e
  · rename_i xs ys
    split at e
    · rename_i hl
      cases e
      obtain ⟨p, vs, rfl, h1, r1⟩ := ra.tup
      obtain ⟨p2, ws, rfl, h2, r2⟩ := rb.tup
      refine .inr (.inr (.inl ⟨_, _, _, _, rfl, rfl, sqT_mono sub h1, sqT_mono sub h2, by rw [line_eq, r1.length, r2.length]; exact hl, fun e => ?_, fun e e2 => ?_, fun e e2 p hp => ?_⟩))
      · subst e
        cases r1
        exact q _ F H New.refl sub (.tup h2 r2)
      · subst e2
        cases r2
        rw [List.append_nil] at q
        exact q _ F H New.refl sub (.tup h1 r1)
      · obtain ⟨n, s2⟩ := New.one (o := .tup (vs ++ ws)) sub hp
        exact q _ _ _ n s2 (.tup (SqT.of upd_same) ((r1.append r2).mono n.f))
    · cases e
  · rename_i xs ys
    split at e
    · rename_i hl
      cases e
      obtain ⟨p, vs, rfl, h1, r1⟩ := ra.lst sub
      obtain ⟨p2, ws, rfl, h2, r2⟩ := rb.lst sub
      refine .inr (.inr (.inr ⟨_, _, _, _, rfl, rfl, h1, h2, by rw [line_eq, r1.length, r2.length]; exact hl, fun p hp => ?_⟩))
      obtain ⟨n, s2⟩ := New.one (o := .lst (vs ++ ws)) sub hp
      exact q _ _ _ n s2 (.lst upd_same ((r1.append r2).mono n.f))
    · cases e
  · cases e
theorem new_fresh {F H : Hp} {p : Addr} {o : HO} (sub : Same F H) (hp : H p = none) : New F H F (upd H p o) ∧ Same F (upd H p o) :=
  ⟨⟨Same.refl F, same_upd hp, fun _ h => .inl h⟩, sub.trans (same_upd hp)⟩
theorem sf_cat : SF2 K kap rCat fCat := by
  intro F H x y a b z Q sub ra rb e q
  unfold fCat at e
  split at e
  · split at e
    · rename_i hl
      cases e
      obtain ⟨p, vs, rfl, h1, r1⟩ := ra.lst sub
      obtain ⟨p2, ws, rfl, h2, r2⟩ := rb.lst sub
      refine ⟨_, _, _, _, rfl, rfl, h1, h2, by rw [line_eq, r1.length, r2.length]; exact hl, fun p hp => ?_⟩
      obtain ⟨n, s2⟩ := new_fresh (o := .lst (vs ++ ws)) sub hp
      exact q _ _ n s2 hp ⟨_, upd_same, r1.append r2⟩
    · cases e
  · cases e
end
/-! ### == of plain data -/
mutual
def toPy : D → PyData
  | .non => .none
  | .bl b => .bool b
  | .int i => .int i
  | .str s => .str s
  | .tup xs => .tuple (toPys xs)
  | .lst xs => .list (toPys xs)
  | .scr _ => .dict []
  | .dk _ => .dict []
  | .dn _ => .dict []
  | .obj _ _ => .dict []
  | .cls _ => .dict []
def toPys : List D → List PyData
  | [] => []
  | d :: r => toPy d :: toPys r
end
def fEq (a b : D) : Option D := if SeqAt.shaped (toPy a) && SeqAt.shaped (toPy b) then some (.bl (PyData.eqv (toPy a) (toPy b))) else none
def fNe (a b : D) : Option D := if SeqAt.shaped (toPy a) && SeqAt.shaped (toPy b) then some (.bl (!PyData.eqv (toPy a) (toPy b))) else none
section
variable {K : PySem.W.Frag} {kap : Nat → Addr} {xi : Xi} {F : Hp}
mutual
theorem dp_of : ∀ {v : V} {d : D}, Rep K kap F v d → (toPy d).canLay0 = true → Dp K F v (toPy d)
  | _, _, .non, _ => .non
  | _, _, .bl b, _ => .bl b
  | _, _, .int i, _ => .int i
  | _, _, .str s, _ => .str s
  | _, _, .tup h r, c => .tup h (dps_of r (by simpa [toPy, PyData.canLay0] using c))
  | _, _, .lst h r, c => .lst (SqL.of h) (dps_of r (by simpa [toPy, PyData.canLay0] using c))
  | _, _, .scr _ _, c => by simp [toPy, PyData.canLay0] at c
  | _, _, .dk _ _ _, c => by simp [toPy, PyData.canLay0] at c
  | _, _, .dn _ _ _ _ _ _ _, c => by simp [toPy, PyData.canLay0] at c
  | _, _, .obj _ _ _, c => by simp [toPy, PyData.canLay0] at c
  | _, _, .clsB _, c => by simp [toPy, PyData.canLay0] at c
  | _, _, .clsO _, c => by simp [toPy, PyData.canLay0] at c
theorem dps_of : ∀ {vs : List V} {ds : List D}, Reps K kap F vs ds → PyData.canLayAll0 (toPys ds) = true → DpAll K F vs (toPys ds)
  | _, _, .nil, _ => .nil
  | _ :: _, d :: ds, .cons h r, c => by
    have c' : (toPy d).canLay0 = true ∧ PyData.canLayAll0 (toPys ds) = true := by simpa [toPys, PyData.canLayAll0] using c
    exact .cons (dp_of h c'.1) (dps_of r c'.2)
end
theorem sp_eq : SP2 K kap (rEqD K) fEq := by
  intro F H x y a b z Q sub ra rb e q
  unfold fEq at e
  split at e
  · rename_i h
    rw [Bool.and_eq_true] at h
    cases e
    exact ⟨_, _, dp_of (ra.rep sub) (SeqAt.canLay_of_shaped h.1), dp_of (rb.rep sub) (SeqAt.canLay_of_shaped h.2), h.1, h.2, q _ F H New.refl sub (.bl _)⟩
  · cases e
theorem sp_ne : SP2 K kap (rNeD K) fNe := by
  intro F H x y a b z Q sub ra rb e q
  unfold fNe at e
  split at e
  · rename_i h
    rw [Bool.and_eq_true] at h
    cases e
    exact ⟨_, _, dp_of (ra.rep sub) (SeqAt.canLay_of_shaped h.1), dp_of (rb.rep sub) (SeqAt.canLay_of_shaped h.2), h.1, h.2, q _ F H New.refl sub (.bl _)⟩
  · cases e
end
/-! ### is None -/
def fIsN : D → D → Option D
  | .non, .non => some (.bl true)
  | _, .non => some (.bl false)
  | _, _ => none
def fNotN : D → D → Option D
  | .non, .non => some (.bl false)
  | _, .non => some (.bl true)
  | _, _ => none
section
variable {K : PySem.W.Frag} {kap : Nat → Addr} {xi : Xi}
theorem rb_non {F H : Hp} {v : V} {d : D} (h : RB K kap F H v d) (hd : d ≠ .non) : v ≠ .non := by
  rcases h with h | ⟨p, rfl, _, _⟩
  · cases h with
    | non => exact absurd rfl hd
    | _ => simp
  · simp
theorem sp_isN : SP2 K kap (fun x y H Q => y = .non ∧ Q (.bl (decide (x = .non))) H) fIsN := by
  intro F H x y a b z Q sub ra rb e q
  unfold fIsN at e
  split at e
  · cases e
    refine ⟨rb.non, ?_⟩
    rw [decide_eq_true ra.non]
    exact q _ F H New.refl sub (.bl _)
  · rename_i hn
    cases e
    refine ⟨rb.non, ?_⟩
    rw [decide_eq_false (rb_non ra fun z => hn z)]
    exact q _ F H New.refl sub (.bl _)
  · cases e
theorem sp_notN : SP2 K kap (fun x y H Q => y = .non ∧ Q (.bl (!decide (x = .non))) H) fNotN := by
  intro F H x y a b z Q sub ra rb e q
  unfold fNotN at e
  split at e
  · cases e
    refine ⟨rb.non, ?_⟩
    rw [decide_eq_true ra.non]
    exact q _ F H New.refl sub (.bl _)
  · rename_i hn
    cases e
    refine ⟨rb.non, ?_⟩
    rw [decide_eq_false (rb_non ra fun z => hn z)]
    exact q _ F H New.refl sub (.bl _)
  · cases e
end
/-! ### items -/
def fIx : D → D → Option D
  | .tup xs, .int i => atI xs i
  | .lst xs, .int i => atI xs i
  | .scr xs, .int i => atI xs i
  | .str s, .int i => if s.length ≤ 16777216 then (atI s.cps.toList i).map fun c => .str ⟨#[c]⟩ else none
  | _, _ => none
section
variable {K : PySem.W.Frag} {kap : Nat → Addr} {xi : Xi}
theorem reps_at {F : Hp} {vs : List V} {ds : List D} {i : Int} {d : D} (r : Reps K kap F vs ds) (h : atI ds i = some d) : ∃ v, atI vs i = some v ∧ Rep K kap F v d := by
  unfold atI at h ⊢
  rw [r.length]
  obtain ⟨j, h1, h2⟩ := bind_some h
  obtain ⟨v, g1, g2⟩ := r.get h2
  exact ⟨v, by rw [h1]; exact g1, g2⟩
theorem sp_ix : SP2 K kap (rIx K) fIx := by
  intro F H x y a b z Q sub ra rb e q
  unfold fIx at e
  split at e
  · obtain ⟨p, vs, rfl, h1, r1⟩ := ra.tup
    obtain ⟨v, g1, g2⟩ := reps_at r1 e
    exact .inr (.inl ⟨p, vs, _, v, rfl, rb.int, sqT_mono sub h1, g1, q _ F H New.refl sub g2⟩)
  · obtain ⟨p, vs, rfl, h1, r1⟩ := ra.lst sub
    obtain ⟨v, g1, g2⟩ := reps_at r1 e
    exact .inl ⟨p, vs, _, v, rfl, rb.int, SqL.of h1, g1, q _ F H New.refl sub g2⟩
  · obtain ⟨p, vs, rfl, h1, r1⟩ := ra.scr
    obtain ⟨v, g1, g2⟩ := reps_at r1 e
    exact .inl ⟨p, vs, _, v, rfl, rb.int, sqL_mono sub h1, g1, q _ F H New.refl sub g2⟩
  · split at e
    · rename_i hl
      obtain ⟨c, h1, h2⟩ := Option.map_eq_some_iff.mp e
      cases h2
      exact .inr (.inr ⟨_, _, c, ra.str, rb.int, by rw [line_eq]; exact hl, h1, q _ F H New.refl sub (.str _)⟩)
    · cases e
  · cases e
end
/-! ### built-ins -/
def fLen : List D → Option D
  | [.str s] => if s.length ≤ 16777216 then some (.int s.length) else none
  | [.tup xs] => some (.int xs.length)
  | [.lst xs] => some (.int xs.length)
  | [.scr xs] => some (.int xs.length)
  | [.dk xs] => some (.int xs.length)
  | _ => none
def rLenA (K : PySem.W.Frag) : List V → Hp → VK → Prop := fun xs H Q => (∃ x n, xs = [x] ∧ LenV K x H n ∧ Q (.int n) H) ∨ ∃ a kvs, xs = [V.ref a] ∧ H a = some (.dK kvs) ∧ Q (.int kvs.length) H
theorem callR_or {X : Cx} {f : Value} {r r' : List V → Hp → VK → Prop} (h : CallR X f r) (h' : CallR X f r') : CallR X f (fun xs H Q => r xs H Q ∨ r' xs H Q) :=
  fun pins s sg H xs us Q I rr q => q.elim (h pins s sg H xs us Q I rr) (h' pins s sg H xs us Q I rr)
theorem call_lenA {X : Cx} : CallR X (.builtin "len") (rLenA X.K) := callR_or call_len call_lenD
def fAbs : List D → Option D
  | [.int i] => some (.int (if i < 0 then -i else i))
  | _ => none
def fInt : List D → Option D
  | [.int i] => some (.int i)
  | [.bl k] => some (.int (if k then 1 else 0))
  | _ => none
def fStrI : List D → Option D
  | [.int i] => if i.natAbs.log2 < 1920 then some (.str (toString i)) else none
  | _ => none
def fTuple : List D → Option D
  | [.tup xs] => some (.tup xs)
  | [.lst xs] => some (.tup xs)
  | _ => none
def fList : List D → Option D
  | [.tup xs] => some (.lst xs)
  | [.lst xs] => some (.lst xs)
  | [.scr xs] => some (.lst xs)
  | _ => none
section
variable {K : PySem.W.Frag} {kap : Nat → Addr} {xi : Xi}
theorem one_of {F H : Hp} {xs : List V} {a : D} (h : Paired (RB K kap F H) xs [a]) : ∃ x, xs = [x] ∧ RB K kap F H x a := by
  cases h with
  | cons h r => cases r; exact ⟨_, rfl, h⟩
theorem two_of {F H : Hp} {xs : List V} {a b : D} (h : Paired (RB K kap F H) xs [a, b]) : ∃ x y, xs = [x, y] ∧ RB K kap F H x a ∧ RB K kap F H y b := by
  cases h with
  | cons h r => cases r with | cons h2 r => cases r; exact ⟨_, _, rfl, h, h2⟩
theorem sp_len : SPN K kap (rLenA K) fLen := by
  intro F H xs as z Q sub ra e q
  unfold fLen at e
  split at e
  · split at e
    · rename_i hl
      cases e
      obtain ⟨x, rfl, r⟩ := one_of ra
      rw [r.str]
      exact .inl ⟨_, _, rfl, ⟨by rw [line_eq]; exact hl, rfl⟩, q _ F H New.refl sub (.int _)⟩
    · cases e
  · cases e
    obtain ⟨x, rfl, r⟩ := one_of ra
    obtain ⟨p, vs, rfl, h1, r1⟩ := r.tup
    exact .inl ⟨_, _, rfl, .inr ⟨vs, sqT_mono sub h1, rfl⟩, by rw [r1.length]; exact q _ F H New.refl sub (.int _)⟩
  · cases e
    obtain ⟨x, rfl, r⟩ := one_of ra
    obtain ⟨p, vs, rfl, h1, r1⟩ := r.lst sub
    exact .inl ⟨_, _, rfl, .inl ⟨vs, SqL.of h1, rfl⟩, by rw [r1.length]; exact q _ F H New.refl sub (.int _)⟩
  · cases e
    obtain ⟨x, rfl, r⟩ := one_of ra
    obtain ⟨p, vs, rfl, h1, r1⟩ := r.scr
    exact .inl ⟨_, _, rfl, .inl ⟨vs, sqL_mono sub h1, rfl⟩, by rw [r1.length]; exact q _ F H New.refl sub (.int _)⟩
  · cases e
    obtain ⟨x, rfl, r⟩ := one_of ra
    obtain ⟨p, kvs, rfl, h1, n1, r1⟩ := r.dk sub
    refine .inr ⟨_, kvs, rfl, h1, ?_⟩
    have hl := r1.length
    rw [List.length_map, List.length_map] at hl
    rw [hl]
    exact q _ F H New.refl sub (.int _)
  · cases e
theorem sp_abs : SPN K kap (fun xs H Q => ∃ i, xs = [.int i] ∧ Q (.int (if i < 0 then -i else i)) H) fAbs := by
  intro F H xs as z Q sub ra e q
  unfold fAbs at e
  split at e
  · cases e
    obtain ⟨x, rfl, r⟩ := one_of ra
    rw [r.int]
    exact ⟨_, rfl, q _ F H New.refl sub (.int _)⟩
  · cases e
theorem sp_int : SPN K kap (fun xs H Q => (∃ i, xs = [.int i] ∧ Q (.int i) H) ∨ ∃ k, xs = [.bl k] ∧ Q (.int (if k then 1 else 0)) H) fInt := by
  intro F H xs as z Q sub ra e q
  unfold fInt at e
  split at e
  · cases e
    obtain ⟨x, rfl, r⟩ := one_of ra
    rw [r.int]
    exact .inl ⟨_, rfl, q _ F H New.refl sub (.int _)⟩
  · cases e
    obtain ⟨x, rfl, r⟩ := one_of ra
    rw [r.bl]
    exact .inr ⟨_, rfl, q _ F H New.refl sub (.int _)⟩
  · cases e
theorem sp_strI : SPN K kap (fun xs H Q => ∃ i, xs = [.int i] ∧ i.natAbs.log2 < 1920 ∧ Q (.str (toString i)) H) fStrI := by
  intro F H xs as z Q sub ra e q
  unfold fStrI at e
  split at e
  · split at e
    · rename_i hl
      cases e
      obtain ⟨x, rfl, r⟩ := one_of ra
      rw [r.int]
      exact ⟨_, rfl, hl, q _ F H New.refl sub (.str _)⟩
    · cases e
  · cases e
theorem sp_tuple : SPN K kap (fun xs H Q => ∃ p ys, xs = [.ref p] ∧ ((SqL K H p ys ∧ ∀ l, H l = none → Q (.ref l) (upd H l (.tup ys))) ∨ (SqT K H p ys ∧ Q (.ref p) H))) fTuple := by
  intro F H xs as z Q sub ra e q
  unfold fTuple at e
  split at e
  · cases e
    obtain ⟨x, rfl, r⟩ := one_of ra
    obtain ⟨p, vs, rfl, h1, r1⟩ := r.tup
    exact ⟨_, _, rfl, .inr ⟨sqT_mono sub h1, q _ F H New.refl sub (.tup h1 r1)⟩⟩
  · cases e
    obtain ⟨x, rfl, r⟩ := one_of ra
    obtain ⟨p, vs, rfl, h1, r1⟩ := r.lst sub
    refine ⟨_, _, rfl, .inl ⟨SqL.of h1, fun l hl => ?_⟩⟩
    obtain ⟨n, s2⟩ := New.one (o := .tup vs) sub hl
    exact q _ _ _ n s2 (.tup (SqT.of upd_same) (r1.mono n.f))
  · cases e
theorem sf_list : SFN K kap (fun xs H Q => ∃ p ys, xs = [.ref p] ∧ (SqL K H p ys ∨ SqT K H p ys) ∧ ∀ l, H l = none → Q (.ref l) (upd H l (.lst ys))) fList := by
  intro F H xs as z Q sub ra e q
  have fin : ∀ {vs : List V} {ds : List D}, Reps K kap F vs ds → z = .lst ds → ∀ l, H l = none → Q (.ref l) (upd H l (.lst vs)) := fun {vs ds} r1 ez l hl => by
    obtain ⟨n, s2⟩ := new_fresh (o := .lst vs) sub hl
    subst ez
    exact q _ _ n s2 hl ⟨_, upd_same, r1⟩
  unfold fList at e
  split at e
  · cases e
    obtain ⟨x, rfl, r⟩ := one_of ra
    obtain ⟨p, vs, rfl, h1, r1⟩ := r.tup
    exact ⟨_, _, rfl, .inr (sqT_mono sub h1), fin r1 rfl⟩
  · cases e
    obtain ⟨x, rfl, r⟩ := one_of ra
    obtain ⟨p, vs, rfl, h1, r1⟩ := r.lst sub
    exact ⟨_, _, rfl, .inl (SqL.of h1), fin r1 rfl⟩
  · cases e
    obtain ⟨x, rfl, r⟩ := one_of ra
    obtain ⟨p, vs, rfl, h1, r1⟩ := r.scr
    exact ⟨_, _, rfl, .inl (sqL_mono sub h1), fin r1 rfl⟩
  · cases e
end
end DL

set_option maxRecDepth 100000
set_option maxHeartbeats 2000000
set_option autoImplicit false
namespace DL
open PySem L2

/-! ### a fresh object is frozen -/
section
variable {K : PySem.W.Frag} {kap : Nat → Addr} {xi : Xi} {F H : Hp} {sg : St} {de : DEnv} {O : Own?} {W : WX}
theorem RS.add (R : RS K kap xi F H sg de O) {p : Addr} {o : HO} (hf : F p = none) (hh : H p = some o) (hO : ∀ i, O i ≠ some p) : RS K kap xi (upd F p o) H sg de O where
  len := R.len
  va := fun i d e => by
    obtain ⟨v, h1, h2⟩ := R.va i d e
    exact ⟨v, h1, h2.mono (same_upd hf)⟩
  ow := fun i s d e h => by
    obtain ⟨q, h1, h2, h3, h4⟩ := R.ow i s d e h
    refine ⟨q, h1, h2, ?_, h4.mono (same_upd hf) rfl⟩
    have : q ≠ p := fun z => hO i (by rw [h1, z])
    rw [upd_ne this]; exact h3
  ex := fun i c fs e => by
    obtain ⟨a, d, h1, h2, h3⟩ := R.ex i c fs e
    exact ⟨a, d, h1, h2, h3.mono (same_upd hf)⟩
  onl := R.onl
  inj := R.inj
  sub := fun a u e => by
    by_cases z : a = p
    · subst z; rw [upd_same] at e; cases e; exact hh
    · rw [upd_ne z] at e; exact R.sub a u e
theorem snd_fz {t : WX → TE} {ev : DEnv → Rs D} (h : Snd K kap xi (RlF K kap) t ev) : Snd K kap xi (RlE K kap) t ev := by
  intro W F H sg de O Q R hp
  refine h W F H sg de O Q R ?_
  cases e : ev de with
  | ok d de1 =>
    rw [e] at hp
    intro v F' H' O' R' g ⟨p, ev', hf, how, hO⟩ org
    subst ev'
    obtain ⟨o, ho, hr⟩ := how.freeze hf
    refine hp (.ref p) (upd F' p o) H' O' (R'.add hf ho hO) ⟨g.ex.trans (same_upd hf), g.keep, g.new, g.dom, fun a z => ?_, g.pin⟩ hr fun _ z => z.elim
    by_cases q : a = p
    · subst q; exact .inr (org a rfl)
    · rw [upd_ne q] at z; exact g.fnew a z
  | ex c fs de1 => rw [e] at hp; exact hp
  | bad => rw [e] at hp; exact hp
end
section
variable {kap : Nat → Addr} {xi : Xi} {X : Cx} {W : WX} {a b c e : Expr} {ta tb tc t : WX → TE} {oa ob oc : Op} {ev ev1 ev2 : DEnv → Rs D} {pos p : Pos}
theorem JF.fz (h : JF kap xi X W e t ev) : JE kap xi X W e t ev := ⟨h.p, snd_fz h.s⟩

/-! ### + -/
theorem jAdd (ha : JO kap xi X W a ta oa) (hb : JO kap xi X W b tb ob) : JE kap xi X W (.BinOp a .Add b pos) (fun W => tOp (rAddA X.K) (ta W) (tb W)) (vO2 fAdd oa ob) := jOp op_addA sp_addA ha hb
theorem jCat (ha : JO kap xi X W a ta oa) (hb : JO kap xi X W b tb ob) : JF kap xi X W (.BinOp a .Add b pos) (fun W => tOp rCat (ta W) (tb W)) (vO2 fCat oa ob) := jOpF op_cat sf_cat ha hb
theorem jEq (hu : X.A.units + 64 < cLine) (ha : JO kap xi X W a ta oa) (hb : JO kap xi X W b tb ob) : JE kap xi X W (.Compare a [.Eq] [b] pos) (fun W => tOp (rEqD X.K) (ta W) (tb W)) (vO2 fEq oa ob) := jCmp (op_eqD hu) sp_eq ha hb
theorem jNe (hu : X.A.units + 64 < cLine) (ha : JO kap xi X W a ta oa) (hb : JO kap xi X W b tb ob) : JE kap xi X W (.Compare a [.NotEq] [b] pos) (fun W => tOp (rNeD X.K) (ta W) (tb W)) (vO2 fNe oa ob) := jCmp (op_neD hu) sp_ne ha hb
theorem jIsN (ha : JO kap xi X W a ta oa) (hb : JO kap xi X W b tb ob) : JE kap xi X W (.Compare a [.Is] [b] pos) (fun W => tOp (fun x y H Q => y = .non ∧ Q (.bl (decide (x = .non))) H) (ta W) (tb W)) (vO2 fIsN oa ob) := jCmp op_isN sp_isN ha hb
theorem jNotN (ha : JO kap xi X W a ta oa) (hb : JO kap xi X W b tb ob) : JE kap xi X W (.Compare a [.IsNot] [b] pos) (fun W => tOp (fun x y H Q => y = .non ∧ Q (.bl (!decide (x = .non))) H) (ta W) (tb W)) (vO2 fNotN oa ob) := jCmp op_notN sp_notN ha hb
theorem jItem (ha : JO kap xi X W a ta oa) (hb : JO kap xi X W b tb ob) (hs : PlainIx b := by exact fun _ _ => rfl) : JE kap xi X W (.Subscript a b pos) (fun W => tOp (rIx X.K) (ta W) (tb W)) (vO2 fIx oa ob) := jIx ix_seq sp_ix ha hb hs

/-! ### tests -/
def asB : D → Option Bool
  | .bl b => some b
  | _ => none
def vB (ev : DEnv → Rs D) (de : DEnv) : Rs Bool := (ev de).bind fun d de' => ofO (asB d) de'
def vAnd (e1 e2 : DEnv → Rs Bool) (de : DEnv) : Rs Bool := (e1 de).bind fun b de' => if b = true then e2 de' else .ok false de'
def vOr (e1 e2 : DEnv → Rs Bool) (de : DEnv) : Rs Bool := (e1 de).bind fun b de' => if b = true then .ok true de' else e2 de'
def vNot (e1 : DEnv → Rs Bool) (de : DEnv) : Rs Bool := (e1 de).bind fun b de' => .ok (!b) de'
theorem rep_bl {K : PySem.W.Frag} {F : Hp} {v : V} {d : D} {b : Bool} (r : Rep K kap F v d) (h : asB d = some b) : v = .bl b := by
  cases r with
  | bl b' => cases h; rfl
  | _ => cases h
theorem jB (h : JE kap xi X W e t ev) (he : ∀ whole, isTrue e X.env whole = (do let v ← whole; standAt e.pos; holding [v] (truthy v)) := by intro _; rfl) : JT kap xi X W e (fun W => tB (t W)) (vB ev) := ⟨pt_val h.p he, by
  intro W F H sg de O Q R hp
  refine h.s.bind R hp fun v d F1 H1 de1 O1 R1 g1 r _ hp => ?_
  obtain ⟨b, e, hp⟩ := ofO_some hp
  exact ⟨b, rep_bl r e, hp.done R1 New.refl R1.sub rfl⟩⟩
/-- a comparison as a test -/
theorem jBc {op : CmpOp} {r : R2} {f : D → D → Option D} (ho : OpR X (compareOp op) r) (s : SP2 X.K kap r f) (ha : JO kap xi X W a ta oa) (hb : JO kap xi X W b tb ob) (hm : behindInMarks op b = false := by first | exact nomark _ | rfl) :
    JT kap xi X W (.Compare a [op] [b] pos) (fun W => tTest (tOp r (ta W) (tb W))) (vB (vO2 f oa ob)) := ⟨pt_cmpR ho ha.p hb.p hm, by
  intro W F H sg de O Q R hp
  refine (snd_o2 s ha.s hb.s).bind R hp fun v d F1 H1 de1 O1 R1 g1 r _ hp => ?_
  obtain ⟨b, e, hp⟩ := ofO_some hp
  exact ⟨b, rep_bl r e, hp.done R1 New.refl R1.sub rfl⟩⟩
structure JW (kap : Nat → Addr) (xi : Xi) (X : Cx) (W : WX) (e : Expr) (t : WX → TT) (ev : DEnv → Rs Bool) : Prop where
  p : PW X e (t W)
  s : Snd X.K kap xi RlB t ev
variable {t1 t2 : WX → TT} {b1 b2 : DEnv → Rs Bool} {rest : List Expr}
theorem JW.pt (h : JW kap xi X W e t1 b1) : JT kap xi X W e t1 b1 := ⟨h.p.pt, h.s⟩
theorem jwAnd1 (h : JT kap xi X W a t1 b1) : JW kap xi X W (.BoolOp .And [a] pos) t1 b1 := ⟨pw_and1 h.p, h.s⟩
theorem jwOr1 (h : JT kap xi X W a t1 b1) : JW kap xi X W (.BoolOp .Or [a] pos) t1 b1 := ⟨pw_or1 h.p, h.s⟩
theorem snd_and {K : PySem.W.Frag} (h1 : Snd K kap xi RlB t1 b1) (h2 : Snd K kap xi RlB t2 b2) : Snd K kap xi RlB (fun W => tAnd (t1 W) (t2 W)) (vAnd b1 b2) := by
  intro W F H sg de O Q R hp
  refine h1.bind R hp fun v d F1 H1 de1 O1 R1 g1 r _ hp => ?_
  cases (show v = d from r)
  cases v with
  | true => exact iteT (h2 W F1 H1 sg de1 O1 Q R1 hp)
  | false => exact iteF (hp.done R1 New.refl R1.sub rfl)
theorem snd_or {K : PySem.W.Frag} (h1 : Snd K kap xi RlB t1 b1) (h2 : Snd K kap xi RlB t2 b2) : Snd K kap xi RlB (fun W => tOr (t1 W) (t2 W)) (vOr b1 b2) := by
  intro W F H sg de O Q R hp
  refine h1.bind R hp fun v d F1 H1 de1 O1 R1 g1 r _ hp => ?_
  cases (show v = d from r)
  cases v with
  | true => exact iteT (hp.done R1 New.refl R1.sub rfl)
  | false => exact iteF (h2 W F1 H1 sg de1 O1 Q R1 hp)
theorem jwAnd (h1 : JT kap xi X W a t1 b1) (h2 : JW kap xi X W (.BoolOp .And (b :: rest) pos) t2 b2) : JW kap xi X W (.BoolOp .And (a :: b :: rest) pos) (fun W => tAnd (t1 W) (t2 W)) (vAnd b1 b2) := ⟨pw_and h1.p h2.p, snd_and h1.s h2.s⟩
theorem jwOr (h1 : JT kap xi X W a t1 b1) (h2 : JW kap xi X W (.BoolOp .Or (b :: rest) pos) t2 b2) : JW kap xi X W (.BoolOp .Or (a :: b :: rest) pos) (fun W => tOr (t1 W) (t2 W)) (vOr b1 b2) := ⟨pw_or h1.p h2.p, snd_or h1.s h2.s⟩
theorem jtNot (h : JT kap xi X W a t1 b1) : JT kap xi X W (.UnaryOp .Not a pos) (fun W => tNot (t1 W)) (vNot b1) := ⟨pt_not h.p, by
  intro W F H sg de O Q R hp
  refine h.s.bind R hp fun v d F1 H1 de1 O1 R1 g1 r _ hp => ?_
  cases (show v = d from r)
  exact hp.done R1 New.refl R1.sub rfl⟩
/-- as values -/
def vOneV (ev : DEnv → Rs D) : DEnv → Rs D := ev
def vAndV (e1 e2 : DEnv → Rs D) (de : DEnv) : Rs D := (e1 de).bind fun d de' => match d with | .bl true => e2 de' | .bl false => .ok (.bl false) de' | _ => .bad
def vOrV (e1 e2 : DEnv → Rs D) (de : DEnv) : Rs D := (e1 de).bind fun d de' => match d with | .bl true => .ok (.bl true) de' | .bl false => e2 de' | _ => .bad
def fNotV : D → Option D
  | .bl b => some (.bl (!b))
  | _ => none
def vNotV (e1 : DEnv → Rs D) (de : DEnv) : Rs D := (e1 de).bind fun d de' => ofO (fNotV d) de'
theorem jOneV {op : BoolOp} (h : JE kap xi X W a t ev) : JE kap xi X W (.BoolOp op [a] pos) t ev := ⟨pe_one h.p, h.s⟩
theorem jAndV (h1 : JE kap xi X W a ta ev1) (h2 : JE kap xi X W (.BoolOp .And (b :: rest) pos) tb ev2) : JE kap xi X W (.BoolOp .And (a :: b :: rest) pos) (fun W => tAndV (ta W) (tb W)) (vAndV ev1 ev2) := ⟨pe_and h1.p h2.p, by
  intro W F H sg de O Q R hp
  refine h1.s.bind R hp fun v d F1 H1 de1 O1 R1 g1 r _ hp => ?_
  cases r with
  | bl b =>
    cases b with
    | true => exact ⟨true, rfl, iteT (h2.s W F1 H1 sg de1 O1 Q R1 hp)⟩
    | false => exact ⟨false, rfl, iteF (hp.done R1 New.refl R1.sub (.bl _))⟩
  | _ => exact hp.elim⟩
theorem jOrV (h1 : JE kap xi X W a ta ev1) (h2 : JE kap xi X W (.BoolOp .Or (b :: rest) pos) tb ev2) : JE kap xi X W (.BoolOp .Or (a :: b :: rest) pos) (fun W => tOrV (ta W) (tb W)) (vOrV ev1 ev2) := ⟨pe_or h1.p h2.p, by
  intro W F H sg de O Q R hp
  refine h1.s.bind R hp fun v d F1 H1 de1 O1 R1 g1 r _ hp => ?_
  cases r with
  | bl b =>
    cases b with
    | true => exact ⟨true, rfl, iteT (hp.done R1 New.refl R1.sub (.bl _))⟩
    | false => exact ⟨false, rfl, iteF (h2.s W F1 H1 sg de1 O1 Q R1 hp)⟩
  | _ => exact hp.elim⟩
theorem jNotV (h1 : JE kap xi X W a ta ev1) : JE kap xi X W (.UnaryOp .Not a pos) (fun W => tNotV (ta W)) (vNotV ev1) := ⟨pe_not h1.p, by
  intro W F H sg de O Q R hp
  refine h1.s.bind R hp fun v d F1 H1 de1 O1 R1 g1 r _ hp => ?_
  obtain ⟨z, e, hp⟩ := ofO_some hp
  cases r with
  | bl b => cases e; exact ⟨b, rfl, hp.done R1 New.refl R1.sub (.bl _)⟩
  | _ => cases e⟩
def vIfE (c : DEnv → Rs Bool) (e1 e2 : DEnv → Rs D) (de : DEnv) : Rs D := (c de).bind fun b de' => if b = true then e1 de' else e2 de'
theorem jIfE (hc : JT kap xi X W c t1 b1) (h1 : JE kap xi X W a ta ev1) (h2 : JE kap xi X W b tb ev2) : JE kap xi X W (.IfExp c a b pos) (fun W => tIf (t1 W) (ta W) (tb W)) (vIfE b1 ev1 ev2) := ⟨pe_ifExp hc.p h1.p h2.p, by
  intro W F H sg de O Q R hp
  refine hc.s.bind R hp fun v d F1 H1 de1 O1 R1 g1 r _ hp => ?_
  cases (show v = d from r)
  cases v with
  | true => exact iteT (h1.s W F1 H1 sg de1 O1 Q R1 hp)
  | false => exact iteF (h2.s W F1 H1 sg de1 O1 Q R1 hp)⟩
/-- a < b < c -/
def vCh (f g : D → D → Option D) (oa ob oc : Op) (de : DEnv) : Rs D :=
  (oa.run de).bind fun fa de1 => (ob.run de1).bind fun fb de2 => (ofO ((fa de2).bind fun x => (fb de2).bind fun y => (f x y).bind asB) de2).bind fun k de2 =>
    if k = true then (oc.run de2).bind fun fc de3 => ofO ((fb de3).bind fun y => (fc de3).bind fun z => g y z) de3 else .ok (.bl false) de2
theorem snd_ch {K : PySem.W.Frag} {r r' : R2} {f g : D → D → Option D} (s : SP2 K kap r f) (s' : SP2 K kap r' g) (ha : Snd K kap xi (RlO K kap) ta oa.run) (hb : Snd K kap xi (RlO K kap) tb ob.run) (hc : Snd K kap xi (RlO K kap) tc oc.run) :
    Snd K kap xi (RlE K kap) (fun W => tChain r r' (ta W) (tb W) (tc W)) (vCh f g oa ob oc) := by
  intro W F H sg de O Q R hp
  refine ha.bind R hp fun x fa F1 H1 de1 O1 R1 g1 ra _ hp => ?_
  refine hb.bind R1 hp fun y fb F2 H2 de2 O2 R2 g2 rb _ hp => ?_
  cases eo : (fa de2).bind fun x => (fb de2).bind fun y => (f x y).bind asB with
  | none => rw [eo] at hp; exact hp.elim
  | some k =>
    rw [eo] at hp
    obtain ⟨a, e1, eo⟩ := bind_some eo
    obtain ⟨b, e2, eo⟩ := bind_some eo
    obtain ⟨z, e3, eo⟩ := bind_some eo
    refine s F2 H2 x y a b z _ R2.sub (ra xi F2 H2 de2 O2 R2 g2.ex a e1) (rb xi F2 H2 de2 O2 R2 (Same.refl _) b e2) e3 fun v F' H' n sub r => ?_
    refine ⟨k, rep_bl r eo, ?_⟩
    have R' := R2.new n sub
    cases k with
    | false => exact iteF (hp.done R2 n sub (.bl _))
    | true =>
      refine iteT ?_
      have hp' := PE1.shift (n.go (de := de2) (O := O2)) hp
      refine hc.bind R' hp' fun w' fc F3 H3 de3 O3 R3 g3 rc _ hp => ?_
      obtain ⟨z', e, hp⟩ := ofO_some hp
      obtain ⟨y', e4, e⟩ := bind_some e
      obtain ⟨c', e5, e⟩ := bind_some e
      refine s' F3 H3 y w' y' c' z' Q R3.sub (rb xi F3 H3 de3 O3 R3 (n.f.trans g3.ex) y' e4) (rc xi F3 H3 de3 O3 R3 (Same.refl _) c' e5) e fun v' F4 H4 n4 sub4 r4 => ?_
      exact hp.done R3 n4 sub4 r4
theorem jCh {op op' : CmpOp} {r r' : R2} {f g : D → D → Option D} (ho : OpR X (compareOp op) r) (ho' : OpR X (compareOp op') r') (s : SP2 X.K kap r f) (s' : SP2 X.K kap r' g) (ha : JO kap xi X W a ta oa) (hb : JO kap xi X W b tb ob) (hc : JO kap xi X W c tc oc)
    (hm : lastMarks [op, op'] [b, c] = false := by with_unfolding_all rfl) : JE kap xi X W (.Compare a [op, op'] [b, c] pos) (fun W => tChain r r' (ta W) (tb W) (tc W)) (vCh f g oa ob oc) := ⟨pe_chain ho ho' ha.p hb.p hc.p hm, snd_ch s s' ha.s hb.s hc.s⟩
theorem jChT {op op' : CmpOp} {r r' : R2} {f g : D → D → Option D} (ho : OpR X (compareOp op) r) (ho' : OpR X (compareOp op') r') (s : SP2 X.K kap r f) (s' : SP2 X.K kap r' g) (ha : JO kap xi X W a ta oa) (hb : JO kap xi X W b tb ob) (hc : JO kap xi X W c tc oc)
    (hm : lastMarks [op, op'] [b, c] = false := by with_unfolding_all rfl) : JT kap xi X W (.Compare a [op, op'] [b, c] pos) (fun W => tTest (tChain r r' (ta W) (tb W) (tc W))) (vB (vCh f g oa ob oc)) := ⟨pt_chain ho ho' ha.p hb.p hc.p hm, by
  intro W F H sg de O Q R hp
  refine (snd_ch s s' ha.s hb.s hc.s).bind R hp fun v d F1 H1 de1 O1 R1 g1 r _ hp => ?_
  obtain ⟨b, e, hp⟩ := ofO_some hp
  exact ⟨b, rep_bl r e, hp.done R1 New.refl R1.sub rfl⟩⟩
/-- by truth -/
def truD : D → Option Bool
  | .non => some false
  | .bl b => some b
  | .int i => some (i != 0)
  | .str s => if s.length ≤ 16777216 then some ((s.length : Int) != 0) else none
  | .tup xs => some (!xs.isEmpty)
  | .lst xs => some (!xs.isEmpty)
  | .scr xs => some (!xs.isEmpty)
  | .dk xs => some (!xs.isEmpty)
  | _ => none
def vTru (oa : Op) (de : DEnv) : Rs Bool := (oa.run de).bind fun fa de1 => ofO ((fa de1).bind truD) de1
theorem empty_of {K : PySem.W.Frag} {F : Hp} {vs : List V} {ds : List D} (r : Reps K kap F vs ds) : vs.isEmpty = ds.isEmpty := by
  cases r <;> rfl
theorem tru_of {K : PySem.W.Frag} {F H : Hp} {v : V} {d : D} {k : Bool} (sub : Same F H) (r : RB K kap F H v d) (h : truD d = some k) : TruV K v H k := by
  unfold truD at h
  split at h
  · cases h; rw [r.non]; rfl
  · cases h; rw [r.bl]; rfl
  · cases h; rw [r.int]; rfl
  · split at h
    · rename_i hl
      cases h; rw [r.str]; exact ⟨by rw [line_eq]; exact hl, rfl⟩
    · cases h
  · cases h
    obtain ⟨p, vs, rfl, h1, r1⟩ := r.tup
    exact .inr (.inl ⟨vs, sqT_mono sub h1, by rw [empty_of r1]⟩)
  · cases h
    obtain ⟨p, vs, rfl, h1, r1⟩ := r.lst sub
    exact .inl ⟨vs, SqL.of h1, by rw [empty_of r1]⟩
  · cases h
    obtain ⟨p, vs, rfl, h1, r1⟩ := r.scr
    exact .inl ⟨vs, sqL_mono sub h1, by rw [empty_of r1]⟩
  · cases h
    obtain ⟨p, kvs, rfl, h1, n1, r1⟩ := r.dk sub
    refine .inr (.inr ⟨kvs, h1, ?_⟩)
    have := empty_of r1
    rw [List.isEmpty_map, List.isEmpty_map] at this
    rw [this]
  · cases h
def tTru (K : PySem.W.Frag) (ta : TE) : TT := fun sg H Q => ta sg H fun x H' => ∃ k, TruV K x H' k ∧ Q k H'
theorem jTru (ha : JO kap xi X W a ta oa) (he : ∀ whole, isTrue a X.env whole = (do let v ← whole; standAt a.pos; holding [v] (truthy v)) := by intro _; rfl) : JT kap xi X W a (fun W => tTru X.K (ta W)) (vTru oa) := ⟨pt_truth ha.p he, by
  intro W F H sg de O Q R hp
  refine ha.s.bind R hp fun x fa F1 H1 de1 O1 R1 g1 ra _ hp => ?_
  obtain ⟨k, e, hp⟩ := ofO_some hp
  obtain ⟨d, e1, e⟩ := bind_some e
  exact ⟨k, tru_of R1.sub (ra xi F1 H1 de1 O1 R1 (Same.refl _) d e1) e, hp.done R1 New.refl R1.sub rfl⟩⟩
end

/-! ### displays -/
def vNil (de : DEnv) : Rs (List D) := .ok [] de
def vCons (ev : DEnv → Rs D) (er : DEnv → Rs (List D)) (de : DEnv) : Rs (List D) := (ev de).bind fun d de1 => (er de1).bind fun ds de2 => .ok (d :: ds) de2
def vTup (ea : DEnv → Rs (List D)) (de : DEnv) : Rs D := (ea de).bind fun ds de1 => if ds.length ≤ 16777216 then .ok (.tup ds) de1 else .bad
def vLst (ea : DEnv → Rs (List D)) (de : DEnv) : Rs D := (ea de).bind fun ds de1 => if ds.length ≤ 16777216 then .ok (.lst ds) de1 else .bad
section
variable {kap : Nat → Addr} {xi : Xi} {X : Cx} {W : WX} {e : Expr} {es : List Expr} {t : WX → TE} {ts : WX → TA} {ev : DEnv → Rs D} {er ea : DEnv → Rs (List D)} {pos p : Pos} {x1 : Nat}
theorem jaNil : JA kap xi X W [] (fun _ => tNil) vNil := ⟨pa_nil, fun W F H sg de O Q R hp => hp.done R New.refl R.sub .nil⟩
theorem jaCons (h : JE kap xi X W e t ev) (hr : JA kap xi X W es ts er) (hs : starEach (e :: es) X.env = (false, eval e X.env) :: starEach es X.env := by rfl) : JA kap xi X W (e :: es) (fun W => tCons (t W) (ts W)) (vCons ev er) := ⟨pa_cons h.p hr.p hs, by
  intro W F H sg de O Q R hp
  refine h.s.bind R hp fun v f F1 H1 de1 O1 R1 g1 r _ hp => ?_
  refine hr.s.bind R1 hp fun vs fs F2 H2 de2 O2 R2 g2 rs _ hp => ?_
  exact hp.done R2 New.refl R2.sub (.cons (Rep.mono g2.ex r) rs)⟩
theorem jTup (h : JA kap xi X W es ts ea) : JE kap xi X W (.Tuple es x1 pos) (fun W => tTup (ts W)) (vTup ea) := ⟨pe_tup h.p, by
  intro W F H sg de O Q R hp
  refine h.s.bind R hp fun vs ds F1 H1 de1 O1 R1 g1 r _ hp => ?_
  split at hp
  · rename_i hl
    refine ⟨by rw [line_eq, Reps.length r]; exact hl, fun p hq => ?_⟩
    obtain ⟨n, s2⟩ := New.one (o := .tup vs) R1.sub hq
    exact hp.done R1 n s2 (.tup (SqT.of upd_same) (Reps.mono n.f r))
  · exact hp.elim⟩
theorem jLst (h : JA kap xi X W es ts ea) : JF kap xi X W (.List es pos) (fun W => tLst (ts W)) (vLst ea) := ⟨pe_lst h.p, by
  intro W F H sg de O Q R hp
  refine h.s.bind R hp fun vs ds F1 H1 de1 O1 R1 g1 r _ hp => ?_
  split at hp
  · rename_i hl
    refine ⟨by rw [line_eq, Reps.length r]; exact hl, fun p hq => ?_⟩
    obtain ⟨n, s2⟩ := new_fresh (o := .lst vs) R1.sub hq
    exact hp.done R1 n s2 (fresh_new R1 n s2 hq ⟨_, upd_same, r⟩) fun p' e => by cases e; exact hq
  · exact hp.elim⟩
/-- {} -/
theorem jDk0 : JF kap xi X W (.Dict [] [] pos) (fun _ => tDNewK) (vC (.dk [])) := ⟨pe_dnewK, by
  intro W F H sg de O Q R hp p hq
  obtain ⟨n, s2⟩ := new_fresh (o := .dK []) R.sub hq
  exact hp.done R n s2 (fresh_new R n s2 hq ⟨[], upd_same, rfl, .nil⟩) fun p' e => by cases e; exact hq⟩
/-- {k: n}, both written numbers -/
theorem jDk1 {k n : Int} {j1 j2 : Nat} {p1 p2 : Pos} : JF kap xi X W (.Dict [some (.Constant (.int k) j1 p1)] [.Constant (.int n) j2 p2] pos) (fun _ => tDisp [(tC (.int k), tC (.int n))]) (vC (.dk [(Sum.inl k, .int n)])) := ⟨pe_disp (pps_cons pe_int pe_int pps_nil) (by rfl) (by rfl) (fun z => by cases z) (by simp), by
  intro W F H sg de O Q R hp p hq
  refine ⟨upd_same, [(Sum.inl k, .int n)], rfl, by simp, ?_⟩
  rw [upd_upd]
  obtain ⟨nw, s2⟩ := new_fresh (o := .dK (mergeK [] [(Sum.inl k, V.int n)])) R.sub hq
  exact hp.done R nw s2 (fresh_new R nw s2 hq ⟨[(Sum.inl k, .int n)], upd_same, rfl, .cons (.int n) .nil⟩) fun p' e => by cases e; exact hq⟩
end

/-! ### fields -/
def fFld (cl : List Nat) (f : Str) : D → Option D
  | .obj c fs => if cl.contains c then fs.lookup f else none
  | _ => none
def vFld (cl : List Nat) (f : Str) (oa : Op) (de : DEnv) : Rs D := vO1 (fFld cl f) oa de
section
variable {kap : Nat → Addr} {xi : Xi} {X : Cx} {W : WX} {e : Expr} {t : WX → TE} {o : Op} {pos : Pos}
theorem jFld (cl : List Nat) {f : Str} (hc : ∀ c ∈ cl, Cls X.K (kap c) ∧ NoAttr X.K (kap c) f) (h : JO kap xi X W e t o) (hb : attributeBase e f X.env (eval e X.env) = eval e X.env := by rfl) : JE kap xi X W (.Attribute e f pos) (fun W => tFld X.K (t W) f) (vFld cl f o) := ⟨pe_fld h.p hb, by
  intro W F H sg de O Q R hp
  refine h.s.bind R hp fun x fa F1 H1 de1 O1 R1 g1 ra _ hp => ?_
  obtain ⟨z, e, hp⟩ := ofO_some hp
  obtain ⟨d, e1, e⟩ := bind_some e
  have rd := ra xi F1 H1 de1 O1 R1 (Same.refl _) d e1
  unfold fFld at e
  split at e
  · split at e
    · rename_i c fs hm
      obtain ⟨a, dx, vs, rfl, h1, n1, r1⟩ := rd.obj R1.sub
      obtain ⟨v, g1, g2⟩ := field_get n1 r1 e
      obtain ⟨k1, k2⟩ := hc c (List.contains_iff_mem.mp hm)
      exact ⟨a, _, dx, vs, v, rfl, h1, k1, k2, g1, hp.done R1 New.refl R1.sub g2⟩
    · cases e
  · cases e⟩
end

/-! ### slices -/
def vNoP (de : DEnv) : Rs (Option Int) := .ok none de
def asI : D → Option Int
  | .int i => some i
  | _ => none
def vPart (ev : DEnv → Rs D) (de : DEnv) : Rs (Option Int) := (ev de).bind fun d de' => ofO ((asI d).map some) de'
structure JP (kap : Nat → Addr) (xi : Xi) (X : Cx) (W : WX) (e : Option Expr) (t : WX → TO) (ev : DEnv → Rs (Option Int)) : Prop where
  p : PO X e (t W)
  s : Snd X.K kap xi (RlQ (Option Int)) t ev
def cutD (xs : List D) (lo hi : Option Int) : List D := (xs.drop (HT.sIx xs.length 0 lo)).take (HT.sIx xs.length xs.length hi - HT.sIx xs.length 0 lo)
def fSlT : D → Option Int → Option Int → Option D
  | .tup xs, lo, hi => some (.tup (cutD xs lo hi))
  | _, _, _ => none
def fSlL : D → Option Int → Option Int → Option D
  | .lst xs, lo, hi => some (.lst (cutD xs lo hi))
  | .scr xs, lo, hi => some (.lst (cutD xs lo hi))
  | _, _, _ => none
def vSl (f : D → Option Int → Option Int → Option D) (o : Op) (e1 e2 : DEnv → Rs (Option Int)) (de : DEnv) : Rs D :=
  (o.run de).bind fun fa de1 => (e1 de1).bind fun l de2 => (e2 de2).bind fun u de3 => ofO ((fa de3).bind fun d => f d l u) de3
section
variable {kap : Nat → Addr} {xi : Xi} {X : Cx} {W : WX} {e : Expr} {t : WX → TE} {o : Op} {ev : DEnv → Rs D} {pos p2 : Pos} {lo hi : Option Expr} {tl th : WX → TO} {e1 e2 : DEnv → Rs (Option Int)}
theorem rep_int {K : PySem.W.Frag} {F : Hp} {v : V} {d : D} {i : Int} (r : Rep K kap F v d) (h : asI d = some i) : v = .int i := by
  cases r with
  | int j => cases h; rfl
  | _ => cases h
theorem jNoP : JP kap xi X W none (fun _ => tNoPart) vNoP := ⟨po_none, fun W F H sg de O Q R hp => hp.done R New.refl R.sub rfl⟩
theorem jPart (h : JE kap xi X W e t ev) : JP kap xi X W (some e) (fun W => tPart (t W)) (vPart ev) := ⟨po_some h.p, by
  intro W F H sg de O Q R hp
  refine h.s.bind R hp fun v d F1 H1 de1 O1 R1 g1 r _ hp => ?_
  obtain ⟨z, e, hp⟩ := ofO_some hp
  obtain ⟨i, e1, e2⟩ := Option.map_eq_some_iff.mp e
  cases e2
  exact ⟨i, rep_int r e1, hp.done R1 New.refl R1.sub rfl⟩⟩
theorem Reps.cut {K : PySem.W.Frag} {F : Hp} {vs : List V} {ds : List D} (r : Reps K kap F vs ds) (lo hi : Option Int) : Reps K kap F (cutV vs lo hi) (cutD ds lo hi) := by
  unfold cutV cutD
  rw [r.length]
  exact (r.drop _).take _
theorem cut_whole (ds : List D) (lo hi : Option Int) (h : HT.sIx ds.length 0 lo = 0 ∧ HT.sIx ds.length ds.length hi = ds.length) : cutD ds lo hi = ds := by
  unfold cutD
  rw [h.1, h.2]
  simp
theorem jSlT (h : JO kap xi X W e t o) (hl : JP kap xi X W lo tl e1) (hu : JP kap xi X W hi th e2) : JE kap xi X W (.Subscript e (.Slice lo hi none p2) pos) (fun W => tSl (rSlA X.K) (t W) (tl W) (th W)) (vSl fSlT o e1 e2) := ⟨pe_slice sl_tupA h.p hl.p hu.p, by
  intro W F H sg de O Q R hp
  refine h.s.bind R hp fun x fa F1 H1 de1 O1 R1 g1 ra _ hp => ?_
  refine hl.s.bind R1 hp fun l l' F2 H2 de2 O2 R2 g2 rl _ hp => ?_
  cases (show l = l' from rl)
  refine hu.s.bind R2 hp fun u u' F3 H3 de3 O3 R3 g3 ru _ hp => ?_
  cases (show u = u' from ru)
  obtain ⟨z, e, hp⟩ := ofO_some hp
  obtain ⟨d, e1, e⟩ := bind_some e
  have rd := ra xi F3 H3 de3 O3 R3 (g2.ex.trans g3.ex) d e1
  unfold fSlT at e
  split at e
  · cases e
    obtain ⟨p, vs, rfl, h1, r1⟩ := rd.tup
    refine ⟨p, vs, rfl, sqT_mono R3.sub h1, fun hw => ?_, fun hw q hq => ?_⟩
    · rw [r1.length] at hw
      rw [cut_whole _ _ _ hw] at hp
      exact hp.done R3 New.refl R3.sub (.tup h1 r1)
    · obtain ⟨n, s2⟩ := New.one (o := .tup (cutV vs l u)) R3.sub hq
      exact hp.done R3 n s2 (.tup (SqT.of upd_same) ((r1.cut l u).mono n.f))
  · cases e⟩
theorem jSlL (h : JO kap xi X W e t o) (hl : JP kap xi X W lo tl e1) (hu : JP kap xi X W hi th e2) : JF kap xi X W (.Subscript e (.Slice lo hi none p2) pos) (fun W => tSl (rSlL X.K) (t W) (tl W) (th W)) (vSl fSlL o e1 e2) := ⟨pe_slice sl_list h.p hl.p hu.p, by
  intro W F H sg de O Q R hp
  refine h.s.bind R hp fun x fa F1 H1 de1 O1 R1 g1 ra _ hp => ?_
  refine hl.s.bind R1 hp fun l l' F2 H2 de2 O2 R2 g2 rl _ hp => ?_
  cases (show l = l' from rl)
  refine hu.s.bind R2 hp fun u u' F3 H3 de3 O3 R3 g3 ru _ hp => ?_
  cases (show u = u' from ru)
  obtain ⟨z, e, hp⟩ := ofO_some hp
  obtain ⟨d, e1, e⟩ := bind_some e
  have rd := ra xi F3 H3 de3 O3 R3 (g2.ex.trans g3.ex) d e1
  have fin : ∀ {vs : List V} {ds : List D}, Reps X.K kap F3 vs ds → z = .lst (cutD ds l u) → ∀ q, H3 q = none → Q (.ref q) (upd H3 q (.lst (cutV vs l u))) := fun {vs ds} r1 ez q hq => by
    obtain ⟨n, s2⟩ := new_fresh (o := .lst (cutV vs l u)) R3.sub hq
    subst ez
    exact hp.done R3 n s2 (fresh_new R3 n s2 hq ⟨_, upd_same, r1.cut l u⟩) fun p' e => by cases e; exact hq
  unfold fSlL at e
  split at e
  · cases e
    obtain ⟨p, vs, rfl, h1, r1⟩ := rd.lst R3.sub
    exact ⟨p, vs, rfl, SqL.of h1, fin r1 rfl⟩
  · cases e
    obtain ⟨p, vs, rfl, h1, r1⟩ := rd.scr
    exact ⟨p, vs, rfl, sqL_mono R3.sub h1, fin r1 rfl⟩
  · cases e⟩
end

/-! ### isinstance -/
def tyOf : D → Option Ty
  | .non => some (.b "NoneType")
  | .bl _ => some (.b "bool")
  | .int _ => some (.b "int")
  | .str _ => some (.b "str")
  | .tup _ => some (.b "tuple")
  | .lst _ => some (.b "list")
  | .dk _ => some (.b "dict")
  | .dn _ => some (.b "dict")
  | .obj c _ => some (.o c)
  | _ => none
def isi : Ty → Ty → Bool
  | .b S, .b T => S == T || (S == "bool" && T == "int")
  | .o c, .o c' => c == c'
  | _, _ => false
def bCls : List String := ["bool", "int", "str", "tuple", "list", "dict"]
def tyN : Ty → Bool
  | .b T => T == "NoneType"
  | .o _ => false
def tyIn (cs : List Nat) : Ty → Bool
  | .b T => bCls.contains T
  | .o c => cs.contains c
/-- cs: the own classes whose instances may come -/
def fIsi (cs : List Nat) : List D → Option D
  | [d, .cls t] => (tyOf d).bind fun s => if (tyIn cs s || tyN s) && tyIn cs t then some (.bl (isi s t)) else none
  | _ => none
/-- what the top has made of an own class whose instances are frozen -/
structure KitC (K : PySem.W.Frag) (C : Addr) : Prop where
  cl : Cls K C
  ha : PySem.W.findIn K (.ref C) "__class__" = some (some (.builtin "object.__class__"))
  hn : PySem.W.specialIn K (.builtin "object.__class__") "__get__" = some (some (.builtin "getset_descriptor.__get__"))
  ht : PySem.W.takesIn K (.builtin "object.__class__") = some true
  hm : PySem.W.mroIn K C (.type "object") = some true
  ic : PySem.W.isClsIn K C = true
  ty : PySem.W.typeIn K (.ref C) = some (.type "type")
  mb : ∀ T ∈ bCls, PySem.W.mroIn K C (.type T) = some false
structure KitK (K : PySem.W.Frag) (kap : Nat → Addr) (cs : List Nat) : Prop where
  all : ∀ c ∈ cs, KitC K (kap c)
  mo : ∀ c ∈ cs, ∀ c' ∈ cs, c ≠ c' → PySem.W.mroIn K (kap c) (.ref (kap c')) = some false ∧ kap c ≠ kap c'
def tyVal (kap : Nat → Addr) : Ty → Value
  | .b T => .type T
  | .o c => .ref (kap c)
theorem kit_bb : ∀ S ∈ "NoneType" :: bCls, ∀ T ∈ bCls, ∀ K : PySem.W.Frag, PySem.W.kitOne K (.type S) (.type T) = some (S == T || (S == "bool" && T == "int")) := by
  intro S hS T hT K
  have h : ∀ S ∈ "NoneType" :: bCls, ∀ T ∈ bCls, PySem.W.kitOne [] (.type S) (.type T) = some (S == T || (S == "bool" && T == "int")) := by decide +kernel
  exact h S hS T hT

def isTy : Value → Bool
  | .type _ => true
  | _ => false
theorem mro_ty : ∀ S ∈ "NoneType" :: bCls, (PySem.fastBuiltinMro S).elim false (·.all isTy) = true := by decide +kernel
theorem sub_bo (K : PySem.W.Frag) (C : Addr) : ∀ S ∈ "NoneType" :: bCls, PySem.W.subIn K (.type S) (.ref C) = some false := by
  intro S hS
  have h := mro_ty S hS
  show (PySem.fastBuiltinMro S).map (·.contains (.ref C)) = some false
  cases e : PySem.fastBuiltinMro S with
  | none => rw [e] at h; cases h
  | some l =>
    rw [e] at h
    have h' : l.all isTy = true := h
    show some (l.contains (.ref C)) = some false
    congr 1
    rw [List.all_eq_true] at h'
    cases z : l.contains (.ref C) with
    | false => rfl
    | true =>
      have := h' _ (List.contains_iff_mem.mp z)
      cases this
theorem kit_meta : ∀ T ∈ bCls, PySem.W.kitMeta T = true := by decide +kernel
theorem kit_ans {K : PySem.W.Frag} {kap : Nat → Addr} {cs : List Nat} (k : KitK K kap cs) {s t : Ty} (hs : (tyIn cs s || tyN s) = true) (ht : tyIn cs t = true) : PySem.W.kitOne K (tyVal kap s) (tyVal kap t) = some (isi s t) := by
  have hsb : ∀ S, s = .b S → S ∈ "NoneType" :: bCls := fun S e => by
    subst e
    rw [Bool.or_eq_true] at hs
    rcases hs with h | h
    · exact List.mem_cons_of_mem _ (List.contains_iff_mem.mp h)
    · have e : S = "NoneType" := by simpa [tyN] using h
      rw [e]; exact List.mem_cons_self ..
  have hso : ∀ c, s = .o c → c ∈ cs := fun c e => by
    subst e
    rw [Bool.or_eq_true] at hs
    rcases hs with h | h
    · exact List.contains_iff_mem.mp h
    · cases h
  cases t with
  | b T =>
    have hT : T ∈ bCls := List.contains_iff_mem.mp ht
    cases s with
    | b S => exact kit_bb S (hsb S rfl) T hT K
    | o c =>
      show (if (Value.ref (kap c) == Value.type T) = true then some true else PySem.W.kitCls K (.ref (kap c)) (.type T)) = some false
      rw [if_neg (by intro z; cases z)]
      show (if PySem.W.kitMeta T = true then PySem.W.subIn K (.ref (kap c)) (.type T) else none) = some false
      rw [if_pos (kit_meta T hT)]
      exact (k.all c (hso c rfl)).mb T hT
  | o c' =>
    have hc' : c' ∈ cs := List.contains_iff_mem.mp ht
    have kc := k.all c' hc'
    have e1 : ((PySem.W.clsIn K (kap c')).isSome && PySem.W.typeIn K (.ref (kap c')) == some (.type "type")) = true := by
      have h1 : (PySem.W.clsIn K (kap c')).isSome = true := kc.ic
      rw [h1, kc.ty]
      rfl
    cases s with
    | b S =>
      show (if (Value.type S == Value.ref (kap c')) = true then some true else PySem.W.kitCls K (.type S) (.ref (kap c'))) = some false
      rw [if_neg (by intro z; cases z)]
      show (if ((PySem.W.clsIn K (kap c')).isSome && PySem.W.typeIn K (.ref (kap c')) == some (.type "type")) = true then PySem.W.subIn K (.type S) (.ref (kap c')) else none) = some false
      rw [if_pos e1]
      exact sub_bo K _ S (hsb S rfl)
    | o c =>
      show (if (Value.ref (kap c) == Value.ref (kap c')) = true then some true else PySem.W.kitCls K (.ref (kap c)) (.ref (kap c'))) = some (c == c')
      by_cases q : c = c'
      · subst q
        rw [if_pos (by simp)]
        simp
      · obtain ⟨m1, m2⟩ := k.mo c (hso c rfl) c' hc' q
        rw [if_neg (by simp [m2])]
        show (if ((PySem.W.clsIn K (kap c')).isSome && PySem.W.typeIn K (.ref (kap c')) == some (.type "type")) = true then PySem.W.subIn K (.ref (kap c)) (.ref (kap c')) else none) = some (c == c')
        rw [if_pos e1]
        have : (c == c') = false := by simpa using q
        rw [this]
        exact m1
theorem tyx_of {K : PySem.W.Frag} {kap : Nat → Addr} {cs : List Nat} (k : KitK K kap cs) {F H : Hp} {v : V} {d : D} {s : Ty} (sub : Same F H) (r : RB K kap F H v d) (h : tyOf d = some s) (hs : (tyIn cs s || tyN s) = true) : TyY K H v (tyVal kap s) := by
  cases d with
  | non => cases h; rw [r.non]; exact .x <| .base .non
  | bl b => cases h; rw [r.bl]; exact .x <| .base (.bl _)
  | int i => cases h; rw [r.int]; exact .x <| .base (.int _)
  | str x => cases h; rw [r.str]; exact .x <| .base (.str _)
  | tup xs =>
    cases h
    obtain ⟨p, vs, rfl, h1, r1⟩ := r.tup
    rcases sqT_mono sub h1 with (h1 | ⟨o, h1⟩) | ⟨o, its, n, h1, h2, _⟩
    · exact .x <| .base (.tup h1)
    · exact .x <| .fTuple h1
    · exact .x <| .kTuple h1 h2
  | lst xs => cases h; obtain ⟨p, vs, rfl, h1, r1⟩ := r.lst sub; exact .x <| .base (.lst h1)
  | scr xs => cases h
  | dk xs => cases h; obtain ⟨p, vs, rfl, h1, r1⟩ := r.dk sub; exact .x <| .base (.dK h1)
  | dn xs => cases h; obtain ⟨p, o, es, vs, rfl, h1, h2, _⟩ := r.dn sub; exact .ex h1 h2.ex.1
  | obj c fs =>
    cases h
    obtain ⟨a, dx, vs, rfl, h1, n1, r1⟩ := r.obj sub
    have hc : c ∈ cs := by
      rw [Bool.or_eq_true] at hs
      rcases hs with h | h
      · exact List.contains_iff_mem.mp h
      · cases h
    have kc := k.all c hc
    exact .x <| .base (.ins h1 kc.cl kc.ha kc.hn kc.ht kc.hm)
  | cls t => cases h
theorem rep_cls {K : PySem.W.Frag} {kap : Nat → Addr} {F H : Hp} {v : V} {t : Ty} (r : RB K kap F H v (.cls t)) : ClsV v (tyVal kap t) := by
  rcases r with r | ⟨p, _, _, h⟩
  · cases r with
    | clsB T => exact .ty T
    | clsO c => exact .own _
  · exact h.elim
theorem sp_isi {K : PySem.W.Frag} {kap : Nat → Addr} {cs : List Nat} (k : KitK K kap cs) : SPN K kap (rIsiA K) (fIsi cs) := by
  intro F H xs as z Q sub ra e q
  unfold fIsi at e
  split at e
  · rename_i d t
    obtain ⟨s, e1, e⟩ := bind_some e
    split at e
    · rename_i hh
      rw [Bool.and_eq_true] at hh
      cases e
      obtain ⟨x, y, rfl, r1, r2⟩ := two_of ra
      exact ⟨x, y, _, _, _, rfl, rep_cls r2, tyx_of k sub r1 e1 hh.1, kit_ans k hh.1 hh.2, q _ F H New.refl sub (.bl _)⟩
    · cases e
  · cases e
end DL

set_option maxRecDepth 100000
set_option maxHeartbeats 2000000
set_option autoImplicit false
namespace DL
open PySem L2

/-! ### slots are stored -/
section
variable {K : PySem.W.Frag} {kap : Nat → Addr} {xi : Xi} {F H : Hp} {sg : St} {de : DEnv} {O : Own?}
def putO (O : Own?) (n i : Nat) (q : Option Addr) : Own? := fun j => if j = i ∧ i < n then q else O j
theorem set_get {α : Type} {l : List α} {i j : Nat} {s t : α} (h : (l.set i s)[j]? = some t) : (j = i ∧ i < l.length ∧ t = s) ∨ ((j ≠ i ∨ l.length ≤ i) ∧ l[j]? = some t) := by
  by_cases q : j = i
  · subst q
    by_cases il : j < l.length
    · rw [List.getElem?_set_self il] at h
      cases h
      exact .inl ⟨rfl, il, rfl⟩
    · rw [List.set_eq_of_length_le (Nat.le_of_not_lt il)] at h
      exact .inr ⟨.inr (Nat.le_of_not_lt il), h⟩
  · rw [List.getElem?_set_ne (Ne.symm q)] at h
    exact .inr ⟨.inl q, h⟩
theorem putO_other {O : Own?} {n i j : Nat} {q : Option Addr} (h : j ≠ i ∨ n ≤ i) : putO O n i q j = O j := by
  unfold putO
  rw [if_neg]
  rintro ⟨h1, h2⟩
  rcases h with h | h
  · exact h h1
  · exact absurd h2 (Nat.not_lt.mpr h)
theorem putO_same {O : Own?} {n i : Nat} {q : Option Addr} (h : i < n) : putO O n i q i = q := by
  unfold putO
  rw [if_pos ⟨rfl, h⟩]
theorem RS.put (R : RS K kap xi F H sg de O) (i : Nat) (x : Option V) (s : Sl) (q : Option Addr)
    (hva : ∀ d, s = .va d → ∃ v, x = some v ∧ Rep K kap F v d)
    (how : ∀ d, s.owd = some d → ∃ p, q = some p ∧ x = some (.ref p) ∧ F p = none ∧ Own K kap F H p d ∧ ∀ j, j ≠ i → O j ≠ some p)
    (hex : ∀ c fs, s = .ex c fs → ∃ (a : Addr) (d : Option Addr), xi = some (a, Value.ref (kap c), d) ∧ x = some (.ref a) ∧ XR K kap F d fs)
    (hq : s.owd = none → q = none) : RS K kap xi F H (sg.set i x) (de.set i s) (putO O de.length i q) := by
  have sgl : ∀ {j : Nat} {y : V}, (j ≠ i ∨ de.length ≤ i) → sg[j]? = some (some y) → (sg.set i x)[j]? = some (some y) := fun {j y} h e => by
    by_cases z : j = i
    · rcases h with h | h
      · exact absurd z h
      · rw [List.set_eq_of_length_le (by rw [R.len]; exact h)]; exact e
    · rw [List.getElem?_set_ne (Ne.symm z)]; exact e
  have sgs : i < de.length → (sg.set i x)[i]? = some x := fun h => List.getElem?_set_self (by rw [R.len]; exact h)
  refine ⟨by rw [List.length_set, List.length_set]; exact R.len, fun j d e => ?_, fun j t d e h => ?_, fun j c fs e => ?_, fun j p e => ?_, fun j k p e1 e2 => ?_, R.sub⟩
  · rcases set_get e with ⟨rfl, il, z⟩ | ⟨n, e⟩
    · obtain ⟨v, h1, h2⟩ := hva d z.symm
      exact ⟨v, by rw [sgs il, h1], h2⟩
    · obtain ⟨v, h1, h2⟩ := R.va j d e
      exact ⟨v, sgl n h1, h2⟩
  · rcases set_get e with ⟨rfl, il, z⟩ | ⟨n, e⟩
    · subst z
      obtain ⟨p, h1, h2, h3, h4, _⟩ := how d h
      exact ⟨p, by rw [putO_same il, h1], by rw [sgs il, h2], h3, h4⟩
    · obtain ⟨p, h1, h2, h3, h4⟩ := R.ow j t d e h
      exact ⟨p, by rw [putO_other n, h1], sgl n h2, h3, h4⟩
  · rcases set_get e with ⟨rfl, il, z⟩ | ⟨n, e⟩
    · obtain ⟨a, d, h1, h2, h3⟩ := hex c fs z.symm
      exact ⟨a, d, h1, by rw [sgs il, h2], h3⟩
    · obtain ⟨a, d, h1, h2, h3⟩ := R.ex j c fs e
      exact ⟨a, d, h1, sgl n h2, h3⟩
  · by_cases z : j = i ∧ i < de.length
    · obtain ⟨rfl, il⟩ := z
      rw [putO_same il] at e
      cases ed : s.owd with
      | none => rw [hq ed] at e; cases e
      | some d => exact ⟨s, d, List.getElem?_set_self il, ed⟩
    · have n : j ≠ i ∨ de.length ≤ i := by
        by_cases w : j = i
        · exact .inr (Nat.le_of_not_lt fun h => z ⟨w, h⟩)
        · exact .inl w
      rw [putO_other n] at e
      obtain ⟨t, d, h1, h2⟩ := R.onl j p e
      refine ⟨t, d, ?_, h2⟩
      rcases n with n | n
      · rw [List.getElem?_set_ne (Ne.symm n)]; exact h1
      · rw [List.set_eq_of_length_le n]; exact h1
  · have key : ∀ {a b : Nat} {p : Addr}, (a = i ∧ i < de.length) → ¬ (b = i ∧ i < de.length) → putO O de.length i q a = some p → putO O de.length i q b = some p → False := fun {a b p} ha hb e1 e2 => by
      obtain ⟨rfl, il⟩ := ha
      rw [putO_same il] at e1
      have nb : b ≠ a := fun z => hb ⟨z, il⟩
      rw [putO_other (.inl nb)] at e2
      cases ed : s.owd with
      | none => rw [hq ed] at e1; cases e1
      | some d =>
        obtain ⟨p', h1, _, _, _, h5⟩ := how d ed
        rw [h1] at e1
        cases e1
        exact h5 b nb e2
    by_cases zj : j = i ∧ i < de.length
    · by_cases zk : k = i ∧ i < de.length
      · rw [zj.1, zk.1]
      · exact (key zj zk e1 e2).elim
    · by_cases zk : k = i ∧ i < de.length
      · exact (key zk zj e2 e1).elim
      · have nn : ∀ {a : Nat}, ¬ (a = i ∧ i < de.length) → a ≠ i ∨ de.length ≤ i := fun {a} z => by
          by_cases w : a = i
          · exact .inr (Nat.le_of_not_lt fun h => z ⟨w, h⟩)
          · exact .inl w
        rw [putO_other (nn zj)] at e1
        rw [putO_other (nn zk)] at e2
        exact R.inj j k p e1 e2
theorem Go.put {F H : Hp} {de : DEnv} {O : Own?} (i : Nat) (s : Sl) (q : Option Addr) (hs : ∀ d, s ≠ .pn d) (hq : ∀ p, q = some p → (∃ j, O j = some p) ∨ H p = none) : Go F H de O F H (de.set i s) (putO O de.length i q) where
  ex := Same.refl F
  keep := fun _ _ h _ => h
  new := fun j a e => by
    unfold putO at e
    split at e
    · exact hq a e
    · exact .inl ⟨j, e⟩
  dom := fun _ h => h
  fnew := fun _ h => .inl h
  pin := fun j d e => by
    rcases set_get e with ⟨rfl, il, z⟩ | ⟨n, e⟩
    · exact absurd z.symm (hs d)
    · exact ⟨putO_other n, d, e⟩
theorem RS.setv (R : RS K kap xi F H sg de O) (i : Nat) {v : V} {d : D} (r : Rep K kap F v d) : RS K kap xi F H (sg.set i (some v)) (de.set i (.va d)) (putO O de.length i none) ∧ Go F H de O F H (de.set i (.va d)) (putO O de.length i none) :=
  ⟨R.put i _ _ none (fun d' e => by cases e; exact ⟨v, rfl, r⟩) (fun _ e => by cases e) (fun _ _ e => by cases e) fun _ => rfl, Go.put i _ none (fun _ e => by cases e) fun _ e => by cases e⟩
theorem RS.seto (R : RS K kap xi F H sg de O) (i : Nat) {v : V} {d : D} (r : Frs K kap F H O v d) (hq : ∀ p, v = .ref p → (∃ j, O j = some p) ∨ H p = none) : ∃ O', RS K kap xi F H (sg.set i (some v)) (de.set i (.ow d)) O' ∧ Go F H de O F H (de.set i (.ow d)) O' := by
  obtain ⟨p, rfl, h1, h2, h3⟩ := r
  exact ⟨_, R.put i _ _ (some p) (fun d' e => by cases e) (fun d' e => by cases e; exact ⟨p, rfl, rfl, h1, h2, fun j _ => h3 j⟩) (fun _ _ e => by cases e) (fun e => by cases e), Go.put i _ _ (fun _ e => by cases e) fun q e => by cases e; exact hq p rfl⟩
/-- an owned object is changed -/
def Sl.same (s : Sl) (d : D) : Sl := match s with
  | .pn _ => .pn d
  | _ => .ow d
theorem RS.mut (R : RS K kap xi F H sg de O) {i : Nat} {s : Sl} {d d' : D} {p : Addr} {o : HO} (hi : de[i]? = some s) (hs : s.owd = some d) (hp : O i = some p) (ho : Own K kap F (upd H p o) p d') :
    RS K kap xi F (upd H p o) sg (de.set i (s.same d')) O ∧ Go F H de O F (upd H p o) (de.set i (s.same d')) O := by
  have il : i < de.length := (List.getElem?_eq_some_iff.mp hi).1
  obtain ⟨p', g1, g2, g3, g4⟩ := R.ow i s d hi hs
  rw [hp] at g1
  cases g1
  have hsd : (s.same d').owd = some d' := by
    cases s with
    | ow d0 => rfl
    | pn d0 => rfl
    | _ => cases hs
  have neq : ∀ a u, F a = some u → a ≠ p := fun a u e z => by rw [z, g3] at e; cases e
  refine ⟨⟨by rw [List.length_set]; exact R.len, fun j e h => ?_, fun j t e h1 h2 => ?_, fun j c fs h => ?_, fun j q h => ?_, R.inj, fun a u e => by rw [upd_ne (neq a u e)]; exact R.sub a u e⟩, ⟨Same.refl F, fun a u h n => ?_, fun j a h => .inl ⟨j, h⟩, fun a h => ?_, fun _ h => .inl h, fun j e h => ?_⟩⟩
  · rcases set_get h with ⟨rfl, _, z⟩ | ⟨n, h⟩
    · exfalso; rw [← z] at hsd; cases hsd
    · exact R.va j e h
  · rcases set_get h1 with ⟨rfl, _, z⟩ | ⟨n, h1⟩
    · rw [z, hsd] at h2
      cases h2
      exact ⟨p, hp, g2, g3, ho⟩
    · obtain ⟨q, k1, k2, k3, k4⟩ := R.ow j t e h1 h2
      have : q ≠ p := fun z => by
        have : j = i := R.inj j i p (by rw [k1, z]) hp
        rcases n with n | n
        · exact n this
        · exact absurd il (Nat.not_lt.mpr n)
      exact ⟨q, k1, k2, k3, k4.mono (Same.refl F) (upd_ne this)⟩
  · rcases set_get h with ⟨rfl, _, z⟩ | ⟨n, h⟩
    · exfalso; rw [← z] at hsd; cases hsd
    · exact R.ex j c fs h
  · obtain ⟨t, e, h1, h2⟩ := R.onl j q h
    by_cases z : j = i
    · subst z
      exact ⟨s.same d', d', List.getElem?_set_self il, hsd⟩
    · exact ⟨t, e, by rw [List.getElem?_set_ne (Ne.symm z)]; exact h1, h2⟩
  · rw [upd_ne fun z => n i (by rw [hp, z])]; exact h
  · by_cases z : a = p
    · subst z; rw [upd_same] at h; cases h
    · rw [upd_ne z] at h; exact h
  · rcases set_get h with ⟨rfl, _, z⟩ | ⟨n, h⟩
    · refine ⟨rfl, ?_⟩
      cases s with
      | pn d0 => exact ⟨d0, hi⟩
      | _ => cases z
    · exact ⟨rfl, e, h⟩
end

/-! ### statements -/
def vSkip (de : DEnv) : Ot := .nx de
def vSeq (e1 e2 : DEnv → Ot) (de : DEnv) : Ot := (e1 de).andThen e2
def vSet (i : Nat) (ev : DEnv → Rs D) (de : DEnv) : Ot := (ev de).out fun d de' => .nx (de'.set i (.va d))
def vSetF (i : Nat) (ev : DEnv → Rs D) (de : DEnv) : Ot := (ev de).out fun d de' => .nx (de'.set i (.ow d))
def vExpr (ev : DEnv → Rs D) (de : DEnv) : Ot := (ev de).out fun _ de' => .nx de'
def vIf (c : DEnv → Rs Bool) (e1 e2 : DEnv → Ot) (de : DEnv) : Ot := (c de).out fun b de' => if b = true then e1 de' else e2 de'
def vRet (ev : DEnv → Rs D) (de : DEnv) : Ot := (ev de).out fun d de' => .ret d de'
def vRetF (ev : DEnv → Rs D) (de : DEnv) : Ot := (ev de).out fun d de' => .retF d de'
def vRetN (de : DEnv) : Ot := .ret .non de
def vBrk (de : DEnv) : Ot := .brk de
def vCont (de : DEnv) : Ot := .ct de
/-- an owned local is handed out -/
def vMove (i : Nat) (de : DEnv) : Rs D := match de[i]? with
  | some (.ow d) => .ok d (de.set i .no)
  | _ => .bad
section
variable {kap : Nat → Addr} {xi : Xi} {X : Cx} {W : WX} {e c : Expr} {st : Stmt} {sts a b : List Stmt} {t : WX → TE} {tc : WX → TT} {ts tr : WX → TS} {ev : DEnv → Rs D} {bv : DEnv → Rs Bool} {e1 e2 : DEnv → Ot} {pos : Pos}
theorem jssNil : JSs kap xi X W [] (fun _ => tNext) vSkip := ⟨pss_nil, fun W F H sg de O Dn R hp => hp F H sg O R Go.refl⟩
theorem snd_seq {K : PySem.W.Frag} (h1 : SndS K kap xi ts e1) (h2 : SndS K kap xi tr e2) : SndS K kap xi (fun W => tSeq (ts W) (tr W)) (vSeq e1 e2) := by
  intro W F H sg de O Dn R hp
  refine h1 W F H sg de O _ R ?_
  unfold vSeq at hp
  cases e : e1 de with
  | nx de1 => rw [e] at hp; exact fun F' H' sg' O' R' g => h2 W F' H' sg' de1 O' Dn R' (hp.shift g)
  | ret d de1 => rw [e] at hp; exact hp
  | retF d de1 => rw [e] at hp; exact hp
  | brk de1 => rw [e] at hp; exact hp
  | ct de1 => rw [e] at hp; exact hp
  | ex c fs de1 => rw [e] at hp; exact hp
  | bad => rw [e] at hp; exact hp
theorem jssCons (h1 : JS kap xi X W st ts e1) (h2 : JSs kap xi X W sts tr e2) : JSs kap xi X W (st :: sts) (fun W => tSeq (ts W) (tr W)) (vSeq e1 e2) := ⟨pss_cons h1.p h2.p, snd_seq h1.s h2.s⟩
theorem jssOne (h1 : JS kap xi X W st ts e1) : JSs kap xi X W [st] ts e1 := ⟨pss_one h1.p, h1.s⟩
theorem jSet (i : Nat) {x : Str} {pos' : Pos} (hN : X.N.Nodup) (h : JE kap xi X W e t ev) (hi : X.N[i]? = some x := by rfl) (hx : Loc X.env.scope x := by first | exact Or.inl rfl | exact Or.inr rfl) (hs : swapsWith e (some (.Name x pos')) pos.line X.env = pure false := by rfl)
    (hf : X.fn x = true ∨ X.env.scope.names.lookup x = some .local := by first | exact .inl rfl | exact .inr rfl | assumption) : JS kap xi X W (.Assign [.Name x pos'] e pos) (fun W => tAsg (t W) (gName i)) (vSet i ev) := ⟨ps_set hN hi hx h.p hs hf, by
  intro W F H sg de O Dn R hp
  refine h.s.out R hp fun v d F1 H1 de1 O1 R1 g1 r _ hp => ?_
  obtain ⟨R2, g2⟩ := R1.setv i r
  exact hp F1 H1 _ _ R2 g2⟩
theorem jSetF (i : Nat) {x : Str} {pos' : Pos} (hN : X.N.Nodup) (h : JF kap xi X W e t ev) (hi : X.N[i]? = some x := by rfl) (hx : Loc X.env.scope x := by first | exact Or.inl rfl | exact Or.inr rfl) (hs : swapsWith e (some (.Name x pos')) pos.line X.env = pure false := by rfl)
    (hf : X.fn x = true ∨ X.env.scope.names.lookup x = some .local := by first | exact .inl rfl | exact .inr rfl | assumption) : JS kap xi X W (.Assign [.Name x pos'] e pos) (fun W => tAsg (t W) (gName i)) (vSetF i ev) := ⟨ps_set hN hi hx h.p hs hf, by
  intro W F H sg de O Dn R hp
  refine h.s W F H sg de O _ R ?_
  unfold vSetF at hp
  cases e : ev de with
  | ok d de1 =>
    rw [e] at hp
    intro v F1 H1 O1 R1 g1 r org
    obtain ⟨p, rfl, f1, f2, f3⟩ := r
    have hp' : PS1 X.K kap xi F H de O W Dn (.nx (de1.set i (.ow d))) := hp
    have R2 := R1.put i (some (.ref p)) (.ow d) (some p) (fun d' e => by cases e) (fun d' e => by cases e; exact ⟨p, rfl, rfl, f1, f2, fun j _ => f3 j⟩) (fun _ _ e => by cases e) (fun e => by cases e)
    refine hp' F1 H1 _ _ R2 ⟨g1.ex, g1.keep, fun j a z => ?_, g1.dom, g1.fnew, fun j d' z => ?_⟩
    · unfold putO at z
      split at z
      · cases z; exact (org _ rfl).symm
      · exact g1.new j a z
    · rcases set_get z with ⟨rfl, il, z⟩ | ⟨n, z⟩
      · cases z
      · rw [putO_other n]; exact g1.pin j d' z
  | ex c fs de1 => rw [e] at hp; exact hp
  | bad => rw [e] at hp; exact hp⟩
theorem jExpr (h : JE kap xi X W e t ev) (hs : swapsWith e none pos.line X.env = pure false := by rfl) : JS kap xi X W (.Expr e pos) (fun W => tDrop (t W)) (vExpr ev) := ⟨ps_expr h.p hs, by
  intro W F H sg de O Dn R hp
  refine h.s.out R hp fun v d F1 H1 de1 O1 R1 g1 r _ hp => ?_
  exact hp F1 H1 _ _ R1 Go.refl⟩
theorem jIf (hc : JT kap xi X W c tc bv) (h1 : JSs kap xi X W a ts e1) (h2 : JSs kap xi X W b tr e2) : JS kap xi X W (.If c a b pos) (fun W => tIfS (tc W) (ts W) (tr W)) (vIf bv e1 e2) := ⟨ps_if hc.p h1.p h2.p, by
  intro W F H sg de O Dn R hp
  refine hc.s.out R hp fun v d F1 H1 de1 O1 R1 g1 r _ hp => ?_
  cases (show v = d from r)
  cases v with
  | true => exact iteT (h1.s W F1 H1 sg de1 O1 Dn R1 hp)
  | false => exact iteF (h2.s W F1 H1 sg de1 O1 Dn R1 hp)⟩
theorem jRet (h : JE kap xi X W e t ev) : JS kap xi X W (.Return (some e) pos) (fun W => tRet (t W)) (vRet ev) := ⟨ps_ret h.p, by
  intro W F H sg de O Dn R hp
  refine h.s.out R hp fun v d F1 H1 de1 O1 R1 g1 r _ hp => ?_
  exact hp v F1 H1 sg O1 R1 Go.refl r⟩
theorem jRetF (h : JF kap xi X W e t ev) : JS kap xi X W (.Return (some e) pos) (fun W => tRet (t W)) (vRetF ev) := ⟨ps_ret h.p, by
  intro W F H sg de O Dn R hp
  refine h.s W F H sg de O _ R ?_
  unfold vRetF at hp
  cases e : ev de with
  | ok d de1 =>
    rw [e] at hp
    intro v F1 H1 O1 R1 g1 r org
    exact hp v F1 H1 sg O1 R1 g1 r org
  | ex c fs de1 => rw [e] at hp; exact hp
  | bad => rw [e] at hp; exact hp⟩
theorem jRetN : JS kap xi X W (.Return none pos) (fun _ => tRetN) vRetN := ⟨ps_retN, fun W F H sg de O Dn R hp => hp .non F H sg O R Go.refl .non⟩
theorem jPass : JS kap xi X W (.Pass pos) (fun _ => tNext) vSkip := ⟨ps_pass, fun W F H sg de O Dn R hp => hp F H sg O R Go.refl⟩
theorem jBrk : JS kap xi X W (.Break pos) (fun _ => tBreak) vBrk := ⟨ps_break, fun W F H sg de O Dn R hp => hp F H sg O R Go.refl⟩
theorem jCont : JS kap xi X W (.Continue pos) (fun _ => tCont) vCont := ⟨ps_continue, fun W F H sg de O Dn R hp => hp F H sg O R Go.refl⟩
theorem jMove (i : Nat) {x : Str} (hN : X.N[i]? = some x := by rfl) (hv : Vis X.env.scope x := by first | exact Or.inl rfl | exact Or.inr (Or.inl rfl) | exact Or.inr (Or.inr rfl)) (hd : (x == ("__debug__" : Str)) = false := by decide)
    (hcd : (x == ("__classdict__" : Str)) = false := by decide) : JF kap xi X W (.Name x pos) (fun _ => tVar i) (vMove i) := ⟨pe_var hN hv hd hcd, by
  intro W F H sg de O Q R hp
  unfold vMove at hp
  split at hp
  · rename_i d e
    obtain ⟨p, h1, h2, h3, h4⟩ := R.ow i _ d e rfl
    have il : i < de.length := (List.getElem?_eq_some_iff.mp e).1
    have R2 : RS X.K kap xi F H sg (de.set i .no) (putO O de.length i none) := by
      have := R.put i (some (.ref p)) .no none (fun _ e => by cases e) (fun _ e => by cases e) (fun _ _ e => by cases e) fun _ => rfl
      have es : sg.set i (some (.ref p)) = sg := by
        have isg : i < sg.length := by rw [R.len]; exact il
        refine List.ext_getElem? fun j => ?_
        by_cases z : j = i
        · rw [z, List.getElem?_set_self isg, h2]
        · rw [List.getElem?_set_ne (Ne.symm z)]
      rw [es] at this
      exact this
    refine ⟨_, h2, hp _ F H _ R2 (Go.put i .no none (fun _ e => by cases e) fun _ e => by cases e) ⟨p, rfl, h3, h4, fun j z => ?_⟩ fun q z => by cases z; exact .inr ⟨i, h1⟩⟩
    by_cases w : j = i
    · rw [w, putO_same il] at z; cases z
    · rw [putO_other (.inl w)] at z
      exact w (R.inj j i p z h1)
  · exact hp.elim⟩
end

/-! ### stores to owned lists -/
def slotOw (i : Nat) (de : DEnv) : Option (Sl × D) := (de[i]?).bind fun s => s.owd.map fun d => (s, d)
def isLst : D → Bool
  | .lst _ => true
  | _ => false
/-- x[k] = v, x an owned local -/
def putL (i : Nat) (v k : D) (de : DEnv) : Ot :=
  match slotOw i de with
  | some (s, .lst ds) => (match (asI k).bind fun k => ixN ds.length k with
    | some j => .nx (de.set i (s.same (.lst (ds.set j v))))
    | none => .bad)
  | _ => .bad
def vSetIx (i : Nat) (evv : DEnv → Rs D) (evk : DEnv → Rs D) (de : DEnv) : Ot :=
  (evv de).out fun v de1 => if ((slotAt i de1).map isLst).getD false = true then (evk de1).out fun k de2 => putL i v k de2 else .bad
/-- a method of an owned list: the arguments, then the change -/
def vMut (i : Nat) (g : List D → List D → Option (D × List D)) (ea : DEnv → Rs (List D)) (de : DEnv) : Rs D :=
  if ((slotAt i de).map isLst).getD false = true then
    (ea de).bind fun as de1 => match slotOw i de1 with
      | some (s, .lst ds) => (match g ds as with
        | some (r, ds') => .ok r (de1.set i (s.same (.lst ds')))
        | none => .bad)
      | _ => .bad
  else .bad
section
variable {K : PySem.W.Frag} {kap : Nat → Addr} {xi : Xi} {F H : Hp} {sg : St} {de : DEnv} {O : Own?} {W : WX}
theorem RS.owl (R : RS K kap xi F H sg de O) {i : Nat} {s : Sl} {d : D} (h : slotOw i de = some (s, d)) : de[i]? = some s ∧ s.owd = some d ∧ ∃ p, O i = some p ∧ sg[i]? = some (some (.ref p)) ∧ F p = none ∧ Own K kap F H p d := by
  obtain ⟨t, h1, h2⟩ := bind_some h
  obtain ⟨d', h3, h4⟩ := Option.map_eq_some_iff.mp h2
  cases h4
  exact ⟨h1, h3, R.ow i _ _ h1 h3⟩
end
section
variable {kap : Nat → Addr} {xi : Xi} {X : Cx} {W : WX} {e ek o : Expr} {es : List Expr} {t tk : WX → TE} {ta : WX → TA} {ev evk : DEnv → Rs D} {ea : DEnv → Rs (List D)} {pos pos' cpos apos : Pos}
theorem jSetIx (i : Nat) {x : Str} {xp : Pos} (hv : JE kap xi X W e t ev) (hk : JE kap xi X W ek tk evk) (hN : X.N[i]? = some x := by rfl) (hvis : Vis X.env.scope x := by first | exact Or.inl rfl | exact Or.inr (Or.inl rfl) | exact Or.inr (Or.inr rfl))
    (hd : (x == ("__debug__" : Str)) = false := by decide) (hcd : (x == ("__classdict__" : Str)) = false := by decide)
    (ha : ∀ v, assign (.Subscript (.Name x xp) ek pos') X.env v = (do let ov ← holding [v] (eval (.Name x xp) X.env); let iv ← holding [v, ov] (eval ek X.env); standAt pos'; holding [v, ov, iv] (setItem ov iv v); release [v, ov, iv] []) := by intro _; rfl)
    (hs : swapsWithSole [.Subscript (.Name x xp) ek pos'] e pos.line X.env = pure false := by rfl) (hw : swappedStores [.Subscript (.Name x xp) ek pos'] e X.env = pure none := by rfl) :
    JS kap xi X W (.Assign [.Subscript (.Name x xp) ek pos'] e pos) (fun W => tAsg (t W) (gSub (tVar i) (tk W) rSetL)) (vSetIx i ev evk) := ⟨ps_asg hv.p (pg_sub (pe_var hN hvis hd hcd) hk.p set_list ha) hs hw, by
  intro W F H sg de O Dn R hp
  refine hv.s.out R hp fun v d F1 H1 de1 O1 R1 g1 r _ hp => ?_
  split at hp
  · rename_i hsl
    cases e0 : slotAt i de1 with
    | none => rw [e0] at hsl; cases hsl
    | some d0 =>
      obtain ⟨u, hu, _⟩ := R1.rb e0
      refine ⟨u, hu, ?_⟩
      refine hk.s.out R1 hp fun k' k F2 H2 de2 O2 R2 g2 rk _ hp => ?_
      unfold putL at hp
      split at hp
      · rename_i s ds eo
        split at hp
        · rename_i j ek
          obtain ⟨e1, e2, p, h1, h2, h3, vs, h4, h5⟩ := R2.owl eo
          obtain ⟨k0, e3, e4⟩ := bind_some ek
          rw [hu] at h2
          cases h2
          refine ⟨p, vs, k0, j, rfl, rep_int rk e3, h4, by rw [Reps.length h5]; exact e4, ?_⟩
          have rr : Rep X.K kap F2 v d := Rep.mono g2.ex r
          obtain ⟨R3, g3⟩ := R2.mut (o := .lst (vs.set j v)) (d' := .lst (ds.set j d)) e1 e2 h1 ⟨_, upd_same, Reps.set rr j h5⟩
          exact hp F2 _ sg O2 R3 g3
        · exact hp.elim
      · exact hp.elim
  · exact hp.elim⟩
/-- the rule of such a method: what it gives, what it leaves -/
def SPM (K : PySem.W.Frag) (kap : Nat → Addr) (r : V → List V → Hp → VK → Prop) (g : List D → List D → Option (D × List D)) : Prop :=
  ∀ F H p vs ds xs as z ds' Q, H p = some (.lst vs) → Reps K kap F vs ds → Reps K kap F xs as → g ds as = some (z, ds') → (∀ v vs', Rep K kap F v z → Reps K kap F vs' ds' → Q v (upd H p (.lst vs'))) → r (.ref p) xs H Q
theorem ty_lst {K : PySem.W.Frag} {F H : Hp} {v : V} {d : D} (sub : Same F H) (r : RB K kap F H v d) (h : isLst d = true) : tyV K "list" v H := by
  cases d with
  | lst ds =>
    obtain ⟨p, vs, rfl, h1, r1⟩ := r.lst sub
    exact Or.inl ⟨rfl, _, SqL.of h1⟩
  | _ => cases h
theorem snd_mut (i : Nat) {K : PySem.W.Frag} {r : V → List V → Hp → VK → Prop} {g : List D → List D → Option (D × List D)} (s : SPM K kap r g) (ha : Snd K kap xi (RlA K kap) ta ea) :
    Snd K kap xi (RlE K kap) (fun W => tBM K "list" r (tVar i) (ta W)) (vMut i g ea) := by
  intro W F H sg de O Q R hp
  unfold vMut at hp
  split at hp
  · rename_i hsl
    cases e0 : slotAt i de with
    | none => rw [e0] at hsl; cases hsl
    | some d0 =>
      rw [e0] at hsl
      obtain ⟨u, hu, ru⟩ := R.rb e0
      refine ⟨u, hu, ty_lst R.sub ru hsl, ?_⟩
      refine ha.bind R hp fun xs as F2 H2 de2 O2 R2 g2 ra _ hp => ?_
      split at hp
      · rename_i sl ds eo
        split at hp
        · rename_i z ds' eg
          obtain ⟨e1, e2, p, h1, h2, h3, vs, h4, h5⟩ := R2.owl eo
          rw [hu] at h2
          cases h2
          refine s F2 H2 p vs ds xs as z ds' Q h4 h5 ra eg fun v vs' rv rvs => ?_
          obtain ⟨R3, g3⟩ := R2.mut (o := .lst vs') (d' := .lst ds') e1 e2 h1 ⟨_, upd_same, rvs⟩
          exact hp v F2 _ O2 R3 g3 rv fun _ z => z.elim
        · exact hp.elim
      · exact hp.elim
  · exact hp.elim
def gAppend (ds as : List D) : Option (D × List D) := match as with
  | [d] => if ds.length < 16777216 then some (.non, ds ++ [d]) else none
  | _ => none
theorem spm_append {K : PySem.W.Frag} : SPM K kap rAppend gAppend := by
  intro F H p vs ds xs as z ds' Q h r ra e q
  unfold gAppend at e
  split at e
  · split at e
    · rename_i hl
      cases e
      cases ra with
      | cons r1 r2 =>
        cases r2
        refine ⟨p, vs, _, rfl, rfl, h, by rw [line_eq, r.length]; exact hl, ?_⟩
        exact q _ _ .non (r.append (.cons r1 .nil))
    · cases e
  · cases e
def gClear (ds as : List D) : Option (D × List D) := match as with
  | [] => some (.non, [])
  | _ => none
def gPop (ds as : List D) : Option (D × List D) := match as with
  | [] => (ds[ds.length - 1]?).map fun d => (d, ds.dropLast)
  | _ => none
theorem jAppend (i : Nat) {x : Str} {xp : Pos} (ha : JA kap xi X W (e :: es) ta ea) (hN : X.N[i]? = some x := by rfl) (hvis : Vis X.env.scope x := by first | exact Or.inl rfl | exact Or.inr (Or.inl rfl) | exact Or.inr (Or.inr rfl))
    (hd : (x == ("__debug__" : Str)) = false := by decide) (hcd : (x == ("__classdict__" : Str)) = false := by decide)
    (hbase : attributeBase (.Name x xp) "append" X.env (eval (.Name x xp) X.env) = eval (.Name x xp) X.env := by rfl)
    (hfew : ((backTo cpos (starEach (e :: es) X.env)).all (fun x => !x.1) && (backToKw cpos (keywordEach [] X.env)).all (fun x => x.1.isSome)
      && decide ((e :: es).length + ([] : List Keyword).length + (if ([] : List Keyword).isEmpty then 0 else 1) < 30)) = true := by rfl)
    (hline : (apos.endLine == cpos.line) = true := by rfl) (hs : starEach (e :: es) X.env = (false, eval e X.env) :: starEach es X.env := by rfl) (hplain : (backTo cpos (starEach es X.env)).any (·.1) = false := by rfl) :
    JE kap xi X W (.Call (.Attribute (.Name x xp) "append" apos) (e :: es) [] cpos) (fun W => tBM X.K "list" rAppend (tVar i) (ta W)) (vMut i gAppend ea) :=
  ⟨pe_bm PySem.F.plainAttrs_list PySem.F.slot_list_append PySem.F.type_list_append mt_append (pe_var hN hvis hd hcd) ha.p hbase hfew hline hs hplain, snd_mut i spm_append ha.s⟩
end
end DL

set_option maxRecDepth 100000
set_option maxHeartbeats 2000000
set_option autoImplicit false
/-! a def's promise where nothing is being shown (no repr is under way): Room with that -/
namespace DL
open PySem L2 PySem.Spec PyProof.Rows
structure RoomG (k : Nat) (A : Around) : Prop where
  r : Room k A
  g : A.guards = some []
theorem RoomG.mono {j k : Nat} {A : Around} (r : RoomG k A) (h : j ≤ k) : RoomG j A := ⟨r.r.mono h, r.g⟩
theorem RoomG.un {k : Nat} {A : Around} (r : RoomG k A) : A.units + 16 * k + 200 < cLine := r.r.un
theorem RoomG.hd {k : Nat} {A : Around} (r : RoomG k A) : A.handled = none := r.r.hd
theorem RoomG.deeper {k : Nat} {A : Around} (r : RoomG (k + 1) A) (env : Env) : RoomG k (A.deeper env) := ⟨r.r.deeper env, r.g⟩
theorem RoomG.make {k : Nat} {A : Around} (r : RoomG (k + 1) A) (C : Addr) (us : List Value) (kw : List (Str × Value)) : RoomG k (A.under (.builtin "type.__call__" ⟨.ref C :: us, kw⟩)) :=
  ⟨r.r.make C us kw, by
    have h : (A.under (.builtin "type.__call__" ⟨.ref C :: us, kw⟩)).guards = A.guards := by first | rfl | simp [Around.under, Code.guards, Code.isGuard, guardIds, pushGuards]
    rw [h]; exact r.g⟩
structure FnG (P : Program) (w : World) (K : PySem.W.Frag) (mg : Str → Option Value) (base : Heap) (CX : CXT) (k : Nat) (f : Addr) (fd : FuncData) (ps : List Str) (sp : Sp) : Prop where
  len : ∀ vs H Q E, sp vs H Q E → vs.length = ps.length
  run : ∀ (A : Around) (outer : List Env) (s : Shared) (H : Hp) (args : Args) (us : List Value) (vs : List V) (Q : VK) (E : XK), RoomG k A → Env0 P w K mg base A outer s H → BindsTo s fd args (ps.zip us) → Vals vs us → sp vs H Q E →
    codeAny (model P w) A (.call (.ref f) args) (CR CX outer P w H s Q E) s
theorem FnG.mono {P : Program} {w : World} {K : PySem.W.Frag} {mg : Str → Option Value} {base : Heap} {CX : CXT} {j k : Nat} {f : Addr} {fd : FuncData} {ps : List Str} {sp : Sp} (F : FnG P w K mg base CX j f fd ps sp) (h : j ≤ k) : FnG P w K mg base CX k f fd ps sp :=
  ⟨F.len, fun A outer s H args us vs Q E hr => F.run A outer s H args us vs Q E (hr.mono h)⟩
theorem FnG.imp {P : Program} {w : World} {K : PySem.W.Frag} {mg : Str → Option Value} {base : Heap} {CX : CXT} {k : Nat} {f : Addr} {fd : FuncData} {ps : List Str} {sp sp' : Sp} (F : FnG P w K mg base CX k f fd ps sp) (h : ∀ vs H Q E, sp' vs H Q E → sp vs H Q E) : FnG P w K mg base CX k f fd ps sp' :=
  ⟨fun vs H Q E q => F.len vs H Q E (h _ _ _ _ q), fun A outer s H args us vs Q E hr he hb hv hs => F.run A outer s H args us vs Q E hr he hb hv (h _ _ _ _ hs)⟩
theorem fnG_of {CX : CXT} {P : Program} {w : World} {K : PySem.W.Frag} {mg : Str → Option Value} {base : Heap} {k : Nat} {f : Addr} {name qual : Str} {params : Arguments} {body : List Stmt} {scope : Scope} {dV kV doc pm cdv ct oc : Value} {an od : Option Addr}
    {osl : Array (Option Value)} {N ps : List Str} {sp : Sp} (lk : K.lookup f = some ⟨oc, od, .func (PySem.W.fnOf name qual params body scope dV kV doc pm an cdv ct), osl⟩) (hcd : PySem.W.codeIn K cdv qual = true) (S : FnScope N ps scope)
    (len : ∀ vs H Q E, sp vs H Q E → vs.length = ps.length)
    (hbody : ∀ (A : Around) (outer : List Env) (s : Shared) (H : Hp) (vs : List V) (Q : VK) (E : XK), RoomG k (A.deeper (envOfC qual scope s.heap.objs.size f cdv)) → sp vs H Q E →
      ∃ t, PSs (cxOf CX P w K mg base N qual scope f cdv A outer s H E) body t ∧ t { nx := fun _ H' => Q .non H', rt := Q } (start N vs) H) :
    FnG P w K mg base CX (k + 1) f (PySem.W.fnOf name qual params body scope dV kV doc pm an cdv ct) ps sp :=
  ⟨len, fun A outer s H args us vs Q E hr e0 hb r hsp => by
    have KX : K.In s.heap := e0.mod.kin.keeps fun b o e => (e0.bs b o e).1
    have kinds : ∀ y ∈ ps.zip us, scope.names.lookup y.1 = some .local ∨ (scope.names.lookup y.1 = some .cell ∧ ((cellsFrom (s.heap.objs.size + 1) scope.names []).lookup y.1).isSome = true) := by
      rintro ⟨n, v⟩ hy
      exact (S.par n (List.of_mem_zip hy).1).imp id fun q => ⟨q, PySem.W.cellsFrom_some _ _ _ (.inl q)⟩
    refine codeAny_call_function hr.r.depth (KX _ _ lk) rfl S.co S.gen rfl (PySem.W.codeRec_of KX hcd) (hb _ _ _ _ (wpAny_newFunctionEnv_cells S.kind kinds fun env he s1 x => ?_))
    subst he
    refine ⟨Heap.NoLimit.keeps (e0.mod.nolimit.keeps fun b o e => (e0.bs b o e).1) x.toInCall.keep, codeAny_func ?_⟩
    obtain ⟨t, ht, hq⟩ := hbody A outer s H vs Q E (hr.deeper _) hsp
    refine wpAny_mono (ht.run [] s1 (start N vs) H _ (inv_start S hr.r.hd e0 (len _ _ _ _ hsp) r x) hq) (fun fl s' hs => ?_) fun e s' hs => hs
    cases fl with
    | ret u => obtain ⟨v, σ', H', J, rv, q⟩ := hs; exact ⟨v, H', J.os, J.bare, J.base, J.hok, rv, q⟩
    | next => obtain ⟨σ', H', J, q⟩ := hs; exact ⟨.non, H', J.os, J.bare, J.base, J.hok, rfl, q⟩
    | brk => obtain ⟨_, _, _, q⟩ := hs; exact q.elim
    | cont => obtain ⟨_, _, _, q⟩ := hs; exact q.elim⟩
theorem fun_okG {P : Program} {w : World} {K : PySem.W.Frag} {mg : Str → Option Value} {base : Heap} {x qual : Str} {st : Stmt} {f : Addr} {fd : FuncData} {N ps : List Str} {k : Nat} {sp : Sp} (F : Fun K x qual st f fd) (S : FnScope N ps (defScope st)) (len : ∀ vs H Q E, sp vs H Q E → vs.length = ps.length)
    (hbody : ∀ (cdv : Value) (A : Around) (outer : List Env) (s : Shared) (H : Hp) (vs : List V) (Q : VK) (E : XK), RoomG k (A.deeper (envOfC qual (defScope st) s.heap.objs.size f cdv)) → sp vs H Q E →
      ∃ t, PSs (cxOf (L2.CX P w) P w K mg base N qual (defScope st) f cdv A outer s H E) (defBody st) t ∧ t { nx := fun _ H' => Q .non H', rt := Q } (start N vs) H) : FnG P w K mg base (L2.CX P w) (k + 1) f fd ps sp := by
  obtain ⟨oc, od, kV, doc, pm, an, cdv, ct, osl, rfl, lk, hcd⟩ := F.ex
  exact fnG_of lk hcd S len fun A outer s H vs Q E hr hsp => hbody cdv A outer s H vs Q E hr hsp
section
variable {X : Cx} {CX : CXT} {k : Nat} {f : Addr} {fd : FuncData} {ps : List Str} {ds : List Value} {dvs : List V} {sp : Sp} {E : L2.St → XK} {x : Str} {p pos : Pos} {e : Expr} {es : List Expr} {t : TA}
theorem run_fnG {pins : List (Addr × Obj)} {σ : L2.St} {H : Hp} {s : Shared} {Q : VK} {us : List Value} {vs : List V} (F : FnG X.prog X.w X.K X.mg X.base CX k f fd ps sp) (hr : RoomG k X.A) (hb : Binds X.K fd ps ds) (hd : Vals dvs ds) (hx : PassesAt CX X σ (E σ))
    (I : Inv X pins σ H s) (r : Vals vs us) (h : sp (vs ++ dvs) H Q (E σ)) : wpAny (model X.prog X.w) X.A (call (.ref f) us) (EP X pins σ Q) X.xe s := by
  have r2 := r.append hd
  refine wpAny_call (codeAny_mono (F.run X.A X.stack s H ⟨us, []⟩ (us ++ ds) (vs ++ dvs) Q (E σ) hr I.env0 (hb s us I.kIn (by rw [← r2.length]; exact F.len _ _ _ _ h)) r2 h) fun r s' hq => ?_)
  cases r with
  | error e => exact hx pins H s e s' I hq
  | ok fl => cases fl with
    | ret u => exact I.after hq
    | next => exact hq.elim
    | brk => exact hq.elim
    | cont => exact hq.elim
theorem pe_callG (F : FnG X.prog X.w X.K X.mg X.base CX k f fd ps sp) (hr : RoomG k X.A) (hg : Gl X x) (hm : X.mg x = some (.ref f)) (hk : PySem.W.keepIn X.K (.ref f) = true) (hb : Binds X.K fd ps ds) (hd : Vals dvs ds) (hx : ∀ σ, PassesAt CX X σ (E σ))
    (ha : PA X (e :: es) t) (hdb : (x == ("__debug__" : Str)) = false := by decide) (he : starEach (e :: es) X.env = (false, eval e X.env) :: starEach es X.env := by rfl) (hpl : (backTo pos (starEach es X.env)).any (·.1) = false := by rfl) :
    PE X (.Call (.Name x p) (e :: es) [] pos) (tCallSD sp dvs E t) :=
  ⟨fun pins s σ H Q I h => wpAny_Call_Name_kw (ld_glob I hg hm (PySem.W.callWith_K (h₀ := X.base) I.ok.mod.kin hk (thn (ha.run pos pins s σ H _ I h) fun us s1 ⟨vs, H1, I1, r, q⟩ => ⟨I1.kIn, run_fnG F hr hb hd (hx σ) I1 r q⟩) he hpl) hdb)⟩
end
/-- where the run's modules are told -/
def SmB (base : Heap) : Prop := ∃ mm, base.Ns sysModules mm
/-- the law's own call, from the place where the claim makes it -/
theorem lawG_call {P : Program} {w : World} {K : PySem.W.Frag} {mg mb : Str → Option Value} {CX : CXT} {k : Nat} {fa a : Addr} {fd : FuncData} {x : Str} {sp : Sp} {s₁ : Shared} {vs : List Value} {ns : List Int}
    (KX : K.In s₁.heap) (hns : s₁.heap.Ns mainGlobals mg) (hb : s₁.heap.Ns builtinsNs mb) (hbb : ∀ x : Str, x ≠ "__name__" → mb x = bootBuiltins x) (hlim : s₁.heap.NoLimit) (hg : s₁.gens = #[])
    (ha : s₁.heap.get? a = some { cls := .type "list", data := .seq vs.toArray }) (hi : IntsAre vs ns) (hl : ns.length ≤ sizeLine) (hr : RoomG k callerA)
    (hsm : SmB s₁.heap) (F : ∀ base : Heap, K.In base → base.Ns mainGlobals mg → SmB base → FnG P w K mg base CX k fa fd [x] sp) (hbind : ∀ (s : Shared) (u : Value), BindsTo s fd ⟨[u], []⟩ [(x, u)])
    (hsp : ∀ H : Hp, Only H → SqL K H a (ns.map V.int) → sp [.ref a] H (fun v _ => v = .bl true) fun _ _ _ => False)
    (hCX : ∀ H e s', CX [] H s₁ (fun _ _ _ => False) e s' → False) :
    codeAny (model P w) callerA (.call (.ref fa) ⟨[.ref a], []⟩) (fun r s' => r = .ok (.ret (.bool true)) ∧ OldK s₁.heap s'.heap ∧ s'.os = s₁.os ∧ AllBare s'.gens) s₁ := by
  have rv := vals_ints hi
  have main : ∀ H : Hp, Only H → SqL K H a (ns.map V.int) → HOk P w H s₁.heap → (∀ b, H b ≠ none → b = a) → (H a ≠ none → K.lookup a = none) →
      codeAny (model P w) callerA (.call (.ref fa) ⟨[.ref a], []⟩) (fun r s' => r = .ok (.ret (.bool true)) ∧ OldK s₁.heap s'.heap ∧ s'.os = s₁.os ∧ AllBare s'.gens) s₁ := by
    intro H hO hS hok hA hK
    have free : ∀ {b : Addr}, b ≠ a → H b = none := fun {b} n => by
      cases q : H b with
      | none => rfl
      | some u => exact absurd (hA b (by rw [q]; simp)) n
    have ns_ : ∀ {b : Addr} {m : Str → Option Value}, s₁.heap.Ns b m → (hidT s₁.heap H).Ns b m := fun {b m} ⟨o, es, ep, e, d, r⟩ => ⟨o, es, ep, hidT_get e (free fun z => by rw [z, ha] at e; cases e; cases d), d, r⟩
    have kb : K.In (hidT s₁.heap H) := fun b o e => hidT_get (KX b o e) (by
      by_cases z : b = a
      · cases q : H b with
        | none => rfl
        | some u => rw [z] at q e; rw [hK (by rw [q]; simp)] at e; cases e
      · exact free z)
    have hM : Mod K mg (hidT s₁.heap H) := ⟨kb, ns_ hns, ⟨mb, ns_ hb, hbb⟩, let ⟨mc, h1, h2⟩ := hlim; ⟨mc, ns_ h1, h2⟩⟩
    have nof : ∀ b : Addr, b ∉ ([] : List Addr) := fun b z => (by cases z)
    have e0 : Env0 P w K mg (hidT s₁.heap H) callerA [] s₁ H := ⟨rfl, hM, fun b o e => of_hidT e, Nat.le_of_eq (hidT_size _ _), trivial, fun b z => absurd z (nof b), hok, .of_eq hg⟩
    refine codeAny_mono ((F _ kb (ns_ hns) (hsm.imp fun _ => ns_)).run callerA [] s₁ H ⟨[.ref a], []⟩ [.ref a] [.ref a] _ _ hr e0 (hbind s₁ (.ref a)) (.cons rfl .nil) (hsp H hO hS)) fun r s' h => ?_
    rcases r with e | fl
    · exact (hCX H e s' h).elim
    · cases fl with
      | next => exact h.elim
      | brk => exact h.elim
      | cont => exact h.elim
      | ret u =>
        obtain ⟨v, H', os, bare, un, hok', rv', q⟩ := h
        cases (show v = .bl true from q)
        cases (show u = Value.bool true from rv')
        refine ⟨rfl, OldK.of_keep fun b o e => ?_, os, bare⟩
        rcases hO b with z | ⟨ob, xs, z⟩
        · exact un.keep b o e z (nof b) (nof b)
        · obtain ⟨e1, _⟩ := hok b _ z
          obtain ⟨e2, _⟩ := hok' b _ (un.frzs b ob _ z)
          rw [e] at e1
          cases e1
          exact e2
  cases hk : K.lookup a with
  | some o =>
    have e := KX a o hk
    rw [ha] at e
    cases e
    exact main (fun _ => none) (fun _ => .inl rfl) (.inr ⟨_, vs.toArray, _, hk, rfl, rfl, rfl, by rw [List.size_toArray, hi.length]; exact hl, by simpa using rv⟩) (fun b u z => by cases (show (none : Option HO) = some u from z)) (fun b z => absurd rfl z) fun z => absurd rfl z
  | none =>
    have at_ : ∀ {b : Addr} {u : HO}, (if b = a then some (HO.frz { cls := .type "list", data := .seq vs.toArray } (.lst (ns.map V.int))) else none) = some u → b = a ∧ u = HO.frz { cls := .type "list", data := .seq vs.toArray } (.lst (ns.map V.int)) := fun {b u} z => by
      by_cases hb : b = a
      · rw [if_pos hb] at z; cases z; exact ⟨hb, rfl⟩
      · rw [if_neg hb] at z; cases z
    refine main (fun b => if b = a then some (.frz { cls := .type "list", data := .seq vs.toArray } (.lst (ns.map V.int))) else none) (fun b => ?_) (.inl (.inr ⟨_, if_pos rfl⟩)) (fun b u z => ?_) (fun b z => ?_) fun _ => hk
    · by_cases hb : b = a
      · exact .inr ⟨_, _, if_pos hb⟩
      · exact .inl (if_neg hb)
    · obtain ⟨hb, hu⟩ := at_ z
      subst hb hu
      exact ⟨ha, by rw [List.length_map]; exact hl, vs, _, rv, ha⟩
    · by_cases hb : b = a
      · exact hb
      · exact absurd (if_neg hb) z
theorem walkG_of {l : PySem.W.OpenLaw} {n k : Nat} {q : Program} {loose : List Str} {XP : (Str → Option Value) → Heap → Prop} {YP : World → Heap → Prop} {d : DefRec} {K : Params → PySem.W.Frag} {CX : World → CXT} {sp : World → Sp} {x : Str}
    (hn : l.most = some n) (hn2 : n ≤ sizeLine) (hdf : d.params.defaults = []) (hr : RoomG k callerA) (him : importsNone q = true)
    (hY : ∀ (w : World) (h : Heap), YP w h → (K w.params).In h)
    (F : ∀ (w : World) (mg : Str → Option Value) (fa : Addr) (h : Heap), (K w.params).In h → h.Ns mainGlobals mg → mg d.name = some (.ref fa) →
      ∃ fd : FuncData, (∀ (s : Shared) (u : Value), BindsTo s fd ⟨[u], []⟩ [(x, u)]) ∧
        ∀ base : Heap, (K w.params).In base → base.Ns mainGlobals mg → SmB base → FnG l.prog w (K w.params) mg base (CX w) k fa fd [x] (sp w))
    (hsp : ∀ (w : World) (H : Hp) (a : Addr) (ns : List Int), ns.length ≤ n → Only H → SqL (K w.params) H a (ns.map V.int) → sp w [.ref a] H (fun v _ => v = .bl true) fun _ _ _ => False)
    (hCX : ∀ (w : World) (H : Hp) (s : Shared) (e : Value) (s' : Shared), CX w [] H s (fun _ _ _ => False) e s' → False) :
    PySem.W.WalkO q loose XP YP l.row.toRowW d [] (fun f vs => PySem.call f vs) := by
  refine Att.attach_call hn hdf fun w s₀ s₁ mg mb fa o pm cd doc a vs ns G Y ho hd hcd hmg hobj hints hlen hg => ?_
  obtain ⟨fd, hb, hF⟩ := F w mg fa _ (hY w _ Y) G.T.g hmg
  exact lawG_call (hY w _ Y) G.T.g G.T.b G.T.builtins G.T.nolimit hg hobj hints (Nat.le_trans hlen hn2) hr ((G.T.seer him).mods.imp fun _ h => h.1) hF hb (fun H hO hS => hsp w H a ns hlen hO hS) fun H e s' => hCX w H s₁ e s'
end DL

set_option maxRecDepth 100000
set_option maxHeartbeats 2000000
set_option autoImplicit false
namespace DL
open PySem L2
open PySem.Spec PyProof.Rows in
abbrev envC := @envOfC

/-! ### a def's promise: what it hands back of data. mu: the parameter that it may change (at most one) -/
inductive Fo where
  | ret (d : D) (q : Option D) | retF (d : D) (q : Option D) | ex (c : Nat) (fs : List (Str × D)) (q : Option D) | bad
section
variable (K : PySem.W.Frag) (kap : Nat → Addr) (F H : Hp) (mu : Option Nat)
structure ArgR (vs : List V) (ds : List D) (P : Option Addr) : Prop where
  len : vs.length = ds.length
  va : ∀ (i : Nat) (d : D), ds[i]? = some d → mu ≠ some i → ∃ v, vs[i]? = some v ∧ Rep K kap F v d
  ow : ∀ (k : Nat) (d : D), mu = some k → ds[k]? = some d → ∃ p, P = some p ∧ vs[k]? = some (V.ref p) ∧ F p = none ∧ Own K kap F H p d
  no : P ≠ none → ∃ k d, mu = some k ∧ ds[k]? = some d
structure FPost (F' H' : Hp) (P : Option Addr) (q : Option D) : Prop where
  ex : Same F F'
  sub : Same F' H'
  keep : ∀ a o, H a = some o → P ≠ some a → H' a = some o
  dom : ∀ a, H' a = none → H a = none
  fnew : ∀ a, F' a ≠ none → F a ≠ none ∨ H a = none
  own : ∀ p, P = some p → ∃ d, q = some d ∧ F' p = none ∧ Own K kap F' H' p d
end
def spD (K : PySem.W.Frag) (kap : Nat → Addr) (n : Nat) (mu : Option Nat) (m : List D → Fo) : Sp := fun vs H Q E => ∃ F ds P, ds.length = n ∧ Same F H ∧ ArgR K kap F H mu vs ds P ∧
  (match m ds with
  | .ret d q => ∀ v F' H', FPost K kap F H F' H' P q → Rep K kap F' v d → Q v H'
  | .retF d q => ∀ p F' H', FPost K kap F H F' H' P q → F' p = none → Own K kap F' H' p d → H p = none → P ≠ some p → Q (.ref p) H'
  | .ex c fs q => ∀ F' H' d, FPost K kap F H F' H' P q → XR K kap F' d fs → E (.ref (kap c)) d H'
  | .bad => False)
def env0 : Option Nat → List D → DEnv
  | none, ds => ds.map .va
  | some 0, d :: r => .pn d :: r.map .va
  | some (k + 1), d :: r => .va d :: env0 (some k) r
  | some _, [] => []
theorem env0_get : ∀ (mu : Option Nat) (ds : List D) (i : Nat), (env0 mu ds)[i]? = (ds[i]?).map fun d => if mu = some i then .pn d else .va d
  | none, ds, i => by simp [env0]
  | some k, [], i => by cases k <;> simp [env0]
  | some 0, d :: r, 0 => by simp [env0]
  | some 0, d :: r, i + 1 => by simp [env0]
  | some (k + 1), d :: r, 0 => by simp [env0]
  | some (k + 1), d :: r, i + 1 => by
    have := env0_get (some k) r i
    simp only [env0, List.getElem?_cons_succ, this]
    congr 1
    funext d
    by_cases h : k = i <;> simp [h]
theorem env0_len (mu : Option Nat) (ds : List D) : (env0 mu ds).length = ds.length := by
  induction ds generalizing mu with
  | nil => cases mu with
    | none => rfl
    | some k => cases k <;> rfl
  | cons d r ih =>
    cases mu with
    | none => simp [env0]
    | some k =>
      cases k with
      | zero => simp [env0]
      | succ k => simp [env0, ih]
/-- what the changed parameter holds at the end -/
def lastOf (mu : Option Nat) (de : DEnv) : Option (Option D) := match mu with
  | none => some none
  | some k => match de[k]? with
    | some (.pn d) => some (some d)
    | _ => none
def finish (mu : Option Nat) : Ot → Fo
  | .nx de => (match lastOf mu de with | some q => .ret .non q | none => .bad)
  | .ret d de => (match lastOf mu de with | some q => .ret d q | none => .bad)
  | .retF d de => (match lastOf mu de with | some q => .retF d q | none => .bad)
  | .ex c fs de => (match lastOf mu de with | some q => .ex c fs q | none => .bad)
  | _ => .bad
/-- a def's run on data: nl further locals -/
def run (mu : Option Nat) (nl : Nat) (e : DEnv → Ot) (ds : List D) : Fo := finish mu (e (env0 mu ds ++ List.replicate nl .no))
section
variable {K : PySem.W.Frag} {kap : Nat → Addr} {xi : Xi} {F H : Hp} {mu : Option Nat} {vs : List V} {ds : List D} {P : Option Addr}
theorem start_get (N : List Str) (vs : List V) (i : Nat) {v : V} (h : vs[i]? = some v) : (L2.start N vs)[i]? = some (some v) := by
  have il : i < vs.length := (List.getElem?_eq_some_iff.mp h).1
  unfold L2.start
  rw [List.getElem?_append_left (by simpa using il), List.getElem?_map, h]
  rfl
def O0 (mu : Option Nat) (P : Option Addr) : Own? := fun i => if mu = some i then P else none
theorem rs_start (N : List Str) (nl : Nat) (hN : N.length = ds.length + nl) (sub : Same F H) (A : ArgR K kap F H mu vs ds P) : RS K kap none F H (L2.start N vs) (env0 mu ds ++ List.replicate nl .no) (O0 mu P) := by
  have get : ∀ (i : Nat) (s : Sl), (env0 mu ds ++ List.replicate nl .no)[i]? = some s → (∃ d, ds[i]? = some d ∧ s = if mu = some i then .pn d else .va d) ∨ s = .no := fun i s h => by
    by_cases il : i < ds.length
    · rw [List.getElem?_append_left (by rw [env0_len]; exact il), env0_get] at h
      obtain ⟨d, h1, h2⟩ := Option.map_eq_some_iff.mp h
      exact .inl ⟨d, h1, h2.symm⟩
    · rw [List.getElem?_append_right (by rw [env0_len]; exact Nat.le_of_not_lt il)] at h
      exact .inr (List.eq_of_mem_replicate (List.mem_of_getElem? h))
  refine ⟨?_, fun i d h => ?_, fun i s d h1 h2 => ?_, fun i c fs h => ?_, fun i p h => ?_, fun i j p h1 h2 => ?_, sub⟩
  · unfold L2.start
    simp [env0_len, A.len]
    have := A.len
    omega
  · rcases get i _ h with ⟨d', h1, h2⟩ | h2
    · split at h2
      · cases h2
      · rename_i hm
        cases h2
        obtain ⟨v, g1, g2⟩ := A.va i d h1 hm
        exact ⟨v, start_get N vs i g1, g2⟩
    · cases h2
  · rcases get i _ h1 with ⟨d', g1, g2⟩ | g2
    · split at g2
      · rename_i hm
        subst g2
        cases h2
        obtain ⟨p, k1, k2, k3, k4⟩ := A.ow i d hm g1
        refine ⟨p, ?_, start_get N vs i k2, k3, k4⟩
        unfold O0
        rw [if_pos hm, k1]
      · subst g2; cases h2
    · subst g2; cases h2
  · rcases get i _ h with ⟨d', g1, g2⟩ | g2
    · split at g2 <;> cases g2
    · cases g2
  · unfold O0 at h
    split at h
    · rename_i hm
      obtain ⟨k, d, e1, e2⟩ := A.no (by rw [h]; simp)
      rw [hm] at e1
      cases e1
      refine ⟨.pn d, d, ?_, rfl⟩
      rw [List.getElem?_append_left (by rw [env0_len]; exact (List.getElem?_eq_some_iff.mp e2).1), env0_get, e2, Option.map_some, if_pos hm]
    · cases h
  · unfold O0 at h1 h2
    split at h1
    · rename_i m1
      split at h2
      · rename_i m2
        rw [m1] at m2
        cases m2
        rfl
      · cases h2
    · cases h1
theorem post_of {F' H' : Hp} {sg' : St} {de' : DEnv} {O' : Own?} {xi : Xi} {nl : Nat} {q : Option D} (A : ArgR K kap F H mu vs ds P) (R : RS K kap xi F' H' sg' de' O') (g : Go F H (env0 mu ds ++ List.replicate nl .no) (O0 mu P) F' H' de' O')
    (hq : lastOf mu de' = some q) : FPost K kap F H F' H' P q ∧ ∀ p, P = some p → ∃ i, O' i = some p := by
  have key : ∀ p, P = some p → ∃ k d, mu = some k ∧ q = some d ∧ de'[k]? = some (Sl.pn d) ∧ O' k = some p := fun p hp => by
    obtain ⟨k, d, e1, e2⟩ := A.no (by rw [hp]; simp)
    subst e1
    unfold lastOf at hq
    dsimp only at hq
    split at hq
    · rename_i d' e3
      cases hq
      obtain ⟨e4, _⟩ := g.pin k d' e3
      refine ⟨k, d', rfl, rfl, e3, ?_⟩
      rw [e4]
      unfold O0
      rw [if_pos rfl, hp]
    · cases hq
  refine ⟨⟨g.ex, R.sub, fun a o h n => g.keep a o h fun i e => ?_, g.dom, fun a h => ?_, fun p hp => ?_⟩, fun p hp => ?_⟩
  · unfold O0 at e
    split at e
    · exact n e
    · cases e
  · rcases g.fnew a h with z | z | ⟨i, z⟩
    · exact .inl z
    · exact .inr z
    · exfalso
      unfold O0 at z
      split at z
      · obtain ⟨k, d, _, _, e3, e4⟩ := key a z
        obtain ⟨p', k1, _, k3, _⟩ := R.ow k _ d e3 rfl
        rw [e4] at k1
        cases k1
        exact h k3
      · cases z
  · obtain ⟨k, d, _, e2, e3, e4⟩ := key p hp
    obtain ⟨p', k1, _, k3, k4⟩ := R.ow k _ d e3 rfl
    rw [e4] at k1
    cases k1
    exact ⟨d, e2, k3, k4⟩
  · obtain ⟨k, d, _, _, _, e4⟩ := key p hp
    exact ⟨k, e4⟩
theorem run_snd {n nl : Nat} {N : List Str} {t : WX → TS} {e : DEnv → Ot} (hN : N.length = n + nl) (s : SndS K kap none t e) {H : Hp} {vs : List V} {Q : VK} {E : XK} (h : spD K kap n mu (run mu nl e) vs H Q E) :
    t (fun cls d _ H => E cls d H) { nx := fun _ H' => Q .non H', rt := Q } (L2.start N vs) H := by
  obtain ⟨F, ds, P, hn, sub, A, h⟩ := h
  refine s _ F H _ _ (O0 mu P) _ (rs_start N nl (by rw [hn]; exact hN) sub A) ?_
  unfold run at h
  cases eo : e (env0 mu ds ++ List.replicate nl .no) with
  | nx de' =>
    rw [eo] at h
    unfold finish at h
    dsimp only at h
    cases eq : lastOf mu de' with
    | none => rw [eq] at h; exact h.elim
    | some q =>
      rw [eq] at h
      intro F' H' sg' O' R g
      exact h _ F' H' (post_of A R g eq).1 .non
  | ret d de' =>
    rw [eo] at h
    unfold finish at h
    dsimp only at h
    cases eq : lastOf mu de' with
    | none => rw [eq] at h; exact h.elim
    | some q =>
      rw [eq] at h
      intro v F' H' sg' O' R g r
      exact h _ F' H' (post_of A R g eq).1 r
  | retF d de' =>
    rw [eo] at h
    unfold finish at h
    dsimp only at h
    cases eq : lastOf mu de' with
    | none => rw [eq] at h; exact h.elim
    | some q =>
      rw [eq] at h
      intro v F' H' sg' O' R g ⟨p, ev, hf, how, hO⟩ org
      subst ev
      obtain ⟨p1, p2⟩ := post_of A R g eq
      have np : P ≠ some p := fun z => by
        obtain ⟨i, e⟩ := p2 p z
        exact hO i e
      refine h p F' H' p1 hf how ?_ np
      rcases org p rfl with z | ⟨i, z⟩
      · exact z
      · exfalso
        unfold O0 at z
        split at z
        · exact np z
        · cases z
  | ex c fs de' =>
    rw [eo] at h
    unfold finish at h
    dsimp only at h
    cases eq : lastOf mu de' with
    | none => rw [eq] at h; exact h.elim
    | some q =>
      rw [eq] at h
      intro F' H' sg' O' d R g e1
      exact h F' H' d (post_of A R g eq).1 e1
  | brk de' => rw [eo] at h; exact h.elim
  | ct de' => rw [eo] at h; exact h.elim
  | bad => rw [eo] at h; exact h.elim
end
theorem Fun.dl {P : Program} {w : World} {K : PySem.W.Frag} {mg : Str → Option Value} {base : Heap} {kap : Nat → Addr} {x qual : Str} {st : Stmt} {f : Addr} {fd : FuncData} {N ps : List Str} {k : Nat} {n nl : Nat} {mu : Option Nat} {e : DEnv → Ot}
    (F : Fun K x qual st f fd) (S : FnScope N ps (defScope st)) (hn : ps.length = n) (hN : N.length = n + nl)
    (hbody : ∀ (cdv : Value) (A : Around) (outer : List Env) (s : Shared) (H : Hp) (E : XK), RoomG k (A.deeper (envC qual (defScope st) s.heap.objs.size f cdv)) →
      Takes (cxOf (L2.CX P w) P w K mg base N qual (defScope st) f cdv A outer s H E) (fun cls d _ H => E cls d H) →
      PassesOwn (model P w) (cxOf (L2.CX P w) P w K mg base N qual (defScope st) f cdv A outer s H E).A (cxOf (L2.CX P w) P w K mg base N qual (defScope st) f cdv A outer s H E).env (cxOf (L2.CX P w) P w K mg base N qual (defScope st) f cdv A outer s H E).xe →
      ∃ t, JSs kap none (cxOf (L2.CX P w) P w K mg base N qual (defScope st) f cdv A outer s H E) (fun cls d _ H => E cls d H) (defBody st) t e) :
    FnG P w K mg base (L2.CX P w) (k + 1) f fd ps (spD K kap n mu (run mu nl e)) := by
  refine fun_okG F S (fun vs H Q E h => ?_) fun cdv A outer s H vs Q E hr h => ?_
  · obtain ⟨F, ds, P, hd, _, A, _⟩ := h
    rw [A.len, hd, hn]
  · obtain ⟨t, J⟩ := hbody cdv A outer s H E hr (takes_of rfl rfl rfl rfl) (passes_of rfl)
    exact ⟨_, J.p, run_snd hN J.s h⟩

/-! ### calls -/
inductive CA where
  | v (d : D) | s (i : Nat)
inductive CAs (K : PySem.W.Frag) (kap : Nat → Addr) (F : Hp) (sg : St) : List V → List CA → Prop
  | nil : CAs K kap F sg [] []
  | v {v : V} {d : D} {vs : List V} {cs : List CA} : Rep K kap F v d → CAs K kap F sg vs cs → CAs K kap F sg (v :: vs) (.v d :: cs)
  | s {v : V} {i : Nat} {vs : List V} {cs : List CA} : sg[i]? = some (some v) → CAs K kap F sg vs cs → CAs K kap F sg (v :: vs) (.s i :: cs)
theorem CAs.mono {K : PySem.W.Frag} {kap : Nat → Addr} {F F' : Hp} {sg : St} (e : Same F F') : ∀ {vs : List V} {cs : List CA}, CAs K kap F sg vs cs → CAs K kap F' sg vs cs
  | _, _, .nil => .nil
  | _, _, .v h r => .v (h.mono e) (r.mono e)
  | _, _, .s h r => .s h (r.mono e)
def RlC (K : PySem.W.Frag) (kap : Nat → Addr) : Rel (List V) (List CA) := { rel := fun sg F _ _ vs cs => CAs K kap F sg vs cs }
structure JC (kap : Nat → Addr) (xi : Xi) (X : Cx) (W : WX) (es : List Expr) (t : WX → TA) (ev : DEnv → Rs (List CA)) : Prop where
  p : PA X es (t W)
  s : Snd X.K kap xi (RlC X.K kap) t ev
def cNil (de : DEnv) : Rs (List CA) := .ok [] de
def cVal (ev : DEnv → Rs D) (er : DEnv → Rs (List CA)) (de : DEnv) : Rs (List CA) := (ev de).bind fun d de1 => (er de1).bind fun cs de2 => .ok (.v d :: cs) de2
def cSlot (i : Nat) (er : DEnv → Rs (List CA)) (de : DEnv) : Rs (List CA) := match slotAt i de with
  | some _ => (er de).bind fun cs de2 => .ok (.s i :: cs) de2
  | none => .bad
def caD (c : CA) (de : DEnv) : Option D := match c with
  | .v d => some d
  | .s i => match de[i]? with
    | some (.va d) => some d
    | _ => none
def argD : Option Nat → List CA → DEnv → Option (List D)
  | _, [], _ => some []
  | none, c :: r, de => (caD c de).bind fun d => (argD none r de).map (d :: ·)
  | some 0, .v _ :: _, _ => none
  | some 0, .s i :: r, de => (slotOw i de).bind fun q => (argD none r de).map (q.2 :: ·)
  | some (k + 1), c :: r, de => (caD c de).bind fun d => (argD (some k) r de).map (d :: ·)
/-- the slot that is handed in to be changed -/
def argS : Option Nat → List CA → Option Nat
  | some 0, .s i :: _ => some i
  | some (k + 1), _ :: r => argS (some k) r
  | _, _ => none
def putBack (i : Option Nat) (q : Option D) (de : DEnv) : DEnv := match i, q with
  | some i, some d => (match de[i]? with
    | some s => de.set i (s.same d)
    | none => de)
  | _, _ => de
def callE (i : Option Nat) (de : DEnv) : Fo → Rs D
  | .ret d q => .ok d (putBack i q de)
  | .retF d q => .ok d (putBack i q de)
  | .ex c fs q => .ex c fs (putBack i q de)
  | .bad => .bad
def callF (i : Option Nat) (de : DEnv) : Fo → Rs D
  | .retF d q => .ok d (putBack i q de)
  | .ex c fs q => .ex c fs (putBack i q de)
  | _ => .bad
/-- dcs: the defaults that fill up -/
def vCall (n : Nat) (mu : Option Nat) (m : List D → Fo) (dcs : List D) (ea : DEnv → Rs (List CA)) (de : DEnv) : Rs D :=
  (ea de).bind fun cs de1 => match argD mu cs de1 with
    | some ds => if ds.length + dcs.length = n then callE (argS mu cs) de1 (m (ds ++ dcs)) else .bad
    | none => .bad
def vCallF (n : Nat) (mu : Option Nat) (m : List D → Fo) (dcs : List D) (ea : DEnv → Rs (List CA)) (de : DEnv) : Rs D :=
  (ea de).bind fun cs de1 => match argD mu cs de1 with
    | some ds => if ds.length + dcs.length = n then callF (argS mu cs) de1 (m (ds ++ dcs)) else .bad
    | none => .bad
section
variable {K : PySem.W.Frag} {kap : Nat → Addr} {xi : Xi} {F H : Hp} {sg : St} {de : DEnv} {O : Own?} {W : WX}
/-- the arguments, as the callee sees them -/
theorem args_of (R : RS K kap xi F H sg de O) : ∀ {mu : Option Nat} {vs : List V} {cs : List CA} {ds : List D}, CAs K kap F sg vs cs → argD mu cs de = some ds →
    ∃ P, ArgR K kap F H mu vs ds P ∧ (∀ p, P = some p → ∃ i s d, argS mu cs = some i ∧ de[i]? = some s ∧ s.owd = some d ∧ O i = some p) ∧ (P = none → argS mu cs = none) := by
  have one : ∀ {v : V} {c : CA} {cs : List CA} {vs : List V} {d : D}, CAs K kap F sg (v :: vs) (c :: cs) → caD c de = some d → Rep K kap F v d := fun {v c cs vs d} h e => by
    cases h with
    | v h r => cases e; exact h
    | s h r =>
      unfold caD at e
      dsimp only at e
      split at e
      · rename_i d' e2
        cases e
        obtain ⟨v', g1, g2⟩ := R.va _ _ e2
        rw [h] at g1
        cases g1
        exact g2
      · cases e
  have tl : ∀ {v : V} {c : CA} {cs : List CA} {vs : List V}, CAs K kap F sg (v :: vs) (c :: cs) → CAs K kap F sg vs cs := fun {v c cs vs} h => by
    cases h with
    | v h r => exact r
    | s h r => exact r
  intro mu vs cs
  induction cs generalizing mu vs with
  | nil =>
    intro ds h e
    cases h
    have : ds = [] := by cases mu <;> cases e <;> rfl
    subst this
    refine ⟨none, ⟨rfl, fun i d h => by simp at h, fun k d _ h => by simp at h, fun h => absurd rfl h⟩, fun p h => (by cases h), fun _ => ?_⟩
    cases mu with
    | none => rfl
    | some k => cases k <;> rfl
  | cons c cs ih =>
    intro ds h e
    cases vs with
    | nil => cases h
    | cons v vs =>
      cases mu with
      | none =>
        obtain ⟨d, e1, e2⟩ := bind_some e
        obtain ⟨ds', e3, e4⟩ := Option.map_eq_some_iff.mp e2
        subst e4
        obtain ⟨P, A, hP, hN⟩ := ih (tl h) e3
        have rd := one h e1
        cases P with
        | some p => obtain ⟨k, d, e, _⟩ := A.no (by simp); cases e
        | none =>
          refine ⟨none, ⟨congrArg Nat.succ A.len, fun i d' hi hm => ?_, fun k d' z _ => (by cases z), fun z => absurd rfl z⟩, fun p z => (by cases z), fun _ => rfl⟩
          cases i with
          | zero => simp at hi; subst hi; exact ⟨v, rfl, rd⟩
          | succ i =>
            obtain ⟨v', g1, g2⟩ := A.va i d' (by simpa using hi) (by simp)
            exact ⟨v', by simpa using g1, g2⟩
      | some k =>
        cases k with
        | zero =>
          cases c with
          | v d => cases e
          | s i =>
            obtain ⟨⟨s, d⟩, e1, e2⟩ := bind_some e
            obtain ⟨ds', e3, e4⟩ := Option.map_eq_some_iff.mp e2
            subst e4
            obtain ⟨g1, g2, p, g3, g4, g5, g6⟩ := R.owl e1
            obtain ⟨P, A, hP, hN⟩ := ih (tl h) e3
            have hv : v = .ref p := by
              cases h with
              | s h r => rw [h] at g4; cases g4; rfl
            subst hv
            refine ⟨some p, ⟨congrArg Nat.succ A.len, fun j d' hi hm => ?_, fun k d' z hd => ?_, fun _ => ⟨0, d, rfl, rfl⟩⟩, fun q z => ?_, fun z => by cases z⟩
            · cases j with
              | zero => exact absurd rfl hm
              | succ j =>
                obtain ⟨v', k1, k2⟩ := A.va j d' (by simpa using hi) (by simp)
                exact ⟨v', by simpa using k1, k2⟩
            · cases z
              simp at hd
              subst hd
              exact ⟨p, rfl, rfl, g5, g6⟩
            · cases z
              exact ⟨i, s, d, rfl, g1, g2, g3⟩
        | succ k =>
          obtain ⟨d, e1, e2⟩ := bind_some e
          obtain ⟨ds', e3, e4⟩ := Option.map_eq_some_iff.mp e2
          subst e4
          obtain ⟨P, A, hP, hN⟩ := ih (mu := some k) (tl h) e3
          have rd := one h e1
          refine ⟨P, ⟨congrArg Nat.succ A.len, fun i d' hi hm => ?_, fun k' d' z hd => ?_, fun z => ?_⟩, hP, hN⟩
          · cases i with
            | zero => simp at hi; subst hi; exact ⟨v, rfl, rd⟩
            | succ i =>
              obtain ⟨v', g1, g2⟩ := A.va i d' (by simpa using hi) (fun z => hm (by cases z; rfl))
              exact ⟨v', by simpa using g1, g2⟩
          · cases z
            obtain ⟨p, g1, g2, g3, g4⟩ := A.ow k d' rfl (by simpa using hd)
            exact ⟨p, g1, by simpa using g2, g3, g4⟩
          · obtain ⟨k', d', e, e'⟩ := A.no z
            cases e
            exact ⟨k + 1, d', rfl, by simpa using e'⟩
/-- behind a call: the state, with the changed slot -/
theorem RS.after (R : RS K kap xi F H sg de O) {F' H' : Hp} {P : Option Addr} {q : Option D} {si : Option Nat} (f : FPost K kap F H F' H' P q)
    (hP : ∀ p, P = some p → ∃ i s d, si = some i ∧ de[i]? = some s ∧ s.owd = some d ∧ O i = some p) (hN : P = none → si = none) : RS K kap xi F' H' sg (putBack si q de) O ∧ Go F H de O F' H' (putBack si q de) O := by
  cases P with
  | none =>
    rw [hN rfl]
    have n : New F H F' H' := ⟨f.ex, fun a o h => f.keep a o h (by simp), f.fnew⟩
    exact ⟨R.new n f.sub, n.go⟩
  | some p =>
    obtain ⟨i, s, d, e1, e2, e3, e4⟩ := hP p rfl
    obtain ⟨d', e5, e6, e7⟩ := f.own p rfl
    subst e1 e5
    have il : i < de.length := (List.getElem?_eq_some_iff.mp e2).1
    have epb : putBack (some i) (some d') de = de.set i (s.same d') := by
      unfold putBack
      dsimp only
      rw [e2]
    rw [epb]
    have hsd : (s.same d').owd = some d' := by
      cases s with
      | ow d0 => rfl
      | pn d0 => rfl
      | _ => cases e3
    obtain ⟨p', g1, g2, g3, g4⟩ := R.ow i s d e2 e3
    rw [e4] at g1
    cases g1
    refine ⟨⟨by rw [List.length_set]; exact R.len, fun j e h => ?_, fun j t e h1 h2 => ?_, fun j c fs h => ?_, fun j q h => ?_, R.inj, f.sub⟩, ⟨f.ex, fun a u h n => f.keep a u h fun z => n i (by rw [e4]; exact z), fun j a h => .inl ⟨j, h⟩, f.dom, fun a h => (f.fnew a h).elim .inl fun z => .inr (.inl z), fun j e h => ?_⟩⟩
    · rcases set_get h with ⟨rfl, _, z⟩ | ⟨n, h⟩
      · exfalso; rw [← z] at hsd; cases hsd
      · obtain ⟨v, k1, k2⟩ := R.va j e h
        exact ⟨v, k1, k2.mono f.ex⟩
    · rcases set_get h1 with ⟨rfl, _, z⟩ | ⟨n, h1⟩
      · rw [z, hsd] at h2
        cases h2
        exact ⟨p, e4, g2, e6, e7⟩
      · obtain ⟨q, k1, k2, k3, k4⟩ := R.ow j t e h1 h2
        have nq : q ≠ p := fun z => by
          have : j = i := R.inj j i p (by rw [k1, z]) e4
          rcases n with n | n
          · exact n this
          · exact absurd il (Nat.not_lt.mpr n)
        obtain ⟨o, ho⟩ := k4.some
        have hk := f.keep q o ho fun z => nq (by cases z; rfl)
        refine ⟨q, k1, k2, ?_, k4.mono f.ex (by rw [hk, ho])⟩
        cases e : F' q with
        | none => rfl
        | some u =>
          rcases f.fnew q (by rw [e]; simp) with z | z
          · exact absurd k3 z
          · rw [ho] at z; cases z
    · rcases set_get h with ⟨rfl, _, z⟩ | ⟨n, h⟩
      · exfalso; rw [← z] at hsd; cases hsd
      · obtain ⟨a, d, k1, k2, k3⟩ := R.ex j c fs h
        exact ⟨a, d, k1, k2, k3.mono f.ex⟩
    · obtain ⟨t, e, h1, h2⟩ := R.onl j q h
      by_cases z : j = i
      · subst z
        exact ⟨s.same d', d', List.getElem?_set_self il, hsd⟩
      · exact ⟨t, e, by rw [List.getElem?_set_ne (Ne.symm z)]; exact h1, h2⟩
    · rcases set_get h with ⟨rfl, _, z⟩ | ⟨n, h⟩
      · refine ⟨rfl, ?_⟩
        cases s with
        | pn d0 => exact ⟨d0, e2⟩
        | _ => cases z
      · exact ⟨rfl, e, h⟩
end
end DL

set_option maxRecDepth 100000
set_option maxHeartbeats 2000000
set_option autoImplicit false
namespace DL
open PySem L2

section
variable {kap : Nat → Addr} {xi : Xi} {X : Cx} {W : WX} {e : Expr} {es : List Expr} {t : WX → TE} {ta : WX → TA} {ev : DEnv → Rs D} {ea : DEnv → Rs (List CA)} {pos p apos : Pos}
theorem jcNil : JC kap xi X W [] (fun _ => tNil) cNil := ⟨pa_nil, fun W F H sg de O Q R hp => hp.done R New.refl R.sub .nil⟩
theorem jcVal (h : JE kap xi X W e t ev) (hr : JC kap xi X W es ta ea) (hs : starEach (e :: es) X.env = (false, eval e X.env) :: starEach es X.env := by rfl) : JC kap xi X W (e :: es) (fun W => tCons (t W) (ta W)) (cVal ev ea) := ⟨pa_cons h.p hr.p hs, by
  intro W F H sg de O Q R hp
  refine h.s.bind R hp fun v f F1 H1 de1 O1 R1 g1 r _ hp => ?_
  refine hr.s.bind R1 hp fun vs fs F2 H2 de2 O2 R2 g2 rs _ hp => ?_
  exact hp.done R2 New.refl R2.sub (.v (Rep.mono g2.ex r) rs)⟩
theorem jcSlot (i : Nat) {x : Str} {xp : Pos} (hr : JC kap xi X W es ta ea) (hN : X.N[i]? = some x := by rfl) (hv : Vis X.env.scope x := by first | exact Or.inl rfl | exact Or.inr (Or.inl rfl) | exact Or.inr (Or.inr rfl)) (hd : (x == ("__debug__" : Str)) = false := by decide)
    (hcd : (x == ("__classdict__" : Str)) = false := by decide) (hs : starEach (.Name x xp :: es) X.env = (false, eval (.Name x xp) X.env) :: starEach es X.env := by rfl) : JC kap xi X W (.Name x xp :: es) (fun W => tCons (tVar i) (ta W)) (cSlot i ea) := ⟨pa_cons (pe_var hN hv hd hcd) hr.p hs, by
  intro W F H sg de O Q R hp
  unfold cSlot at hp
  split at hp
  · rename_i d e0
    obtain ⟨v, hv, _⟩ := R.rb e0
    refine ⟨v, hv, ?_⟩
    refine hr.s.bind R hp fun vs fs F2 H2 de2 O2 R2 g2 rs _ hp => ?_
    exact hp.done R2 New.refl R2.sub (.s hv rs)
  · exact hp.elim⟩
end

/-! ### what is behind -/
section
variable {K : PySem.W.Frag} {kap : Nat → Addr} {xi : Xi} {F H : Hp} {sg : St} {de : DEnv} {O : Own?} {W : WX}
theorem RS.keepO (R : RS K kap xi F H sg de O) {F' H' : Hp} (ex : Same F F') (sub : Same F' H') (hO : ∀ i p, O i = some p → H' p = H p ∧ F' p = none) : RS K kap xi F' H' sg de O where
  len := R.len
  va := fun i d e => by
    obtain ⟨v, h1, h2⟩ := R.va i d e
    exact ⟨v, h1, h2.mono ex⟩
  ow := fun i s d e h => by
    obtain ⟨p, h1, h2, h3, h4⟩ := R.ow i s d e h
    obtain ⟨k1, k2⟩ := hO i p h1
    exact ⟨p, h1, h2, k2, h4.mono ex k1⟩
  ex := fun i c fs e => by
    obtain ⟨a, d, h1, h2, h3⟩ := R.ex i c fs e
    exact ⟨a, d, h1, h2, h3.mono ex⟩
  onl := R.onl
  inj := R.inj
  sub := sub
/-- the answer of a callee, frozen -/
theorem ret_E {F' H' : Hp} {P : Option Addr} {d : D} {q : Option D} {cs : List CA} {mu : Option Nat} {Q : VK} (R : RS K kap xi F H sg de O)
    (hP : ∀ p, P = some p → ∃ i s d, argS mu cs = some i ∧ de[i]? = some s ∧ s.owd = some d ∧ O i = some p) (hN : P = none → argS mu cs = none)
    {v : V} (hp : PE1 K kap (RlE K kap) xi F H sg de O W Q (.ok d (putBack (argS mu cs) q de))) (f : FPost K kap F H F' H' P q) (r : Rep K kap F' v d) : Q v H' := by
  obtain ⟨R', g⟩ := R.after f hP hN
  exact hp v F' H' O R' g r fun _ z => z.elim
theorem ret_F {F' H' : Hp} {P : Option Addr} {d : D} {q : Option D} {cs : List CA} {mu : Option Nat} {Q : VK} (R : RS K kap xi F H sg de O)
    (hP : ∀ p, P = some p → ∃ i s d, argS mu cs = some i ∧ de[i]? = some s ∧ s.owd = some d ∧ O i = some p) (hN : P = none → argS mu cs = none)
    {p : Addr} (hp : PE1 K kap (RlF K kap) xi F H sg de O W Q (.ok d (putBack (argS mu cs) q de))) (f : FPost K kap F H F' H' P q) (h1 : F' p = none) (h2 : Own K kap F' H' p d) (h3 : H p = none) : Q (.ref p) H' := by
  obtain ⟨R', g⟩ := R.after f hP hN
  exact hp (.ref p) F' H' O R' g ⟨p, rfl, h1, h2, R.nofresh h3⟩ fun _ z => by cases z; exact .inl h3
theorem ret_X {α β : Type} {Rl : Rel β α} {F' H' : Hp} {P : Option Addr} {c : Nat} {fs : List (Str × D)} {q : Option D} {cs : List CA} {mu : Option Nat} {Q : β → Hp → Prop} {dx : Option Addr} (R : RS K kap xi F H sg de O)
    (hP : ∀ p, P = some p → ∃ i s d, argS mu cs = some i ∧ de[i]? = some s ∧ s.owd = some d ∧ O i = some p) (hN : P = none → argS mu cs = none)
    (hp : PE1 K kap Rl xi F H sg de O W Q (.ex c fs (putBack (argS mu cs) q de))) (f : FPost K kap F H F' H' P q) (h1 : XR K kap F' dx fs) : W (.ref (kap c)) dx sg H' := by
  obtain ⟨R', g⟩ := R.after f hP hN
  exact hp F' H' sg O dx R' g h1
/-- frozen from fresh -/
theorem fz_of {d : D} {de' : DEnv} {Q : VK} (hp : PE1 K kap (RlE K kap) xi F H sg de O W Q (.ok d de')) : PE1 K kap (RlF K kap) xi F H sg de O W Q (.ok d de') := by
  intro v F' H' O' R' g ⟨p, ev', hf, how, hO⟩ org
  subst ev'
  obtain ⟨o, ho, hr⟩ := how.freeze hf
  refine hp (.ref p) (upd F' p o) H' O' (R'.add hf ho hO) ⟨g.ex.trans (same_upd hf), g.keep, g.new, g.dom, fun a z => ?_, g.pin⟩ hr fun _ z => z.elim
  by_cases q : a = p
  · subst q; exact .inr (org a rfl)
  · rw [upd_ne q] at z; exact g.fnew a z
theorem args_more {mu : Option Nat} {vs dvs : List V} {ds dcs : List D} {P : Option Addr} (A : ArgR K kap F H mu vs ds P) (hd : Reps K kap F dvs dcs) (hm : P = none → mu = none) : ArgR K kap F H mu (vs ++ dvs) (ds ++ dcs) P where
  len := by rw [List.length_append, List.length_append, A.len, hd.length]
  va := fun i d h hm => by
    by_cases il : i < ds.length
    · rw [List.getElem?_append_left il] at h
      obtain ⟨v, h1, h2⟩ := A.va i d h hm
      exact ⟨v, by rw [List.getElem?_append_left (by rw [A.len]; exact il)]; exact h1, h2⟩
    · rw [List.getElem?_append_right (Nat.le_of_not_lt il)] at h
      obtain ⟨v, h1, h2⟩ := hd.get h
      exact ⟨v, by rw [List.getElem?_append_right (by rw [A.len]; exact Nat.le_of_not_lt il), A.len]; exact h1, h2⟩
  ow := fun k d e h => by
    have hp : P ≠ none := fun z => by rw [hm z] at e; cases e
    obtain ⟨k', d', e1, e2⟩ := A.no hp
    rw [e] at e1
    cases e1
    have il := (List.getElem?_eq_some_iff.mp e2).1
    rw [List.getElem?_append_left il] at h
    obtain ⟨p, h1, h2, h3⟩ := A.ow k d e h
    exact ⟨p, h1, by rw [List.getElem?_append_left (by rw [A.len]; exact il)]; exact h2, h3⟩
  no := fun h => by
    obtain ⟨k, d, e1, e2⟩ := A.no h
    exact ⟨k, d, e1, by rw [List.getElem?_append_left (List.getElem?_eq_some_iff.mp e2).1]; exact e2⟩
end
def okS (mu si : Option Nat) : Bool := si.isSome == mu.isSome
/-- a call on given arguments: frozen answer, fresh answer -/
def callC (n : Nat) (mu : Option Nat) (m : List D → Fo) (dcs : List D) (cs : List CA) (de : DEnv) : Rs D := match argD mu cs de with
  | some ds => if ds.length + dcs.length = n ∧ okS mu (argS mu cs) = true then callE (argS mu cs) de (m (ds ++ dcs)) else .bad
  | none => .bad
def callCF (n : Nat) (mu : Option Nat) (m : List D → Fo) (dcs : List D) (cs : List CA) (de : DEnv) : Rs D := match argD mu cs de with
  | some ds => if ds.length + dcs.length = n ∧ okS mu (argS mu cs) = true then callF (argS mu cs) de (m (ds ++ dcs)) else .bad
  | none => .bad
def wCall (n : Nat) (mu : Option Nat) (m : List D → Fo) (dcs : List D) (ea : DEnv → Rs (List CA)) (de : DEnv) : Rs D := (ea de).bind fun cs de1 => callC n mu m dcs cs de1
def wCallF (n : Nat) (mu : Option Nat) (m : List D → Fo) (dcs : List D) (ea : DEnv → Rs (List CA)) (de : DEnv) : Rs D := (ea de).bind fun cs de1 => callCF n mu m dcs cs de1
section
variable {K : PySem.W.Frag} {kap : Nat → Addr} {xi : Xi} {F H : Hp} {sg : St} {de : DEnv} {O : Own?} {W : WX}
theorem call_C {n : Nat} {mu : Option Nat} {m : List D → Fo} {dcs : List D} {cs : List CA} {vs dvs : List V} {Q : VK} (hd : ∀ F, Reps K kap F dvs dcs) (R : RS K kap xi F H sg de O) (A : CAs K kap F sg vs cs)
    (hp : PE1 K kap (RlE K kap) xi F H sg de O W Q (callC n mu m dcs cs de)) : spD K kap n mu m (vs ++ dvs) H Q (WE W sg) := by
  unfold callC at hp
  split at hp
  · rename_i ds e
    split at hp
    · rename_i hc
      obtain ⟨hn, hs⟩ := hc
      obtain ⟨P, AR, hP, hN⟩ := args_of R A e
      have hm : P = none → mu = none := fun z => by
        have h1 := hN z
        rw [h1] at hs
        cases mu with
        | none => rfl
        | some k => cases hs
      refine ⟨F, ds ++ dcs, P, by rw [List.length_append]; exact hn, R.sub, args_more AR (hd F) hm, ?_⟩
      cases eo : m (ds ++ dcs) with
      | ret d q => rw [eo] at hp; exact fun v F' H' f r => ret_E R hP hN hp f r
      | retF d q => rw [eo] at hp; exact fun p F' H' f h1 h2 h3 _ => ret_F R hP hN (fz_of hp) f h1 h2 h3
      | ex c fs q => rw [eo] at hp; exact fun F' H' d f h1 => ret_X R hP hN hp f h1
      | bad => rw [eo] at hp; exact hp.elim
    · exact hp.elim
  · exact hp.elim
theorem call_CF {n : Nat} {mu : Option Nat} {m : List D → Fo} {dcs : List D} {cs : List CA} {vs dvs : List V} {Q : VK} (hd : ∀ F, Reps K kap F dvs dcs) (R : RS K kap xi F H sg de O) (A : CAs K kap F sg vs cs)
    (hp : PE1 K kap (RlF K kap) xi F H sg de O W Q (callCF n mu m dcs cs de)) : spD K kap n mu m (vs ++ dvs) H Q (WE W sg) := by
  unfold callCF at hp
  split at hp
  · rename_i ds e
    split at hp
    · rename_i hc
      obtain ⟨hn, hs⟩ := hc
      obtain ⟨P, AR, hP, hN⟩ := args_of R A e
      have hm : P = none → mu = none := fun z => by
        have h1 := hN z
        rw [h1] at hs
        cases mu with
        | none => rfl
        | some k => cases hs
      refine ⟨F, ds ++ dcs, P, by rw [List.length_append]; exact hn, R.sub, args_more AR (hd F) hm, ?_⟩
      cases eo : m (ds ++ dcs) with
      | ret d q => rw [eo] at hp; exact hp.elim
      | retF d q => rw [eo] at hp; exact fun p F' H' f h1 h2 h3 _ => ret_F R hP hN hp f h1 h2 h3
      | ex c fs q => rw [eo] at hp; exact fun F' H' d f h1 => ret_X R hP hN hp f h1
      | bad => rw [eo] at hp; exact hp.elim
    · exact hp.elim
  · exact hp.elim
end
/-- a def of the top (or a method), called with its last parameters left to the defaults dcs -/
structure DG (P : Program) (w : World) (K : PySem.W.Frag) (mg : Str → Option Value) (base : Heap) (kap : Nat → Addr) (k : Nat) (n : Nat) (mu : Option Nat) (m : List D → Fo) (dcs : List D) where
  f : Addr
  fd : FuncData
  ps : List Str
  ds : List Value
  dvs : List V
  ok : FnG P w K mg base (L2.CX P w) k f fd ps (spD K kap n mu m)
  kp : PySem.W.keepIn K (.ref f) = true
  bi : Binds K fd ps ds
  vs : Vals dvs ds
  rs : ∀ F, Reps K kap F dvs dcs
section
variable {kap : Nat → Addr} {xi : Xi} {X : Cx} {W : WX} {e o : Expr} {es : List Expr} {t : WX → TE} {ta : WX → TA} {ev : DEnv → Rs D} {ea : DEnv → Rs (List CA)} {pos p apos : Pos} {k n : Nat} {x : Str} {mu : Option Nat} {md : List D → Fo} {dcs : List D}
theorem snd_call {K : PySem.W.Frag} {dvs : List V} (hd : ∀ F, Reps K kap F dvs dcs) (ha : Snd K kap xi (RlC K kap) ta ea) : Snd K kap xi (RlE K kap) (fun W => tCallSD (spD K kap n mu md) dvs (WE W) (ta W)) (wCall n mu md dcs ea) := by
  intro W F H sg de O Q R hp
  refine ha.bind R hp fun vs cs F1 H1 de1 O1 R1 g1 A _ hp => ?_
  exact call_C hd R1 A hp
theorem snd_callF {K : PySem.W.Frag} {dvs : List V} (hd : ∀ F, Reps K kap F dvs dcs) (ha : Snd K kap xi (RlC K kap) ta ea) : Snd K kap xi (RlF K kap) (fun W => tCallSD (spD K kap n mu md) dvs (WE W) (ta W)) (wCallF n mu md dcs ea) := by
  intro W F H sg de O Q R hp
  refine ha.bind R hp fun vs cs F1 H1 de1 O1 R1 g1 A _ hp => ?_
  exact call_CF hd R1 A hp
theorem jCall (g : DG X.prog X.w X.K X.mg X.base kap k n mu md dcs) (hm : X.mg x = some (.ref g.f)) (hr : RoomG k X.A) (tk : Takes X W) (ha : JC kap xi X W (e :: es) ta ea) (hg : Gl X x := by rfl) (hdb : (x == ("__debug__" : Str)) = false := by decide)
    (he : starEach (e :: es) X.env = (false, eval e X.env) :: starEach es X.env := by rfl) (hpl : (backTo pos (starEach es X.env)).any (·.1) = false := by rfl) :
    JE kap xi X W (.Call (.Name x p) (e :: es) [] pos) (fun W => tCallSD (spD X.K kap n mu md) g.dvs (WE W) (ta W)) (wCall n mu md dcs ea) :=
  ⟨pe_callG g.ok hr hg hm g.kp g.bi g.vs (fun s => passAt tk s) ha.p hdb he hpl, snd_call g.rs ha.s⟩
theorem jCallF (g : DG X.prog X.w X.K X.mg X.base kap k n mu md dcs) (hm : X.mg x = some (.ref g.f)) (hr : RoomG k X.A) (tk : Takes X W) (ha : JC kap xi X W (e :: es) ta ea) (hg : Gl X x := by rfl) (hdb : (x == ("__debug__" : Str)) = false := by decide)
    (he : starEach (e :: es) X.env = (false, eval e X.env) :: starEach es X.env := by rfl) (hpl : (backTo pos (starEach es X.env)).any (·.1) = false := by rfl) :
    JF kap xi X W (.Call (.Name x p) (e :: es) [] pos) (fun W => tCallSD (spD X.K kap n mu md) g.dvs (WE W) (ta W)) (wCallF n mu md dcs ea) :=
  ⟨pe_callG g.ok hr hg hm g.kp g.bi g.vs (fun s => passAt tk s) ha.p hdb he hpl, snd_callF g.rs ha.s⟩
/-- f() -/
theorem jCall0 (g : DG X.prog X.w X.K X.mg X.base kap k n mu md dcs) (hm : X.mg x = some (.ref g.f)) (hr : RoomG k X.A) (tk : Takes X W) (hg : Gl X x := by rfl) (hdb : (x == ("__debug__" : Str)) = false := by decide) :
    JE kap xi X W (.Call (.Name x p) [] [] pos) (fun W => tCallSD (spD X.K kap n mu md) g.dvs (WE W) tNil) (wCall n mu md dcs cNil) :=
  ⟨⟨fun pins s sg H Q I h => wpAny_Call_Name_kw (ld_glob I hg hm (PySem.W.callWith_K0 I.kIn g.kp (run_fnG (us := []) g.ok hr g.bi g.vs (passAt tk sg) I .nil h)) hdb)⟩, snd_call g.rs (jcNil (kap := kap) (X := X) (W := W)).s⟩

/-! ### methods: the receiver is the first argument -/
def isOb (c : Nat) (nm : Str) : D → Bool
  | .obj c' fs => c' == c && (fs.lookup nm).isNone
  | _ => false
def wMeth (c : Nat) (nm : Str) (n : Nat) (mu : Option Nat) (m : List D → Fo) (dcs : List D) (ev : DEnv → Rs D) (ea : DEnv → Rs (List CA)) (de : DEnv) : Rs D :=
  (ev de).bind fun d de1 => if isOb c nm d = true then (ea de1).bind fun cs de2 => callC n mu m dcs (.v d :: cs) de2 else .bad
def wMethF (c : Nat) (nm : Str) (n : Nat) (mu : Option Nat) (m : List D → Fo) (dcs : List D) (ev : DEnv → Rs D) (ea : DEnv → Rs (List CA)) (de : DEnv) : Rs D :=
  (ev de).bind fun d de1 => if isOb c nm d = true then (ea de1).bind fun cs de2 => callCF n mu m dcs (.v d :: cs) de2 else .bad
def wMethS (c : Nat) (nm : Str) (n : Nat) (mu : Option Nat) (m : List D → Fo) (dcs : List D) (i : Nat) (ea : DEnv → Rs (List CA)) (de : DEnv) : Rs D :=
  if ((slotAt i de).map (isOb c nm)).getD false = true then (ea de).bind fun cs de2 => callC n mu m dcs (.s i :: cs) de2 else .bad
def wMethSF (c : Nat) (nm : Str) (n : Nat) (mu : Option Nat) (m : List D → Fo) (dcs : List D) (i : Nat) (ea : DEnv → Rs (List CA)) (de : DEnv) : Rs D :=
  if ((slotAt i de).map (isOb c nm)).getD false = true then (ea de).bind fun cs de2 => callCF n mu m dcs (.s i :: cs) de2 else .bad
def tMethSD (C : Addr) (m : Str) (sp : Sp) (dvs : List V) (E : St → XK) (ta : TE) (t : TA) : TE := fun sg H Q => ta sg H fun x H1 => ∃ a dx fs, x = .ref a ∧ H1 a = some (.ins C dx fs) ∧ fs.lookup m = none ∧
  t sg H1 fun vs H2 => sp (x :: (vs ++ dvs)) H2 Q (E sg)
theorem pe_methSD {pl : Sem Bool} {C f : Addr} {fd : FuncData} {ps : List Str} {ds : List Value} {dvs : List V} {sp : Sp} {CX : CXT} {m : Str} {E : St → XK} {te : TE} {t : TA} (he : PE X o te) (c : Cls X.K C) (hm : Meth X.K C m f) (F : FnG X.prog X.w X.K X.mg X.base CX k f fd ps sp) (hr : RoomG k X.A) (hb : Binds X.K fd ps ds) (hd : Vals dvs ds) (hx : ∀ s, PassesAt CX X s (E s)) (ha : PA X (e :: es) t)
    (hst : starEach (e :: es) X.env = (false, eval e X.env) :: starEach es X.env := by rfl) (hpl : (backTo pos (starEach es X.env)).any (·.1) = false := by rfl)
    (ht : eval (.Call (.Attribute o m apos) (e :: es) [] pos) X.env = (do
      let ov ← eval o X.env
      standAt apos.atName
      let (f, first) ← holding [ov] (getMethod ov m pl)
      callWith pos f first (backTo pos (starEach (e :: es) X.env)) (backToKw pos (keywordEach [] X.env))) := by rfl) :
    PE X (.Call (.Attribute o m apos) (e :: es) [] pos) (tMethSD C m sp dvs E te t) := by
  refine ⟨fun pins s sg H Q I h => ?_⟩
  refine PySem.W.methodCall_KW (pl := pl) (thn (he.run pins s sg H _ I h) fun u s1 ⟨x, H1, I1, rx, a, dx, fs, ex, ea, l, q⟩ => ?_) ht
  subst ex
  obtain rfl : u = Value.ref a := rx
  refine getmeth_ok I1 ea c hm l ?_
  refine PySem.W.callWith_K (first := [.ref a]) (h₀ := X.base) I.ok.mod.kin hm.kp (thn (ha.run pos pins s1 sg H1 _ I1 q) fun us s2 ⟨vs, H2, I2, r, q2⟩ => ⟨I2.kIn, ?_⟩) hst hpl
  exact run_fnG (us := .ref a :: us) (vs := .ref a :: vs) F hr hb hd (hx sg) I2 (.cons rfl r) q2
theorem pe_methSD0 {pl : Sem Bool} {C f : Addr} {fd : FuncData} {ps : List Str} {ds : List Value} {dvs : List V} {sp : Sp} {CX : CXT} {m : Str} {E : St → XK} {te : TE} (he : PE X o te) (c : Cls X.K C) (hm : Meth X.K C m f) (F : FnG X.prog X.w X.K X.mg X.base CX k f fd ps sp) (hr : RoomG k X.A) (hb : Binds X.K fd ps ds) (hd : Vals dvs ds) (hx : ∀ s, PassesAt CX X s (E s))
    (ht : eval (.Call (.Attribute o m apos) [] [] pos) X.env = (do
      let ov ← eval o X.env
      standAt apos.atName
      let (f, first) ← holding [ov] (getMethod ov m pl)
      callWith pos f first (backTo pos (starEach [] X.env)) (backToKw pos (keywordEach [] X.env))) := by rfl) :
    PE X (.Call (.Attribute o m apos) [] [] pos) (tMethSD C m sp dvs E te tNil) := by
  refine ⟨fun pins s sg H Q I h => ?_⟩
  refine PySem.W.methodCall_KW (pl := pl) (thn (he.run pins s sg H _ I h) fun u s1 ⟨x, H1, I1, rx, a, dx, fs, ex, ea, l, q⟩ => ?_) ht
  subst ex
  obtain rfl : u = Value.ref a := rx
  refine getmeth_ok I1 ea c hm l ?_
  refine PySem.W.callWith_K0 (first := [.ref a]) I1.kIn hm.kp ?_
  exact run_fnG (us := [.ref a]) (vs := [.ref a]) F hr hb hd (hx sg) I1 (.cons rfl .nil) q
theorem isOb_of {c : Nat} {nm : Str} {d : D} (h : isOb c nm d = true) : ∃ fs, d = .obj c fs ∧ fs.lookup nm = none := by
  cases d with
  | obj c' fs =>
    unfold isOb at h
    rw [Bool.and_eq_true] at h
    exact ⟨fs, by rw [beq_iff_eq.mp h.1], by simpa using h.2⟩
  | _ => cases h
theorem snd_meth (c : Nat) (nm : Str) {K : PySem.W.Frag} {dvs : List V} (hd : ∀ F, Reps K kap F dvs dcs) (hv : Snd K kap xi (RlE K kap) t ev) (ha : Snd K kap xi (RlC K kap) ta ea) :
    Snd K kap xi (RlE K kap) (fun W => tMethSD (kap c) nm (spD K kap n mu md) dvs (WE W) (t W) (ta W)) (wMeth c nm n mu md dcs ev ea) := by
  intro W F H sg de O Q R hp
  refine hv.bind R hp fun v d F1 H1 de1 O1 R1 g1 r _ hp => ?_
  split at hp
  · rename_i hob
    obtain ⟨fs, rfl, hl⟩ := isOb_of hob
    obtain ⟨a, dx, vs, rfl, h1, n1, r1⟩ := RB.obj R1.sub (.inl r)
    refine ⟨a, dx, vs, rfl, h1, field_none n1 hl, ?_⟩
    refine ha.bind R1 hp fun vs cs F2 H2 de2 O2 R2 g2 A _ hp => ?_
    exact call_C (vs := .ref a :: vs) hd R2 (.v (Rep.mono g2.ex r) A) hp
  · exact hp.elim
theorem snd_methF (c : Nat) (nm : Str) {K : PySem.W.Frag} {dvs : List V} (hd : ∀ F, Reps K kap F dvs dcs) (hv : Snd K kap xi (RlE K kap) t ev) (ha : Snd K kap xi (RlC K kap) ta ea) :
    Snd K kap xi (RlF K kap) (fun W => tMethSD (kap c) nm (spD K kap n mu md) dvs (WE W) (t W) (ta W)) (wMethF c nm n mu md dcs ev ea) := by
  intro W F H sg de O Q R hp
  refine hv.bind R hp fun v d F1 H1 de1 O1 R1 g1 r _ hp => ?_
  split at hp
  · rename_i hob
    obtain ⟨fs, rfl, hl⟩ := isOb_of hob
    obtain ⟨a, dx, vs, rfl, h1, n1, r1⟩ := RB.obj R1.sub (.inl r)
    refine ⟨a, dx, vs, rfl, h1, field_none n1 hl, ?_⟩
    refine ha.bind R1 hp fun vs cs F2 H2 de2 O2 R2 g2 A _ hp => ?_
    exact call_CF (vs := .ref a :: vs) hd R2 (.v (Rep.mono g2.ex r) A) hp
  · exact hp.elim
theorem snd_methS (c : Nat) (nm : Str) (i : Nat) {K : PySem.W.Frag} {dvs : List V} (hd : ∀ F, Reps K kap F dvs dcs) (ha : Snd K kap xi (RlC K kap) ta ea) :
    Snd K kap xi (RlE K kap) (fun W => tMethSD (kap c) nm (spD K kap n mu md) dvs (WE W) (tVar i) (ta W)) (wMethS c nm n mu md dcs i ea) := by
  intro W F H sg de O Q R hp
  unfold wMethS at hp
  split at hp
  · rename_i hob
    cases e0 : slotAt i de with
    | none => rw [e0] at hob; cases hob
    | some d0 =>
      rw [e0] at hob
      obtain ⟨u, hu, ru⟩ := R.rb e0
      obtain ⟨fs, rfl, hl⟩ := isOb_of hob
      obtain ⟨a, dx, vs, rfl, h1, n1, r1⟩ := ru.obj R.sub
      refine ⟨_, hu, a, dx, vs, rfl, h1, field_none n1 hl, ?_⟩
      refine ha.bind R hp fun vs cs F2 H2 de2 O2 R2 g2 A _ hp => ?_
      exact call_C (vs := .ref a :: vs) hd R2 (.s hu A) hp
  · exact hp.elim
theorem jMeth (c : Nat) {nm : Str} (g : DG X.prog X.w X.K X.mg X.base kap k n mu md dcs) (hc : Cls X.K (kap c)) (hm : Meth X.K (kap c) nm g.f) (hr : RoomG k X.A) (tk : Takes X W) (ho : JE kap xi X W o t ev) (ha : JC kap xi X W (e :: es) ta ea)
    {pl : Sem Bool} (hst : starEach (e :: es) X.env = (false, eval e X.env) :: starEach es X.env := by rfl) (hpl : (backTo pos (starEach es X.env)).any (·.1) = false := by rfl)
    (ht : eval (.Call (.Attribute o nm apos) (e :: es) [] pos) X.env = (do
      let ov ← eval o X.env
      standAt apos.atName
      let (f, first) ← holding [ov] (getMethod ov nm pl)
      callWith pos f first (backTo pos (starEach (e :: es) X.env)) (backToKw pos (keywordEach [] X.env))) := by rfl) :
    JE kap xi X W (.Call (.Attribute o nm apos) (e :: es) [] pos) (fun W => tMethSD (kap c) nm (spD X.K kap n mu md) g.dvs (WE W) (t W) (ta W)) (wMeth c nm n mu md dcs ev ea) :=
  ⟨pe_methSD ho.p hc hm g.ok hr g.bi g.vs (fun s => passAt tk s) ha.p hst hpl ht, snd_meth c nm g.rs ho.s ha.s⟩
theorem jMeth0 (c : Nat) {nm : Str} (g : DG X.prog X.w X.K X.mg X.base kap k n mu md dcs) (hc : Cls X.K (kap c)) (hm : Meth X.K (kap c) nm g.f) (hr : RoomG k X.A) (tk : Takes X W) (ho : JE kap xi X W o t ev)
    {pl : Sem Bool} (ht : eval (.Call (.Attribute o nm apos) [] [] pos) X.env = (do
      let ov ← eval o X.env
      standAt apos.atName
      let (f, first) ← holding [ov] (getMethod ov nm pl)
      callWith pos f first (backTo pos (starEach [] X.env)) (backToKw pos (keywordEach [] X.env))) := by rfl) :
    JE kap xi X W (.Call (.Attribute o nm apos) [] [] pos) (fun W => tMethSD (kap c) nm (spD X.K kap n mu md) g.dvs (WE W) (t W) tNil) (wMeth c nm n mu md dcs ev cNil) :=
  ⟨pe_methSD0 ho.p hc hm g.ok hr g.bi g.vs (fun s => passAt tk s) ht, snd_meth c nm g.rs ho.s (jcNil (kap := kap) (X := X) (W := W)).s⟩
theorem jMethF (c : Nat) {nm : Str} (g : DG X.prog X.w X.K X.mg X.base kap k n mu md dcs) (hc : Cls X.K (kap c)) (hm : Meth X.K (kap c) nm g.f) (hr : RoomG k X.A) (tk : Takes X W) (ho : JE kap xi X W o t ev) (ha : JC kap xi X W (e :: es) ta ea)
    {pl : Sem Bool} (hst : starEach (e :: es) X.env = (false, eval e X.env) :: starEach es X.env := by rfl) (hpl : (backTo pos (starEach es X.env)).any (·.1) = false := by rfl)
    (ht : eval (.Call (.Attribute o nm apos) (e :: es) [] pos) X.env = (do
      let ov ← eval o X.env
      standAt apos.atName
      let (f, first) ← holding [ov] (getMethod ov nm pl)
      callWith pos f first (backTo pos (starEach (e :: es) X.env)) (backToKw pos (keywordEach [] X.env))) := by rfl) :
    JF kap xi X W (.Call (.Attribute o nm apos) (e :: es) [] pos) (fun W => tMethSD (kap c) nm (spD X.K kap n mu md) g.dvs (WE W) (t W) (ta W)) (wMethF c nm n mu md dcs ev ea) :=
  ⟨pe_methSD ho.p hc hm g.ok hr g.bi g.vs (fun s => passAt tk s) ha.p hst hpl ht, snd_methF c nm g.rs ho.s ha.s⟩
theorem jMethF0 (c : Nat) {nm : Str} (g : DG X.prog X.w X.K X.mg X.base kap k n mu md dcs) (hc : Cls X.K (kap c)) (hm : Meth X.K (kap c) nm g.f) (hr : RoomG k X.A) (tk : Takes X W) (ho : JE kap xi X W o t ev)
    {pl : Sem Bool} (ht : eval (.Call (.Attribute o nm apos) [] [] pos) X.env = (do
      let ov ← eval o X.env
      standAt apos.atName
      let (f, first) ← holding [ov] (getMethod ov nm pl)
      callWith pos f first (backTo pos (starEach [] X.env)) (backToKw pos (keywordEach [] X.env))) := by rfl) :
    JF kap xi X W (.Call (.Attribute o nm apos) [] [] pos) (fun W => tMethSD (kap c) nm (spD X.K kap n mu md) g.dvs (WE W) (t W) tNil) (wMethF c nm n mu md dcs ev cNil) :=
  ⟨pe_methSD0 ho.p hc hm g.ok hr g.bi g.vs (fun s => passAt tk s) ht, snd_methF c nm g.rs ho.s (jcNil (kap := kap) (X := X) (W := W)).s⟩
theorem jMethS (c : Nat) (i : Nat) {x nm : Str} {xp : Pos} (g : DG X.prog X.w X.K X.mg X.base kap k n mu md dcs) (hc : Cls X.K (kap c)) (hm : Meth X.K (kap c) nm g.f) (hr : RoomG k X.A) (tk : Takes X W) (ha : JC kap xi X W (e :: es) ta ea)
    (hN : X.N[i]? = some x := by rfl) (hv : Vis X.env.scope x := by first | exact Or.inl rfl | exact Or.inr (Or.inl rfl) | exact Or.inr (Or.inr rfl)) (hd : (x == ("__debug__" : Str)) = false := by decide) (hcd : (x == ("__classdict__" : Str)) = false := by decide)
    {pl : Sem Bool} (hst : starEach (e :: es) X.env = (false, eval e X.env) :: starEach es X.env := by rfl) (hpl : (backTo pos (starEach es X.env)).any (·.1) = false := by rfl)
    (ht : eval (.Call (.Attribute (.Name x xp) nm apos) (e :: es) [] pos) X.env = (do
      let ov ← eval (.Name x xp) X.env
      standAt apos.atName
      let (f, first) ← holding [ov] (getMethod ov nm pl)
      callWith pos f first (backTo pos (starEach (e :: es) X.env)) (backToKw pos (keywordEach [] X.env))) := by rfl) :
    JE kap xi X W (.Call (.Attribute (.Name x xp) nm apos) (e :: es) [] pos) (fun W => tMethSD (kap c) nm (spD X.K kap n mu md) g.dvs (WE W) (tVar i) (ta W)) (wMethS c nm n mu md dcs i ea) :=
  ⟨pe_methSD (pe_var hN hv hd hcd) hc hm g.ok hr g.bi g.vs (fun s => passAt tk s) ha.p hst hpl ht, snd_methS c nm i g.rs ha.s⟩
theorem jMethS0 (c : Nat) (i : Nat) {x nm : Str} {xp : Pos} (g : DG X.prog X.w X.K X.mg X.base kap k n mu md dcs) (hc : Cls X.K (kap c)) (hm : Meth X.K (kap c) nm g.f) (hr : RoomG k X.A) (tk : Takes X W)
    (hN : X.N[i]? = some x := by rfl) (hv : Vis X.env.scope x := by first | exact Or.inl rfl | exact Or.inr (Or.inl rfl) | exact Or.inr (Or.inr rfl)) (hd : (x == ("__debug__" : Str)) = false := by decide) (hcd : (x == ("__classdict__" : Str)) = false := by decide)
    {pl : Sem Bool} (ht : eval (.Call (.Attribute (.Name x xp) nm apos) [] [] pos) X.env = (do
      let ov ← eval (.Name x xp) X.env
      standAt apos.atName
      let (f, first) ← holding [ov] (getMethod ov nm pl)
      callWith pos f first (backTo pos (starEach [] X.env)) (backToKw pos (keywordEach [] X.env))) := by rfl) :
    JE kap xi X W (.Call (.Attribute (.Name x xp) nm apos) [] [] pos) (fun W => tMethSD (kap c) nm (spD X.K kap n mu md) g.dvs (WE W) (tVar i) tNil) (wMethS c nm n mu md dcs i cNil) :=
  ⟨pe_methSD0 (pe_var hN hv hd hcd) hc hm g.ok hr g.bi g.vs (fun s => passAt tk s) ht, snd_methS c nm i g.rs (jcNil (kap := kap) (X := X) (W := W)).s⟩

/-! ### C(e, ..): __init__ fills a new instance -/
/-- args, then __init__ on the empty instance -/
def makeC (c n : Nat) (m : List D → Fo) (ds : List D) (de : DEnv) : Rs D := if ds.length + 1 = n then (match m (.obj c [] :: ds) with
  | .ret .non (some d) => .ok d de
  | .ex c' fs (some _) => .ex c' fs de
  | _ => .bad) else .bad
def wMake (c n : Nat) (m : List D → Fo) (dcs : List D) (ea : DEnv → Rs (List D)) (de : DEnv) : Rs D := (ea de).bind fun ds de1 => makeC c n m (ds ++ dcs) de1
def tMakeSD (C : Addr) (sp : Sp) (dvs : List V) (E : St → XK) (t : TA) : TE := fun sg H Q => t sg H fun vs H1 => ∀ x dx, H1 x = none → H1 dx = none → dx ≠ x →
  sp (.ref x :: (vs ++ dvs)) (upd (upd H1 dx (.own x)) x (.ins C dx [])) (fun v H2 => v = .non ∧ Q (.ref x) H2) (E sg)
theorem run_makeSD {C f : Addr} {fd : FuncData} {ps : List Str} {ds : List Value} {dvs : List V} {sp : Sp} {CX : CXT} {E : St → XK} {pins : List (Addr × Obj)} {sg : St} {H : Hp} {s : Shared} {Q : VK} {us : List Value} {vs : List V} (M : Mk X.K C f) (F : FnG X.prog X.w X.K X.mg X.base CX k f fd ps sp) (hr : RoomG (k + 1) X.A) (hb : Binds X.K fd ps ds) (hd : Vals dvs ds)
    (hx : PassesAt CX X sg (E sg)) (I : Inv X pins sg H s) (r : Vals vs us)
    (h : ∀ x dx, H x = none → H dx = none → dx ≠ x → sp (.ref x :: (vs ++ dvs)) (upd (upd H dx (.own x)) x (.ins C dx [])) (fun v H2 => v = .non ∧ Q (.ref x) H2) (E sg)) :
    wpAny (model X.prog X.w) X.A (call (.ref C) us) (EP X pins sg Q) X.xe s := by
  have hq := h (s.heap.objs.size + 1) s.heap.objs.size (I.hok.fresh (Nat.le_succ _)) (I.hok.fresh (Nat.le_refl _)) (Nat.ne_of_lt (Nat.lt_succ_self _))
  have I2 := Inv.made (C := C) I
  have r2 : Vals (V.ref (s.heap.objs.size + 1) :: (vs ++ dvs)) (Value.ref (s.heap.objs.size + 1) :: (us ++ ds)) := .cons rfl (r.append hd)
  have hl : (Value.ref (s.heap.objs.size + 1) :: us ++ ds).length = ps.length := by
    have e := r2.length
    rw [F.len _ _ _ _ hq] at e
    exact e.symm
  refine wpAny_call (make_map (f := f) I.kIn M.makes M.init (beq_iff_eq.mp M.fn) (codeAny_mono (F.run _ X.stack _ _ ⟨Value.ref (s.heap.objs.size + 1) :: us, []⟩ (Value.ref (s.heap.objs.size + 1) :: (us ++ ds)) _ _ (E sg) (hr.make C us [])
    (I2.env0.make C us []) (hb _ (Value.ref (s.heap.objs.size + 1) :: us) I2.kIn hl) r2 hq) fun r s' hq' => ?_))
  cases r with
  | error e => exact hx pins _ _ e s' I2 hq'
  | ok fl =>
    cases fl with
    | ret u =>
      obtain ⟨v, H', I3, rv, ev, q3⟩ := I2.after hq'
      subst ev
      exact ⟨rv, ⟨V.ref (s.heap.objs.size + 1), H', I3, rfl, q3⟩⟩
    | next => exact False.elim hq'
    | brk => exact False.elim hq'
    | cont => exact False.elim hq'
theorem pe_makeSD {C f : Addr} {fd : FuncData} {ps : List Str} {ds : List Value} {dvs : List V} {sp : Sp} {CX : CXT} {E : St → XK} {t : TA} (M : Mk X.K C f) (F : FnG X.prog X.w X.K X.mg X.base CX k f fd ps sp) (hr : RoomG (k + 1) X.A) (hg : Gl X x) (hm : X.mg x = some (.ref C)) (hb : Binds X.K fd ps ds) (hd : Vals dvs ds) (hx : ∀ s, PassesAt CX X s (E s))
    (ha : PA X (e :: es) t) (hdb : (x == ("__debug__" : Str)) = false := by decide) (he : starEach (e :: es) X.env = (false, eval e X.env) :: starEach es X.env := by rfl) (hpl : (backTo pos (starEach es X.env)).any (·.1) = false := by rfl) :
    PE X (.Call (.Name x p) (e :: es) [] pos) (tMakeSD C sp dvs E t) := by
  refine ⟨fun pins s sg H Q I h => ?_⟩
  refine wpAny_Call_Name_kw (ld_glob I hg hm ?_ hdb)
  refine PySem.W.callWith_K (h₀ := X.base) I.ok.mod.kin M.kp (thn (ha.run pos pins s sg H _ I h) fun us s1 ⟨vs, H1, I1, r, q⟩ => ⟨I1.kIn, ?_⟩) he hpl
  exact run_makeSD M F hr hb hd (hx sg) I1 r q
theorem make_C {K : PySem.W.Frag} {xi : Xi} {F H : Hp} {sg : St} {de : DEnv} {O : Own?} {c : Nat} {vs : List V} {ds : List D} {Q : VK} (R : RS K kap xi F H sg de O) (r : Reps K kap F vs ds)
    (hp : PE1 K kap (RlF K kap) xi F H sg de O W Q (makeC c n md ds de)) (a dx : Addr) (ha : H a = none) (hdx : H dx = none) (hne : dx ≠ a) :
    spD K kap n (some 0) md (.ref a :: vs) (upd (upd H dx (.own a)) a (.ins (kap c) dx [])) (fun v H2 => v = .non ∧ Q (.ref a) H2) (WE W sg) := by
  unfold makeC at hp
  split at hp
  · rename_i hn
    have s1 : Same H (upd (upd H dx (.own a)) a (.ins (kap c) dx [])) := fun b o e => by rw [upd_ne (ne_of_none e ha), upd_ne (ne_of_none e hdx)]; exact e
    have fa : F a = none := R.sub.free ha
    refine ⟨F, .obj c [] :: ds, some a, by rw [List.length_cons]; exact hn, R.sub.trans s1, ⟨congrArg Nat.succ r.length, fun i d h hm => ?_, fun k d e h => ?_, fun _ => ⟨0, _, rfl, rfl⟩⟩, ?_⟩
    · cases i with
      | zero => exact absurd rfl hm
      | succ i =>
        obtain ⟨v, h1, h2⟩ := r.get (i := i) (by simpa using h)
        exact ⟨v, by simpa using h1, h2⟩
    · cases e
      simp at h
      subst h
      exact ⟨a, rfl, rfl, fa, dx, [], upd_same, rfl, .nil⟩
    · have back : ∀ {F' H' : Hp} {q : Option D}, FPost K kap F (upd (upd H dx (.own a)) a (.ins (kap c) dx [])) F' H' (some a) q → RS K kap xi F' H' sg de O ∧ Go F H de O F' H' de O := fun {F' H' q} f => by
        have hO : ∀ i p, O i = some p → H' p = H p ∧ F' p = none := fun i p e => by
          obtain ⟨s, d, g1, g2⟩ := R.onl i p e
          obtain ⟨p', k1, k2, k3, k4⟩ := R.ow i s d g1 g2
          rw [e] at k1
          cases k1
          obtain ⟨o, ho⟩ := k4.some
          have h2 := s1 p o ho
          have nz : some a ≠ some p := fun z => by cases z; rw [ha] at ho; cases ho
          refine ⟨by rw [f.keep p o h2 nz, ho], ?_⟩
          cases z : F' p with
          | none => rfl
          | some u =>
            rcases f.fnew p (by rw [z]; simp) with w | w
            · exact absurd k3 w
            · rw [h2] at w; cases w
        refine ⟨R.keepO f.ex f.sub hO, f.ex, fun b o e _ => f.keep b o (s1 b o e) (fun z => by cases z; rw [ha] at e; cases e), fun i b e => .inl ⟨i, e⟩, fun b e => ?_, fun b e => ?_, fun i d e => ⟨rfl, d, e⟩⟩
        · exact s1.free (f.dom b e)
        · exact (f.fnew b e).elim .inl fun z => .inr (.inl (s1.free z))
      cases eo : md (.obj c [] :: ds) with
      | ret d q =>
        rw [eo] at hp
        cases d with
        | non =>
          cases q with
          | some d' =>
            intro v F' H' f rv
            cases rv
            refine ⟨rfl, ?_⟩
            obtain ⟨R', g⟩ := back f
            obtain ⟨d2, e2, h1, h2⟩ := f.own a rfl
            cases e2
            exact hp (.ref a) F' H' O R' g ⟨a, rfl, h1, h2, R.nofresh ha⟩ fun _ z => by cases z; exact .inl ha
          | none => exact hp.elim
        | _ => exact hp.elim
      | ex c' fs q =>
        rw [eo] at hp
        cases q with
        | some d' =>
          intro F' H' d f h1
          obtain ⟨R', g⟩ := back f
          exact hp F' H' sg O d R' g h1
        | none => exact hp.elim
      | retF d q => rw [eo] at hp; exact hp.elim
      | bad => rw [eo] at hp; exact hp.elim
  · exact hp.elim
variable {tb : WX → TA} {eb : DEnv → Rs (List D)}
theorem jMake (c : Nat) {C : Addr} (hk : kap c = C) (g : DG X.prog X.w X.K X.mg X.base kap k n (some 0) md dcs) (M : Mk X.K C g.f) (hm : X.mg x = some (.ref C)) (hr : RoomG (k + 1) X.A) (tk : Takes X W) (ha : JA kap xi X W (e :: es) tb eb) (hg : Gl X x := by rfl) (hdb : (x == ("__debug__" : Str)) = false := by decide)
    (he : starEach (e :: es) X.env = (false, eval e X.env) :: starEach es X.env := by rfl) (hpl : (backTo pos (starEach es X.env)).any (·.1) = false := by rfl) :
    JF kap xi X W (.Call (.Name x p) (e :: es) [] pos) (fun W => tMakeSD C (spD X.K kap n (some 0) md) g.dvs (WE W) (tb W)) (wMake c n md dcs eb) :=
  ⟨pe_makeSD M g.ok hr hg hm g.bi g.vs (fun s => passAt tk s) ha.p hdb he hpl, by
    subst hk
    intro W F H sg de O Q R hp
    refine ha.s.bind R hp fun vs ds F1 H1 de1 O1 R1 g1 r _ hp => ?_
    intro a dx h1 h2 h3
    exact make_C R1 (Reps.append r (g.rs F1)) hp a dx h1 h2 h3⟩
end

/-! ### C(e, .., k = v, ..) -/
/-- ar: written values, defaults that fill up, keywords' values, in the parameters' order -/
def wMakeK (c n : Nat) (m : List D → Fo) (ar : List D → List D → List D) (ea ek : DEnv → Rs (List D)) (de : DEnv) : Rs D := (ea de).bind fun ds de1 => (ek de1).bind fun zs de2 => makeC c n m (ar ds zs) de2
structure JK (kap : Nat → Addr) (xi : Xi) (X : Cx) (W : WX) (kws : List Keyword) (t : WX → TA) (ev : DEnv → Rs (List D)) : Prop where
  p : PK X kws (t W)
  s : Snd X.K kap xi (RlA X.K kap) t ev
section
variable {kap : Nat → Addr} {xi : Xi} {X : Cx} {W : WX} {e : Expr} {es : List Expr} {kws : List Keyword} {t : WX → TE} {ta tk : WX → TA} {ev : DEnv → Rs D} {ea ek : DEnv → Rs (List D)} {pos p kpos : Pos} {nm : Option Str} {k n j : Nat} {x : Str} {md : List D → Fo} {ks : List Str}
theorem jkNil : JK kap xi X W [] (fun _ => tNil) vNil := ⟨pk_nil, (jaNil (kap := kap) (X := X) (W := W)).s⟩
theorem jkCons (h : JE kap xi X W e t ev) (hr : JK kap xi X W kws ta ea) : JK kap xi X W (⟨nm, e, kpos⟩ :: kws) (fun W => tCons (t W) (ta W)) (vCons ev ea) := ⟨pk_cons h.p hr.p, by
  intro W F H sg de O Q R hp
  refine h.s.bind R hp fun v f F1 H1 de1 O1 R1 g1 r _ hp => ?_
  refine hr.s.bind R1 hp fun vs fs F2 H2 de2 O2 R2 g2 rs _ hp => ?_
  exact hp.done R2 New.refl R2.sub (.cons (Rep.mono g2.ex r) rs)⟩
/-- an __init__ as it is called with j values and the keywords ks -/
structure DK (P : Program) (w : World) (K : PySem.W.Frag) (mg : Str → Option Value) (base : Heap) (kap : Nat → Addr) (k n j : Nat) (ks : List Str) (md : List D → Fo) (ar : List D → List D → List D) where
  f : Addr
  fd : FuncData
  ps : List Str
  g : List Value → List Value → List Value
  gV : List V → List V → List V
  ok : FnG P w K mg base (L2.CX P w) k f fd ps (spD K kap n (some 0) md)
  kb : KBn K fd ps (j + 1) ks g gV
  ar : ∀ x (vs zs : List V), vs.length = j → zs.length = ks.length → ∃ ws, gV (.ref x :: vs) zs = .ref x :: ws ∧ ∀ F ds fs, Reps K kap F vs ds → Reps K kap F zs fs → Reps K kap F ws (ar ds fs)
def tMakeKSD (C : Addr) (n m : Nat) (sp : Sp) (gV : List V → List V → List V) (E : St → XK) (t tk : TA) : TE := fun sg H Q => t sg H fun vs H1 => tk sg H1 fun zs H2 => vs.length = n ∧ zs.length = m ∧ ∀ x dx, H2 x = none → H2 dx = none → dx ≠ x →
  sp (gV (.ref x :: vs) zs) (upd (upd H2 dx (.own x)) x (.ins C dx [])) (fun v H3 => v = .non ∧ Q (.ref x) H3) (E sg)
theorem run_makeKSD {C f : Addr} {fd : FuncData} {ps : List Str} {g : List Value → List Value → List Value} {gV : List V → List V → List V} {sp : Sp} {CX : CXT} {E : St → XK} {pins : List (Addr × Obj)} {sg : St} {H : Hp} {s : Shared} {Q : VK} {us ws : List Value} {vs zs : List V} (M : Mk X.K C f) (F : FnG X.prog X.w X.K X.mg X.base CX k f fd ps sp) (hr : RoomG (k + 1) X.A) (hb : KBn X.K fd ps (n + 1) ks g gV) (hx : PassesAt CX X sg (E sg))
    (I : Inv X pins sg H s) (r : Vals vs us) (rz : Vals zs ws) (l1 : vs.length = n) (l2 : zs.length = ks.length)
    (h : ∀ x dx, H x = none → H dx = none → dx ≠ x → sp (gV (.ref x :: vs) zs) (upd (upd H dx (.own x)) x (.ins C dx [])) (fun v H2 => v = .non ∧ Q (.ref x) H2) (E sg)) :
    wpAny (model X.prog X.w) X.A (call (.ref C) us (ks.zip ws)) (EP X pins sg Q) X.xe s := by
  have hq := h (s.heap.objs.size + 1) s.heap.objs.size (I.hok.fresh (Nat.le_succ _)) (I.hok.fresh (Nat.le_refl _)) (Nat.ne_of_lt (Nat.lt_succ_self _))
  have I2 := Inv.made (C := C) I
  have r1 : Vals (V.ref (s.heap.objs.size + 1) :: vs) (Value.ref (s.heap.objs.size + 1) :: us) := .cons rfl r
  have r2 := hb.rel r1 rz
  have n1 : (Value.ref (s.heap.objs.size + 1) :: us).length = n + 1 := by
    rw [List.length_cons, ← r.length, l1]
  refine wpAny_call (make_map (f := f) I.kIn M.makes M.init (beq_iff_eq.mp M.fn) (codeAny_mono (F.run _ X.stack _ _ ⟨Value.ref (s.heap.objs.size + 1) :: us, ks.zip ws⟩ (g (Value.ref (s.heap.objs.size + 1) :: us) ws) _ _ (E sg) (hr.make C us (ks.zip ws))
    (I2.env0.make C us (ks.zip ws)) (hb.to _ (Value.ref (s.heap.objs.size + 1) :: us) ws I2.kIn n1 (rz.length.symm.trans l2)) r2 hq) fun r s' hq' => ?_))
  cases r with
  | error e => exact hx pins _ _ e s' I2 hq'
  | ok fl =>
    cases fl with
    | ret u =>
      obtain ⟨v, H', I3, rv, ev, q3⟩ := I2.after hq'
      subst ev
      exact ⟨rv, ⟨V.ref (s.heap.objs.size + 1), H', I3, rfl, q3⟩⟩
    | next => exact False.elim hq'
    | brk => exact False.elim hq'
    | cont => exact False.elim hq'
theorem snd_makeK {ar : List D → List D → List D} (c : Nat) {K : PySem.W.Frag} {gV : List V → List V → List V} (har : ∀ x (vs zs : List V), vs.length = j → zs.length = ks.length → ∃ ws, gV (.ref x :: vs) zs = .ref x :: ws ∧ ∀ F ds fs, Reps K kap F vs ds → Reps K kap F zs fs → Reps K kap F ws (ar ds fs))
    (hj : ∀ de ds de', ea de = .ok ds de' → ds.length = j) (hz : ∀ de ds de', ek de = .ok ds de' → ds.length = ks.length) (ha : Snd K kap xi (RlA K kap) ta ea) (hk : Snd K kap xi (RlA K kap) tk ek) :
    Snd K kap xi (RlF K kap) (fun W => tMakeKSD (kap c) j ks.length (spD K kap n (some 0) md) gV (WE W) (ta W) (tk W)) (wMakeK c n md ar ea ek) := by
  intro W F H sg de O Q R hp
  unfold wMakeK at hp
  cases e1 : ea de with
  | ok ds0 de0 =>
    have l0 := hj _ _ _ e1
    refine ha W F H sg de O _ R ?_
    rw [e1] at hp ⊢
    intro vs F1 H1 O1 R1 g1 r _
    have hp := PE1.shift g1 hp
    have hp : PE1 K kap (RlF K kap) xi F1 H1 sg de0 O1 W Q ((ek de0).bind fun zs de2 => makeC c n md (ar ds0 zs) de2) := hp
    refine hk W F1 H1 sg de0 O1 _ R1 ?_
    cases e2 : ek de0 with
    | ok zs0 de2 =>
      have l2 := hz _ _ _ e2
      rw [e2] at hp
      intro zs F2 H2 O2 R2 g2 r2 _
      have hp := PE1.shift g2 hp
      have ll : vs.length = j := (Reps.length r).trans l0
      have lz : zs.length = ks.length := (Reps.length r2).trans l2
      refine ⟨ll, lz, fun a dx h1 h2 h3 => ?_⟩
      obtain ⟨ws, ew, hw⟩ := har a vs zs ll lz
      rw [ew]
      exact make_C R2 (hw F2 ds0 zs0 (Reps.mono g2.ex r) r2) hp a dx h1 h2 h3
    | ex c' fs de2 => rw [e2] at hp; exact hp
    | bad => rw [e2] at hp; exact hp
  | ex c' fs de0 =>
    refine ha W F H sg de O _ R ?_
    rw [e1] at hp ⊢
    exact hp
  | bad => rw [e1] at hp; exact hp.elim
theorem jMakeK (c : Nat) {C : Addr} {ar : List D → List D → List D} (hkc : kap c = C) (g : DK X.prog X.w X.K X.mg X.base kap k n j ks md ar) (M : Mk X.K C g.f) (hm : X.mg x = some (.ref C)) (hr : RoomG (k + 1) X.A) (tkx : Takes X W) (ha : JA kap xi X W (e :: es) ta ea) (hk : JK kap xi X W kws tk ek)
    (hj : ∀ de ds de', ea de = .ok ds de' → ds.length = j) (hz : ∀ de ds de', ek de = .ok ds de' → ds.length = ks.length)
    (hg : Gl X x := by rfl) (hall : (backToKw pos (keywordEach kws X.env)).all (·.1.isSome) = true := by rfl) (hks : (backToKw pos (keywordEach kws X.env)).filterMap (·.1) = ks := by rfl) (hdb : (x == ("__debug__" : Str)) = false := by decide)
    (he : starEach (e :: es) X.env = (false, eval e X.env) :: starEach es X.env := by rfl) (hpl : ((backTo pos (starEach (e :: es) X.env)).any (·.1) || (backToKw pos (keywordEach kws X.env)).any (·.1.isNone)) = false := by rfl) :
    JF kap xi X W (.Call (.Name x p) (e :: es) kws pos) (fun W => tMakeKSD C j ks.length (spD X.K kap n (some 0) md) g.gV (WE W) (ta W) (tk W)) (wMakeK c n md ar ea ek) := by
  subst hkc
  refine ⟨⟨fun pins s sg H Q I h => ?_⟩, snd_makeK c g.ar hj hz ha.s hk.s⟩
  refine wpAny_Call_Name_kw (ld_glob I hg hm ?_ hdb)
  refine PySem.W.callWith_KW (h₀ := X.base) I.ok.mod.kin M.kp hall (thn (ha.p.run pos pins s sg H _ I h) fun us s1 ⟨vs, H1, I1, r, q⟩ => ?_) hpl he
  refine thn (hk.p.run pos pins s1 sg H1 _ I1 q) fun ws s2 ⟨zs, H2, I2, rz, l1, l2, q2⟩ => ⟨I2.kIn, ?_⟩
  rw [hks]
  exact run_makeKSD M g.ok hr g.kb (passAt tkx sg) I2 r rz l1 l2 q2
theorem jMakeK0 (c : Nat) {C : Addr} {ar : List D → List D → List D} (hkc : kap c = C) (g : DK X.prog X.w X.K X.mg X.base kap k n 0 ks md ar) (M : Mk X.K C g.f) (hm : X.mg x = some (.ref C)) (hr : RoomG (k + 1) X.A) (tkx : Takes X W) (hk : JK kap xi X W kws tk ek)
    (hz : ∀ de ds de', ek de = .ok ds de' → ds.length = ks.length)
    (hg : Gl X x := by rfl) (hall : (backToKw pos (keywordEach kws X.env)).all (·.1.isSome) = true := by rfl) (hks : (backToKw pos (keywordEach kws X.env)).filterMap (·.1) = ks := by rfl) (hdb : (x == ("__debug__" : Str)) = false := by decide)
    (hpl : ((backTo pos (starEach [] X.env)).any (·.1) || (backToKw pos (keywordEach kws X.env)).any (·.1.isNone)) = false := by rfl) :
    JF kap xi X W (.Call (.Name x p) [] kws pos) (fun W => tMakeKSD C 0 ks.length (spD X.K kap n (some 0) md) g.gV (WE W) tNil (tk W)) (wMakeK c n md ar vNil ek) := by
  subst hkc
  refine ⟨⟨fun pins s sg H Q I h => ?_⟩, snd_makeK c g.ar (fun de ds de' e => by cases e; rfl) hz (jaNil (kap := kap) (X := X) (W := W)).s hk.s⟩
  refine wpAny_Call_Name_kw (ld_glob I hg hm ?_ hdb)
  refine PySem.W.callWith_KW0 (h₀ := X.base) I.ok.mod.kin M.kp hall ?_ hpl
  refine thn (hk.p.run pos pins s sg H _ I h) fun ws s2 ⟨zs, H2, I2, rz, l1, l2, q2⟩ => ⟨I2.kIn, ?_⟩
  rw [hks]
  exact run_makeKSD (us := []) (vs := []) M g.ok hr g.kb (passAt tkx sg) I2 .nil rz rfl l2 q2
end
end DL

set_option maxRecDepth 100000
set_option maxHeartbeats 2000000
set_option autoImplicit false
namespace DL
open PySem L2 PySem.Spec PyProof.Rows RT RZ

/-! ### what a loop walks -/
def ItOk (K : PySem.W.Frag) (kap : Nat → Addr) (J : It) (F1 : Hp) (ds : List D) : Prop := ∀ (i : Nat) (F2 H2 : Hp), Same F1 F2 → Same F2 H2 →
  (ds.length ≤ i → J.stop i H2) ∧ ∀ d, ds[i]? = some d → J.go i H2 ∧ ∀ x H', J.yld i H2 x H' → ∃ F', New F2 H2 F' H' ∧ Same F' H' ∧ Rep K kap F' x d
theorem ItOk.mono {K : PySem.W.Frag} {kap : Nat → Addr} {J : It} {F1 F2 : Hp} {ds : List D} (e : Same F1 F2) (h : ItOk K kap J F1 ds) : ItOk K kap J F2 ds := fun i F H e1 e2 => h i F H (e.trans e1) e2
def RlI (K : PySem.W.Frag) (kap : Nat → Addr) : Rel It (List D) := { rel := fun _ F _ _ J ds => ItOk K kap J F ds }
structure JI (kap : Nat → Addr) (xi : Xi) (X : Cx) (W : WX) (tg iter : Expr) (wi : WX → TI) (ev : DEnv → Rs (List D)) : Prop where
  p : PI X tg iter (wi W)
  s : Snd X.K kap xi (RlI X.K kap) wi ev
def itemsOf : D → Option (List D)
  | .lst ds => some ds
  | .tup ds => some ds
  | .scr ds => some ds
  | _ => none
def vSeqI (ev : DEnv → Rs D) (de : DEnv) : Rs (List D) := (ev de).bind fun d de1 => ofO (itemsOf d) de1
def iSeq (K : PySem.W.Frag) (tl : TE) : TI := fun σ H R => tl σ H fun x H1 => ∃ a, x = .ref a ∧ (((∃ xs, SqL K H1 a xs) ∧ R (Itl K a) H1) ∨ ((∃ xs, SqT K H1 a xs) ∧ R (Itt K a) H1))
theorem pi_seq {X : Cx} {tg l : Expr} {tl : TE} (hl : PE X l tl) : PI X tg l (iSeq X.K tl) := by
  refine ⟨fun pins s σ H R I h => ?_⟩
  refine thn (hl.run pins s σ H _ I h) fun v s1 ⟨x, H1, I1, r1, q1⟩ => ?_
  obtain ⟨a, e, q⟩ := q1
  subst e
  cases r1
  rcases q with ⟨⟨xs, hq⟩, q⟩ | ⟨⟨xs, hq⟩, q⟩
  · obtain ⟨its, rv, p, hz⟩ := I1.list hq
    refine wpAny_pyIter_list p.isList ?_
    refine ⟨s1.heap.objs.size, [s1.heap.objs.size], _, _, H1, rfl, I1.kept (t' := s1.toks) fun b o e => Heap.get?_push_of_some _ e, turn_list a _, ⟨_, Heap.get?_push_size _ rfl, rfl, rfl⟩, fun b hb => ?_, q⟩
    have e : b = s1.heap.objs.size := by simpa using hb
    subst e
    exact I1.fpOk (Nat.le_refl _) (I1.hok.fresh (Nat.le_refl _))
  · obtain ⟨its, rv, p, hz⟩ := I1.tuple hq
    refine wpAny_pyIter_tuple (show s1.heap.IsTuple a its.toArray from p) ?_
    refine ⟨s1.heap.objs.size, [s1.heap.objs.size], _, _, H1, rfl, I1.kept (t' := s1.toks) fun b o e => Heap.get?_push_of_some _ e, turn_tuple a _, ⟨_, Heap.get?_push_size _ rfl, rfl, rfl⟩, fun b hb => ?_, q⟩
    have e : b = s1.heap.objs.size := by simpa using hb
    subst e
    exact I1.fpOk (Nat.le_refl _) (I1.hok.fresh (Nat.le_refl _))
section
variable {K : PySem.W.Frag} {kap : Nat → Addr} {xi : Xi} {F : Hp} {a b : Addr} {vs ws : List V} {ds es : List D}
theorem Reps.get2 : ∀ {vs : List V} {ds : List D} {i : Nat} {v : V}, Reps K kap F vs ds → vs[i]? = some v → ∃ d, ds[i]? = some d ∧ Rep K kap F v d
  | _, _, _, _, .nil, e => by simp at e
  | _, _, 0, _, .cons h _, e => by simp at e; subst e; exact ⟨_, rfl, h⟩
  | _, _, i + 1, v, .cons _ r, e => by
    obtain ⟨d, h1, h2⟩ := Reps.get2 (i := i) (v := v) r (by simpa using e)
    exact ⟨d, by simpa using h1, h2⟩
theorem itl_ok (h : SqL K F a vs) (r : Reps K kap F vs ds) : ItOk K kap (Itl K a) F ds := fun i F2 H2 e1 e2 => by
  have h2 : SqL K H2 a vs := sqL_mono (e1.trans e2) h
  refine ⟨fun hl => ⟨vs, h2, by rw [r.length]; exact hl⟩, fun d hd => ?_⟩
  obtain ⟨v, g1, g2⟩ := r.get hd
  refine ⟨⟨vs, v, h2, g1⟩, fun x H' ⟨e, y⟩ => ?_⟩
  subst e
  have := y vs h2
  rw [g1] at this
  cases this
  exact ⟨F2, New.refl, e2, g2.mono e1⟩
theorem itt_ok (h : SqT K F a vs) (r : Reps K kap F vs ds) : ItOk K kap (Itt K a) F ds := fun i F2 H2 e1 e2 => by
  have h2 : SqT K H2 a vs := sqT_mono (e1.trans e2) h
  refine ⟨fun hl => ⟨vs, h2, by rw [r.length]; exact hl⟩, fun d hd => ?_⟩
  obtain ⟨v, g1, g2⟩ := r.get hd
  refine ⟨⟨vs, v, h2, g1⟩, fun x H' ⟨e, y⟩ => ?_⟩
  subst e
  have := y vs h2
  rw [g1] at this
  cases this
  exact ⟨F2, New.refl, e2, g2.mono e1⟩
def rangeD (lo : Int) (n : Nat) : List D := (List.range n).map fun i => .int (lo + (i : Nat))
theorem itr_ok (lo : Int) (n : Nat) : ItOk K kap (Itr lo n) F (rangeD lo n) := fun i F2 H2 e1 e2 => by
  refine ⟨fun hl => (show n ≤ i by simpa [rangeD] using hl), fun d hd => ?_⟩
  unfold rangeD at hd
  rw [List.getElem?_map] at hd
  by_cases il : i < n
  · rw [List.getElem?_range il] at hd
    cases hd
    refine ⟨il, fun x H' ⟨e, y⟩ => ?_⟩
    subst e y
    exact ⟨F2, New.refl, e2, .int _⟩
  · rw [List.getElem?_eq_none (by simpa using il)] at hd
    cases hd
def revD (ds : List D) : List D := ds.reverse
theorem itv_ok (h : SqL K F a vs) (r : Reps K kap F vs ds) : ItOk K kap (Itv K a vs.length) F ds.reverse := fun i F2 H2 e1 e2 => by
  have h2 : SqL K H2 a vs := sqL_mono (e1.trans e2) h
  have hl := r.length
  refine ⟨fun hl' => (show vs.length ≤ i by rw [hl]; simpa using hl'), fun d hd => ?_⟩
  have il : i < ds.length := by simpa using (List.getElem?_eq_some_iff.mp hd).1
  rw [List.getElem?_reverse il] at hd
  obtain ⟨v, g1, g2⟩ := r.get hd
  rw [← hl] at g1
  refine ⟨⟨by rw [hl]; exact il, vs, v, h2, g1⟩, fun x H' ⟨e, y⟩ => ?_⟩
  subst e
  have := y vs h2
  rw [g1] at this
  cases this
  exact ⟨F2, New.refl, e2, g2.mono e1⟩
theorem itvT_ok (h : SqT K F a vs) (r : Reps K kap F vs ds) : ItOk K kap (ItvT K a vs.length) F ds.reverse := fun i F2 H2 e1 e2 => by
  have h2 : SqT K H2 a vs := sqT_mono (e1.trans e2) h
  have hl := r.length
  refine ⟨fun hl' => (show vs.length ≤ i by rw [hl]; simpa using hl'), fun d hd => ?_⟩
  have il : i < ds.length := by simpa using (List.getElem?_eq_some_iff.mp hd).1
  rw [List.getElem?_reverse il] at hd
  obtain ⟨v, g1, g2⟩ := r.get hd
  rw [← hl] at g1
  refine ⟨⟨by rw [hl]; exact il, vs, v, h2, g1⟩, fun x H' ⟨e, y⟩ => ?_⟩
  subst e
  have := y vs h2
  rw [g1] at this
  cases this
  exact ⟨F2, New.refl, e2, g2.mono e1⟩
def enumD : Nat → List D → List D
  | _, [] => []
  | n, d :: r => .tup [.int n, d] :: enumD (n + 1) r
theorem enumD_get : ∀ (n : Nat) (ds : List D) (i : Nat), (enumD n ds)[i]? = (ds[i]?).map fun d => .tup [.int ((n + i : Nat) : Int), d]
  | n, [], i => by simp [enumD]
  | n, d :: r, 0 => by simp [enumD]
  | n, d :: r, i + 1 => by
    simp only [enumD, List.getElem?_cons_succ, enumD_get (n + 1) r i]
    congr 1
    funext d
    congr 4
    omega
theorem enumD_len (n : Nat) (ds : List D) : (enumD n ds).length = ds.length := by
  induction ds generalizing n with
  | nil => rfl
  | cons d r ih => simp [enumD, ih]
theorem ite_ok (h : SqL K F a vs) (r : Reps K kap F vs ds) : ItOk K kap (Ite K a) F (enumD 0 ds) := fun i F2 H2 e1 e2 => by
  have h2 : SqL K H2 a vs := sqL_mono (e1.trans e2) h
  refine ⟨fun hl => ⟨vs, h2, by rw [r.length]; rw [enumD_len] at hl; exact hl⟩, fun d hd => ?_⟩
  rw [enumD_get] at hd
  obtain ⟨d', q1, q2⟩ := Option.map_eq_some_iff.mp hd
  obtain ⟨v, g1, g2⟩ := r.get q1
  refine ⟨⟨vs, v, h2, g1⟩, fun x H' ⟨T, x', ex, hT, eH, y⟩ => ?_⟩
  subst ex eH q2
  have := y vs h2
  rw [g1] at this
  cases this
  obtain ⟨n, s⟩ := New.one (o := .tup [.int (i : Nat), v]) e2 hT
  exact ⟨_, n, s, .tup (SqT.of upd_same) (.cons (by simpa using Rep.int _) (.cons ((g2.mono e1).mono n.f) .nil))⟩
def zipD (xs ys : List D) : List D := (xs.zip ys).map fun p => .tup [p.1, p.2]
theorem zipD_get {xs ys : List D} {i : Nat} {d : D} (h : (zipD xs ys)[i]? = some d) : ∃ x y, xs[i]? = some x ∧ ys[i]? = some y ∧ d = .tup [x, y] := by
  unfold zipD at h
  rw [List.getElem?_map] at h
  obtain ⟨⟨x, y⟩, h1, h2⟩ := Option.map_eq_some_iff.mp h
  obtain ⟨h3, h4⟩ := List.getElem?_zip_eq_some.mp h1
  exact ⟨x, y, h3, h4, h2.symm⟩
theorem itz_ok (h : SqL K F a vs) (r : Reps K kap F vs ds) (h' : SqL K F b ws) (r' : Reps K kap F ws es) : ItOk K kap (Itz K a b) F (zipD ds es) := fun i F2 H2 e1 e2 => by
  have h2 : SqL K H2 a vs := sqL_mono (e1.trans e2) h
  have h3 : SqL K H2 b ws := sqL_mono (e1.trans e2) h'
  refine ⟨fun hl => ⟨vs, ws, h2, h3, ?_⟩, fun d hd => ?_⟩
  · rw [r.length, r'.length]
    have : (zipD ds es).length = min ds.length es.length := by simp [zipD]
    omega
  · obtain ⟨d1, d2, q1, q2, rfl⟩ := zipD_get hd
    obtain ⟨v, g1, g2⟩ := r.get q1
    obtain ⟨v', k1, k2⟩ := r'.get q2
    refine ⟨⟨vs, ws, v, v', h2, h3, g1, k1⟩, fun x H' ⟨T, x', y', ex, hT, eH, y1, y2⟩ => ?_⟩
    subst ex eH
    have := y1 vs h2
    rw [g1] at this
    cases this
    have := y2 ws h3
    rw [k1] at this
    cases this
    obtain ⟨n, s⟩ := New.one (o := .tup [v, v']) e2 hT
    exact ⟨_, n, s, .tup (SqT.of upd_same) (.cons ((g2.mono e1).mono n.f) (.cons ((k2.mono e1).mono n.f) .nil))⟩
theorem itzT_ok (h : SqT K F a vs) (r : Reps K kap F vs ds) (h' : SqT K F b ws) (r' : Reps K kap F ws es) : ItOk K kap (ItzT K a b) F (zipD ds es) := fun i F2 H2 e1 e2 => by
  have h2 : SqT K H2 a vs := sqT_mono (e1.trans e2) h
  have h3 : SqT K H2 b ws := sqT_mono (e1.trans e2) h'
  refine ⟨fun hl => ⟨vs, ws, h2, h3, ?_⟩, fun d hd => ?_⟩
  · rw [r.length, r'.length]
    have : (zipD ds es).length = min ds.length es.length := by simp [zipD]
    omega
  · obtain ⟨d1, d2, q1, q2, rfl⟩ := zipD_get hd
    obtain ⟨v, g1, g2⟩ := r.get q1
    obtain ⟨v', k1, k2⟩ := r'.get q2
    refine ⟨⟨vs, ws, v, v', h2, h3, g1, k1⟩, fun x H' ⟨T, x', y', ex, hT, eH, y1, y2⟩ => ?_⟩
    subst ex eH
    have := y1 vs h2
    rw [g1] at this
    cases this
    have := y2 ws h3
    rw [k1] at this
    cases this
    obtain ⟨n, s⟩ := New.one (o := .tup [v, v']) e2 hT
    exact ⟨_, n, s, .tup (SqT.of upd_same) (.cons ((g2.mono e1).mono n.f) (.cons ((k2.mono e1).mono n.f) .nil))⟩
/-- a frozen sequence -/
theorem rep_items {F : Hp} {v : V} {d : D} {ds : List D} (r : Rep K kap F v d) (h : itemsOf d = some ds) : ∃ a vs, v = .ref a ∧ Reps K kap F vs ds ∧ (SqL K F a vs ∨ SqT K F a vs) := by
  cases r with
  | tup h1 r => cases h; exact ⟨_, _, rfl, r, .inr h1⟩
  | lst h1 r => cases h; exact ⟨_, _, rfl, r, .inl (SqL.of h1)⟩
  | scr h1 r => cases h; exact ⟨_, _, rfl, r, .inl h1⟩
  | _ => cases h
end
def vRng1 (ev : DEnv → Rs D) (de : DEnv) : Rs (List D) := (ev de).bind fun d de1 => match d with
  | .int j => if -(2 ^ 62) ≤ j ∧ j < 2 ^ 62 then .ok (rangeD 0 j.toNat) de1 else .bad
  | _ => .bad
def vRng2 (ev ev' : DEnv → Rs D) (de : DEnv) : Rs (List D) := (ev de).bind fun d de1 => (ev' de1).bind fun d' de2 => match d, d' with
  | .int i, .int j => if -(2 ^ 62) ≤ i ∧ i < 2 ^ 62 ∧ -(2 ^ 62) ≤ j ∧ j < 2 ^ 62 then .ok (rangeD i (j - i).toNat) de2 else .bad
  | _, _ => .bad
def vRevI (ev : DEnv → Rs D) (de : DEnv) : Rs (List D) := (ev de).bind fun d de1 => ofO ((itemsOf d).map List.reverse) de1
def vEnumI (ev : DEnv → Rs D) (de : DEnv) : Rs (List D) := (ev de).bind fun d de1 => match d with
  | .lst ds => .ok (enumD 0 ds) de1
  | .scr ds => .ok (enumD 0 ds) de1
  | _ => .bad
def vZipI (ev ev' : DEnv → Rs D) (de : DEnv) : Rs (List D) := (ev de).bind fun d de1 => (ev' de1).bind fun d' de2 => match d, d' with
  | .lst xs, .lst ys => .ok (zipD xs ys) de2
  | .scr xs, .lst ys => .ok (zipD xs ys) de2
  | .lst xs, .scr ys => .ok (zipD xs ys) de2
  | .tup xs, .tup ys => .ok (zipD xs ys) de2
  | _, _ => .bad
section
variable {kap : Nat → Addr} {xi : Xi} {X : Cx} {W : WX} {tg e e' : Expr} {t t' : WX → TE} {ev ev' : DEnv → Rs D} {pos p tpos : Pos} {elts : List Expr} {kk : Nat}
theorem jiSeq (h : JE kap xi X W e t ev) : JI kap xi X W tg e (fun W => iSeq X.K (t W)) (vSeqI ev) := ⟨pi_seq h.p, by
  intro W F H sg de O Q R hp
  refine h.s.bind R hp fun v d F1 H1 de1 O1 R1 g1 r _ hp => ?_
  obtain ⟨ds, e, hp⟩ := ofO_some hp
  obtain ⟨a, vs, rfl, rr, hq⟩ := rep_items r e
  refine ⟨a, rfl, ?_⟩
  rcases hq with hq | hq
  · exact .inl ⟨⟨vs, sqL_mono R1.sub hq⟩, hp.done R1 New.refl R1.sub (itl_ok hq rr)⟩
  · exact .inr ⟨⟨vs, sqT_mono R1.sub hq⟩, hp.done R1 New.refl R1.sub (itt_ok hq rr)⟩⟩
theorem jiRng1 (hm : X.mg "range" = none) (h : JE kap xi X W e t ev) (hg : Gl X "range" := by rfl) (hs : starEach [e] X.env = [(false, eval e X.env)] := by rfl) : JI kap xi X W tg (.Call (.Name "range" p) [e] [] pos) (fun W => iRng1 (tCons (t W) tNil)) (vRng1 ev) := ⟨pi_range1 hg hm (pa_cons h.p pa_nil hs) hs, by
  intro W F H sg de O Q R hp
  refine h.s.bind R hp fun v d F1 H1 de1 O1 R1 g1 r _ hp => ?_
  cases r with
  | int j =>
    dsimp only at hp
    split at hp
    · rename_i hh
      exact ⟨j, rfl, hh.1, hh.2, hp.done R1 New.refl R1.sub (itr_ok _ _)⟩
    · exact hp.elim
  | _ => exact hp.elim⟩
theorem jiRng2 (hm : X.mg "range" = none) (h : JE kap xi X W e t ev) (h' : JE kap xi X W e' t' ev') (hg : Gl X "range" := by rfl) (hs : starEach [e, e'] X.env = [(false, eval e X.env), (false, eval e' X.env)] := by rfl) (hs2 : starEach [e'] X.env = [(false, eval e' X.env)] := by rfl) :
    JI kap xi X W tg (.Call (.Name "range" p) [e, e'] [] pos) (fun W => iRng2 (tCons (t W) (tCons (t' W) tNil))) (vRng2 ev ev') := ⟨pi_range2 hg hm (pa_cons h.p (pa_cons h'.p pa_nil hs2) (by rw [hs, hs2])) hs hs2, by
  intro W F H sg de O Q R hp
  refine h.s.bind R hp fun v d F1 H1 de1 O1 R1 g1 r _ hp => ?_
  refine h'.s.bind R1 hp fun v' d' F2 H2 de2 O2 R2 g2 r' _ hp => ?_
  cases r with
  | int i =>
    cases r' with
    | int j =>
      dsimp only at hp
      split at hp
      · rename_i hh
        exact ⟨i, j, rfl, hh, hp.done R2 New.refl R2.sub (itr_ok _ _)⟩
      · exact hp.elim
    | _ => exact hp.elim
  | _ => exact hp.elim⟩
theorem jiRev (hm : X.mg "reversed" = none) (h : JE kap xi X W e t ev) (hg : Gl X "reversed" := by rfl) (hs : starEach [e] X.env = (false, eval e X.env) :: starEach [] X.env := by rfl) : JI kap xi X W tg (.Call (.Name "reversed" p) [e] [] pos) (fun W => iRevA X.K (t W)) (vRevI ev) := ⟨pi_revA hg hm h.p hs, by
  intro W F H sg de O Q R hp
  refine h.s.bind R hp fun v d F1 H1 de1 O1 R1 g1 r _ hp => ?_
  obtain ⟨ds, e, hp⟩ := ofO_some hp
  obtain ⟨ds', e1, rfl⟩ := Option.map_eq_some_iff.mp e
  obtain ⟨a, vs, rfl, rr, hq⟩ := rep_items r e1
  refine ⟨a, vs, rfl, ?_⟩
  rcases hq with hq | hq
  · exact .inl ⟨sqL_mono R1.sub hq, hp.done R1 New.refl R1.sub (itv_ok hq rr)⟩
  · exact .inr ⟨sqT_mono R1.sub hq, hp.done R1 New.refl R1.sub (itvT_ok hq rr)⟩⟩
theorem jiEnum (hm : X.mg "enumerate" = none) (h : JE kap xi X W e t ev) (hg : Gl X "enumerate" := by rfl) (hs : starEach [e] X.env = [(false, eval e X.env)] := by rfl) : JI kap xi X W (.Tuple elts kk tpos) (.Call (.Name "enumerate" p) [e] [] pos) (fun W => iEnum X.K (tCons (t W) tNil)) (vEnumI ev) := ⟨pi_enum hg hm (pa_cons h.p pa_nil hs) hs, by
  intro W F H sg de O Q R hp
  refine h.s.bind R hp fun v d F1 H1 de1 O1 R1 g1 r _ hp => ?_
  cases r with
  | lst h1 rr => exact ⟨_, _, rfl, sqL_mono R1.sub (SqL.of h1), hp.done R1 New.refl R1.sub (ite_ok (SqL.of h1) rr)⟩
  | scr h1 rr => exact ⟨_, _, rfl, sqL_mono R1.sub h1, hp.done R1 New.refl R1.sub (ite_ok h1 rr)⟩
  | _ => exact hp.elim⟩
theorem jiZip (hm : X.mg "zip" = none) (h : JE kap xi X W e t ev) (h' : JE kap xi X W e' t' ev') (hg : Gl X "zip" := by rfl) (hs : starEach [e, e'] X.env = (false, eval e X.env) :: starEach [e'] X.env := by rfl) (hs2 : starEach [e'] X.env = (false, eval e' X.env) :: starEach [] X.env := by rfl) (hpl : (backTo pos (starEach [e'] X.env)).any (·.1) = false := by rfl) :
    JI kap xi X W (.Tuple elts kk tpos) (.Call (.Name "zip" p) [e, e'] [] pos) (fun W => iZipA X.K (tCons (t W) (tCons (t' W) tNil))) (vZipI ev ev') := ⟨pi_zipA hg hm (pa_cons h.p (pa_cons h'.p pa_nil hs2) hs) hs hpl, by
  intro W F H sg de O Q R hp
  refine h.s.bind R hp fun v d F1 H1 de1 O1 R1 g1 r _ hp => ?_
  refine h'.s.bind R1 hp fun v' d' F2 H2 de2 O2 R2 g2 r' _ hp => ?_
  have r := r.mono g2.ex
  have fin : ∀ {a b : Addr} {vs ws : List V} {xs ys : List D}, SqL X.K F2 a vs → Reps X.K kap F2 vs xs → SqL X.K F2 b ws → Reps X.K kap F2 ws ys → PE1 X.K kap (RlI X.K kap) xi F2 H2 sg de2 O2 W Q (.ok (zipD xs ys) de2) →
      ∃ a' b' xs' ys', [V.ref a, V.ref b] = [.ref a', .ref b'] ∧ ((SqL X.K H2 a' xs' ∧ SqL X.K H2 b' ys' ∧ Q (Itz X.K a' b') H2) ∨ (SqT X.K H2 a' xs' ∧ SqT X.K H2 b' ys' ∧ Q (ItzT X.K a' b') H2)) := fun {a b vs ws xs ys} q1 q2 q3 q4 hp =>
    ⟨_, _, _, _, rfl, .inl ⟨sqL_mono R2.sub q1, sqL_mono R2.sub q3, hp.done R2 New.refl R2.sub (itz_ok q1 q2 q3 q4)⟩⟩
  cases r with
  | lst h1 rr =>
    cases r' with
    | lst h2 rr' => exact fin (SqL.of h1) rr (SqL.of h2) rr' hp
    | scr h2 rr' => exact fin (SqL.of h1) rr h2 rr' hp
    | _ => exact hp.elim
  | scr h1 rr =>
    cases r' with
    | lst h2 rr' => exact fin h1 rr (SqL.of h2) rr' hp
    | _ => exact hp.elim
  | tup h1 rr =>
    cases r' with
    | tup h2 rr' => exact ⟨_, _, _, _, rfl, .inr ⟨sqT_mono R2.sub h1, sqT_mono R2.sub h2, hp.done R2 New.refl R2.sub (itzT_ok h1 rr h2 rr')⟩⟩
    | _ => exact hp.elim
  | _ => exact hp.elim⟩
end

/-! ### targets -/
structure JG (kap : Nat → Addr) (X : Cx) (tg : Expr) (g : TG) (is : List Nat) (ev : D → DEnv → Option DEnv) : Prop where
  p : PG X tg g
  s : ∀ xi F H sg de O v d de' Q, RS X.K kap xi F H sg de O → Rep X.K kap F v d → ev d de = some de' → (∀ sg' O', RS X.K kap xi F H sg' de' O' → Go F H de O F H de' O' → (∀ j, j ∉ is → sg'[j]? = sg[j]?) → sg'.length = sg.length → Q sg' H) → g v sg H Q
structure JGs (kap : Nat → Addr) (X : Cx) (tgs : List Expr) (g : TGs) (is : List Nat) (ev : List D → DEnv → Option DEnv) : Prop where
  p : PGs X tgs g
  s : ∀ xi F H sg de O vs ds de' Q, RS X.K kap xi F H sg de O → Reps X.K kap F vs ds → ev ds de = some de' → (∀ sg' O', RS X.K kap xi F H sg' de' O' → Go F H de O F H de' O' → (∀ j, j ∉ is → sg'[j]? = sg[j]?) → sg'.length = sg.length → Q sg' H) → g vs sg H Q
def tName (i : Nat) (d : D) (de : DEnv) : Option DEnv := some (de.set i (.va d))
def tgNil (ds : List D) (de : DEnv) : Option DEnv := match ds with | [] => some de | _ => none
def tgCons (f : D → DEnv → Option DEnv) (g : List D → DEnv → Option DEnv) (ds : List D) (de : DEnv) : Option DEnv := match ds with | [] => none | d :: r => (f d de).bind fun de1 => g r de1
def tgTup (n : Nat) (g : List D → DEnv → Option DEnv) (d : D) (de : DEnv) : Option DEnv := match d with | .tup ds => if ds.length = n then g ds de else none | _ => none
section
variable {kap : Nat → Addr} {xi : Xi} {X : Cx} {e : Expr} {es : List Expr} {g : TG} {gs : TGs} {is js : List Nat} {ev : D → DEnv → Option DEnv} {evs : List D → DEnv → Option DEnv} {pos : Pos}
theorem jgName (i : Nat) {x : Str} (hN : X.N.Nodup) (hi : X.N[i]? = some x := by rfl) (hx : Loc X.env.scope x := by first | exact Or.inl rfl | exact Or.inr rfl) (hf : X.fn x = true ∨ X.env.scope.names.lookup x = some .local := by first | exact .inl rfl | exact .inr rfl | assumption) :
    JG kap X (.Name x pos) (gName i) [i] (tName i) := ⟨pg_name hN hi hx hf, by
  intro xi F H sg de O v d de' Q R r e hq
  cases e
  obtain ⟨R2, g2⟩ := R.setv i r
  exact hq _ _ R2 g2 (fun j h => List.getElem?_set_ne fun z => h (by simp [z])) (List.length_set ..)⟩
theorem jgsNil : JGs kap X [] gNil [] tgNil := ⟨pgs_nil, by
  intro xi F H sg de O vs ds de' Q R r e hq
  cases r with
  | nil => cases e; exact ⟨rfl, hq _ _ R Go.refl (fun _ _ => rfl) rfl⟩
  | cons _ _ => cases e⟩
theorem jgsCons (h : JG kap X e g is ev) (hr : JGs kap X es gs js evs) (hs : (assignEach (e :: es) X.env).map (·.2) = assign e X.env :: (assignEach es X.env).map (·.2) := by rfl) : JGs kap X (e :: es) (gCons g gs) (is ++ js) (tgCons ev evs) := ⟨pgs_cons h.p hr.p hs, by
  intro xi F H sg de O vs ds de' Q R r e hq
  cases r with
  | nil => cases e
  | cons r rr =>
    obtain ⟨de1, e1, e2⟩ := bind_some e
    refine ⟨_, _, rfl, h.s xi F H sg de O _ _ de1 _ R r e1 fun sg1 O1 R1 g1 k1 l1 => ?_⟩
    exact hr.s xi F H sg1 de1 O1 _ _ de' _ R1 rr e2 fun sg2 O2 R2 g2 k2 l2 => hq sg2 O2 R2 (g1.trans g2) (fun j hj => by
      rw [List.mem_append, not_or] at hj
      rw [k2 j hj.2, k1 j hj.1]) (l2.trans l1)⟩
theorem jgTup {k : Nat} (n : Nat) (h : JGs kap X es gs is evs) (hc : X.calm = true := by rfl) (hn : (assignEach es X.env).length = n := by rfl) (hst : (assignEach es X.env).findIdx? (·.1) = none := by rfl) : JG kap X (.Tuple es k pos) (gTup X.K n gs) is (tgTup n evs) := ⟨pg_tup hc h.p hn hst, by
  intro xi F H sg de O v d de' Q R r e hq
  cases r with
  | tup h1 rr =>
    unfold tgTup at e
    dsimp only at e
    split at e
    · rename_i hl
      exact ⟨_, _, rfl, sqT_mono R.sub h1, by rw [rr.length]; exact hl, h.s xi F H sg de O _ _ de' _ R rr e hq⟩
    · cases e
  | _ => cases e⟩
end

/-! ### for -/
def vLoop (g : D → DEnv → Option DEnv) (tb : DEnv → Ot) : List D → DEnv → Ot
  | [], de => .nx de
  | d :: r, de => match g d de with
    | none => .bad
    | some de1 => match tb de1 with
      | .nx de2 => vLoop g tb r de2
      | .ct de2 => vLoop g tb r de2
      | .brk de2 => .nx de2
      | .ret d de2 => .ret d de2
      | .retF d de2 => .retF d de2
      | .ex c fs de2 => .ex c fs de2
      | .bad => .bad
def vFor (ei : DEnv → Rs (List D)) (g : D → DEnv → Option DEnv) (tb : DEnv → Ot) (de : DEnv) : Ot := (ei de).out fun ds de1 => vLoop g tb ds de1
section
variable {kap : Nat → Addr} {xi : Xi} {X : Cx} {W : WX} {tg iter e : Expr} {body : List Stmt} {wi : WX → TI} {g : TG} {is : List Nat} {ei : DEnv → Rs (List D)} {eg : D → DEnv → Option DEnv} {tb : WX → TS} {eb : DEnv → Ot} {t : WX → TE} {ev : DEnv → Rs D} {pos : Pos}
theorem jFor (hp : PassesOwn (model X.prog X.w) X.A X.env X.xe) (hi : JI kap xi X W tg iter wi ei) (hg : JG kap X tg g is eg) (hb : JSs kap xi X W body tb eb) (hc : X.calm = true := by rfl) (hs : ∀ x, foldedSetIterable iter X.env x = pure x := by intro _; rfl) :
    JS kap xi X W (.For tg iter body [] pos) (fun W => tFor (wi W) g (tb W)) (vFor ei eg eb) := ⟨ps_for hp hc hi.p hg.p hb.p hs, by
  intro W F H sg de O Dn R hp
  refine hi.s.out R hp fun J ds F1 H1 de1 O1 R1 g1 ij _ hp => ?_
  refine ⟨fun i m σ Hc => m = ds.length - i ∧ i ≤ ds.length ∧ ∃ Fc dc Oc, Same F1 Fc ∧ RS X.K kap xi Fc Hc σ dc Oc ∧ PS1 X.K kap xi Fc Hc dc Oc W Dn (vLoop eg eb (ds.drop i) dc), ⟨ds.length, by simp, Nat.zero_le _, F1, de1, O1, Same.refl _, R1, by simpa using hp⟩, ?_⟩
  rintro i m σ Hc ⟨rfl, hil, Fc, dc, Oc, ex, Rc, hq⟩
  obtain ⟨hstop, hgo⟩ := ij i Fc Hc ex Rc.sub
  by_cases hlt : i < ds.length
  · have hd : ds[i]? = some ds[i] := by simp [hlt]
    obtain ⟨go, hy⟩ := hgo _ hd
    refine .inr ⟨go, fun σ' H' => ∃ Fc dc Oc, Same F1 Fc ∧ RS X.K kap xi Fc H' σ' dc Oc ∧ PS1 X.K kap xi Fc H' dc Oc W Dn (vLoop eg eb (ds.drop (i + 1)) dc), fun σ' H' p' => ⟨ds.length - (i + 1), by omega, rfl, hlt, p'⟩, fun x H' y => ?_⟩
    obtain ⟨F2, n2, s2, r2⟩ := hy x H' y
    have R2 := Rc.new n2 s2
    have hq := PS1.shift (n2.go (de := dc) (O := Oc)) hq
    rw [List.drop_eq_getElem_cons hlt] at hq
    unfold vLoop at hq
    cases eg1 : eg ds[i] dc with
    | none => rw [eg1] at hq; exact hq.elim
    | some dc1 =>
      rw [eg1] at hq
      refine hg.s xi F2 H' σ dc Oc x _ dc1 _ R2 r2 eg1 fun sg' O' R3 g3 _ _ => ?_
      have hq := PS1.shift g3 hq
      dsimp only at hq
      refine hb.s W F2 H' sg' dc1 O' _ R3 ?_
      cases eo : eb dc1 with
      | nx dc2 =>
        rw [eo] at hq
        exact fun F' H'' sg'' O'' R4 g4 => ⟨F', dc2, O'', (ex.trans n2.f).trans g4.ex, R4, PS1.shift g4 hq⟩
      | ct dc2 =>
        rw [eo] at hq
        exact fun F' H'' sg'' O'' R4 g4 => ⟨F', dc2, O'', (ex.trans n2.f).trans g4.ex, R4, PS1.shift g4 hq⟩
      | brk dc2 => rw [eo] at hq; exact hq
      | ret d dc2 => rw [eo] at hq; exact hq
      | retF d dc2 => rw [eo] at hq; exact hq
      | ex c fs dc2 => rw [eo] at hq; exact hq
      | bad => rw [eo] at hq; exact hq.elim
  · refine .inl ⟨hstop (Nat.le_of_not_lt hlt), ?_⟩
    rw [List.drop_eq_nil_of_le (Nat.le_of_not_lt hlt)] at hq
    exact hq Fc Hc σ Oc Rc Go.refl⟩
/-- a, b = .. -/
def vAsg (ev : DEnv → Rs D) (g : D → DEnv → Option DEnv) (de : DEnv) : Ot := (ev de).out fun d de1 => match g d de1 with | some de2 => .nx de2 | none => .bad
theorem jAsg (h : JE kap xi X W e t ev) (hg : JG kap X tg g is eg) (hs : swapsWithSole [tg] e pos.line X.env = pure false := by rfl) (hw : swappedStores [tg] e X.env = pure none := by rfl) (h1 : (assignEach [tg] X.env).map (·.2) = [assign tg X.env] := by rfl) : JS kap xi X W (.Assign [tg] e pos) (fun W => tAsg (t W) g) (vAsg ev eg) := ⟨ps_asg h.p hg.p hs hw h1, by
  intro W F H sg de O Dn R hp
  refine h.s.out R hp fun v d F1 H1 de1 O1 R1 g1 r _ hp => ?_
  cases e : eg d de1 with
  | none => rw [e] at hp; exact hp.elim
  | some de2 =>
    rw [e] at hp
    refine hg.s xi F1 H1 sg de1 O1 v d de2 _ R1 r e fun sg' O' R2 g2 _ _ => hp F1 H1 sg' O' R2 g2⟩
end
end DL

set_option maxRecDepth 100000
set_option maxHeartbeats 2000000
set_option autoImplicit false
/-! an own exception whose __init__ calls super().__init__(text) and keeps its argument -/
namespace DX
open PySem PySem.Spec PySem.W PySem.Calls PyProof.Rows PySem.HandSPX
abbrev veTail : List Value := [.type "ValueError", .type "Exception", .type "BaseException", .type "object"]
theorem boot_super : bootBuiltins ("super" : Str) = some (.type "super") := by kernel_rfl
structure XT (P : Program) (K : Frag) (C fI cda cc : Addr) (fnm qual : Str) (ar : Arguments) (bo : List Stmt) (sc : Scope) (par : Str) : Prop where
  cls : ∃ nm q N bs bm sn sub ab col dd k0 k1 k2 k3 k5, K.lookup C = some (excClassObj nm q C N bs bm true sn sub ab col dd k0 k1 k2 k3 k5 "ValueError.__new__") ∧ refsVE bm = true
  sa : findIn K (.ref C) "__setattr__" = some (some (.builtin "object.__setattr__"))
  iC : findIn K (.ref C) "__init__" = some (some (.ref fI))
  tC : typeIn K (.ref fI) = some (.type "function")
  kC : keepIn K (.ref C) = true
  exC : subIn K (.ref C) (.type "BaseException") = some true
  tyC : typeIn K (.ref C) = some (.type "type")
  ei : excInitIn K C veTail "ValueError.__new__" = true
  sI : ks_superIn K C C "__init__" = some (some (.builtin "ValueError.__init__"))
  ve : subIn K (.ref C) (.type "ValueError") = some true
  mC : mroIn K C (.ref C) = some true
  any : nsIn K cStatics "thirdparty.any" = some none
  nos : nsIn K mainGlobals "super" = some none
  noN : findIn K (.ref C) par = some none
  fn : ∃ oc od osl doc pm an ct, K.lookup fI = some ⟨oc, od, .func (ksFn fnm qual ar bo sc .none .none doc pm an (.ref cda) ct cc), osl⟩ ∧ codeIn K (.ref cda) qual = true
  cdo : ∃ ccl cdd ccs vs file tf, K.lookup cda = some ⟨ccl, cdd, .fields vs, ccs⟩ ∧ vs[2]? = some (.str file tf) ∧ ((P.main.file : Str) == file) = true
  cel : ∃ cl cld csl, K.lookup cc = some ⟨cl, cld, .cell (some (.ref C)), csl⟩
  top : (P.main.scope.names.lookup ("super" : Str)).isSome = false
/-- what the module says, without the exception -/
structure Md (K : Frag) (mg : Str → Option Value) (h₀ : Heap) : Prop where
  kin : K.In h₀
  glob : h₀.Ns mainGlobals mg
  blt : ∃ mb, h₀.Ns builtinsNs mb ∧ ∀ x : Str, x ≠ "__name__" → mb x = bootBuiltins x
theorem clsIn_mro {K : Frag} {C : Addr} (h : mroIn K C (.ref C) = some true) : ∃ cd, clsIn K C = some cd := by
  cases e : clsIn K C with
  | none => unfold mroIn at h; rw [e] at h; cases h
  | some cd => exact ⟨cd, rfl⟩
section
variable {P : Program} {w : World} {A : Around} {E : Value → Shared → Prop} {s : Shared} {K : Frag} {mg : Str → Option Value} {C fI cda cc : Addr} {fnm qual par : Str} {ar : Arguments} {bo body : List Stmt} {sc : Scope} {h₀ : Heap} {L x t0 : Addr} {m : Str → Option Value}
/-- the super object -/
theorem sup_node {p0 p1 : Pos} {whole : Sem Value} {Q : Value → Shared → Prop} {news : List (Addr × Obj)} {ox : Obj} {odx : Option Obj} {ar0 : Arg} (T : XT P K C fI cda cc fnm qual ar bo sc par) (G : Md K mg h₀) (F : Fr h₀ L s.heap m) (N : News h₀ L s.heap news)
    (hp : (ar.posonlyargs ++ ar.args).head? = some ar0) (hv : m ar0.arg = some (.ref x)) (I : InstAt s.heap x ox C odx)
    (hks : sc.names.lookup ("super" : Str) = some .globalImplicit) (hkc : sc.names.lookup ("__class__" : Str) = some .free) (hka : sc.names.lookup ar0.arg = some .local) (hk : sc.kind = .function)
    (h : ∀ so h', Fr h₀ L h' m → News h₀ L h' ((so, ks_superObj C x C) :: news) → (∀ p ∈ news, p.1 < so) → Q (.ref so) { s with heap := h' }) :
    _root_.PySem.wpAt (model P w) A (.func body (ksEnv qual sc L fI (.ref cda) cc)) (attributeBase (.Call (.Name "super" p0) [] [] p1) "__init__" (ksEnv qual sc L fI (.ref cda) cc) whole) Q E s := by
  obtain ⟨oc, od, osl, doc, pm, an, ct, hf, _⟩ := T.fn
  obtain ⟨ccl, cdd, ccs, vs, file, tf, hcode, hvs, hfile⟩ := T.cdo
  obtain ⟨cl, cld, csl, hcell⟩ := T.cel
  obtain ⟨cdD, hD⟩ := clsIn_mro T.mC
  obtain ⟨mb, hb1, hb2⟩ := G.blt
  have XH : K.In s.heap := G.kin.keeps F.keep
  obtain ⟨hh, g, d, t, os⟩ := s
  have hcls : ∃ oD, hh.get? C = some oD ∧ oD.data = .cls cdD := by
    unfold clsIn at hD
    split at hD
    · rename_i q
      cases hD
      exact ⟨_, XH _ _ q, rfl⟩
    · cases hD
  obtain ⟨oD, hD1, hD2⟩ := hcls
  refine ks_wpAt_super_base hks hkc rfl rfl (XH _ _ hf) rfl hp rfl (XH _ _ hcode) rfl hvs hfile T.top ?_
  refine ks_loadName_global hk hks ?_
  refine loadGlobal_builtin (G.glob.keeps F.keep) (mg_none_of G.kin G.glob T.nos) (hb1.keeps F.keep) ((hb2 _ (by decide)).trans boot_super) ⟨rfl, ?_⟩
  refine wpAny_loadName_free hk hkc rfl ⟨_, XH _ _ hcell, rfl⟩ ?_
  refine wpAny_loadName_local hk hka F.ns hv ?_
  refine ks_wpAny_isType_cls hD1 hD2 ⟨rfl, ?_⟩
  refine ks_wpAny_call_super hD1 hD2 I.at_ I.cls (fun c e => ?_) (looks_mroIn XH T.mC) fun h' e k => ?_
  · have z := I.no
    unfold notCls at z
    rw [e] at z
    cases z
  · obtain ⟨F', N', l'⟩ := ks_newsPush (s := ⟨hh, g, d, t, os⟩) F N rfl e k
    exact h _ _ F' N' l'
/-- super().__init__(e) -/
theorem sup_step {p0 p1 p2 p3 p4 : Pos} {ea : Expr} {Q : Flow → Shared → Prop} {ar0 : Arg} (T : XT P K C fI cda cc fnm qual ar bo sc par) (G : Md K mg h₀) (F : Fr h₀ L s.heap m) (N : News h₀ L s.heap [(x, excObj C t0 none .none)])
    (hp : (ar.posonlyargs ++ ar.args).head? = some ar0) (hv : m ar0.arg = some (.ref x))
    (hks : sc.names.lookup ("super" : Str) = some .globalImplicit) (hkc : sc.names.lookup ("__class__" : Str) = some .free) (hka : sc.names.lookup ar0.arg = some .local) (hk : sc.kind = .function)
    (hev : ∀ (s' : Shared) (Q' : Value → Shared → Prop), s'.heap.Ns L m → (∀ u k, Q' u { s' with toks := k }) → wpAny (model P w) A (eval ea (ksEnv qual sc L fI (.ref cda) cc)) Q' E s')
    (h : ∀ t' h' k, Fr h₀ L h' m → News h₀ L h' [(x, excObj C t' none .none)] → Q .next { s with heap := h', toks := k })
    (hst : starEach [ea] (ksEnv qual sc L fI (.ref cda) cc) = (false, eval ea (ksEnv qual sc L fI (.ref cda) cc)) :: starEach [] (ksEnv qual sc L fI (.ref cda) cc) := by rfl)
    (hin : interactive (ksEnv qual sc L fI (.ref cda) cc) = false := by rfl)
    {pl : Sem Bool} (he : eval (.Call (.Attribute (.Call (.Name "super" p0) [] [] p1) "__init__" p2) [ea] [] p3) (ksEnv qual sc L fI (.ref cda) cc) = (do
      let ov ← attributeBase (.Call (.Name "super" p0) [] [] p1) "__init__" (ksEnv qual sc L fI (.ref cda) cc) (eval (.Call (.Name "super" p0) [] [] p1) (ksEnv qual sc L fI (.ref cda) cc))
      standAt p2.atName
      let (f, first) ← holding [ov] (getMethod ov "__init__" pl)
      callWith p3 f first (backTo p3 (starEach [ea] (ksEnv qual sc L fI (.ref cda) cc))) []) := by rfl) :
    _root_.PySem.wpAt (model P w) A (.func body (ksEnv qual sc L fI (.ref cda) cc)) (exec (.Expr (.Call (.Attribute (.Call (.Name "super" p0) [] [] p1) "__init__" p2) [ea] [] p3) p4) (ksEnv qual sc L fI (.ref cda) cc)) Q E s := by
  refine ks_wpAt_Expr_any (hi := hin) (ks_wpAt_MethodCall (pl := pl) ?_ he)
  have XH : K.In s.heap := G.kin.keeps F.keep
  refine sup_node T G F N hp hv (InstAt.of_exc0 N (.head _)) hks hkc hka hk fun so h1 F1 N1 l1 => ?_
  refine kxs_method (s := { s with heap := h1 }) kxs_ValueError F1 G.kin N1 (.head _) (InstAt.of_exc0 N1 (.tail _ (.head _))) T.any T.sI T.ve rfl fun q h2 F2 N2 l2 => ?_
  refine kxs_callWith1 N2 (.head _) (args_cons (hev _ _ F2.ns fun u k => args_nil ⟨kxs_at N2 (.head _), ?_⟩) hst) hst rfl
  have nso : so ≠ x := fun z => by
    have := l1 (x, excObj C t0 none .none) (.head _)
    rw [z] at this
    exact absurd this (Nat.lt_irrefl _)
  have nq : q ≠ x := fun z => by
    have := l2 (x, excObj C t0 none .none) (.tail _ (.head _))
    rw [z] at this
    exact absurd this (Nat.lt_irrefl _)
  refine kxs_call (s := { s with heap := h2, toks := k }) F2 G.kin N2 PySem.F.excBase_ValueError T.ei (.head _) (.tail nq (.tail nso (.head fun _ h => nomatch h))) (by rw [sizeLine_eq]; exact (by decide : 1 ≤ 16777216)) fun t' h3 F3 N3 l3 => ?_
  exact h t' h3 k F3 fun p hp => N3 p (.tail _ (.tail _ (.tail _ hp)))
/-- what __init__ leaves of a fresh exception at x -/
structure InitEnd (K : Frag) (h h' : Heap) (x C dx t1 : Addr) (par : Str) (v : Value) : Prop where
  keep : ∀ b o, b ≠ x → h.get? b = some o → h'.get? b = some o
  obj : h'.get? x = some { cls := .ref C, dict := some dx, data := .fields #[.ref t1, .none, .none, .none, .bool false, .none] }
  dbig : h.objs.size ≤ dx
  dne : dx ≠ x
  ns : h'.Ns1 dx (fun y => if y = par then some v else none)
variable {R : Result → Shared → Prop} {v : Value}
abbrev binds2 (par : Str) (x : Addr) (v : Value) : List (Str × Value) := [("self", .ref x), (par, v)]
abbrev mp2 (par : Str) (x : Addr) (v : Value) : Str → Option Value := fun y => (binds2 par x v).reverse.lookup y
theorem init_two {a0 a1 a2 a3 a4 b0 b1 b2 b3 : Pos} {ea : Expr} (T : XT P K C fI cda cc fnm qual ar [.Expr (.Call (.Attribute (.Call (.Name "super" a0) [] [] a1) "__init__" a2) [ea] [] a3) a4, .Assign [.Attribute (.Name "self" b0) par b1] (.Name par b2) b3] sc par)
    (G : Md K mg s.heap) (hx : s.heap.get? x = some (excO C t0)) (hnx : K.lookup x = none) (hng : x ≠ mainGlobals) (hnb : x ≠ builtinsNs) (hlim : s.heap.NoLimit) (hroom : A.depth < recursionLimit)
    (hself : sc.names.lookup ("self" : Str) = some .local) (hpar : sc.names.lookup par = some .local) (hks : sc.names.lookup ("super" : Str) = some .globalImplicit) (hkc : sc.names.lookup ("__class__" : Str) = some .free) (hk : sc.kind = .function)
    (hco : sc.isCoroutine = false) (hgen : sc.isGenerator = false) (hcell : ∀ y ∈ sc.names, y.2 ≠ .cell) (hps : par ≠ "self") (hpd : (par == ("__debug__" : Str)) = false)
    {ar0 : Arg} (hp : (ar.posonlyargs ++ ar.args).head? = some ar0) (har : ar0.arg = "self")
    (hbind : ∀ (s : Shared) (bo : List Stmt) (doc pm : Value) (an : Option Addr) (ct : Value), BindsTo s (ksFn fnm qual ar bo sc .none .none doc pm an (.ref cda) ct cc) ⟨[.ref x, v], []⟩ (binds2 par x v))
    (hev : ∀ (L : Addr) (A : Around) (E : Value → Shared → Prop) (s' : Shared) (Q' : Value → Shared → Prop), s'.heap.Ns L (mp2 par x v) → (∀ u k, Q' u { s' with toks := k }) → wpAny (model P w) A (eval ea (ksEnv qual sc L fI (.ref cda) cc)) Q' E s')
    (hst : ∀ L, starEach [ea] (ksEnv qual sc L fI (.ref cda) cc) = (false, eval ea (ksEnv qual sc L fI (.ref cda) cc)) :: starEach [] (ksEnv qual sc L fI (.ref cda) cc))
    (hin : ∀ L, interactive (ksEnv qual sc L fI (.ref cda) cc) = false)
    (hsw : ∀ L, swapsWith (.Name par b2) (some (.Attribute (.Name "self" b0) par b1)) b3.line (ksEnv qual sc L fI (.ref cda) cc) = pure false)
    {pl : Sem Bool} (he : ∀ L, eval (.Call (.Attribute (.Call (.Name "super" a0) [] [] a1) "__init__" a2) [ea] [] a3) (ksEnv qual sc L fI (.ref cda) cc) = (do
      let ov ← attributeBase (.Call (.Name "super" a0) [] [] a1) "__init__" (ksEnv qual sc L fI (.ref cda) cc) (eval (.Call (.Name "super" a0) [] [] a1) (ksEnv qual sc L fI (.ref cda) cc))
      standAt a2.atName
      let (f, first) ← holding [ov] (getMethod ov "__init__" pl)
      callWith a3 f first (backTo a3 (starEach [ea] (ksEnv qual sc L fI (.ref cda) cc))) []))
    (hq : ∀ h' tk dx t1, InitEnd K s.heap h' x C dx t1 par v → R (.ok (.ret .none)) { s with heap := h', toks := tk }) :
    codeAny (model P w) A (.call (.ref fI) ⟨[.ref x, v], []⟩) R s := by
  obtain ⟨oc, od, osl, doc, pm, an, ct, ho, hcd⟩ := T.fn
  obtain ⟨nm, q, N0, bs, bm, sn, sub, ab, col, dd, k0, k1, k2, k3, k5, hC, hbm⟩ := T.cls
  have hcl : clsIn K C = some { name := nm, bases := bs, mro := .ref C :: bm, ns := N0, qualname := q, hasDict := true, slotNames := sn, subclasses := sub, abstract := ab, collection := col, hasDel := false } := by unfold clsIn; rw [hC] <;> rfl
  have XH := G.kin
  refine ks_codeAny_call_defAt (binds := binds2 par x v) hroom (XH _ _ ho) rfl hlim (codeRec_of XH hcd) rfl (hbind _ _ _ _ _ _) hcell (fun y hy => ?_) (fun h₁ hn hk1 => ?_) hco hgen hk
  · rcases List.mem_cons.mp hy with rfl | hy
    · exact hself
    · rcases List.mem_cons.mp hy with rfl | hy
      · exact hpar
      · cases hy
  have hxl := Heap.lt_size hx
  have hb : ∀ b o, (hideAll s.heap [x]).get? b = some o → h₁.get? b = some o := fun b o e => hk1 b o (of_hideAll _ e)
  have F0 : Fr (hideAll s.heap [x]) s.heap.objs.size h₁ (mp2 par x v) := ⟨hn, hb, Nat.le_of_eq (hideAll_size _ _)⟩
  have hid : ∀ b o, s.heap.get? b = some o → b ≠ x → (hideAll s.heap [x]).get? b = some o := fun b o e n => hideAll_get _ e (by simpa using n)
  have kin' : K.In (hideAll s.heap [x]) := fun a o e => hid a o (XH a o e) fun z => by rw [z, hnx] at e; cases e
  have G0 : Md K mg (hideAll s.heap [x]) := by
    refine ⟨kin', ?_, ?_⟩
    · exact G.glob.at fun o e => hid _ o e (Ne.symm hng)
    · obtain ⟨mb, h1, h2⟩ := G.blt
      exact ⟨mb, h1.at fun o e => hid _ o e (Ne.symm hnb), h2⟩
  have N1 : News (hideAll s.heap [x]) s.heap.objs.size h₁ [(x, excObj C t0 none .none)] := fun p hp => by
    have e : p = (x, excObj C t0 none .none) := by simpa using hp
    subst e
    exact ⟨hk1 _ _ hx, Nat.ne_of_lt hxl, hideAll_none _ (List.mem_singleton.mpr rfl)⟩
  have hms : mp2 par x v "self" = some (.ref x) := by
    show List.lookup ("self" : Str) [(par, v), ("self", Value.ref x)] = some (.ref x)
    have : (("self" : Str) == par) = false := by simpa using Ne.symm hps
    simp [List.lookup, this]
  have hmp : mp2 par x v par = some v := by
    show List.lookup par [(par, v), ("self", Value.ref x)] = some v
    simp [List.lookup]
  refine ks_wpAt_execs_cons ?_
  refine sup_step (s := { s with heap := h₁, toks := _ }) T G0 F0 N1 hp (by rw [har]; exact hms) hks hkc (by rw [har]; exact hself) hk (fun s' Q' hn' hq' => hev _ _ _ s' Q' hn' hq') (fun t' h2 k F2 N2 => ?_) (hst _) (hin _) (he _)
  refine ks_wpAt_execs_cons (ks_wpAt_Assign_Attr ?_ (hsw _))
  have X2 : K.In h2 := G0.kin.keeps F2.keep
  have hx2 := (N2 _ (.head _)).1
  refine wpAt_of_wpAny (ESX.ldL (s := { s with heap := h2, toks := k }) (env := ksEnv qual sc s.heap.objs.size fI (.ref cda) cc) F2.ns hmp ?_ hk hpar hpd)
  refine ESX.ldL (s := { s with heap := h2, toks := k }) (env := ksEnv qual sc s.heap.objs.size fI (.ref cda) cc) F2.ns hms ?_ hk hself rfl
  refine set_plain X2 (ox := excO C t') (od := none) ⟨hx2, rfl, rfl, trivial⟩ T.sa ?_
  refine PySem.HandSPX.exc_osa X2 hx2 hcl (show refsVE (.ref C :: bm) = true from hbm) rfl T.noN (fun h₃ tk₃ dx k₃ dn dne hx₃ hn₃ => ?_)
  refine wpAt_of_wpAny (wpAny_execs_nil (hq h₃ tk₃ dx t' ⟨fun b o hb' e => k₃ b o hb' (F2.keep b o (hid b o e hb')), hx₃, ?_, dne, hn₃⟩))
  exact Nat.le_of_lt (Nat.lt_of_lt_of_le F2.ns.lt dn)
end
end DX
namespace DX
open PySem PySem.Spec PySem.W PySem.Calls PyProof.Rows PySem.HandSPX
section
variable {P : Program} {w : World} {A : Around} {E : Value → Shared → Prop} {s : Shared} {K : Frag} {mg : Str → Option Value} {C fI cda cc : Addr} {fnm qual par : Str} {ar : Arguments} {sc : Scope} {x t0 : Addr} {R : Result → Shared → Prop}
/-- the one line super().__init__(e) alone -/
theorem init_one {a0 a1 a2 a3 a4 : Pos} {ea : Expr} (T : XT P K C fI cda cc fnm qual ar [.Expr (.Call (.Attribute (.Call (.Name "super" a0) [] [] a1) "__init__" a2) [ea] [] a3) a4] sc par)
    (G : Md K mg s.heap) (hx : s.heap.get? x = some (excO C t0)) (hnx : K.lookup x = none) (hng : x ≠ mainGlobals) (hnb : x ≠ builtinsNs) (hlim : s.heap.NoLimit) (hroom : A.depth < recursionLimit)
    (hself : sc.names.lookup ("self" : Str) = some .local) (hks : sc.names.lookup ("super" : Str) = some .globalImplicit) (hkc : sc.names.lookup ("__class__" : Str) = some .free) (hk : sc.kind = .function)
    (hco : sc.isCoroutine = false) (hgen : sc.isGenerator = false) (hcell : ∀ y ∈ sc.names, y.2 ≠ .cell)
    {ar0 : Arg} (hp : (ar.posonlyargs ++ ar.args).head? = some ar0) (har : ar0.arg = "self")
    (hbind : ∀ (s : Shared) (bo : List Stmt) (doc pm : Value) (an : Option Addr) (ct : Value), BindsTo s (ksFn fnm qual ar bo sc .none .none doc pm an (.ref cda) ct cc) ⟨[.ref x], []⟩ [("self", .ref x)])
    (hev : ∀ (L : Addr) (A : Around) (E : Value → Shared → Prop) (s' : Shared) (Q' : Value → Shared → Prop), (∀ u k, Q' u { s' with toks := k }) → wpAny (model P w) A (eval ea (ksEnv qual sc L fI (.ref cda) cc)) Q' E s')
    (hst : ∀ L, starEach [ea] (ksEnv qual sc L fI (.ref cda) cc) = (false, eval ea (ksEnv qual sc L fI (.ref cda) cc)) :: starEach [] (ksEnv qual sc L fI (.ref cda) cc))
    (hin : ∀ L, interactive (ksEnv qual sc L fI (.ref cda) cc) = false)
    {pl : Sem Bool} (he : ∀ L, eval (.Call (.Attribute (.Call (.Name "super" a0) [] [] a1) "__init__" a2) [ea] [] a3) (ksEnv qual sc L fI (.ref cda) cc) = (do
      let ov ← attributeBase (.Call (.Name "super" a0) [] [] a1) "__init__" (ksEnv qual sc L fI (.ref cda) cc) (eval (.Call (.Name "super" a0) [] [] a1) (ksEnv qual sc L fI (.ref cda) cc))
      standAt a2.atName
      let (f, first) ← holding [ov] (getMethod ov "__init__" pl)
      callWith a3 f first (backTo a3 (starEach [ea] (ksEnv qual sc L fI (.ref cda) cc))) []))
    (hq : ∀ h' tk t1, (∀ b o, b ≠ x → s.heap.get? b = some o → h'.get? b = some o) → h'.get? x = some (excO C t1) → R (.ok (.ret .none)) { s with heap := h', toks := tk }) :
    codeAny (model P w) A (.call (.ref fI) ⟨[.ref x], []⟩) R s := by
  obtain ⟨oc, od, osl, doc, pm, an, ct, ho, hcd⟩ := T.fn
  have XH := G.kin
  refine ks_codeAny_call_defAt (binds := [("self", .ref x)]) hroom (XH _ _ ho) rfl hlim (codeRec_of XH hcd) rfl (hbind _ _ _ _ _ _) hcell (fun y hy => ?_) (fun h₁ hn hk1 => ?_) hco hgen hk
  · rcases List.mem_cons.mp hy with rfl | hy
    · exact hself
    · cases hy
  have hxl := Heap.lt_size hx
  have hb : ∀ b o, (hideAll s.heap [x]).get? b = some o → h₁.get? b = some o := fun b o e => hk1 b o (of_hideAll _ e)
  have F0 : Fr (hideAll s.heap [x]) s.heap.objs.size h₁ (fun y => ([("self", Value.ref x)] : List (Str × Value)).reverse.lookup y) := ⟨hn, hb, Nat.le_of_eq (hideAll_size _ _)⟩
  have hid : ∀ b o, s.heap.get? b = some o → b ≠ x → (hideAll s.heap [x]).get? b = some o := fun b o e n => hideAll_get _ e (by simpa using n)
  have kin' : K.In (hideAll s.heap [x]) := fun a o e => hid a o (XH a o e) fun z => by rw [z, hnx] at e; cases e
  have G0 : Md K mg (hideAll s.heap [x]) := by
    refine ⟨kin', ?_, ?_⟩
    · exact G.glob.at fun o e => hid _ o e (Ne.symm hng)
    · obtain ⟨mb, h1, h2⟩ := G.blt
      exact ⟨mb, h1.at fun o e => hid _ o e (Ne.symm hnb), h2⟩
  have N1 : News (hideAll s.heap [x]) s.heap.objs.size h₁ [(x, excObj C t0 none .none)] := fun p hp => by
    have e : p = (x, excObj C t0 none .none) := by simpa using hp
    subst e
    exact ⟨hk1 _ _ hx, Nat.ne_of_lt hxl, hideAll_none _ (List.mem_singleton.mpr rfl)⟩
  refine ks_wpAt_execs_cons ?_
  refine sup_step (s := { s with heap := h₁, toks := _ }) T G0 F0 N1 hp (by rw [har]; rfl) hks hkc (by rw [har]; exact hself) hk (fun s' Q' hn' hq' => hev _ _ _ s' Q' hq') (fun t' h2 k F2 N2 => ?_) (hst _) (hin _) (he _)
  exact wpAt_of_wpAny (wpAny_execs_nil (hq h2 k t' (fun b o hb' e => F2.keep b o (hid b o e hb')) (N2 _ (.head _)).1))
end
/-- an own exception class with one argument (kept as par; ok: which values it may have), without -/
structure XCl (K : Frag) (C fI : Addr) : Prop where
  cls : ∃ nm q N bs bm sn sub ab col dd k0 k1 k2 k3 k5, K.lookup C = some (excClassObj nm q C N bs bm true sn sub ab col dd k0 k1 k2 k3 k5 "ValueError.__new__") ∧ refsVE bm = true
  iC : findIn K (.ref C) "__init__" = some (some (.ref fI))
  tC : typeIn K (.ref fI) = some (.type "function")
  kC : keepIn K (.ref C) = true
  exC : subIn K (.ref C) (.type "BaseException") = some true
  tyC : typeIn K (.ref C) = some (.type "type")
theorem XT.cl {P : Program} {K : Frag} {C fI cda cc : Addr} {fnm qual par : Str} {ar : Arguments} {bo : List Stmt} {sc : Scope} (T : XT P K C fI cda cc fnm qual ar bo sc par) : XCl K C fI := ⟨T.cls, T.iC, T.tC, T.kC, T.exC, T.tyC⟩
structure X2 (P : Program) (w : World) (K : Frag) (mg : Str → Option Value) (C : Addr) (par : Str) (ok : L2.V → Prop) where
  fI : Addr
  cl : XCl K C fI
  run : ∀ (A : Around) (R : Result → Shared → Prop) (s : Shared) (x t0 : Addr) (v : L2.V) (u : Value), Md K mg s.heap → s.heap.get? x = some (excO C t0) → K.lookup x = none → x ≠ mainGlobals → x ≠ builtinsNs → s.heap.NoLimit → A.depth < recursionLimit → L2.RelV v u → ok v →
    (∀ h' tk dx t1, InitEnd K s.heap h' x C dx t1 par u → R (.ok (.ret .none)) { s with heap := h', toks := tk }) → codeAny (model P w) A (.call (.ref fI) ⟨[.ref x, u], []⟩) R s
structure X1 (P : Program) (w : World) (K : Frag) (mg : Str → Option Value) (C : Addr) where
  fI : Addr
  cl : XCl K C fI
  run : ∀ (A : Around) (R : Result → Shared → Prop) (s : Shared) (x t0 : Addr), Md K mg s.heap → s.heap.get? x = some (excO C t0) → K.lookup x = none → x ≠ mainGlobals → x ≠ builtinsNs → s.heap.NoLimit → A.depth < recursionLimit →
    (∀ h' tk t1, (∀ b o, b ≠ x → s.heap.get? b = some o → h'.get? b = some o) → h'.get? x = some (excO C t1) → R (.ok (.ret .none)) { s with heap := h', toks := tk }) → codeAny (model P w) A (.call (.ref fI) ⟨[.ref x], []⟩) R s
end DX

set_option maxRecDepth 100000
set_option maxHeartbeats 2000000
set_option autoImplicit false
namespace DL
open PySem L2 PySem.Spec PyProof.Rows
/-! ### C(e), C(), the exception made -/
theorem relO_one {par : Str} {v : V} {u : Value} (r : RelV v u) (f : Str) : RelO (List.lookup f [(par, v)]) (if f = par then some u else none) := by
  by_cases hw : f = par
  · subst hw
    have q : List.lookup f [(f, v)] = some v := by simp [List.lookup]
    rw [q, if_pos rfl]
    exact r
  · have qw : (f == par) = false := by simpa using hw
    have q : List.lookup f [(par, v)] = none := by simp [List.lookup, qw]
    rw [q, if_neg hw]
    trivial
section
variable {X : Cx} {C : Addr} {par x : Str} {ok : V → Prop}
def tMk2 (C : Addr) (par : Str) (ok : V → Prop) (ta : TA) : L2.St → Hp → XK → Prop := fun σ H Q => ta σ H fun vs H1 => ∃ v, vs = [v] ∧ ok v ∧ ∀ d, H1 d = none → Q (.ref C) (some d) (upd H1 d (.xd [(par, v)]))
def tMk1 (C : Addr) : L2.St → Hp → XK → Prop := fun σ H Q => Q (.ref C) none H
theorem md_of {pins : List (Addr × Obj)} {σ : L2.St} {H : Hp} {s : Shared} (I : Inv X pins σ H s) : DX.Md X.K X.mg s.heap := by
  obtain ⟨mb, h1, h2⟩ := I.mod.blt
  exact ⟨I.kIn, I.mod.glob.keeps I.bk, mb, h1.keeps I.bk, h2⟩
theorem knone {K : PySem.W.Frag} {h : Heap} (X : K.In h) {a : Addr} (hl : h.objs.size ≤ a) : K.lookup a = none := by
  cases e : K.lookup a with
  | none => rfl
  | some o => exact absurd (Nat.lt_of_lt_of_le (Heap.lt_size (X _ _ e)) hl) (Nat.lt_irrefl _)
theorem md_keeps {K : PySem.W.Frag} {mg : Str → Option Value} {h h' : Heap} (M : DX.Md K mg h) (k : ∀ b o, h.get? b = some o → h'.get? b = some o) : DX.Md K mg h' := by
  obtain ⟨mb, h1, h2⟩ := M.blt
  exact ⟨M.kin.keeps k, M.glob.keeps k, mb, h1.keeps k, h2⟩
theorem md_ne {K : PySem.W.Frag} {mg : Str → Option Value} {h : Heap} (M : DX.Md K mg h) {a : Addr} (hl : h.objs.size ≤ a) : a ≠ mainGlobals ∧ a ≠ builtinsNs := by
  obtain ⟨mb, h1, h2⟩ := M.blt
  exact ⟨fun z => absurd (Nat.lt_of_lt_of_le M.glob.lt (by rw [← z]; exact hl)) (Nat.lt_irrefl _), fun z => absurd (Nat.lt_of_lt_of_le h1.lt (by rw [← z]; exact hl)) (Nat.lt_irrefl _)⟩
theorem pmk_2 {a : Expr} {ta : TA} {p pos : Pos} {k : Nat} (T : DX.X2 X.prog X.w X.K X.mg C par ok) (gC : X.mg x = some (.ref C)) (hr : Room (k + 1) X.A) (ha : PA X [a] ta) (hg : Gl X x := by rfl) (hdb : (x == ("__debug__" : Str)) = false := by decide)
    (he : starEach (a :: []) X.env = (false, eval a X.env) :: starEach [] X.env := by rfl) (hpl : (backTo pos (starEach [] X.env)).any (·.1) = false := by rfl) :
    PMk X (.Call (.Name x p) [a] [] pos) (tMk2 C par ok ta) := by
  intro pins s σ H Q I h
  obtain ⟨nm, q, N0, bs, bm, sn, sub, ab, col, dd, k0, k1, k2, k3, k5, hC, hbm⟩ := T.cl.cls
  refine wpAny_Call_Name_kw (ld_glob I hg gC ?_ hdb)
  refine PySem.W.callWith_K (h₀ := X.base) I.ok.mod.kin T.cl.kC (thn (ha.run pos pins s σ H _ I h) fun us s1 hh => ?_) he hpl
  obtain ⟨vs, H1, I1, r1, v, ev, hv, q1⟩ := hh
  subst ev
  refine ⟨I1.kIn, ?_⟩
  cases r1 with
  | cons rv rn =>
    rename_i u us'
    cases rn
    show wpAny _ _ (call (.ref C) [u]) _ _ _
    have hlim := I1.nolimit
    have M1 := md_of I1
    obtain ⟨hp, g, dr, tk, os⟩ := s1
    have kk : ∀ b o, hp.get? b = some o → ((hp.push (PySem.W.kdv_tup [u])).push (PySem.HandSPX.excO C hp.objs.size)).get? b = some o := fun b o e => Heap.get?_push_of_some _ (Heap.get?_push_of_some _ e)
    have hget : ((hp.push (PySem.W.kdv_tup [u])).push (PySem.HandSPX.excO C hp.objs.size)).get? (hp.objs.size + 1) = some (PySem.HandSPX.excO C hp.objs.size) := by heap_get
    obtain ⟨n1, n2⟩ := md_ne M1 (a := hp.objs.size + 1) (Nat.le_succ _)
    refine wpAny_call (PySem.HandSPX.call_own F.excBase_ValueError (fun Y => PySem.HandSPX.refsVE_contains Y bm hbm) (I1.kIn _ _ hC) (PySem.W.looks_findIn I1.kIn T.cl.iC) (fun self => PySem.W.bind_fn I1.kIn self T.cl.tC) (by rw [sizeLine_eq]; exact (by decide : 1 ≤ 16777216))
      (T.run _ _ ⟨(hp.push (PySem.W.kdv_tup [u])).push (PySem.HandSPX.excO C hp.objs.size), g, dr, tk, os⟩ (hp.objs.size + 1) hp.objs.size v u (md_keeps M1 kk) hget (knone I1.kIn (Nat.le_succ _)) n1 n2 (hlim.keeps kk) (by have := hr.dp; show X.A.depth + 1 < recursionLimit; omega) rv hv fun h' tk' d t1 M => ?_))
    refine ⟨rfl, ?_⟩
    show MkP X pins σ Q (.ref (hp.objs.size + 1)) ⟨h', g, dr, tk', os⟩
    generalize hee : hp.objs.size + 1 = e at M hget n1 n2
    have enew : hp.objs.size ≤ e := by rw [← hee]; exact Nat.le_succ _
    have dbig : hp.objs.size ≤ d := by
      have := M.dbig
      refine Nat.le_trans ?_ this
      show hp.objs.size ≤ ((hp.push (PySem.W.kdv_tup [u])).push (PySem.HandSPX.excO C hp.objs.size)).objs.size
      rw [Heap.size_push, Heap.size_push]
      omega
    have old : ∀ b o, hp.get? b = some o → h'.get? b = some o := fun b o q => M.keep b o (Nat.ne_of_lt (Nat.lt_of_lt_of_le (Heap.lt_size q) enew)) (kk b o q)
    have hns := M.ns
    obtain ⟨G', g1, g2⟩ := restrict h' fun b => decide (b ≠ e)
    have gk : ∀ b, b ≠ e → G'.get? b = h'.get? b := fun b hb => g1 b (decide_eq_true hb)
    have ge : G'.get? e = none := g2 e (by simp)
    have oldG : ∀ b o, hp.get? b = some o → G'.get? b = some o := fun b o q => (gk b (Nat.ne_of_lt (Nat.lt_of_lt_of_le (Heap.lt_size q) enew))).trans (old b o q)
    have ob : ObjOk X.prog X.w (upd H1 d (.xd [(par, v)])) G' d (.xd [(par, v)]) := ⟨_, hns.at (fun o q => (gk d M.dne).trans q), fun f => relO_one rv f⟩
    have J : Inv X pins σ (upd H1 d (.xd [(par, v)])) ⟨G', g, dr, tk', os⟩ := I1.laid (t' := tk') oldG dbig ob
    refine ⟨e, _, _, ⟨G', g, dr, tk', os⟩, _, .ref C, some d, rfl, J, fun b o q => ?_, ge, M.obj, ⟨rfl, rfl⟩, rfl, rfl, ?_, rfl, I1.bare, raises_own T.cl.exC T.cl.tyC, q1 d (I1.hok.fresh dbig)⟩
    · by_cases hb : b = e
      · have q' : G'.get? b = some o := q
        rw [hb, ge] at q'; cases q'
      · exact (gk b hb).symm.trans q
    · rw [upd_ne (Ne.symm M.dne)]
      exact I1.hok.fresh enew
theorem pmk_1 {p pos : Pos} {k : Nat} (T : DX.X1 X.prog X.w X.K X.mg C) (gC : X.mg x = some (.ref C)) (hr : Room (k + 1) X.A) (hg : Gl X x := by rfl) (hdb : (x == ("__debug__" : Str)) = false := by decide) :
    PMk X (.Call (.Name x p) [] [] pos) (tMk1 C) := by
  intro pins s σ H Q I h
  obtain ⟨nm, q, N0, bs, bm, sn, sub, ab, col, dd, k0, k1, k2, k3, k5, hC, hbm⟩ := T.cl.cls
  refine wpAny_Call_Name_kw (ld_glob I hg gC ?_ hdb)
  refine PySem.W.callWith_K0 I.kIn T.cl.kC ?_
  show wpAny _ _ (call (.ref C) []) _ _ _
  have hlim := I.nolimit
  have M1 := md_of I
  obtain ⟨hp, g, dr, tk, os⟩ := s
  have kk : ∀ b o, hp.get? b = some o → ((hp.push (PySem.W.kdv_tup [])).push (PySem.HandSPX.excO C hp.objs.size)).get? b = some o := fun b o e => Heap.get?_push_of_some _ (Heap.get?_push_of_some _ e)
  have hget : ((hp.push (PySem.W.kdv_tup [])).push (PySem.HandSPX.excO C hp.objs.size)).get? (hp.objs.size + 1) = some (PySem.HandSPX.excO C hp.objs.size) := by heap_get
  obtain ⟨n1, n2⟩ := md_ne M1 (a := hp.objs.size + 1) (Nat.le_succ _)
  refine wpAny_call (PySem.HandSPX.call_own F.excBase_ValueError (fun Y => PySem.HandSPX.refsVE_contains Y bm hbm) (I.kIn _ _ hC) (PySem.W.looks_findIn I.kIn T.cl.iC) (fun self => PySem.W.bind_fn I.kIn self T.cl.tC) (by rw [sizeLine_eq]; exact (by decide : 0 ≤ 16777216))
    (T.run _ _ ⟨(hp.push (PySem.W.kdv_tup [])).push (PySem.HandSPX.excO C hp.objs.size), g, dr, tk, os⟩ (hp.objs.size + 1) hp.objs.size (md_keeps M1 kk) hget (knone I.kIn (Nat.le_succ _)) n1 n2 (hlim.keeps kk) (by have := hr.dp; show X.A.depth + 1 < recursionLimit; omega) fun h' tk' t1 keep obj => ?_))
  refine ⟨rfl, ?_⟩
  show MkP X pins σ Q (.ref (hp.objs.size + 1)) ⟨h', g, dr, tk', os⟩
  generalize hee : hp.objs.size + 1 = e at keep obj hget n1 n2
  have enew : hp.objs.size ≤ e := by rw [← hee]; exact Nat.le_succ _
  have old : ∀ b o, hp.get? b = some o → h'.get? b = some o := fun b o q => keep b o (Nat.ne_of_lt (Nat.lt_of_lt_of_le (Heap.lt_size q) enew)) (kk b o q)
  obtain ⟨G', g1, g2⟩ := restrict h' fun b => decide (b ≠ e)
  have gk : ∀ b, b ≠ e → G'.get? b = h'.get? b := fun b hb => g1 b (decide_eq_true hb)
  have ge : G'.get? e = none := g2 e (by simp)
  have oldG : ∀ b o, hp.get? b = some o → G'.get? b = some o := fun b o q => (gk b (Nat.ne_of_lt (Nat.lt_of_lt_of_le (Heap.lt_size q) enew))).trans (old b o q)
  have J : Inv X pins σ H ⟨G', g, dr, tk', os⟩ := I.kept (t' := tk') oldG
  refine ⟨e, _, _, ⟨G', g, dr, tk', os⟩, _, .ref C, none, rfl, J, fun b o q => ?_, ge, obj, ⟨rfl, rfl⟩, rfl, rfl, I.hok.fresh enew, rfl, I.bare, raises_own T.cl.exC T.cl.tyC, h⟩
  by_cases hb : b = e
  · have q' : G'.get? b = some o := q
    rw [hb, ge] at q'; cases q'
  · exact (gk b hb).symm.trans q
end
end DL

set_option maxRecDepth 100000
set_option maxHeartbeats 2000000
set_option autoImplicit false
namespace DL
open PySem L2
/-! ### raise -/
def vRaise2 (c : Nat) (par : Str) (okd : D → Bool) (ev : DEnv → Rs D) (de : DEnv) : Ot := (ev de).out fun d de1 => if okd d = true then .ex c [(par, d)] de1 else .bad
def vRaise1 (c : Nat) (de : DEnv) : Ot := .ex c [] de
def isStr : D → Bool
  | .str s => decide (s.length ≤ 1000000)
  | _ => false
def anyD : D → Bool := fun _ => true
def okStr : V → Prop := fun v => ∃ s : Str, v = .str s ∧ s.length ≤ 1000000
def okAny : V → Prop := fun _ => True
theorem ok_str {K : PySem.W.Frag} {kap : Nat → Addr} (F : Hp) (v : V) (d : D) (r : Rep K kap F v d) (h : isStr d = true) : okStr v := by
  cases r with
  | str s => exact ⟨s, rfl, of_decide_eq_true h⟩
  | _ => cases h
theorem ok_any {K : PySem.W.Frag} {kap : Nat → Addr} (F : Hp) (v : V) (d : D) (r : Rep K kap F v d) (h : anyD d = true) : okAny v := trivial
section
variable {kap : Nat → Addr} {xi : Xi} {X : Cx} {W : WX} {e : Expr} {t : WX → TE} {ev : DEnv → Rs D} {pos p pos2 : Pos} {k : Nat} {x par : Str} {ok : V → Prop} {okd : D → Bool} {C : Addr}
theorem jRaise2 (c : Nat) (hkc : kap c = C) (T : DX.X2 X.prog X.w X.K X.mg C par ok) (hok : ∀ F v d, Rep X.K kap F v d → okd d = true → ok v) (gC : X.mg x = some (.ref C)) (hr : RoomG (k + 1) X.A) (tk : Takes X W) (h : JE kap xi X W e t ev) (hc : X.calm = true := by rfl) (hg : Gl X x := by rfl) (hdb : (x == ("__debug__" : Str)) = false := by decide)
    (he : starEach (e :: []) X.env = (false, eval e X.env) :: starEach [] X.env := by rfl) (hpl : (backTo pos (starEach [] X.env)).any (·.1) = false := by rfl) :
    JS kap xi X W (.Raise (some (.Call (.Name x p) [e] [] pos)) none pos2) (fun W _ σ H => tMk2 C par ok (tCons (t W) tNil) σ H fun cls d H' => W cls d σ H') (vRaise2 c par okd ev) := ⟨ps_raise hc tk (pmk_2 T gC hr.r (pa_cons h.p pa_nil he) hg hdb he hpl), by
  subst hkc
  intro W F H sg de O Dn R hp
  refine h.s.out R hp fun v d F1 H1 de1 O1 R1 g1 r _ hp => ?_
  split at hp
  · rename_i ho
    refine ⟨v, rfl, hok F1 v d r ho, fun dd hd => ?_⟩
    obtain ⟨n, s2⟩ := New.one (o := .xd [(par, v)]) R1.sub hd
    exact hp (upd F1 dd (.xd [(par, v)])) (upd H1 dd (.xd [(par, v)])) sg O1 (some dd) (R1.new n s2) n.go ⟨_, upd_same, rfl, .cons (r.mono n.f) .nil⟩
  · exact hp.elim⟩
theorem jRaise1 (c : Nat) (hkc : kap c = C) (T : DX.X1 X.prog X.w X.K X.mg C) (gC : X.mg x = some (.ref C)) (hr : RoomG (k + 1) X.A) (tk : Takes X W) (hc : X.calm = true := by rfl) (hg : Gl X x := by rfl) (hdb : (x == ("__debug__" : Str)) = false := by decide) :
    JS kap xi X W (.Raise (some (.Call (.Name x p) [] [] pos)) none pos2) (fun W _ σ H => tMk1 C σ H fun cls d H' => W cls d σ H') (vRaise1 c) := ⟨ps_raise hc tk (pmk_1 T gC hr.r hg hdb), by
  subst hkc
  intro W F H sg de O Dn R hp
  exact hp F H sg O none R Go.refl rfl⟩
end

/-! ### try: .. except C as e: .. -/
def noEx : Sl → Bool
  | .ex _ _ => false
  | _ => true
def calmD (de : DEnv) : Bool := de.all noEx
/-- the suite's end: its name goes -/
def offEx (i : Nat) : Ot → Ot
  | .nx de => if calmD (de.set i .no) = true then .nx (de.set i .no) else .bad
  | .brk de => if calmD (de.set i .no) = true then .brk (de.set i .no) else .bad
  | .ct de => if calmD (de.set i .no) = true then .ct (de.set i .no) else .bad
  | .ret d de => if calmD (de.set i .no) = true then .ret d (de.set i .no) else .bad
  | .retF d de => if calmD (de.set i .no) = true then .retF d (de.set i .no) else .bad
  | _ => .bad
def vTryAs (i : Nat) (mt : Nat → Option Bool) (eb es : DEnv → Ot) (de : DEnv) : Ot := match eb de with
  | .ex c fs de1 => (match mt c with
    | some true => if calmD (de1.set i .no) = true then offEx i (es (de1.set i (.ex c fs))) else .bad
    | some false => .ex c fs de1
    | none => .bad)
  | o => o
def noOut : Ot → Ot
  | .ex _ _ _ => .bad
  | o => o
def vTryOnly (mt : Nat → Option Bool) (eb es : DEnv → Ot) (de : DEnv) : Ot := match eb de with
  | .ex c fs de1 => (match mt c with
    | some true => noOut (es de1)
    | some false => .ex c fs de1
    | none => .bad)
  | o => o
def vXf (i : Nat) (c : Nat) (f : Str) (de : DEnv) : Rs D := match de[i]? with
  | some (.ex c' fs) => if c' = c then ofO (fs.lookup f) de else .bad
  | _ => .bad
section
variable {K : PySem.W.Frag} {kap : Nat → Addr} {xi xj : Xi} {F H : Hp} {sg : L2.St} {de : DEnv} {O : Own?}
theorem calm_no {de : DEnv} (h : calmD de = true) (i c : Nat) (fs : List (Str × D)) : de[i]? ≠ some (.ex c fs) := fun e => by
  have := List.all_eq_true.mp h _ (List.mem_of_getElem? e)
  cases this
theorem RS.xch (R : RS K kap xi F H sg de O) (h : calmD de = true) : RS K kap xj F H sg de O :=
  ⟨R.len, R.va, R.ow, fun i c fs e => absurd e (calm_no h i c fs), R.onl, R.inj, R.sub⟩
theorem RS.off (R : RS K kap xi F H sg de O) (i : Nat) : RS K kap xi F H (sg.set i none) (de.set i .no) (putO O de.length i none) :=
  R.put i none .no none (fun _ e => by cases e) (fun _ e => by cases e) (fun _ _ e => by cases e) fun _ => rfl
theorem go_off (i : Nat) : Go F H de O F H (de.set i .no) (putO O de.length i none) := Go.put i .no none (fun _ e => by cases e) fun _ e => by cases e
theorem go_ex (i c : Nat) (fs : List (Str × D)) : Go F H de O F H (de.set i (.ex c fs)) (putO O de.length i none) := Go.put i _ none (fun _ e => by cases e) fun _ e => by cases e
theorem RS.onEx (R : RS K kap xi F H sg de O) (i c : Nat) {fs : List (Str × D)} {a : Addr} {d : Option Addr} (h : calmD (de.set i .no) = true) (x : XR K kap F d fs) :
    RS K kap (some (a, Value.ref (kap c), d)) F H (sg.set i (some (.ref a))) (de.set i (.ex c fs)) (putO O de.length i none) := by
  have R1 : RS K kap (some (a, Value.ref (kap c), d)) F H (sg.set i none) (de.set i .no) (putO O de.length i none) := (R.off i).xch h
  have R2 := R1.put i (some (.ref a)) (.ex c fs) none (fun _ e => by cases e) (fun _ e => by cases e) (fun c' fs' e => by cases e; exact ⟨a, d, rfl, rfl, x⟩) fun _ => rfl
  rw [List.set_set, List.set_set, List.length_set] at R2
  have eO : putO (putO O de.length i none) de.length i none = putO O de.length i none := by
    funext j
    unfold putO
    split <;> rfl
  rw [eO] at R2
  exact R2
end
section
variable {kap : Nat → Addr} {xi : Xi} {X : Cx} {W : WX} {body suite : List Stmt} {b₀ : Stmt} {tb : WX → TS} {ts : Addr → Value → Option Addr → WX → TS} {eb es : DEnv → Ot} {pos pos' np : Pos} {x n : Str} {cv : Value} {mt : Nat → Option Bool}
abbrev W0 : WX := fun _ _ _ _ => False
/-- behind the suite -/
theorem off_ends {K : PySem.W.Frag} {F H : Hp} {de de1 : DEnv} {O O1 : Own?} {W : WX} {D : Ends} {i : Nat} {xj : Xi} {F0 H0 : Hp} {o : Ot} (h : PS1 K kap xi F H de O W D (offEx i o)) :
    PS1 K kap xj F H de O W0 { nx := fun σ' H' => D.nx (σ'.set i none) H', rt := D.rt, bk := fun σ' H' => D.bk (σ'.set i none) H', ct := fun σ' H' => D.ct (σ'.set i none) H' } o := by
  cases o with
  | nx de' =>
    unfold offEx at h
    dsimp only at h
    split at h
    · rename_i hc
      exact fun F' H' sg' O' R g => h F' H' _ _ ((R.off i).xch hc) (g.trans (go_off i))
    · exact h.elim
  | brk de' =>
    unfold offEx at h
    dsimp only at h
    split at h
    · rename_i hc
      exact fun F' H' sg' O' R g => h F' H' _ _ ((R.off i).xch hc) (g.trans (go_off i))
    · exact h.elim
  | ct de' =>
    unfold offEx at h
    dsimp only at h
    split at h
    · rename_i hc
      exact fun F' H' sg' O' R g => h F' H' _ _ ((R.off i).xch hc) (g.trans (go_off i))
    · exact h.elim
  | ret d de' =>
    unfold offEx at h
    dsimp only at h
    split at h
    · rename_i hc
      exact fun v F' H' sg' O' R g r => h v F' H' _ _ ((R.off i).xch hc) (g.trans (go_off i)) r
    · exact h.elim
  | retF d de' =>
    unfold offEx at h
    dsimp only at h
    split at h
    · rename_i hc
      intro v F' H' sg' O' R g ⟨p, ev, h1, h2, h3⟩ org
      refine h v F' H' _ _ ((R.off i).xch hc) (g.trans (go_off i)) ⟨p, ev, h1, h2, fun j z => ?_⟩ org
      unfold putO at z
      split at z
      · cases z
      · exact h3 j z
    · exact h.elim
  | ex c fs de' => exact h.elim
  | bad => exact h.elim
theorem jTryAs (i : Nat) (hs : X.stack = X.env :: X.outer) (hf : X.env.frame = some X.env.locals) (hN : X.N.Nodup) (hi : X.N[i]? = some n) (hln : X.env.kindOf n = some .local) (hc : Names X x cv) (tk : Takes X W)
    (hm : ∀ c b, mt c = some b → PySem.W.exmOne X.K (.ref (kap c)) cv = some b)
    (hb : ∀ (W : WX) (pn : List (Addr × Obj)) (xe : Value → Shared → Prop), Takes (X.tr pn xe) W → PassesOwn (model X.prog X.w) X.A X.env xe → JSs kap xi (X.tr pn xe) W body tb eb)
    (hsu : ∀ (a : Addr) (oe : Obj) (cls : Value) (d : Option Addr) (pn : List (Addr × Obj)), Zc cls d oe → (∃ vs, oe.data = .fields vs) → JSs kap (some (a, cls, d)) (X.suite a ((a, oe) :: pn)) W0 (b₀ :: suite) (ts a cls d) es) :
    JS kap xi X W (.Try body [.ExceptHandler (some (.Name x np)) (some n) (b₀ :: suite) pos'] [] [] pos) (fun W D σ H => tb (wAs X.K cv i (fun a cls d => ts a cls d W0) W D) D σ H) (vTryAs i mt eb es) := ⟨ps_try_as hs hf hN hi hln hc tk (fun W pn xe tk po => (hb W pn xe tk po).p) (fun a oe cls d pn hz hf => (hsu a oe cls d pn hz hf).p), by
  intro W F H sg de O Dn R hp
  have sb := (hb W0 [] (fun _ _ => False) takes0 PassesOwn.never).s
  refine sb (wAs X.K cv i (fun a cls d => ts a cls d W0) W Dn) F H sg de O Dn R ?_
  unfold vTryAs at hp
  cases eo : eb de with
  | nx de1 => rw [eo] at hp; exact hp
  | ret d de1 => rw [eo] at hp; exact hp
  | retF d de1 => rw [eo] at hp; exact hp
  | brk de1 => rw [eo] at hp; exact hp
  | ct de1 => rw [eo] at hp; exact hp
  | bad => rw [eo] at hp; exact hp
  | ex c fs de1 =>
    rw [eo] at hp
    dsimp only at hp
    intro F' H' sg' O' d R' g' xr
    split at hp
    · rename_i hmt
      split at hp
      · rename_i hcalm
        refine ⟨true, hm c true hmt, fun _ a ha => ?_, fun z => by cases z⟩
        have ss := fun oe hz hfl => (hsu a oe (.ref (kap c)) d [] hz hfl).s
        have R2 := R'.onEx (a := a) i c hcalm xr
        have hp := PS1.shift (g'.trans (go_ex i c fs)) hp
        refine ss { cls := .ref (kap c), dict := d, data := .fields #[] } ⟨rfl, rfl⟩ ⟨_, rfl⟩ W0 F' H' _ _ _ _ R2 (off_ends (F0 := F) (H0 := H) (de1 := de) (O1 := O) hp)
      · exact hp.elim
    · rename_i hmt
      exact ⟨false, hm c false hmt, (fun z => by cases z), fun _ => hp F' H' sg' O' d R' g' xr⟩
    · exact hp.elim⟩
theorem noOut_ends {K : PySem.W.Frag} {F H : Hp} {de : DEnv} {O : Own?} {W W' : WX} {D : Ends} {o : Ot} (h : PS1 K kap xi F H de O W D (noOut o)) : PS1 K kap xi F H de O W' D o := by
  cases o with
  | ex c fs de' => exact h.elim
  | _ => exact h
theorem jTryOnly (hs : X.stack = X.env :: X.outer) (hf : X.env.frame = some X.env.locals) (hc : Names X x cv) (tk : Takes X W)
    (hm : ∀ c b, mt c = some b → PySem.W.exmOne X.K (.ref (kap c)) cv = some b)
    (hb : ∀ (W : WX) (pn : List (Addr × Obj)) (xe : Value → Shared → Prop), Takes (X.tr pn xe) W → PassesOwn (model X.prog X.w) X.A X.env xe → JSs kap xi (X.tr pn xe) W body tb eb)
    (hsu : ∀ (a : Addr) (oe : Obj) (cls : Value) (d : Option Addr) (pn : List (Addr × Obj)), Zc cls d oe → (∃ vs, oe.data = .fields vs) → JSs kap xi (X.suite a ((a, oe) :: pn)) W0 (b₀ :: suite) (ts a cls d) es) :
    JS kap xi X W (.Try body [.ExceptHandler (some (.Name x np)) none (b₀ :: suite) pos'] [] [] pos) (fun W D σ H => tb (wOnly X.K cv (fun a cls d => ts a cls d W0) W D) D σ H) (vTryOnly mt eb es) := ⟨ps_try_only hs hf hc tk (fun W pn xe tk po => (hb W pn xe tk po).p) (fun a oe cls d pn hz hf => (hsu a oe cls d pn hz hf).p), by
  intro W F H sg de O Dn R hp
  have sb := (hb W0 [] (fun _ _ => False) takes0 PassesOwn.never).s
  refine sb (wOnly X.K cv (fun a cls d => ts a cls d W0) W Dn) F H sg de O Dn R ?_
  unfold vTryOnly at hp
  cases eo : eb de with
  | nx de1 => rw [eo] at hp; exact hp
  | ret d de1 => rw [eo] at hp; exact hp
  | retF d de1 => rw [eo] at hp; exact hp
  | brk de1 => rw [eo] at hp; exact hp
  | ct de1 => rw [eo] at hp; exact hp
  | bad => rw [eo] at hp; exact hp
  | ex c fs de1 =>
    rw [eo] at hp
    dsimp only at hp
    intro F' H' sg' O' d R' g' xr
    split at hp
    · rename_i hmt
      refine ⟨true, hm c true hmt, fun _ a ha => ?_, fun z => by cases z⟩
      have ss := fun oe hz hfl => (hsu a oe (.ref (kap c)) d [] hz hfl).s
      have hp := PS1.shift g' hp
      exact ss { cls := .ref (kap c), dict := d, data := .fields #[] } ⟨rfl, rfl⟩ ⟨_, rfl⟩ W0 F' H' _ _ _ _ R' (noOut_ends hp)
    · rename_i hmt
      exact ⟨false, hm c false hmt, (fun z => by cases z), fun _ => hp F' H' sg' O' d R' g' xr⟩
    · exact hp.elim⟩
/-- e.f, e the exception that the suite holds -/
theorem jXf (i c : Nat) {a : Addr} {oe : Obj} {cls : Value} {d : Option Addr} {pn : List (Addr × Obj)} {f : Str} {nx : Pos} (T : XfC X.K (kap c)) (hno : PySem.W.findIn X.K (.ref (kap c)) f = some none) (hz : Zc cls d oe) (hf : ∃ vs, oe.data = .fields vs)
    (hN : X.N[i]? = some x := by rfl) (hv : Vis X.env.scope x := by first | exact Or.inl rfl | exact Or.inr (Or.inl rfl) | exact Or.inr (Or.inr rfl)) (hd : (x == ("__debug__" : Str)) = false := by decide) (hcd : (x == ("__classdict__" : Str)) = false := by decide)
    (hb : attributeBase (.Name x nx) f X.env (eval (.Name x nx) X.env) = eval (.Name x nx) X.env := by rfl) :
    JE kap (some (a, cls, d)) (X.suite a ((a, oe) :: pn)) W (.Attribute (.Name x nx) f pos) (fun _ => tXf a cls d (kap c) f (tVar i)) (vXf i c f) := ⟨pe_xf T hno hz hf (pe_var (X := X.suite a ((a, oe) :: pn)) hN hv hd hcd) hb, by
  intro W F H sg de O Q R hp
  unfold vXf at hp
  split at hp
  · rename_i c' fs e
    split at hp
    · rename_i hcc
      subst hcc
      obtain ⟨z, ez, hp⟩ := ofO_some hp
      obtain ⟨a', d', h1, h2, h3⟩ := R.ex i _ fs e
      cases h1
      refine ⟨_, h2, rfl, rfl, ?_⟩
      cases d with
      | none =>
        cases (show fs = [] from h3)
        cases ez
      | some dd =>
        obtain ⟨vs, k1, k2, k3⟩ := h3
        obtain ⟨v, l1, l2⟩ := field_get k2 k3 ez
        exact ⟨dd, vs, v, rfl, R.sub _ _ k1, l1, hp.done R New.refl R.sub l2⟩
    · exact hp.elim
  · exact hp.elim⟩
end
end DL

set_option maxRecDepth 100000
set_option maxHeartbeats 2000000
set_option autoImplicit false
namespace DL
open PySem L2
/-! ### x.f = e, x an owned object -/
def vSetFld (i : Nat) (cl : List Nat) (f : Str) (ev : DEnv → Rs D) (de : DEnv) : Ot :=
  (ev de).out fun d de1 => match slotOw i de1 with
    | some (s, .obj c fs) => if cl.contains c = true ∧ fs.length < 1000 then .nx (de1.set i (s.same (.obj c (putD f d fs)))) else .bad
    | _ => .bad
def fAugI (g : Int → Int → Int) (a b : D) : Option D := match a, b with
  | .int i, .int j => some (.int (g i j))
  | _, _ => none
/-- x op= e, whole numbers -/
def vAug (i : Nat) (g : Int → Int → Int) (ev : DEnv → Rs D) (de : DEnv) : Ot :=
  match de[i]? with
  | some (.va a) => (ev de).out fun b de1 => (match fAugI g a b with
    | some z => .nx (de1.set i (.va z))
    | none => .bad)
  | _ => .bad
section
variable {kap : Nat → Addr} {xi : Xi} {X : Cx} {W : WX} {e : Expr} {t : WX → TE} {ev : DEnv → Rs D} {pos pos' np : Pos} {x f : Str}
theorem jSetFld (i : Nat) (cl : List Nat) (hcl : ∀ c ∈ cl, Cls X.K (kap c) ∧ NoAttr X.K (kap c) f) (h : JE kap xi X W e t ev) (hN : X.N[i]? = some x := by rfl) (hv : Vis X.env.scope x := by first | exact Or.inl rfl | exact Or.inr (Or.inl rfl) | exact Or.inr (Or.inr rfl)) (hd : (x == ("__debug__" : Str)) = false := by decide)
    (hcd : (x == ("__classdict__" : Str)) = false := by decide) (hs : swapsWith e (some (.Attribute (.Name x np) f pos')) pos.line X.env = pure false := by rfl) :
    JS kap xi X W (.Assign [.Attribute (.Name x np) f pos'] e pos) (fun W => sFld X.K (tVar i) (t W) f) (vSetFld i cl f ev) := ⟨ps_fld (pe_var hN hv hd hcd) h.p hs, by
  intro W F H sg de O Dn R hp
  refine h.s.out R hp fun v d F1 H1 de1 O1 R1 g1 r _ hp => ?_
  split at hp
  · rename_i s c fs eo
    split at hp
    · rename_i hh
      obtain ⟨e1, e2, p, h1, h2, h3, dx, vs, h4, h5, h6⟩ := R1.owl eo
      obtain ⟨k1, k2⟩ := hcl c (List.contains_iff_mem.mp hh.1)
      have hl : vs.length < 1000 := by
        have := congrArg List.length h5
        rw [List.length_map, List.length_map] at this
        rw [this]
        exact hh.2
      refine ⟨_, h2, p, _, dx, vs, rfl, h4, k1, k2, hl, ?_⟩
      obtain ⟨R3, g3⟩ := R1.mut (o := .ins (kap c) dx (putF f v vs)) (d' := .obj c (putD f d fs)) e1 e2 h1 ⟨dx, _, upd_same, put_names f v d h5, put_reps r h5 h6⟩
      exact hp F1 _ sg O1 R3 g3
    · exact hp.elim
  · exact hp.elim⟩
theorem snd_aug {K : PySem.W.Frag} (i : Nat) {g : Int → Int → Int} (h : Snd K kap xi (RlE K kap) t ev) : SndS K kap xi (fun W => tAug i (t W) (ipI g)) (vAug i g ev) := by
  intro W F H sg de O Dn R hp
  unfold vAug at hp
  split at hp
  · rename_i a ea
    obtain ⟨x, h1, h2⟩ := R.va i a ea
    refine ⟨x, h1, ?_⟩
    refine h.out R hp fun v b F1 H1 de1 O1 R1 g1 r _ hp => ?_
    split at hp
    · rename_i z ez
      unfold fAugI at ez
      split at ez
      · cases ez
        cases h2
        cases r
        refine ⟨_, _, rfl, rfl, ?_⟩
        obtain ⟨R2, g2⟩ := R1.setv i (v := .int _) (d := .int _) (.int _)
        exact hp F1 H1 _ _ R2 g2
      · cases ez
    · exact hp.elim
  · exact hp.elim
theorem jAugAdd (i : Nat) (hN : X.N.Nodup) (h : JE kap xi X W e t ev) (hi : X.N[i]? = some x := by rfl) (hx : Loc X.env.scope x := by first | exact Or.inl rfl | exact Or.inr rfl)
    (hf : X.fn x = true ∨ X.env.scope.names.lookup x = some .local := by first | exact .inl rfl | exact .inr rfl | assumption) : JS kap xi X W (.AugAssign (.Name x pos') .Add e pos) (fun W => tAug i (t W) (ipI fun i j => i + j)) (vAug i (fun i j => i + j) ev) := ⟨ps_aug hN hi hx h.p ip_add hf, snd_aug i h.s⟩
theorem jAugSub (i : Nat) (hN : X.N.Nodup) (h : JE kap xi X W e t ev) (hi : X.N[i]? = some x := by rfl) (hx : Loc X.env.scope x := by first | exact Or.inl rfl | exact Or.inr rfl)
    (hf : X.fn x = true ∨ X.env.scope.names.lookup x = some .local := by first | exact .inl rfl | exact .inr rfl | assumption) : JS kap xi X W (.AugAssign (.Name x pos') .Sub e pos) (fun W => tAug i (t W) (ipI fun i j => i - j)) (vAug i (fun i j => i - j) ev) := ⟨ps_aug hN hi hx h.p ip_sub hf, snd_aug i h.s⟩
end
end DL

set_option maxRecDepth 100000
set_option maxHeartbeats 2000000
set_option autoImplicit false
namespace DL
open PySem L2
/-! ### a slice of either kind -/
def fSlA : D → Option Int → Option Int → Option D
  | .tup xs, lo, hi => some (.tup (cutD xs lo hi))
  | .lst xs, lo, hi => some (.lst (cutD xs lo hi))
  | .scr xs, lo, hi => some (.lst (cutD xs lo hi))
  | _, _, _ => none
section
variable {kap : Nat → Addr} {xi : Xi} {X : Cx} {W : WX} {e : Expr} {t : WX → TE} {o : Op} {pos p2 : Pos} {lo hi : Option Expr} {tl th : WX → TO} {e1 e2 : DEnv → Rs (Option Int)}
theorem jSlA (h : JO kap xi X W e t o) (hl : JP kap xi X W lo tl e1) (hu : JP kap xi X W hi th e2) : JE kap xi X W (.Subscript e (.Slice lo hi none p2) pos) (fun W => tSl (fun x lo hi H Q => rSlA X.K x lo hi H Q ∨ rSlL X.K x lo hi H Q) (t W) (tl W) (th W)) (vSl fSlA o e1 e2) := ⟨pe_slice (sl_tupA.or sl_list) h.p hl.p hu.p, by
  intro W F H sg de O Q R hp
  refine h.s.bind R hp fun x fa F1 H1 de1 O1 R1 g1 ra _ hp => ?_
  refine hl.s.bind R1 hp fun l l' F2 H2 de2 O2 R2 g2 rl _ hp => ?_
  cases (show l = l' from rl)
  refine hu.s.bind R2 hp fun u u' F3 H3 de3 O3 R3 g3 ru _ hp => ?_
  cases (show u = u' from ru)
  obtain ⟨z, e, hp⟩ := ofO_some hp
  obtain ⟨d, e1, e⟩ := bind_some e
  have rd := ra xi F3 H3 de3 O3 R3 (g2.ex.trans g3.ex) d e1
  have fin : ∀ {vs : List V} {ds : List D}, Reps X.K kap F3 vs ds → z = .lst (cutD ds l u) → ∀ q, H3 q = none → Q (.ref q) (upd H3 q (.lst (cutV vs l u))) := fun {vs ds} r1 ez q hq => by
    obtain ⟨n, s2⟩ := New.one (o := .lst (cutV vs l u)) R3.sub hq
    subst ez
    exact hp.done R3 n s2 (.lst upd_same ((r1.cut l u).mono n.f))
  unfold fSlA at e
  split at e
  · cases e
    obtain ⟨p, vs, rfl, h1, r1⟩ := rd.tup
    refine .inl ⟨p, vs, rfl, sqT_mono R3.sub h1, fun hw => ?_, fun hw q hq => ?_⟩
    · rw [r1.length] at hw
      rw [cut_whole _ _ _ hw] at hp
      exact hp.done R3 New.refl R3.sub (.tup h1 r1)
    · obtain ⟨n, s2⟩ := New.one (o := .tup (cutV vs l u)) R3.sub hq
      exact hp.done R3 n s2 (.tup (SqT.of upd_same) ((r1.cut l u).mono n.f))
  · cases e
    obtain ⟨p, vs, rfl, h1, r1⟩ := rd.lst R3.sub
    exact .inr ⟨p, vs, rfl, SqL.of h1, fin r1 rfl⟩
  · cases e
    obtain ⟨p, vs, rfl, h1, r1⟩ := rd.scr
    exact .inr ⟨p, vs, rfl, sqL_mono R3.sub h1, fin r1 rfl⟩
  · cases e⟩
end
/-! ### defs with defaults -/
open PySem.Spec PyProof.Rows in
theorem FunD.dl {P : Program} {w : World} {K : PySem.W.Frag} {mg : Str → Option Value} {base : Heap} {kap : Nat → Addr} {x qual : Str} {st : Stmt} {f : Addr} {fd : FuncData} {N ps : List Str} {k : Nat} {n nl : Nat} {mu : Option Nat} {e : DEnv → Ot} {dvs : List V} {kws : List (Str × V)}
    (F : FunD K x qual (defArgs st) (defBody st) (defScope st) dvs kws f fd) (S : FnScope N ps (defScope st)) (hn : ps.length = n) (hN : N.length = n + nl)
    (hbody : ∀ (cdv : Value) (A : Around) (outer : List Env) (s : Shared) (H : Hp) (E : XK), RoomG k (A.deeper (envC qual (defScope st) s.heap.objs.size f cdv)) →
      Takes (cxOf (L2.CX P w) P w K mg base N qual (defScope st) f cdv A outer s H E) (fun cls d _ H => E cls d H) →
      PassesOwn (model P w) (cxOf (L2.CX P w) P w K mg base N qual (defScope st) f cdv A outer s H E).A (cxOf (L2.CX P w) P w K mg base N qual (defScope st) f cdv A outer s H E).env (cxOf (L2.CX P w) P w K mg base N qual (defScope st) f cdv A outer s H E).xe →
      ∃ t, JSs kap none (cxOf (L2.CX P w) P w K mg base N qual (defScope st) f cdv A outer s H E) (fun cls d _ H => E cls d H) (defBody st) t e) :
    FnG P w K mg base (L2.CX P w) (k + 1) f fd ps (spD K kap n mu (run mu nl e)) := by
  obtain ⟨oc, od, dV, kV, doc, pm, an, cdv, ct, osl, rfl, lk, hcd, _, _⟩ := F.ex
  refine fnG_of lk hcd S (fun vs H Q E h => ?_) fun A outer s H vs Q E hr h => ?_
  · obtain ⟨F, ds, P, hd, _, A, _⟩ := h
    rw [A.len, hd, hn]
  · obtain ⟨t, J⟩ := hbody cdv A outer s H E hr (takes_of rfl rfl rfl rfl) (passes_of rfl)
    exact ⟨_, J.p, run_snd hN J.s h⟩
/-- the parameters picked from what is given, the defaults, the keywords' values -/
def gpick {α : Type} (ix : List (Nat × Nat)) (us mv ws : List α) : List α := ix.filterMap fun p => (([us, mv, ws].getD p.1 [])[p.2]?)
theorem vals_get {vs : List V} {us : List Value} (h : Vals vs us) (i : Nat) : (vs[i]? = none ∧ us[i]? = none) ∨ ∃ v u, vs[i]? = some v ∧ us[i]? = some u ∧ RelV v u := by
  induction h generalizing i with
  | nil => exact .inl ⟨rfl, rfl⟩
  | cons h r ih =>
    cases i with
    | zero => exact .inr ⟨_, _, rfl, rfl, h⟩
    | succ i => simpa using ih i
theorem gpick_rel (ix : List (Nat × Nat)) {vs mz zs : List V} {us mv ws : List Value} (h1 : Vals vs us) (h2 : Vals mz mv) (h3 : Vals zs ws) : Vals (gpick ix vs mz zs) (gpick ix us mv ws) := by
  induction ix with
  | nil => exact .nil
  | cons p r ih =>
    obtain ⟨a, i⟩ := p
    have key : ∀ {xs : List V} {ys : List Value}, Vals xs ys → [vs, mz, zs].getD a [] = xs → [us, mv, ws].getD a [] = ys → Vals (gpick ((a, i) :: r) vs mz zs) (gpick ((a, i) :: r) us mv ws) := fun {xs ys} h e1 e2 => by
      show Vals (((a, i) :: r).filterMap fun p => (([vs, mz, zs].getD p.1 [])[p.2]?)) (((a, i) :: r).filterMap fun p => (([us, mv, ws].getD p.1 [])[p.2]?))
      simp only [List.filterMap_cons]
      rw [e1, e2]
      rcases vals_get h i with ⟨g1, g2⟩ | ⟨v, u, g1, g2, g3⟩
      · rw [g1, g2]; exact ih
      · rw [g1, g2]; exact .cons g3 ih
    match a with
    | 0 => exact key h1 rfl rfl
    | 1 => exact key h2 rfl rfl
    | 2 => exact key h3 rfl rfl
    | a + 3 => exact key (xs := []) (ys := []) .nil rfl rfl
/-- the addresses of the classes -/
def kapL (l : List Addr) : Nat → Addr := fun n => l.getD n 0
def mtL (l : List (Nat × Bool)) : Nat → Option Bool := fun c => l.lookup c
theorem mt_of {K : PySem.W.Frag} {kap : Nat → Addr} {cv : Value} : ∀ (l : List (Nat × Bool)), (∀ p ∈ l, PySem.W.exmOne K (.ref (kap p.1)) cv = some p.2) → ∀ c b, mtL l c = some b → PySem.W.exmOne K (.ref (kap c)) cv = some b
  | [], _, c, b, e => by cases e
  | (c', b') :: r, h, c, b, e => by
    unfold mtL at e
    by_cases q : c = c'
    · subst q
      simp [List.lookup] at e
      subst e
      exact h _ List.mem_cons_self
    · have q' : (c == c') = false := by simpa using q
      simp only [List.lookup, q'] at e
      exact mt_of r (fun p hp => h p (List.mem_cons_of_mem _ hp)) c b e
/-- a def, by its name -/
structure GF (P : Program) (w : World) (K : PySem.W.Frag) (mg : Str → Option Value) (base : Heap) (kap : Nat → Addr) (x : Str) (k n : Nat) (mu : Option Nat) (m : List D → Fo) (dcs : List D) where
  g : DG P w K mg base kap k n mu m dcs
  hm : mg x = some (.ref g.f)
/-- a call that gives every parameter -/
def DG.all {P : Program} {w : World} {K : PySem.W.Frag} {mg : Str → Option Value} {base : Heap} {kap : Nat → Addr} {k n : Nat} {mu : Option Nat} {m : List D → Fo} {f : Addr} {fd : FuncData} {ps : List Str}
    (ok : FnG P w K mg base (L2.CX P w) k f fd ps (spD K kap n mu m)) (kp : PySem.W.keepIn K (.ref f) = true) (bi : Binds K fd ps []) : DG P w K mg base kap k n mu m [] :=
  ⟨f, fd, ps, [], [], ok, kp, bi, .nil, fun _ => .nil⟩
/-- a class with its __init__, called -/
structure GM (P : Program) (w : World) (K : PySem.W.Frag) (mg : Str → Option Value) (base : Heap) (kap : Nat → Addr) (x : Str) (c k n : Nat) (m : List D → Fo) (dcs : List D) where
  C : Addr
  hk : kap c = C
  g : DG P w K mg base kap k n (some 0) m dcs
  im : Mk K C g.f
  hm : mg x = some (.ref C)
structure GK (P : Program) (w : World) (K : PySem.W.Frag) (mg : Str → Option Value) (base : Heap) (kap : Nat → Addr) (x : Str) (c k n j : Nat) (ks : List Str) (m : List D → Fo) (ar : List D → List D → List D) where
  C : Addr
  hk : kap c = C
  g : DK P w K mg base kap k n j ks m ar
  im : Mk K C g.f
  hm : mg x = some (.ref C)
/-- an own exception class -/
structure GX2 (P : Program) (w : World) (K : PySem.W.Frag) (mg : Str → Option Value) (kap : Nat → Addr) (x : Str) (c : Nat) (par : Str) (ok : V → Prop) where
  C : Addr
  hk : kap c = C
  g : DX.X2 P w K mg C par ok
  hm : mg x = some (.ref C)
structure GX1 (P : Program) (w : World) (K : PySem.W.Frag) (mg : Str → Option Value) (kap : Nat → Addr) (x : Str) (c : Nat) where
  C : Addr
  hk : kap c = C
  g : DX.X1 P w K mg C
  hm : mg x = some (.ref C)
/-- the law's end -/
theorem law_sp {K : PySem.W.Frag} {kap : Nat → Addr} {m : List D → Fo} {n : Nat} (h : ∀ ns : List Int, ns.length ≤ n → ∃ q, m [.scr (ns.map .int)] = .ret (.bl true) q) (H : Hp) (a : Addr) (ns : List Int) (hl : ns.length ≤ n) (hS : SqL K H a (ns.map V.int)) :
    spD K kap 1 none m [.ref a] H (fun v _ => v = .bl true) fun _ _ _ => False := by
  obtain ⟨q, e⟩ := h ns hl
  refine ⟨H, [.scr (ns.map .int)], none, rfl, Same.refl H, ⟨rfl, fun i d hi _ => ?_, fun k d z => (by cases z), fun z => absurd rfl z⟩, ?_⟩
  · cases i with
    | zero =>
      simp at hi
      subst hi
      exact ⟨_, rfl, .scr hS (Reps.ints ns)⟩
    | succ i => simp at hi
  · rw [e]
    intro v F' H' _ r
    cases r
    rfl
theorem cx_end {P : Program} {w : World} (H : Hp) (s : Shared) (e : Value) (s' : Shared) (h : L2.CX P w [] H s (fun _ _ _ => False) e s') : False := by
  obtain ⟨_, _, _, _, _, _, _, _, _, _, _, _, z⟩ := h
  exact z.elim
end DL

set_option maxRecDepth 100000
set_option maxHeartbeats 2000000
set_option autoImplicit false
/-! the shapes of the own exceptions' __init__ -/
namespace DX
open PySem PySem.Spec PySem.W PySem.Calls PyProof.Rows PySem.HandSPX
section
variable {P : Program} {w : World} {K : Frag} {mg : Str → Option Value} {C fI cda cc : Addr} {fnm qual par : Str} {ar : Arguments} {sc : Scope}
/-- super().__init__(pre + par); self.par = par -/
def x2_cat {a0 a1 a2 a3 a4 a5 a6 a7 b0 b1 b2 b3 : Pos} {j : Nat} {pre : Str} (T : XT P K C fI cda cc fnm qual ar [.Expr (.Call (.Attribute (.Call (.Name "super" a0) [] [] a1) "__init__" a2) [.BinOp (.Constant (.str pre) j a5) .Add (.Name par a6) a7] [] a3) a4, .Assign [.Attribute (.Name "self" b0) par b1] (.Name par b2) b3] sc par)
    (hpre : pre.length ≤ 1000) (hself : sc.names.lookup ("self" : Str) = some .local) (hpar : sc.names.lookup par = some .local) (hks : sc.names.lookup ("super" : Str) = some .globalImplicit) (hkc : sc.names.lookup ("__class__" : Str) = some .free) (hk : sc.kind = .function)
    (hco : sc.isCoroutine = false) (hgen : sc.isGenerator = false) (hcell : ∀ y ∈ sc.names, y.2 ≠ .cell) (hps : par ≠ "self") (hpd : (par == ("__debug__" : Str)) = false)
    {ar0 : Arg} (hp : (ar.posonlyargs ++ ar.args).head? = some ar0) (har : ar0.arg = "self")
    (hbind : ∀ (s : Shared) (x : Addr) (v : Value) (bo : List Stmt) (doc pm : Value) (an : Option Addr) (ct : Value), BindsTo s (ksFn fnm qual ar bo sc .none .none doc pm an (.ref cda) ct cc) ⟨[.ref x, v], []⟩ (binds2 par x v))
    (hst : ∀ L, starEach [.BinOp (.Constant (.str pre) j a5) .Add (.Name par a6) a7] (ksEnv qual sc L fI (.ref cda) cc) = (false, eval (.BinOp (.Constant (.str pre) j a5) .Add (.Name par a6) a7) (ksEnv qual sc L fI (.ref cda) cc)) :: starEach [] (ksEnv qual sc L fI (.ref cda) cc))
    (hin : ∀ L, interactive (ksEnv qual sc L fI (.ref cda) cc) = false)
    (hsw : ∀ L, swapsWith (.Name par b2) (some (.Attribute (.Name "self" b0) par b1)) b3.line (ksEnv qual sc L fI (.ref cda) cc) = pure false)
    {pl : Sem Bool} (he : ∀ L, eval (.Call (.Attribute (.Call (.Name "super" a0) [] [] a1) "__init__" a2) [.BinOp (.Constant (.str pre) j a5) .Add (.Name par a6) a7] [] a3) (ksEnv qual sc L fI (.ref cda) cc) = (do
      let ov ← attributeBase (.Call (.Name "super" a0) [] [] a1) "__init__" (ksEnv qual sc L fI (.ref cda) cc) (eval (.Call (.Name "super" a0) [] [] a1) (ksEnv qual sc L fI (.ref cda) cc))
      standAt a2.atName
      let (f, first) ← holding [ov] (getMethod ov "__init__" pl)
      callWith a3 f first (backTo a3 (starEach [.BinOp (.Constant (.str pre) j a5) .Add (.Name par a6) a7] (ksEnv qual sc L fI (.ref cda) cc))) [])) : X2 P w K mg C par DL.okStr where
  fI := fI
  cl := T.cl
  run := fun A R s x t0 v u M hx hnx hng hnb hlim hroom rv ok hq => by
    obtain ⟨y, rfl, hy⟩ := ok
    obtain ⟨t, rfl⟩ := (show ∃ t, u = Value.str y t from rv)
    refine init_two T M hx hnx hng hnb hlim hroom hself hpar hks hkc hk hco hgen hcell hps hpd hp har (fun s => hbind s x _) (fun L A E s' Q' hn hq' => ?_) hst hin hsw he hq
    refine wpAny_BinOp (Calls.Constant_str ?_)
    have hmp : mp2 par x (.str y t) par = some (.str y t) := by
      show List.lookup par [(par, Value.str y t), ("self", Value.ref x)] = some (.str y t)
      simp [List.lookup]
    refine ESX.ldL (s := { s' with toks := s'.toks + 1 }) (env := ksEnv qual sc L fI (.ref cda) cc) hn hmp ?_ hk hpar hpd
    exact PySem.SB.add (fun t' k => hq' _ _) (by rw [sizeLine_eq]; omega)
/-- super().__init__(msg); self.par = par -/
def x2_msg {a0 a1 a2 a3 a4 a5 b0 b1 b2 b3 : Pos} {j : Nat} {pre : Str} (T : XT P K C fI cda cc fnm qual ar [.Expr (.Call (.Attribute (.Call (.Name "super" a0) [] [] a1) "__init__" a2) [.Constant (.str pre) j a5] [] a3) a4, .Assign [.Attribute (.Name "self" b0) par b1] (.Name par b2) b3] sc par)
    (hself : sc.names.lookup ("self" : Str) = some .local) (hpar : sc.names.lookup par = some .local) (hks : sc.names.lookup ("super" : Str) = some .globalImplicit) (hkc : sc.names.lookup ("__class__" : Str) = some .free) (hk : sc.kind = .function)
    (hco : sc.isCoroutine = false) (hgen : sc.isGenerator = false) (hcell : ∀ y ∈ sc.names, y.2 ≠ .cell) (hps : par ≠ "self") (hpd : (par == ("__debug__" : Str)) = false)
    {ar0 : Arg} (hp : (ar.posonlyargs ++ ar.args).head? = some ar0) (har : ar0.arg = "self")
    (hbind : ∀ (s : Shared) (x : Addr) (v : Value) (bo : List Stmt) (doc pm : Value) (an : Option Addr) (ct : Value), BindsTo s (ksFn fnm qual ar bo sc .none .none doc pm an (.ref cda) ct cc) ⟨[.ref x, v], []⟩ (binds2 par x v))
    (hst : ∀ L, starEach [.Constant (.str pre) j a5] (ksEnv qual sc L fI (.ref cda) cc) = (false, eval (.Constant (.str pre) j a5) (ksEnv qual sc L fI (.ref cda) cc)) :: starEach [] (ksEnv qual sc L fI (.ref cda) cc))
    (hin : ∀ L, interactive (ksEnv qual sc L fI (.ref cda) cc) = false)
    (hsw : ∀ L, swapsWith (.Name par b2) (some (.Attribute (.Name "self" b0) par b1)) b3.line (ksEnv qual sc L fI (.ref cda) cc) = pure false)
    {pl : Sem Bool} (he : ∀ L, eval (.Call (.Attribute (.Call (.Name "super" a0) [] [] a1) "__init__" a2) [.Constant (.str pre) j a5] [] a3) (ksEnv qual sc L fI (.ref cda) cc) = (do
      let ov ← attributeBase (.Call (.Name "super" a0) [] [] a1) "__init__" (ksEnv qual sc L fI (.ref cda) cc) (eval (.Call (.Name "super" a0) [] [] a1) (ksEnv qual sc L fI (.ref cda) cc))
      standAt a2.atName
      let (f, first) ← holding [ov] (getMethod ov "__init__" pl)
      callWith a3 f first (backTo a3 (starEach [.Constant (.str pre) j a5] (ksEnv qual sc L fI (.ref cda) cc))) [])) : X2 P w K mg C par DL.okAny where
  fI := fI
  cl := T.cl
  run := fun A R s x t0 v u M hx hnx hng hnb hlim hroom rv ok hq =>
    init_two T M hx hnx hng hnb hlim hroom hself hpar hks hkc hk hco hgen hcell hps hpd hp har (fun s => hbind s x _) (fun L A E s' Q' hn hq' => Calls.Constant_str (hq' _ _)) hst hin hsw he hq
/-- super().__init__(msg) -/
def x1_msg {a0 a1 a2 a3 a4 a5 : Pos} {j : Nat} {pre : Str} (T : XT P K C fI cda cc fnm qual ar [.Expr (.Call (.Attribute (.Call (.Name "super" a0) [] [] a1) "__init__" a2) [.Constant (.str pre) j a5] [] a3) a4] sc par)
    (hself : sc.names.lookup ("self" : Str) = some .local) (hks : sc.names.lookup ("super" : Str) = some .globalImplicit) (hkc : sc.names.lookup ("__class__" : Str) = some .free) (hk : sc.kind = .function)
    (hco : sc.isCoroutine = false) (hgen : sc.isGenerator = false) (hcell : ∀ y ∈ sc.names, y.2 ≠ .cell)
    {ar0 : Arg} (hp : (ar.posonlyargs ++ ar.args).head? = some ar0) (har : ar0.arg = "self")
    (hbind : ∀ (s : Shared) (x : Addr) (bo : List Stmt) (doc pm : Value) (an : Option Addr) (ct : Value), BindsTo s (ksFn fnm qual ar bo sc .none .none doc pm an (.ref cda) ct cc) ⟨[.ref x], []⟩ [("self", .ref x)])
    (hst : ∀ L, starEach [.Constant (.str pre) j a5] (ksEnv qual sc L fI (.ref cda) cc) = (false, eval (.Constant (.str pre) j a5) (ksEnv qual sc L fI (.ref cda) cc)) :: starEach [] (ksEnv qual sc L fI (.ref cda) cc))
    (hin : ∀ L, interactive (ksEnv qual sc L fI (.ref cda) cc) = false)
    {pl : Sem Bool} (he : ∀ L, eval (.Call (.Attribute (.Call (.Name "super" a0) [] [] a1) "__init__" a2) [.Constant (.str pre) j a5] [] a3) (ksEnv qual sc L fI (.ref cda) cc) = (do
      let ov ← attributeBase (.Call (.Name "super" a0) [] [] a1) "__init__" (ksEnv qual sc L fI (.ref cda) cc) (eval (.Call (.Name "super" a0) [] [] a1) (ksEnv qual sc L fI (.ref cda) cc))
      standAt a2.atName
      let (f, first) ← holding [ov] (getMethod ov "__init__" pl)
      callWith a3 f first (backTo a3 (starEach [.Constant (.str pre) j a5] (ksEnv qual sc L fI (.ref cda) cc))) [])) : X1 P w K mg C where
  fI := fI
  cl := T.cl
  run := fun A R s x t0 M hx hnx hng hnb hlim hroom hq =>
    init_one T M hx hnx hng hnb hlim hroom hself hks hkc hk hco hgen hcell hp har (fun s => hbind s x) (fun L A E s' Q' hq' => Calls.Constant_str (hq' _ _)) hst hin he hq
end
end DX
namespace DL
open PySem L2
theorem gpick_reps {K : PySem.W.Frag} {kap : Nat → Addr} {F : Hp} (ix : List (Nat × Nat)) {vs mz zs : List V} {us mv ws : List D} (h1 : Reps K kap F vs us) (h2 : Reps K kap F mz mv) (h3 : Reps K kap F zs ws) : Reps K kap F (gpick ix vs mz zs) (gpick ix us mv ws) := by
  induction ix with
  | nil => exact .nil
  | cons p r ih =>
    obtain ⟨a, i⟩ := p
    have key : ∀ {xs : List V} {ys : List D}, Reps K kap F xs ys → [vs, mz, zs].getD a [] = xs → [us, mv, ws].getD a [] = ys → Reps K kap F (gpick ((a, i) :: r) vs mz zs) (gpick ((a, i) :: r) us mv ws) := fun {xs ys} h e1 e2 => by
      show Reps K kap F (((a, i) :: r).filterMap fun p => (([vs, mz, zs].getD p.1 [])[p.2]?)) (((a, i) :: r).filterMap fun p => (([us, mv, ws].getD p.1 [])[p.2]?))
      simp only [List.filterMap_cons]
      rw [e1, e2]
      cases e : ys[i]? with
      | none =>
        have hl : ys.length ≤ i := List.getElem?_eq_none_iff.mp e
        have e' : xs[i]? = none := List.getElem?_eq_none_iff.mpr (by rw [h.length]; exact hl)
        rw [e']
        exact ih
      | some d =>
        obtain ⟨v, g1, g2⟩ := h.get e
        rw [g1]
        exact .cons g2 ih
    match a with
    | 0 => exact key h1 rfl rfl
    | 1 => exact key h2 rfl rfl
    | 2 => exact key h3 rfl rfl
    | a + 3 => exact key (xs := []) (ys := []) .nil rfl rfl
theorem none_in {α : Type} {p : α → Prop} : ∀ c ∈ ([] : List α), p c := fun _ h => nomatch h
theorem more_in {α : Type} {p : α → Prop} {a : α} {l : List α} (h : p a) (r : ∀ c ∈ l, p c) : ∀ c ∈ a :: l, p c := fun c hc => by
  rcases List.mem_cons.mp hc with e | e
  · rw [e]; exact h
  · exact r c e
theorem uu {k : Nat} {A : Around} (r : RoomG k A) : A.units + 64 < cLine := by have := r.un; omega
theorem vcons_len {ev : DEnv → Rs D} {er : DEnv → Rs (List D)} {n : Nat} (h : ∀ de ds de', er de = .ok ds de' → ds.length = n) : ∀ de ds de', vCons ev er de = .ok ds de' → ds.length = n + 1 := fun de ds de' e => by
  unfold vCons at e
  cases e1 : ev de with
  | ok d de1 =>
    rw [e1] at e
    have e : ((er de1).bind fun ds de2 => Rs.ok (d :: ds) de2) = .ok ds de' := e
    cases e2 : er de1 with
    | ok ds1 de2 =>
      rw [e2] at e
      cases e
      rw [List.length_cons, h _ _ _ e2]
    | ex c fs de2 => rw [e2] at e; cases e
    | bad => rw [e2] at e; cases e
  | ex c fs de2 => rw [e1] at e; cases e
  | bad => rw [e1] at e; cases e
theorem vnil_len : ∀ de ds de', vNil de = .ok ds de' → ds.length = 0 := fun de ds de' e => by cases e; rfl
open PyProof.Rows
theorem bt_len : bootBuiltins ("len" : Str) = some (.builtin "len") := by decide +kernel
theorem bt_abs : bootBuiltins ("abs" : Str) = some (.builtin "abs") := by decide +kernel
theorem bt_isinstance : bootBuiltins ("isinstance" : Str) = some (.builtin "isinstance") := by decide +kernel
theorem bt_sum : bootBuiltins ("sum" : Str) = some (.builtin "sum") := by decide +kernel
theorem bt_max : bootBuiltins ("max" : Str) = some (.builtin "max") := by decide +kernel
theorem bt_min : bootBuiltins ("min" : Str) = some (.builtin "min") := by decide +kernel
theorem bt_any : bootBuiltins ("any" : Str) = some (.builtin "any") := by decide +kernel
theorem bt_all : bootBuiltins ("all" : Str) = some (.builtin "all") := by decide +kernel
theorem bt_repr : bootBuiltins ("repr" : Str) = some (.builtin "repr") := by decide +kernel
theorem bt_int : bootBuiltins ("int" : Str) = some (.type "int") := by decide +kernel
theorem bt_str : bootBuiltins ("str" : Str) = some (.type "str") := by decide +kernel
theorem bt_bool : bootBuiltins ("bool" : Str) = some (.type "bool") := by decide +kernel
theorem bt_tuple : bootBuiltins ("tuple" : Str) = some (.type "tuple") := by decide +kernel
theorem bt_list : bootBuiltins ("list" : Str) = some (.type "list") := by decide +kernel
theorem bt_dict : bootBuiltins ("dict" : Str) = some (.type "dict") := by decide +kernel
end DL
namespace DL
open PySem L2
section
variable {kap : Nat → Addr} {xi : Xi} {X : Cx} {W : WX} {e : Expr} {es : List Expr} {kws : List Keyword} {t : WX → TE} {ta tk : WX → TA} {ev : DEnv → Rs D} {ea : DEnv → Rs (List CA)} {eb ek : DEnv → Rs (List D)} {pos p pos2 : Pos} {k n j : Nat} {x par : Str} {mu : Option Nat} {md : List D → Fo} {dcs : List D} {ks : List Str} {ok : V → Prop} {okd : D → Bool}
theorem gCall (g : GF X.prog X.w X.K X.mg X.base kap x k n mu md dcs) (hr : RoomG k X.A) (tk : Takes X W) (ha : JC kap xi X W (e :: es) ta ea) (hg : Gl X x := by rfl) (hdb : (x == ("__debug__" : Str)) = false := by decide)
    (he : starEach (e :: es) X.env = (false, eval e X.env) :: starEach es X.env := by rfl) (hpl : (backTo pos (starEach es X.env)).any (·.1) = false := by rfl) :
    JE kap xi X W (.Call (.Name x p) (e :: es) [] pos) (fun W => tCallSD (spD X.K kap n mu md) g.g.dvs (WE W) (ta W)) (wCall n mu md dcs ea) := jCall g.g g.hm hr tk ha hg hdb he hpl
theorem gCallF (g : GF X.prog X.w X.K X.mg X.base kap x k n mu md dcs) (hr : RoomG k X.A) (tk : Takes X W) (ha : JC kap xi X W (e :: es) ta ea) (hg : Gl X x := by rfl) (hdb : (x == ("__debug__" : Str)) = false := by decide)
    (he : starEach (e :: es) X.env = (false, eval e X.env) :: starEach es X.env := by rfl) (hpl : (backTo pos (starEach es X.env)).any (·.1) = false := by rfl) :
    JF kap xi X W (.Call (.Name x p) (e :: es) [] pos) (fun W => tCallSD (spD X.K kap n mu md) g.g.dvs (WE W) (ta W)) (wCallF n mu md dcs ea) := jCallF g.g g.hm hr tk ha hg hdb he hpl
theorem gCall0 (g : GF X.prog X.w X.K X.mg X.base kap x k n mu md dcs) (hr : RoomG k X.A) (tk : Takes X W) (hg : Gl X x := by rfl) (hdb : (x == ("__debug__" : Str)) = false := by decide) :
    JE kap xi X W (.Call (.Name x p) [] [] pos) (fun W => tCallSD (spD X.K kap n mu md) g.g.dvs (WE W) tNil) (wCall n mu md dcs cNil) := jCall0 g.g g.hm hr tk hg hdb
theorem gMake {c : Nat} (g : GM X.prog X.w X.K X.mg X.base kap x c k n md dcs) (hr : RoomG (k + 1) X.A) (tkx : Takes X W) (ha : JA kap xi X W (e :: es) ta eb) (hg : Gl X x := by rfl) (hdb : (x == ("__debug__" : Str)) = false := by decide)
    (he : starEach (e :: es) X.env = (false, eval e X.env) :: starEach es X.env := by rfl) (hpl : (backTo pos (starEach es X.env)).any (·.1) = false := by rfl) :
    JF kap xi X W (.Call (.Name x p) (e :: es) [] pos) (fun W => tMakeSD g.C (spD X.K kap n (some 0) md) g.g.dvs (WE W) (ta W)) (wMake c n md dcs eb) := jMake c g.hk g.g g.im g.hm hr tkx ha hg hdb he hpl
theorem gMakeK {c : Nat} {ar : List D → List D → List D} (g : GK X.prog X.w X.K X.mg X.base kap x c k n j ks md ar) (hr : RoomG (k + 1) X.A) (tkx : Takes X W) (ha : JA kap xi X W (e :: es) ta eb) (hk : JK kap xi X W kws tk ek)
    (hj : ∀ de ds de', eb de = .ok ds de' → ds.length = j) (hz : ∀ de ds de', ek de = .ok ds de' → ds.length = ks.length)
    (hg : Gl X x := by rfl) (hall : (backToKw pos (keywordEach kws X.env)).all (·.1.isSome) = true := by rfl) (hks : (backToKw pos (keywordEach kws X.env)).filterMap (·.1) = ks := by rfl) (hdb : (x == ("__debug__" : Str)) = false := by decide)
    (he : starEach (e :: es) X.env = (false, eval e X.env) :: starEach es X.env := by rfl) (hpl : ((backTo pos (starEach (e :: es) X.env)).any (·.1) || (backToKw pos (keywordEach kws X.env)).any (·.1.isNone)) = false := by rfl) :
    JF kap xi X W (.Call (.Name x p) (e :: es) kws pos) (fun W => tMakeKSD g.C j ks.length (spD X.K kap n (some 0) md) g.g.gV (WE W) (ta W) (tk W)) (wMakeK c n md ar eb ek) := jMakeK c g.hk g.g g.im g.hm hr tkx ha hk hj hz hg hall hks hdb he hpl
theorem gMakeK0 {c : Nat} {ar : List D → List D → List D} (g : GK X.prog X.w X.K X.mg X.base kap x c k n 0 ks md ar) (hr : RoomG (k + 1) X.A) (tkx : Takes X W) (hk : JK kap xi X W kws tk ek)
    (hz : ∀ de ds de', ek de = .ok ds de' → ds.length = ks.length)
    (hg : Gl X x := by rfl) (hall : (backToKw pos (keywordEach kws X.env)).all (·.1.isSome) = true := by rfl) (hks : (backToKw pos (keywordEach kws X.env)).filterMap (·.1) = ks := by rfl) (hdb : (x == ("__debug__" : Str)) = false := by decide)
    (hpl : ((backTo pos (starEach [] X.env)).any (·.1) || (backToKw pos (keywordEach kws X.env)).any (·.1.isNone)) = false := by rfl) :
    JF kap xi X W (.Call (.Name x p) [] kws pos) (fun W => tMakeKSD g.C 0 ks.length (spD X.K kap n (some 0) md) g.g.gV (WE W) tNil (tk W)) (wMakeK c n md ar vNil ek) := jMakeK0 c g.hk g.g g.im g.hm hr tkx hk hz hg hall hks hdb hpl
theorem gRaise2 {c : Nat} (g : GX2 X.prog X.w X.K X.mg kap x c par ok) (hok : ∀ F v d, Rep X.K kap F v d → okd d = true → ok v) (hr : RoomG 1 X.A) (tk : Takes X W) (h : JE kap xi X W e t ev) (hc : X.calm = true := by rfl) (hg : Gl X x := by rfl) (hdb : (x == ("__debug__" : Str)) = false := by decide)
    (he : starEach (e :: []) X.env = (false, eval e X.env) :: starEach [] X.env := by rfl) (hpl : (backTo pos (starEach [] X.env)).any (·.1) = false := by rfl) :
    JS kap xi X W (.Raise (some (.Call (.Name x p) [e] [] pos)) none pos2) (fun W _ σ H => tMk2 g.C par ok (tCons (t W) tNil) σ H fun cls d H' => W cls d σ H') (vRaise2 c par okd ev) := jRaise2 c g.hk g.g hok g.hm hr tk h hc hg hdb he hpl
theorem gRaise1 {c : Nat} (g : GX1 X.prog X.w X.K X.mg kap x c) (hr : RoomG 1 X.A) (tk : Takes X W) (hc : X.calm = true := by rfl) (hg : Gl X x := by rfl) (hdb : (x == ("__debug__" : Str)) = false := by decide) :
    JS kap xi X W (.Raise (some (.Call (.Name x p) [] [] pos)) none pos2) (fun W _ σ H => tMk1 g.C σ H fun cls d H' => W cls d σ H') (vRaise1 c) := jRaise1 c g.hk g.g g.hm hr tk hc hg hdb
end
end DL
namespace DL
open PySem L2
theorem JSs.via {kap : Nat → Addr} {xi : Xi} {X : Cx} {W : WX} {sts : List Stmt} {t t' : WX → TS} {e : DEnv → Ot} (h : JSs kap xi X W sts t e) (eq : t' = t) : JSs kap xi X W sts t' e := by rw [eq]; exact h
theorem JE.via {kap : Nat → Addr} {xi : Xi} {X : Cx} {W : WX} {e : Expr} {t t' : WX → TE} {ev : DEnv → Rs D} (h : JE kap xi X W e t ev) (eq : t' = t) : JE kap xi X W e t' ev := by rw [eq]; exact h
end DL
namespace DL
open PySem L2
/-- what a law promises: True, for every script of at most n numbers -/
def spLaw (n : Nat) (K : PySem.W.Frag) : Sp := fun vs H Q _ => ∃ (a : Addr) (ns : List Int), vs = [.ref a] ∧ SqL K H a (ns.map V.int) ∧ ns.length ≤ n ∧ ∀ H', Q (.bl true) H'
theorem law_imp {K : PySem.W.Frag} {kap : Nat → Addr} {m : List D → Fo} {n : Nat} (h : ∀ ns : List Int, ns.length ≤ n → ∃ q, m [.scr (ns.map .int)] = .ret (.bl true) q) (vs : List V) (H : Hp) (Q : VK) (E : XK) (hs : spLaw n K vs H Q E) : spD K kap 1 none m vs H Q E := by
  obtain ⟨a, ns, rfl, hS, hl, hq⟩ := hs
  obtain ⟨q, e⟩ := h ns hl
  refine ⟨H, [.scr (ns.map .int)], none, rfl, Same.refl H, ⟨rfl, fun i d hi _ => ?_, fun k d z => (by cases z), fun z => absurd rfl z⟩, ?_⟩
  · cases i with
    | zero =>
      simp at hi
      subst hi
      exact ⟨_, rfl, .scr hS (Reps.ints ns)⟩
    | succ i => simp at hi
  · rw [e]
    intro v F' H' _ r
    cases r
    exact hq H'
end DL

set_option maxRecDepth 100000
set_option maxHeartbeats 2000000
set_option autoImplicit false
namespace DL
open PySem L2
/-! ### [e for t in l if c] -/
def wipeD (de : DEnv) : List Nat → DEnv
  | [] => de
  | v :: vs => (wipeD de vs).set v .no
def restD (de0 : DEnv) : List Nat → DEnv → DEnv
  | [], de => de
  | v :: vs, de => (restD de0 vs de).set v (de0.getD v .no)
def plainS : Option Sl → Bool
  | some (.ow _) => false
  | some (.pn _) => false
  | some (.ex _ _) => false
  | _ => true
def plainAt (de : DEnv) (vs : List Nat) : Bool := vs.all fun i => plainS de[i]?
def lcGo (vs : List Nat) (g : D → DEnv → Option DEnv) (tt : DEnv → Rs Bool) (te : DEnv → Rs D) : List D → DEnv → Option (List D × DEnv)
  | [], de => some ([], de)
  | d :: r, de => (g d de).bind fun de1 => match tt de1 with
    | .ok true de2 => (match te de2 with
      | .ok x de3 => (lcGo vs g tt te r (wipeD de3 vs)).map fun p => (x :: p.1, p.2)
      | _ => none)
    | .ok false de2 => lcGo vs g tt te r (wipeD de2 vs)
    | _ => none
def vLc (vs : List Nat) (ei : DEnv → Rs (List D)) (g : D → DEnv → Option DEnv) (tt : DEnv → Rs Bool) (te : DEnv → Rs D) (de : DEnv) : Rs D :=
  (ei de).bind fun ds de1 => if plainAt de1 vs = true ∧ ds.length ≤ 16777216 then (match lcGo vs g tt te ds (wipeD de1 vs) with
    | some (xs, de2) => .ok (.lst xs) (restD de1 vs de2)
    | none => .bad) else .bad
theorem wipeD_len (de : DEnv) : ∀ vs, (wipeD de vs).length = de.length
  | [] => rfl
  | v :: vs => by rw [wipeD, List.length_set, wipeD_len de vs]
theorem wipeD_in {de : DEnv} {i : Nat} : ∀ {vs : List Nat}, i ∈ vs → ∀ s, (wipeD de vs)[i]? = some s → s = .no
  | v :: vs, hi, s, e => by
    rw [wipeD] at e
    rcases set_get e with ⟨_, _, z⟩ | ⟨n, e⟩
    · exact z
    · rcases List.mem_cons.mp hi with rfl | hi
      · rcases n with n | n
        · exact absurd rfl n
        · have := (List.getElem?_eq_some_iff.mp e).1
          rw [List.length_set] at this
          exact absurd this (Nat.not_lt.mpr n)
      · exact wipeD_in hi s e
theorem wipeD_out {de : DEnv} {i : Nat} : ∀ {vs : List Nat}, i ∉ vs → (wipeD de vs)[i]? = de[i]?
  | [], _ => rfl
  | v :: vs, hi => by
    rw [List.mem_cons, not_or] at hi
    rw [wipeD, List.getElem?_set_ne (Ne.symm hi.1), wipeD_out hi.2]
theorem restD_len (de0 : DEnv) (de : DEnv) : ∀ vs, (restD de0 vs de).length = de.length
  | [] => rfl
  | v :: vs => by rw [restD, List.length_set, restD_len de0 de vs]
theorem restD_in {de0 de : DEnv} {i : Nat} : ∀ {vs : List Nat}, i ∈ vs → ∀ s, (restD de0 vs de)[i]? = some s → s = de0.getD i .no
  | v :: vs, hi, s, e => by
    rw [restD] at e
    rcases set_get e with ⟨h, _, z⟩ | ⟨n, e⟩
    · rw [z, h]
    · rcases List.mem_cons.mp hi with rfl | hi
      · rcases n with n | n
        · exact absurd rfl n
        · have := (List.getElem?_eq_some_iff.mp e).1
          rw [List.length_set] at this
          exact absurd this (Nat.not_lt.mpr n)
      · exact restD_in hi s e
theorem restD_out {de0 de : DEnv} {i : Nat} : ∀ {vs : List Nat}, i ∉ vs → (restD de0 vs de)[i]? = de[i]?
  | [], _ => rfl
  | v :: vs, hi => by
    rw [List.mem_cons, not_or] at hi
    rw [restD, List.getElem?_set_ne (Ne.symm hi.1), restD_out hi.2]
theorem wipe_in {σ : St} {i : Nat} : ∀ {vs : List Nat}, i ∈ vs → ∀ s, (wipe σ vs)[i]? = some s → s = none
  | v :: vs, hi, s, e => by
    rw [wipe] at e
    rcases set_get e with ⟨_, _, z⟩ | ⟨n, e⟩
    · exact z
    · rcases List.mem_cons.mp hi with rfl | hi
      · rcases n with n | n
        · exact absurd rfl n
        · have := (List.getElem?_eq_some_iff.mp e).1
          rw [List.length_set] at this
          exact absurd this (Nat.not_lt.mpr n)
      · exact wipe_in hi s e
/-- two states that agree off vs -/
theorem wipe_eq {σ τ : St} {vs : List Nat} (hl : σ.length = τ.length) (h : ∀ j, j ∉ vs → σ[j]? = τ[j]?) : wipe σ vs = wipe τ vs := by
  refine List.ext_getElem? fun j => ?_
  by_cases hj : j ∈ vs
  · cases e1 : (wipe σ vs)[j]? with
    | none =>
      have l1 := List.getElem?_eq_none_iff.mp e1
      rw [wipe_length, hl, ← wipe_length τ vs] at l1
      exact (List.getElem?_eq_none_iff.mpr l1).symm
    | some s =>
      have l1 := (List.getElem?_eq_some_iff.mp e1).1
      rw [wipe_length, hl, ← wipe_length τ vs] at l1
      cases e2 : (wipe τ vs)[j]? with
      | none => exact absurd l1 (Nat.not_lt.mpr (List.getElem?_eq_none_iff.mp e2))
      | some s' => rw [wipe_in hj s e1, wipe_in hj s' e2]
  · rw [wipe_out hj, wipe_out hj, h j hj]
section
variable {K : PySem.W.Frag} {kap : Nat → Addr} {xi : Xi} {F H : Hp} {sg : St} {de : DEnv} {O : Own?}
theorem RS.wipe (R : RS K kap xi F H sg de O) : ∀ vs : List Nat, ∃ O', RS K kap xi F H (L2.wipe sg vs) (wipeD de vs) O' ∧ Go F H de O F H (wipeD de vs) O'
  | [] => ⟨O, R, Go.refl⟩
  | v :: vs => by
    obtain ⟨O1, R1, g1⟩ := R.wipe vs
    have R2 := R1.put v none .no none (fun _ e => by cases e) (fun _ e => by cases e) (fun _ _ e => by cases e) fun _ => rfl
    exact ⟨_, R2, g1.trans (Go.put v .no none (fun _ e => by cases e) fun _ e => by cases e)⟩
/-- an object that is nobody's is changed -/
theorem RS.side (R : RS K kap xi F H sg de O) {p : Addr} {o : HO} (hf : F p = none) (hO : ∀ i, O i ≠ some p) : RS K kap xi F (upd H p o) sg de O where
  len := R.len
  va := R.va
  ow := fun i s d e h => by
    obtain ⟨q, h1, h2, h3, h4⟩ := R.ow i s d e h
    have : q ≠ p := fun z => hO i (by rw [h1, z])
    exact ⟨q, h1, h2, h3, h4.mono (Same.refl F) (upd_ne this)⟩
  ex := R.ex
  onl := R.onl
  inj := R.inj
  sub := fun a u e => by
    have : a ≠ p := fun z => by rw [z, hf] at e; cases e
    rw [upd_ne this]
    exact R.sub a u e
theorem Go.side {F1 H1 : Hp} {de1 : DEnv} {O1 : Own?} (g : Go F1 H1 de1 O1 F H de O) {p : Addr} {o : HO} (h1 : H1 p = none) : Go F1 H1 de1 O1 F (upd H p o) de O where
  ex := g.ex
  keep := fun a u e n => by
    have : a ≠ p := fun z => by rw [z, h1] at e; cases e
    rw [upd_ne this]
    exact g.keep a u e n
  new := g.new
  dom := fun a e => by
    by_cases z : a = p
    · rw [z]; exact h1
    · rw [upd_ne z] at e; exact g.dom a e
  fnew := g.fnew
  pin := g.pin
theorem RS.rest {F1 H1 : Hp} {sg1 : St} {de1 : DEnv} {O1 : Own?} {vs : List Nat} (R1 : RS K kap xi F1 H1 sg1 de1 O1) (hp : plainAt de1 vs = true) (ex : Same F1 F) (R : RS K kap xi F H (L2.wipe sg1 vs) de O) (hno : ∀ i ∈ vs, ∀ s, de[i]? = some s → s = .no) (hl : de.length = de1.length) :
    RS K kap xi F H sg1 (restD de1 vs de) O := by
  have pl : ∀ i ∈ vs, plainS de1[i]? = true := fun i hi => List.all_eq_true.mp hp i hi
  have got : ∀ {i : Nat} {s : Sl}, i ∈ vs → (restD de1 vs de)[i]? = some s → de1[i]? = some s := fun {i s} hi e => by
    have z := restD_in hi s e
    have l1 := (List.getElem?_eq_some_iff.mp e).1
    rw [restD_len, hl] at l1
    rw [z, List.getD_eq_getElem?_getD]
    simp [l1]
  refine ⟨by rw [restD_len, hl]; exact R1.len, fun i d e => ?_, fun i s d e h => ?_, fun i c fs e => ?_, fun i p e => ?_, R.inj, R.sub⟩
  · by_cases hi : i ∈ vs
    · obtain ⟨v, h1, h2⟩ := R1.va i d (got hi e)
      exact ⟨v, h1, h2.mono ex⟩
    · rw [restD_out hi] at e
      obtain ⟨v, h1, h2⟩ := R.va i d e
      exact ⟨v, (wipe_some h1).1, h2⟩
  · by_cases hi : i ∈ vs
    · have := pl i hi
      rw [got hi e] at this
      cases s <;> first | (cases h; done) | (cases this; done)
    · rw [restD_out hi] at e
      obtain ⟨p, h1, h2, h3⟩ := R.ow i s d e h
      exact ⟨p, h1, (wipe_some h2).1, h3⟩
  · by_cases hi : i ∈ vs
    · have := pl i hi
      rw [got hi e] at this
      cases this
    · rw [restD_out hi] at e
      obtain ⟨a, d, h1, h2, h3⟩ := R.ex i c fs e
      exact ⟨a, d, h1, (wipe_some h2).1, h3⟩
  · obtain ⟨s, d, h1, h2⟩ := R.onl i p e
    by_cases hi : i ∈ vs
    · rw [hno i hi s h1] at h2
      cases h2
    · exact ⟨s, d, by rw [restD_out hi]; exact h1, h2⟩
end
structure JTs (kap : Nat → Addr) (xi : Xi) (X : Cx) (W : WX) (ifs : List Expr) (t : WX → TT) (ev : DEnv → Rs Bool) : Prop where
  p : PTs X ifs (t W)
  s : Snd X.K kap xi RlB t ev
def vYes (de : DEnv) : Rs Bool := .ok true de
theorem jtsNil {kap : Nat → Addr} {xi : Xi} {X : Cx} {W : WX} : JTs kap xi X W [] (fun _ => tYes) vYes := ⟨pts_nil, fun W F H sg de O Q R hp => hp.done R New.refl R.sub rfl⟩
theorem jtsOne {kap : Nat → Addr} {xi : Xi} {X : Cx} {W : WX} {c : Expr} {t : WX → TT} {ev : DEnv → Rs Bool} (h : JT kap xi X W c t ev) : JTs kap xi X W [c] t ev := ⟨pts_one h.p, h.s⟩
def SndG (K : PySem.W.Frag) (kap : Nat → Addr) (xi : Xi) (g : TG) (is : List Nat) (ev : D → DEnv → Option DEnv) : Prop :=
  ∀ F H sg de O v d de' Q, RS K kap xi F H sg de O → Rep K kap F v d → ev d de = some de' → (∀ sg' O', RS K kap xi F H sg' de' O' → Go F H de O F H de' O' → (∀ j, j ∉ is → sg'[j]? = sg[j]?) → sg'.length = sg.length → Q sg' H) → g v sg H Q
theorem Go.notO {F H F' H' : Hp} {de de' : DEnv} {O O' : Own?} (g : Go F H de O F' H' de' O') {p : Addr} {o : HO} (h : H p = some o) (hf : F p = none) (hO : ∀ i, O i ≠ some p) : H' p = some o ∧ F' p = none ∧ ∀ i, O' i ≠ some p := by
  refine ⟨g.keep p o h hO, ?_, fun i e => ?_⟩
  · cases e : F' p with
    | none => rfl
    | some u =>
      rcases g.fnew p (by rw [e]; simp) with z | z | ⟨i, z⟩
      · exact absurd hf z
      · rw [h] at z; cases z
      · exact absurd z (hO i)
  · rcases g.new i p e with ⟨j, z⟩ | z
    · exact hO j z
    · rw [h] at z; cases z
theorem snd_lc {K : PySem.W.Frag} {kap : Nat → Addr} {xi : Xi} {wi : WX → TI} {g : TG} {is vs : List Nat} {tt : WX → TT} {te : WX → TE} {ei : DEnv → Rs (List D)} {eg : D → DEnv → Option DEnv} {et : DEnv → Rs Bool} {ee : DEnv → Rs D}
    (hi : Snd K kap xi (RlI K kap) wi ei) (hg : SndG K kap xi g is eg) (his : ∀ i ∈ is, i ∈ vs) (ht : Snd K kap xi RlB tt et) (he : Snd K kap xi (RlE K kap) te ee) :
    Snd K kap xi (RlF K kap) (fun W => tLc (wi W) g (tt W0) (te W0) vs) (vLc vs ei eg et ee) := by
  intro W F H sg de O Q R hp
  refine hi.bind R hp fun J ds F1 H1 de1 O1 R1 g1 ij _ hp => ?_
  split at hp
  · rename_i hh
    obtain ⟨hpl, hlen⟩ := hh
    obtain ⟨Ow, Rw, gw⟩ := R1.wipe vs
    cases el : lcGo vs eg et ee ds (wipeD de1 vs) with
    | none => rw [el] at hp; exact hp.elim
    | some p0 =>
      obtain ⟨xs, de2⟩ := p0
      rw [el] at hp
      intro Dn hD
      have hDF : F1 Dn = none := R1.sub.free hD
      have hDO : ∀ i, Ow i ≠ some Dn := Rw.nofresh hD
      have R0 := Rw.side (o := .lst []) hDF hDO
      refine ⟨fun i m Hc => m = ds.length - i ∧ i ≤ ds.length ∧ ∃ Fc dc Oc acc accD rest, Same F1 Fc ∧ RS K kap xi Fc Hc (L2.wipe sg vs) dc Oc ∧ Go F1 H1 (wipeD de1 vs) Ow Fc Hc dc Oc ∧ Hc Dn = some (.lst acc) ∧ Fc Dn = none ∧ (∀ i, Oc i ≠ some Dn) ∧ Reps K kap Fc acc accD ∧ accD.length ≤ i ∧
        (∀ i ∈ vs, ∀ s, dc[i]? = some s → s = .no) ∧ dc.length = de1.length ∧ lcGo vs eg et ee (ds.drop i) dc = some (rest, de2) ∧ accD ++ rest = xs,
        ⟨ds.length, by simp, Nat.zero_le _, F1, wipeD de1 vs, Ow, [], [], xs, Same.refl _, R0, Go.refl.side hD, upd_same, hDF, hDO, .nil, Nat.le_refl _, fun i hi s e => wipeD_in hi s e, wipeD_len _ _, by simpa using el, rfl⟩, ?_⟩
      rintro i m Hc ⟨rfl, hil, Fc, dc, Oc, acc, accD, rest, ex, Rc, gc, hDc, hFc, hOc, racc, hal, hno, hdl, hgo, hxs⟩
      obtain ⟨hstop, hstep⟩ := ij i Fc Hc ex Rc.sub
      by_cases hlt : i < ds.length
      · have hd : ds[i]? = some ds[i] := by simp [hlt]
        obtain ⟨go, hy⟩ := hstep _ hd
        rw [List.drop_eq_getElem_cons hlt] at hgo
        unfold lcGo at hgo
        refine .inr ⟨go, fun H' => ∃ Fc dc Oc acc accD rest, Same F1 Fc ∧ RS K kap xi Fc H' (L2.wipe sg vs) dc Oc ∧ Go F1 H1 (wipeD de1 vs) Ow Fc H' dc Oc ∧ H' Dn = some (.lst acc) ∧ Fc Dn = none ∧ (∀ i, Oc i ≠ some Dn) ∧ Reps K kap Fc acc accD ∧ accD.length ≤ i + 1 ∧
          (∀ i ∈ vs, ∀ s, dc[i]? = some s → s = .no) ∧ dc.length = de1.length ∧ lcGo vs eg et ee (ds.drop (i + 1)) dc = some (rest, de2) ∧ accD ++ rest = xs, fun H' p' => ⟨ds.length - (i + 1), by omega, rfl, hlt, p'⟩, fun x H' y => ?_⟩
        obtain ⟨F2, n2, s2, r2⟩ := hy x H' y
        have R2 := Rc.new n2 s2
        have g2 : Go Fc Hc dc Oc F2 H' dc Oc := n2.go
        obtain ⟨hD2, hF2, hO2⟩ := g2.notO hDc hFc hOc
        obtain ⟨dc1, eg1, hgo⟩ := bind_some hgo
        refine hg F2 H' (L2.wipe sg vs) dc Oc x _ dc1 _ R2 r2 eg1 fun sg3 O3 R3 g3 ag al => ?_
        have ew : L2.wipe sg3 vs = L2.wipe sg vs := by
          have h1 : L2.wipe sg3 vs = L2.wipe (L2.wipe sg vs) vs := wipe_eq al fun j hj => ag j fun z => hj (his j z)
          rw [h1]
          exact wipe_eq (wipe_length _ _) fun j hj => wipe_out hj
        refine ⟨ew, ?_⟩
        obtain ⟨hD3, hF3, hO3⟩ := g3.notO hD2 hF2 hO2
        have hgo : (match et dc1 with
          | .ok true de2 => (match ee de2 with
            | .ok x de3 => (lcGo vs eg et ee (ds.drop (i + 1)) (wipeD de3 vs)).map fun p => (x :: p.1, p.2)
            | _ => none)
          | .ok false de2 => lcGo vs eg et ee (ds.drop (i + 1)) (wipeD de2 vs)
          | _ => none) = some (rest, de2) := hgo
        refine ht W0 F2 H' sg3 dc1 O3 _ R3 ?_
        cases e4 : et dc1 with
        | bad => rw [e4] at hgo; cases hgo
        | ex c fs dc2 => rw [e4] at hgo; cases hgo
        | ok b dc2 =>
          rw [e4] at hgo
          intro v F3 H3 O4 R4 g4 rb _
          have rb : v = b := rb
          subst rb
          obtain ⟨hD4, hF4, hO4⟩ := g4.notO hD3 hF3 hO3
          have gA := ((gc.trans g2).trans g3).trans g4
          cases v with
          | false =>
            refine iteF ?_
            obtain ⟨O5, R5, g5⟩ := R4.wipe vs
            obtain ⟨hD5, hF5, hO5⟩ := g5.notO hD4 hF4 hO4
            rw [ew] at R5
            exact ⟨F3, wipeD dc2 vs, O5, acc, accD, rest, ((ex.trans n2.f).trans g4.ex), R5, gA.trans g5, hD5, hF5, hO5, racc.mono (n2.f.trans g4.ex), Nat.le_succ_of_le hal, fun i hi s e => wipeD_in hi s e,
              by rw [← R5.len, wipe_length, R1.len], hgo, hxs⟩
          | true =>
            refine iteT (he W0 F3 H3 sg3 dc2 O4 _ R4 ?_)
            have hgo : (match ee dc2 with
              | .ok x de3 => (lcGo vs eg et ee (ds.drop (i + 1)) (wipeD de3 vs)).map fun p => (x :: p.1, p.2)
              | _ => none) = some (rest, de2) := hgo
            cases e5 : ee dc2 with
            | bad => rw [e5] at hgo; cases hgo
            | ex c fs dc3 => rw [e5] at hgo; cases hgo
            | ok x0 dc3 =>
              rw [e5] at hgo
              obtain ⟨⟨rest', dz⟩, h1, h2⟩ := Option.map_eq_some_iff.mp hgo
              cases h2
              intro y0 F4 H4 O5 R5 g5 ry _
              obtain ⟨hD5, hF5, hO5⟩ := g5.notO hD4 hF4 hO4
              have hle : acc.length = accD.length := racc.length
              refine ⟨acc, hD5, by rw [line_eq, hle]; omega, ?_⟩
              have R6 := R5.side (o := .lst (acc ++ [y0])) hF5 hO5
              obtain ⟨O6, R7, g7⟩ := R6.wipe vs
              obtain ⟨hD7, hF7, hO7⟩ := g7.notO upd_same hF5 hO5
              rw [ew] at R7
              exact ⟨F4, wipeD dc3 vs, O6, acc ++ [y0], accD ++ [x0], rest', (((ex.trans n2.f).trans g4.ex).trans g5.ex), R7, ((gA.trans g5).side hD).trans g7, hD7, hF7, hO7, (racc.mono ((n2.f.trans g4.ex).trans g5.ex)).append (.cons ry .nil), by rw [List.length_append]; simp; omega, fun i hi s e => wipeD_in hi s e,
                by rw [← R7.len, wipe_length, R1.len], h1, by rw [← hxs]; simp⟩
      · refine .inl ⟨hstop (Nat.le_of_not_lt hlt), ?_⟩
        rw [List.drop_eq_nil_of_le (Nat.le_of_not_lt hlt)] at hgo
        cases hgo
        rw [List.append_nil] at hxs
        subst hxs
        have Rr := R1.rest hpl ex Rc hno hdl
        refine hp (.ref Dn) Fc Hc Oc Rr ⟨gc.ex, fun a o h n => gc.keep a o h fun j e => ?_, fun j a e => ?_, gc.dom, fun a h => ?_, fun j d' e => ?_⟩ ⟨Dn, rfl, hFc, ⟨acc, hDc, racc⟩, hOc⟩ fun p z => by cases z; exact .inl hD
        · exact absurd e (fun _ => by
            rcases gw.new j a e with ⟨k, z⟩ | z
            · exact n k z
            · rw [h] at z; cases z)
        · rcases gc.new j a e with ⟨k, z⟩ | z
          · rcases gw.new k a z with ⟨k2, z2⟩ | z2
            · exact .inl ⟨k2, z2⟩
            · exact .inr z2
          · exact .inr z
        · rcases gc.fnew a h with z | z | ⟨k, z⟩
          · exact .inl z
          · exact .inr (.inl z)
          · rcases gw.new k a z with ⟨k2, z2⟩ | z2
            · exact .inr (.inr ⟨k2, z2⟩)
            · exact .inr (.inl z2)
        · have hj : j ∉ vs := fun hj => by
            have z := restD_in hj _ e
            have l1 := (List.getElem?_eq_some_iff.mp e).1
            rw [restD_len, hdl] at l1
            have p1 : plainS de1[j]? = true := List.all_eq_true.mp hpl j hj
            rw [List.getD_eq_getElem?_getD] at z
            rw [List.getElem?_eq_getElem l1] at p1 z
            have z : Sl.pn d' = de1[j] := by simpa using z
            rw [← z] at p1
            cases p1
          rw [restD_out hj] at e
          obtain ⟨k1, d1, k2⟩ := gc.pin j d' e
          obtain ⟨k3, d3, k4⟩ := gw.pin j d1 k2
          exact ⟨k1.trans k3, d3, k4⟩
  · exact hp.elim
open PySem.Spec PyProof.Rows
theorem jLc (own : List (Str × Nat)) {kap : Nat → Addr} {xi : Xi} {X : Cx} {W : WX} {tg iter elt : Expr} {ifs : List Expr} {scope : Scope} {pos : Pos} {wi : WX → TI} {g : TG} {is : List Nat} {tt : WX → TT} {te : WX → TE} {ei : DEnv → Rs (List D)} {eg : D → DEnv → Option DEnv} {et : DEnv → Rs Bool} {ee : DEnv → Rs D}
    (hN : X.N.Nodup) (ok : BlkOk X.N X.env.scope scope own) (hi : JI kap xi X W tg iter wi ei) (hg : ∀ (s : Shared) (H : Hp) (C : Addr) (cl : List (Str × Addr)) (fp : List Addr), JG kap (X.blk s H scope (compEnvC scope cl C X.env) fp) tg g is eg)
    (ht : ∀ (s : Shared) (H : Hp) (C : Addr) (cl : List (Str × Addr)) (fp : List Addr), JTs kap xi (X.blk s H scope (compEnvC scope cl C X.env) fp) W0 ifs tt et)
    (he : ∀ (s : Shared) (H : Hp) (C : Addr) (cl : List (Str × Addr)) (fp : List Addr), JE kap xi (X.blk s H scope (compEnvC scope cl C X.env) fp) W0 elt te ee)
    (his : ∀ i ∈ is, i ∈ own.map (·.2)) (hc : X.calm = true := by rfl) (hs : ∀ x, foldedSetIterable iter X.env x = pure x := by intro _; rfl) :
    JF kap xi X W (.ListComp elt [⟨tg, iter, ifs, 0⟩] scope pos) (fun W => tLc (wi W) g (tt W0) (te W0) (own.map (·.2))) (vLc (own.map (·.2)) ei eg et ee) :=
  ⟨pe_lc hc hN hi.p ok (fun s H C cl fp => (hg s H C cl fp).p) (fun s H C cl fp => (ht s H C cl fp).p) (fun s H C cl fp => (he s H C cl fp).p) hs,
    snd_lc hi.s (fun F H sg de O v d de' Q => (hg X.s_0 X.H_0 0 [] []).s xi F H sg de O v d de' Q) his (ht X.s_0 X.H_0 0 [] []).s (he X.s_0 X.H_0 0 [] []).s⟩
theorem snd_set {K : PySem.W.Frag} {kap : Nat → Addr} {xi : Xi} {t : WX → TE} {ev : DEnv → Rs D} (i : Nat) (h : Snd K kap xi (RlE K kap) t ev) : SndS K kap xi (fun W => tAsg (t W) (gName i)) (vSet i ev) := by
  intro W F H sg de O Dn R hp
  refine h.out R hp fun v d F1 H1 de1 O1 R1 g1 r _ hp => ?_
  obtain ⟨R2, g2⟩ := R1.setv i r
  exact hp F1 H1 _ _ R2 g2
theorem snd_setF {K : PySem.W.Frag} {kap : Nat → Addr} {xi : Xi} {t : WX → TE} {ev : DEnv → Rs D} (i : Nat) (h : Snd K kap xi (RlF K kap) t ev) : SndS K kap xi (fun W => tAsg (t W) (gName i)) (vSetF i ev) := by
  intro W F H sg de O Dn R hp
  refine h W F H sg de O _ R ?_
  unfold vSetF at hp
  cases e : ev de with
  | ok d de1 =>
    rw [e] at hp
    intro v F1 H1 O1 R1 g1 r org
    obtain ⟨p, rfl, f1, f2, f3⟩ := r
    have hp' : PS1 K kap xi F H de O W Dn (.nx (de1.set i (.ow d))) := hp
    have R2 := R1.put i (some (.ref p)) (.ow d) (some p) (fun d' e => by cases e) (fun d' e => by cases e; exact ⟨p, rfl, rfl, f1, f2, fun j _ => f3 j⟩) (fun _ _ e => by cases e) (fun e => by cases e)
    refine hp' F1 H1 _ _ R2 ⟨g1.ex, g1.keep, fun j a z => ?_, g1.dom, g1.fnew, fun j d' z => ?_⟩
    · unfold putO at z
      split at z
      · cases z; exact (org _ rfl).symm
      · exact g1.new j a z
    · rcases set_get z with ⟨rfl, il, z⟩ | ⟨n, z⟩
      · cases z
      · rw [putO_other n]; exact g1.pin j d' z
  | ex c fs de1 => rw [e] at hp; exact hp
  | bad => rw [e] at hp; exact hp
section
variable {kap : Nat → Addr} {xi : Xi} {X : Cx} {W : WX} {tg iter elt : Expr} {ifs : List Expr} {scope : Scope} {pos spos py : Pos} {wi : WX → TI} {g : TG} {is : List Nat} {tt : WX → TT} {te : WX → TE} {ei : DEnv → Rs (List D)} {eg : D → DEnv → Option DEnv} {et : DEnv → Rs Bool} {ee : DEnv → Rs D} {y : Str}
/-- x = [..] on one line, x frozen; x owned -/
theorem jSetLc (i : Nat) (own : List (Str × Nat)) (hN : X.N.Nodup) (ok : BlkOk X.N X.env.scope scope own) (hi : JI kap xi X W tg iter wi ei) (hg : ∀ (s : Shared) (H : Hp) (C : Addr) (cl : List (Str × Addr)) (fp : List Addr), JG kap (X.blk s H scope (compEnvC scope cl C X.env) fp) tg g is eg)
    (ht : ∀ (s : Shared) (H : Hp) (C : Addr) (cl : List (Str × Addr)) (fp : List Addr), JTs kap xi (X.blk s H scope (compEnvC scope cl C X.env) fp) W0 ifs tt et)
    (he : ∀ (s : Shared) (H : Hp) (C : Addr) (cl : List (Str × Addr)) (fp : List Addr), JE kap xi (X.blk s H scope (compEnvC scope cl C X.env) fp) W0 elt te ee)
    (his : ∀ i ∈ is, i ∈ own.map (·.2)) (hy : X.N[i]? = some y := by rfl) (hyl : X.env.scope.names.lookup y = some .local := by rfl) (hk : X.env.scope.kind = .function := by rfl) (hln : (py.line == pos.line) = true := by rfl) (hsn : (scope.names.any fun (n, k) => n == y && (k == .local || k == .cell)) = false := by rfl)
    (hc : X.calm = true := by rfl) (hs : ∀ x, foldedSetIterable iter X.env x = pure x := by intro _; rfl) :
    JS kap xi X W (.Assign [.Name y py] (.ListComp elt [⟨tg, iter, ifs, 0⟩] scope pos) spos) (fun W => tAsg (tLc (wi W) g (tt W0) (te W0) (own.map (·.2))) (gName i)) (vSet i (vLc (own.map (·.2)) ei eg et ee)) :=
  ⟨ps_setLc hc hN hy hyl (sw_true hk hyl hln hsn) hi.p ok (fun s H C cl fp => (hg s H C cl fp).p) (fun s H C cl fp => (ht s H C cl fp).p) (fun s H C cl fp => (he s H C cl fp).p) hs,
    snd_set i (snd_fz (snd_lc hi.s (fun F H sg de O v d de' Q => (hg X.s_0 X.H_0 0 [] []).s xi F H sg de O v d de' Q) his (ht X.s_0 X.H_0 0 [] []).s (he X.s_0 X.H_0 0 [] []).s))⟩
theorem jSetLcF (i : Nat) (own : List (Str × Nat)) (hN : X.N.Nodup) (ok : BlkOk X.N X.env.scope scope own) (hi : JI kap xi X W tg iter wi ei) (hg : ∀ (s : Shared) (H : Hp) (C : Addr) (cl : List (Str × Addr)) (fp : List Addr), JG kap (X.blk s H scope (compEnvC scope cl C X.env) fp) tg g is eg)
    (ht : ∀ (s : Shared) (H : Hp) (C : Addr) (cl : List (Str × Addr)) (fp : List Addr), JTs kap xi (X.blk s H scope (compEnvC scope cl C X.env) fp) W0 ifs tt et)
    (he : ∀ (s : Shared) (H : Hp) (C : Addr) (cl : List (Str × Addr)) (fp : List Addr), JE kap xi (X.blk s H scope (compEnvC scope cl C X.env) fp) W0 elt te ee)
    (his : ∀ i ∈ is, i ∈ own.map (·.2)) (hy : X.N[i]? = some y := by rfl) (hyl : X.env.scope.names.lookup y = some .local := by rfl) (hk : X.env.scope.kind = .function := by rfl) (hln : (py.line == pos.line) = true := by rfl) (hsn : (scope.names.any fun (n, k) => n == y && (k == .local || k == .cell)) = false := by rfl)
    (hc : X.calm = true := by rfl) (hs : ∀ x, foldedSetIterable iter X.env x = pure x := by intro _; rfl) :
    JS kap xi X W (.Assign [.Name y py] (.ListComp elt [⟨tg, iter, ifs, 0⟩] scope pos) spos) (fun W => tAsg (tLc (wi W) g (tt W0) (te W0) (own.map (·.2))) (gName i)) (vSetF i (vLc (own.map (·.2)) ei eg et ee)) :=
  ⟨ps_setLc hc hN hy hyl (sw_true hk hyl hln hsn) hi.p ok (fun s H C cl fp => (hg s H C cl fp).p) (fun s H C cl fp => (ht s H C cl fp).p) (fun s H C cl fp => (he s H C cl fp).p) hs,
    snd_setF i (snd_lc hi.s (fun F H sg de O v d de' Q => (hg X.s_0 X.H_0 0 [] []).s xi F H sg de O v d de' Q) his (ht X.s_0 X.H_0 0 [] []).s (he X.s_0 X.H_0 0 [] []).s)⟩
end
end DL
namespace DL
open PySem L2
theorem JTs.via {kap : Nat → Addr} {xi : Xi} {X : Cx} {W : WX} {ifs : List Expr} {t t' : WX → TT} {ev : DEnv → Rs Bool} (h : JTs kap xi X W ifs t ev) (eq : t' = t) : JTs kap xi X W ifs t' ev := by rw [eq]; exact h
theorem JG.via {kap : Nat → Addr} {X : Cx} {tg : Expr} {g g' : TG} {is : List Nat} {ev : D → DEnv → Option DEnv} (h : JG kap X tg g is ev) (eq : g' = g) : JG kap X tg g' is ev := by rw [eq]; exact h
end DL

set_option maxRecDepth 100000
set_option maxHeartbeats 2000000
set_option autoImplicit false
/-! more of lists, numbers -/
namespace DL
open PySem L2
def gInsert (ds as : List D) : Option (D × List D) := match as with
  | [.int i, d] => if ds.length < 16777216 ∧ 0 ≤ i ∧ i ≤ 1000000 then some (.non, ds.take i.toNat ++ d :: ds.drop i.toNat) else none
  | _ => none
def gExtend (ds as : List D) : Option (D × List D) := match as with
  | [.lst es] => if ds.length + es.length ≤ 16777216 then some (.non, ds ++ es) else none
  | _ => none
def gPopAt (ds as : List D) : Option (D × List D) := match as with
  | [.int i] => if 0 ≤ i then (ds[i.toNat]?).map fun d => (d, ds.eraseIdx i.toNat) else none
  | _ => none
section
variable {K : PySem.W.Frag} {kap : Nat → Addr}
theorem Reps.dropLast {F : Hp} : ∀ {vs : List V} {ds : List D}, Reps K kap F vs ds → Reps K kap F vs.dropLast ds.dropLast
  | _, _, .nil => .nil
  | _, _, .cons h .nil => .nil
  | _, _, .cons h (.cons h2 r) => .cons h (Reps.dropLast (.cons h2 r))
theorem Reps.erase {F : Hp} : ∀ {vs : List V} {ds : List D} (n : Nat), Reps K kap F vs ds → Reps K kap F (vs.eraseIdx n) (ds.eraseIdx n)
  | _, _, _, .nil => .nil
  | _, _, 0, .cons _ r => r
  | _, _, n + 1, .cons h r => .cons h (Reps.erase n r)
theorem spm_clear : SPM K kap rClear gClear := by
  intro F H p vs ds xs as z ds' Q h r ra e q
  unfold gClear at e
  split at e
  · cases e
    cases ra
    exact ⟨p, vs, rfl, rfl, h, q _ _ .non .nil⟩
  · cases e
theorem spm_pop : SPM K kap rPop gPop := by
  intro F H p vs ds xs as z ds' Q h r ra e q
  unfold gPop at e
  split at e
  · obtain ⟨d, e1, e2⟩ := Option.map_eq_some_iff.mp e
    cases e2
    cases ra
    obtain ⟨v, g1, g2⟩ := r.get e1
    rw [← r.length] at g1
    exact ⟨p, vs, v, rfl, rfl, h, g1, q _ _ g2 r.dropLast⟩
  · cases e
end
/-- the rule of a method of an owned list, the frozen part within the heap -/
def SPM2 (K : PySem.W.Frag) (kap : Nat → Addr) (r : V → List V → Hp → VK → Prop) (g : List D → List D → Option (D × List D)) : Prop :=
  ∀ F H p vs ds xs as z ds' Q, Same F H → H p = some (.lst vs) → Reps K kap F vs ds → Reps K kap F xs as → g ds as = some (z, ds') → (∀ v vs', Rep K kap F v z → Reps K kap F vs' ds' → Q v (upd H p (.lst vs'))) → r (.ref p) xs H Q
theorem SPM.two {K : PySem.W.Frag} {kap : Nat → Addr} {r : V → List V → Hp → VK → Prop} {g : List D → List D → Option (D × List D)} (s : SPM K kap r g) : SPM2 K kap r g := fun F H p vs ds xs as z ds' Q _ => s F H p vs ds xs as z ds' Q
theorem spm_extend {K : PySem.W.Frag} {kap : Nat → Addr} : SPM2 K kap rExtend gExtend := by
  intro F H p vs ds xs as z ds' Q sub h r ra e q
  unfold gExtend at e
  split at e
  · split at e
    · rename_i hl
      cases e
      cases ra with
      | cons r1 r2 =>
        cases r2
        cases r1 with
        | lst h1 r1 =>
          exact ⟨p, _, vs, _, rfl, rfl, h, sub _ _ h1, by rw [line_eq, r.length, r1.length]; exact hl, q _ _ .non (r.append r1)⟩
    · cases e
  · cases e
def rInsert : V → List V → Hp → VK → Prop := fun x vs H Q => ∃ (l : Addr) (xs : List V) (i : Int) (y : V), x = .ref l ∧ vs = [.int i, y] ∧ H l = some (.lst xs) ∧ xs.length < sizeLine ∧ 0 ≤ i ∧ i < 2 ^ 63 ∧ Q .non (upd H l (.lst (xs.take i.toNat ++ [y] ++ xs.drop i.toNat)))
theorem spm_insert {K : PySem.W.Frag} {kap : Nat → Addr} : SPM2 K kap rInsert gInsert := by
  intro F H p vs ds xs as z ds' Q sub h r ra e q
  unfold gInsert at e
  split at e
  · rename_i i d
    split at e
    · rename_i hl
      cases e
      cases ra with
      | cons r1 r2 =>
        cases r2 with
        | cons r2 r3 =>
          cases r3
          cases r1
          refine ⟨p, vs, i, _, rfl, rfl, h, by rw [line_eq, r.length]; exact hl.1, hl.2.1, Int.lt_of_le_of_lt hl.2.2 (by decide), q _ _ .non ?_⟩
          have z := ((r.take i.toNat).append (.cons r2 .nil)).append (r.drop i.toNat)
          simpa using z
    · cases e
  · cases e
theorem snd_mut2 {kap : Nat → Addr} {xi : Xi} {ta : WX → TA} {ea : DEnv → Rs (List D)} (i : Nat) {K : PySem.W.Frag} {r : V → List V → Hp → VK → Prop} {g : List D → List D → Option (D × List D)} (s : SPM2 K kap r g) (ha : Snd K kap xi (RlA K kap) ta ea) :
    Snd K kap xi (RlE K kap) (fun W => tBM K "list" r (tVar i) (ta W)) (vMut i g ea) := by
  intro W F H sg de O Q R hp
  unfold vMut at hp
  split at hp
  · rename_i hsl
    cases e0 : slotAt i de with
    | none => rw [e0] at hsl; cases hsl
    | some d0 =>
      rw [e0] at hsl
      obtain ⟨u, hu, ru⟩ := R.rb e0
      refine ⟨u, hu, ty_lst R.sub ru hsl, ?_⟩
      refine ha.bind R hp fun xs as F2 H2 de2 O2 R2 g2 ra _ hp => ?_
      split at hp
      · rename_i sl ds eo
        split at hp
        · rename_i z ds' eg
          obtain ⟨e1, e2, p, h1, h2, h3, vs, h4, h5⟩ := R2.owl eo
          rw [hu] at h2
          cases h2
          refine s F2 H2 p vs ds xs as z ds' Q R2.sub h4 h5 ra eg fun v vs' rv rvs => ?_
          obtain ⟨R3, g3⟩ := R2.mut (o := .lst vs') (d' := .lst ds') e1 e2 h1 ⟨_, upd_same, rvs⟩
          exact hp v F2 _ O2 R3 g3 rv fun _ z => z.elim
        · exact hp.elim
      · exact hp.elim
  · exact hp.elim
theorem snd_mut0 {kap : Nat → Addr} {xi : Xi} (i : Nat) {K : PySem.W.Frag} {r : V → List V → Hp → VK → Prop} {g : List D → List D → Option (D × List D)} (s : SPM2 K kap r g) :
    Snd K kap xi (RlE K kap) (fun W => tBM0 K "list" r (tVar i)) (vMut i g vNil) := by
  intro W F H sg de O Q R hp
  unfold vMut at hp
  split at hp
  · rename_i hsl
    cases e0 : slotAt i de with
    | none => rw [e0] at hsl; cases hsl
    | some d0 =>
      rw [e0] at hsl
      obtain ⟨u, hu, ru⟩ := R.rb e0
      refine ⟨u, hu, ty_lst R.sub ru hsl, ?_⟩
      have hp : PE1 K kap (RlE K kap) xi F H sg de O W Q (match slotOw i de with
        | some (s, .lst ds) => (match g ds [] with
          | some (r, ds') => .ok r (de.set i (s.same (.lst ds')))
          | none => .bad)
        | _ => .bad) := hp
      split at hp
      · rename_i sl ds eo
        split at hp
        · rename_i z ds' eg
          obtain ⟨e1, e2, p, h1, h2, h3, vs, h4, h5⟩ := R.owl eo
          rw [hu] at h2
          cases h2
          refine s F H p vs ds [] [] z ds' Q R.sub h4 h5 .nil eg fun v vs' rv rvs => ?_
          obtain ⟨R3, g3⟩ := R.mut (o := .lst vs') (d' := .lst ds') e1 e2 h1 ⟨_, upd_same, rvs⟩
          exact hp v F _ O R3 g3 rv fun _ z => z.elim
        · exact hp.elim
      · exact hp.elim
  · exact hp.elim
section
variable {kap : Nat → Addr} {xi : Xi} {X : Cx} {W : WX} {e : Expr} {es : List Expr} {ta : WX → TA} {ea : DEnv → Rs (List D)} {xp cpos apos : Pos} {x nm : Str} {id : String} {r : V → List V → Hp → VK → Prop} {g : List D → List D → Option (D × List D)}
theorem jLm (slot : Slot "list" nm id) (hty : typeOf (.builtin id) = pure (.type "method_descriptor")) (hm : MtR X id r) (s : SPM2 X.K kap r g) (i : Nat) (ha : JA kap xi X W (e :: es) ta ea) (hN : X.N[i]? = some x := by rfl) (hvis : Vis X.env.scope x := by first | exact Or.inl rfl | exact Or.inr (Or.inl rfl) | exact Or.inr (Or.inr rfl))
    (hd : (x == ("__debug__" : Str)) = false := by decide) (hcd : (x == ("__classdict__" : Str)) = false := by decide)
    (hbase : attributeBase (.Name x xp) nm X.env (eval (.Name x xp) X.env) = eval (.Name x xp) X.env := by rfl)
    (hfew : ((backTo cpos (starEach (e :: es) X.env)).all (fun x => !x.1) && (backToKw cpos (keywordEach [] X.env)).all (fun x => x.1.isSome)
      && decide ((e :: es).length + ([] : List Keyword).length + (if ([] : List Keyword).isEmpty then 0 else 1) < 30)) = true := by rfl)
    (hline : (apos.endLine == cpos.line) = true := by rfl) (hs : starEach (e :: es) X.env = (false, eval e X.env) :: starEach es X.env := by rfl) (hplain : (backTo cpos (starEach es X.env)).any (·.1) = false := by rfl) :
    JE kap xi X W (.Call (.Attribute (.Name x xp) nm apos) (e :: es) [] cpos) (fun W => tBM X.K "list" r (tVar i) (ta W)) (vMut i g ea) :=
  ⟨pe_bm PySem.F.plainAttrs_list slot hty hm (pe_var hN hvis hd hcd) ha.p hbase hfew hline hs hplain, snd_mut2 i s ha.s⟩
theorem jLm0 (slot : Slot "list" nm id) (hty : typeOf (.builtin id) = pure (.type "method_descriptor")) (hm : MtR X id r) (s : SPM2 X.K kap r g) (i : Nat) (hN : X.N[i]? = some x := by rfl) (hvis : Vis X.env.scope x := by first | exact Or.inl rfl | exact Or.inr (Or.inl rfl) | exact Or.inr (Or.inr rfl))
    (hd : (x == ("__debug__" : Str)) = false := by decide) (hcd : (x == ("__classdict__" : Str)) = false := by decide)
    (hbase : attributeBase (.Name x xp) nm X.env (eval (.Name x xp) X.env) = eval (.Name x xp) X.env := by rfl) (hline : (apos.endLine == cpos.line) = true := by rfl) :
    JE kap xi X W (.Call (.Attribute (.Name x xp) nm apos) [] [] cpos) (fun _ => tBM0 X.K "list" r (tVar i)) (vMut i g vNil) :=
  ⟨pe_bm0 PySem.F.plainAttrs_list slot hty hm (pe_var hN hvis hd hcd) hbase hline, snd_mut0 i s⟩
end
/-! ### numbers of a list; gcd -/
def asIs : List D → Option (List Int)
  | [] => some []
  | .int i :: r => (asIs r).map (i :: ·)
  | _ :: _ => none
theorem reps_ints {K : PySem.W.Frag} {kap : Nat → Addr} {F : Hp} : ∀ {vs : List V} {ds : List D} {ns : List Int}, Reps K kap F vs ds → asIs ds = some ns → vs = ns.map V.int
  | _, _, _, .nil, e => by cases e; rfl
  | _, _, _, .cons h r, e => by
    cases h with
    | int i =>
      obtain ⟨m, e1, rfl⟩ := Option.map_eq_some_iff.mp e
      rw [reps_ints r e1]
      rfl
    | _ => cases e
def fSum : List D → Option D
  | [.lst ds] => (asIs ds).map fun ns => .int ns.sum
  | _ => none
def fGcd : List D → Option D
  | [.int a, .int b] => some (.int ((Nat.gcd a.natAbs b.natAbs : Nat) : Int))
  | _ => none
theorem sp_sum {K : PySem.W.Frag} {kap : Nat → Addr} : SPN K kap (rSum K) fSum := by
  intro F H xs as z Q sub ra e q
  unfold fSum at e
  split at e
  · rename_i ds
    obtain ⟨ns, e1, rfl⟩ := Option.map_eq_some_iff.mp e
    obtain ⟨x, rfl, r⟩ := one_of ra
    obtain ⟨p, vs, rfl, h1, r1⟩ := r.lst sub
    have := reps_ints r1 e1
    subst this
    exact ⟨p, ns, rfl, SqL.of h1, q _ F H New.refl sub (.int _)⟩
  · cases e
theorem sp_gcd {K : PySem.W.Frag} {kap : Nat → Addr} : SPN K kap rGcd fGcd := by
  intro F H xs as z Q sub ra e q
  unfold fGcd at e
  split at e
  · cases e
    obtain ⟨x, y, rfl, r1, r2⟩ := two_of ra
    exact ⟨_, _, by rw [r1.int, r2.int], q _ F H New.refl sub (.int _)⟩
  · cases e
theorem jCBm {kap : Nat → Addr} {xi : Xi} {X : Cx} {W : WX} {e : Expr} {es : List Expr} {t : WX → TA} {os : List Op} {x : Str} {id : String} {rN : List V → Hp → VK → Prop} {fN : List D → Option D} {p pos : Pos} (hc : CallR X (.builtin id) rN) (s : SPN X.K kap rN fN) (hm : X.mg x = some (.builtin id)) (ha : JOs kap xi X W (e :: es) t os) (hg : Gl X x := by rfl) (hdb : (x == ("__debug__" : Str)) = false := by decide)
    (he : starEach (e :: es) X.env = (false, eval e X.env) :: starEach es X.env := by rfl) (hpl : (backTo pos (starEach es X.env)).any (·.1) = false := by rfl) : JE kap xi X W (.Call (.Name x p) (e :: es) [] pos) (fun W => tCB rN (t W)) (vON fN os) := ⟨pe_callBfun hc hg hm ha.p hdb he hpl, snd_oN s ha.s⟩
end DL

set_option maxRecDepth 100000
set_option maxHeartbeats 2000000
set_option autoImplicit false
namespace DL
open PySem L2
/-- list(range(n)), list(range(i, j)) -/
def vListRg (er : DEnv → Rs (Int × Int)) (de : DEnv) : Rs D := (er de).bind fun p de1 => if -1000000 ≤ p.1 ∧ p.1 ≤ 1000000 ∧ -1000000 ≤ p.2 ∧ p.2 ≤ 1000000 then .ok (.lst (rangeD p.1 (p.2 - p.1).toNat)) de1 else .bad
def vR1 (ev : DEnv → Rs D) (de : DEnv) : Rs (Int × Int) := (ev de).bind fun d de1 => ofO ((asI d).map fun n => (0, n)) de1
def vR2 (ev ev' : DEnv → Rs D) (de : DEnv) : Rs (Int × Int) := (ev de).bind fun d de1 => (ev' de1).bind fun d' de2 => ofO ((asI d).bind fun i => (asI d').map fun j => (i, j)) de2
section
variable {kap : Nat → Addr} {xi : Xi} {X : Cx} {W : WX} {e e' : Expr} {t t' : WX → TE} {ev ev' : DEnv → Rs D} {p p2 pos pos2 : Pos}
theorem reps_rg {K : PySem.W.Frag} {F : Hp} (i j : Int) : Reps K kap F (rgV i j) (rangeD i (j - i).toNat) := by
  unfold rgV rangeD
  generalize List.range (j - i).toNat = l
  induction l with
  | nil => exact .nil
  | cons x l ih => exact .cons (.int _) ih
theorem snd_listRg {K : PySem.W.Frag} {tr : WX → St → Hp → (Int → Int → Hp → Prop) → Prop} {er : DEnv → Rs (Int × Int)} (h : ∀ W F H sg de O (Q : Int → Int → Hp → Prop), RS K kap xi F H sg de O → (match er de with
      | .ok q de1 => ∀ F1 H1 O1, RS K kap xi F1 H1 sg de1 O1 → Go F H de O F1 H1 de1 O1 → Q q.1 q.2 H1
      | .ex c fs de1 => PX K kap xi F H de O W c fs de1
      | .bad => False) → tr W sg H Q) : Snd K kap xi (RlF K kap) (fun W => tLstRg (tr W)) (vListRg er) := by
  intro W F H sg de O Q R hp
  refine h W F H sg de O _ R ?_
  unfold vListRg at hp
  cases e : er de with
  | ok q de1 =>
    rw [e] at hp
    intro F1 H1 O1 R1 g1
    have hp := PE1.shift g1 hp
    have hp : PE1 K kap (RlF K kap) xi F1 H1 sg de1 O1 W Q (if -1000000 ≤ q.1 ∧ q.1 ≤ 1000000 ∧ -1000000 ≤ q.2 ∧ q.2 ≤ 1000000 then .ok (.lst (rangeD q.1 (q.2 - q.1).toNat)) de1 else .bad) := hp
    split at hp
    · rename_i hh
      have ho : RgOk q.1 q.2 := ⟨by omega, by omega, by omega, by omega, by omega⟩
      refine ⟨ho, fun l hl => ?_⟩
      obtain ⟨n, s2⟩ := new_fresh (o := .lst (rgV q.1 q.2)) R1.sub hl
      exact hp.done R1 n s2 (fresh_new R1 n s2 hl ⟨_, upd_same, reps_rg q.1 q.2⟩) fun p' e => by cases e; exact hl
    · exact hp.elim
  | ex c fs de1 => rw [e] at hp; exact hp
  | bad => rw [e] at hp; exact hp.elim
theorem jListR1 (hl : X.mg "list" = none) (hr : X.mg "range" = none) (h : JE kap xi X W e t ev) (hc : X.calm = true := by rfl) (hg : Gl X "list" := by rfl) (hg2 : Gl X "range" := by rfl)
    (na : starEach [e] X.env = (false, eval e X.env) :: starEach [] X.env := by rfl) (nb : starEach [.Call (.Name "range" p2) [e] [] pos2] X.env = (false, eval (.Call (.Name "range" p2) [e] [] pos2) X.env) :: starEach [] X.env := by rfl) :
    JF kap xi X W (.Call (.Name "list" p) [.Call (.Name "range" p2) [e] [] pos2] [] pos) (fun W => tLstRg (tRg1 (t W))) (vListRg (vR1 ev)) := ⟨pe_listRg hc hg hl (prg_1 hg2 hr h.p na) nb, by
  refine snd_listRg fun W F H sg de O Q R hp => ?_
  refine h.s W F H sg de O _ R ?_
  unfold vR1 at hp
  cases ee : ev de with
  | ok d de1 =>
    rw [ee] at hp
    intro v F1 H1 O1 R1 g1 r _
    cases r with
    | int i => exact ⟨i, rfl, hp F1 H1 O1 R1 g1⟩
    | _ => exact hp.elim
  | ex c fs de1 => rw [ee] at hp; exact hp
  | bad => rw [ee] at hp; exact hp.elim⟩
end
end DL

set_option maxRecDepth 100000
set_option maxHeartbeats 2000000
set_option autoImplicit false
namespace DL
open PySem L2 PySem.Spec PyProof.Rows
/-! ### slots that nobody reads any more -/
def dropO (vs : List Nat) : Ot → Ot
  | .nx de => .nx (wipeD de vs)
  | .ct de => .ct (wipeD de vs)
  | .brk de => .brk (wipeD de vs)
  | o => o
def vPre (vs : List Nat) (e : DEnv → Ot) (de : DEnv) : Ot := e (wipeD de vs)
def vPost (vs : List Nat) (e : DEnv → Ot) (de : DEnv) : Ot := dropO vs (e de)
section
variable {K : PySem.W.Frag} {kap : Nat → Addr} {xi : Xi} {F H : Hp} {sg : L2.St} {de : DEnv} {O : Own?}
theorem RS.forget1 (R : RS K kap xi F H sg de O) (i : Nat) : ∃ O', RS K kap xi F H sg (de.set i .no) O' ∧ Go F H de O F H (de.set i .no) O' := by
  by_cases il : i < sg.length
  · have R2 := R.put i sg[i] .no none (fun _ e => by cases e) (fun _ e => by cases e) (fun _ _ e => by cases e) fun _ => rfl
    rw [List.set_getElem_self] at R2
    exact ⟨_, R2, Go.put i .no none (fun _ e => by cases e) fun _ e => by cases e⟩
  · have e : de.set i .no = de := List.set_eq_of_length_le (by rw [← R.len]; omega)
    rw [e]
    exact ⟨O, R, Go.refl⟩
theorem RS.forget : ∀ (vs : List Nat) {de : DEnv} {O : Own?}, RS K kap xi F H sg de O → ∃ O', RS K kap xi F H sg (wipeD de vs) O' ∧ Go F H de O F H (wipeD de vs) O'
  | [], de, O, R => ⟨O, R, Go.refl⟩
  | v :: vs, de, O, R => by
    obtain ⟨O1, R1, g1⟩ := RS.forget vs R
    obtain ⟨O2, R2, g2⟩ := R1.forget1 v
    exact ⟨O2, R2, g1.trans g2⟩
end
section
variable {kap : Nat → Addr} {xi : Xi} {X : Cx} {W : WX} {st : Stmt} {sts : List Stmt} {t : WX → TS} {e : DEnv → Ot}
theorem snd_pre (vs : List Nat) {K : PySem.W.Frag} (h : SndS K kap xi t e) : SndS K kap xi t (vPre vs e) := by
  intro W F H sg de O Dn R hp
  obtain ⟨O2, R2, g2⟩ := R.forget vs
  exact h W F H sg _ O2 Dn R2 (PS1.shift g2 hp)
theorem snd_post (vs : List Nat) {K : PySem.W.Frag} (h : SndS K kap xi t e) : SndS K kap xi t (vPost vs e) := by
  intro W F H sg de O Dn R hp
  refine h W F H sg de O Dn R ?_
  unfold vPost at hp
  cases eo : e de with
  | nx de1 =>
    rw [eo] at hp
    intro F' H' sg' O' R' g'
    obtain ⟨O2, R2, g2⟩ := R'.forget vs
    exact hp F' H' sg' O2 R2 (g'.trans g2)
  | ct de1 =>
    rw [eo] at hp
    intro F' H' sg' O' R' g'
    obtain ⟨O2, R2, g2⟩ := R'.forget vs
    exact hp F' H' sg' O2 R2 (g'.trans g2)
  | brk de1 =>
    rw [eo] at hp
    intro F' H' sg' O' R' g'
    obtain ⟨O2, R2, g2⟩ := R'.forget vs
    exact hp F' H' sg' O2 R2 (g'.trans g2)
  | ret d de1 => rw [eo] at hp; exact hp
  | retF d de1 => rw [eo] at hp; exact hp
  | ex c fs de1 => rw [eo] at hp; exact hp
  | bad => rw [eo] at hp; exact hp
theorem jPre (vs : List Nat) (h : JS kap xi X W st t e) : JS kap xi X W st t (vPre vs e) := ⟨h.p, snd_pre vs h.s⟩
theorem jPost (vs : List Nat) (h : JS kap xi X W st t e) : JS kap xi X W st t (vPost vs e) := ⟨h.p, snd_post vs h.s⟩
theorem jssPre (vs : List Nat) (h : JSs kap xi X W sts t e) : JSs kap xi X W sts t (vPre vs e) := ⟨h.p, snd_pre vs h.s⟩
theorem jssPost (vs : List Nat) (h : JSs kap xi X W sts t e) : JSs kap xi X W sts t (vPost vs e) := ⟨h.p, snd_post vs h.s⟩
end
def vIdrop (vs : List Nat) (ei : DEnv → Rs (List D)) (de : DEnv) : Rs (List D) := (ei de).bind fun ds de1 => .ok ds (wipeD de1 vs)
theorem jiDrop {kap : Nat → Addr} {xi : Xi} {X : Cx} {W : WX} {tg iter : Expr} {wi : WX → TI} {ei : DEnv → Rs (List D)} (vs : List Nat) (h : JI kap xi X W tg iter wi ei) : JI kap xi X W tg iter wi (vIdrop vs ei) := ⟨h.p, by
  intro W F H sg de O Q R hp
  refine h.s.bind R hp fun J ds F1 H1 de1 O1 R1 g1 ij _ hp => ?_
  obtain ⟨O2, R2, g2⟩ := R1.forget vs
  exact hp J F1 H1 O2 R2 g2 ij fun _ z => z.elim⟩
/-! ### in, not in, over data -/
def seqPy : D → Option (List PyData)
  | .lst xs => some (toPys xs)
  | .tup xs => some (toPys xs)
  | _ => none
def fIn (a b : D) : Option D := match b with
  | .lst xs => if SeqAt.shaped (toPy a) && SeqAt.shaped (.list (toPys xs)) then some (.bl ((toPys xs).any fun z => PyData.eqv z (toPy a))) else none
  | _ => none
def fNotIn (a b : D) : Option D := match b with
  | .lst xs => if SeqAt.shaped (toPy a) && SeqAt.shaped (.list (toPys xs)) then some (.bl (!(toPys xs).any fun z => PyData.eqv z (toPy a))) else none
  | _ => none
section
variable {K : PySem.W.Frag} {kap : Nat → Addr}
theorem dp_lst {F H : Hp} {y : V} {xs : List D} (sub : Same F H) (rb : RB K kap F H y (.lst xs)) (h : SeqAt.shaped (.list (toPys xs)) = true) : Dp K H y (.list (toPys xs)) := dp_of (kap := kap) (d := .lst xs) (rb.rep sub) (SeqAt.canLay_of_shaped h)
theorem sp_in : SP2 K kap (rInD K) fIn := by
  intro F H x y a b z Q sub ra rb e q
  unfold fIn at e
  split at e
  · split at e
    · rename_i h
      rw [Bool.and_eq_true] at h
      cases e
      exact ⟨_, _, dp_of (ra.rep sub) (SeqAt.canLay_of_shaped h.1), dp_lst sub rb h.2, h.1, h.2, q _ F H New.refl sub (.bl _)⟩
    · cases e
  · cases e
theorem sp_notIn : SP2 K kap (rNotInD K) fNotIn := by
  intro F H x y a b z Q sub ra rb e q
  unfold fNotIn at e
  split at e
  · split at e
    · rename_i h
      rw [Bool.and_eq_true] at h
      cases e
      exact ⟨_, _, dp_of (ra.rep sub) (SeqAt.canLay_of_shaped h.1), dp_lst sub rb h.2, h.1, h.2, q _ F H New.refl sub (.bl _)⟩
    · cases e
  · cases e
theorem uu65 {k : Nat} {A : Around} (r : RoomG k A) : A.units + 65 < cLine := by have := r.un; omega
/-! ### pop(i), xs * k -/
def gPopAt2 (ds as : List D) : Option (D × List D) := match as with
  | [.int i] => if 0 ≤ i ∧ i ≤ 1000000 then (ds[i.toNat]?).map fun d => (d, ds.eraseIdx i.toNat) else none
  | _ => none
theorem spm_popAt : SPM K kap rPopAt gPopAt2 := by
  intro F H p vs ds xs as z ds' Q h r ra e q
  unfold gPopAt2 at e
  split at e
  · rename_i i
    split at e
    · rename_i hi
      obtain ⟨d, e1, e2⟩ := Option.map_eq_some_iff.mp e
      cases e2
      cases ra with
      | cons r1 r2 =>
        cases r2
        cases r1
        obtain ⟨v, g1, g2⟩ := r.get e1
        have il := (List.getElem?_eq_some_iff.mp g1).1
        refine ⟨p, vs, i, i.toNat, v, rfl, rfl, h, by omega, by omega, ?_, g1, q _ _ g2 (r.erase _)⟩
        unfold seqIndex?
        have h0 : ¬ i < 0 := by omega
        have h1 : (i : Int) < (vs.length : Int) := by omega
        simp [h0, h1, hi.1]
    · cases e
  · cases e
def fRep : D → D → Option D
  | .lst xs, .int k => if 0 ≤ k ∧ k ≤ 1000000 ∧ xs.length * k.toNat ≤ 16777216 then some (.lst (List.replicate k.toNat xs).flatten) else none
  | _, _ => none
theorem reps_rep {F : Hp} {vs : List V} {ds : List D} (r : Reps K kap F vs ds) : ∀ n : Nat, Reps K kap F (List.replicate n vs).flatten (List.replicate n ds).flatten
  | 0 => .nil
  | n + 1 => by
    rw [List.replicate_succ, List.replicate_succ, List.flatten_cons, List.flatten_cons]
    exact r.append (reps_rep r n)
theorem sf_rep : SF2 K kap rRep fRep := by
  intro F H x y a b z Q sub ra rb e q
  unfold fRep at e
  split at e
  · split at e
    · rename_i hl
      cases e
      obtain ⟨p, vs, rfl, h1, r1⟩ := ra.lst sub
      refine ⟨_, _, _, rfl, rb.int, h1, by omega, by omega, by rw [line_eq, r1.length]; exact hl.2.2, fun p hp => ?_⟩
      obtain ⟨n, s2⟩ := new_fresh (o := .lst (List.replicate _ vs).flatten) sub hp
      exact q _ _ n s2 hp ⟨_, upd_same, reps_rep r1 _⟩
    · cases e
  · cases e
end
section
variable {kap : Nat → Addr} {xi : Xi} {X : Cx} {W : WX} {a b : Expr} {ta tb : WX → TE} {oa ob : Op} {pos : Pos}
theorem jRep (ha : JO kap xi X W a ta oa) (hb : JO kap xi X W b tb ob) : JF kap xi X W (.BinOp a .Mult b pos) (fun W => tOp rRep (ta W) (tb W)) (vO2 fRep oa ob) := jOpF op_rep sf_rep ha hb
end
end DL

set_option maxRecDepth 100000
set_option maxHeartbeats 2000000
set_option autoImplicit false
namespace DL
open PySem L2 PySem.Spec PyProof.Rows
/-! ### several except clauses, with names or without -/
abbrev HT3 := Addr → Value → Option Addr → TS
def offT (i : Nat) (ts : HT3) : HT3 := fun a cls d D σ H => ts a cls d { nx := fun σ' H' => D.nx (σ'.set i none) H', rt := D.rt, bk := fun σ' H' => D.bk (σ'.set i none) H', ct := fun σ' H' => D.ct (σ'.set i none) H' } (σ.set i (some (.ref a))) H
inductive HdN (X : Cx) : List ExceptHandler → List (Value × HT3) → Prop
  | nil : HdN X [] []
  | cons {x : Str} {c : Value} {ts : HT3} {b₀ : Stmt} {suite : List Stmt} {np pos' : Pos} {hds : List ExceptHandler} {l : List (Value × HT3)} (hc : Names X x c)
      (hsu : ∀ (a : Addr) (oe : Obj) (cls : Value) (d : Option Addr) (pn : List (Addr × Obj)), Zc cls d oe → (∃ vs, oe.data = .fields vs) → PSs (X.suite a ((a, oe) :: pn)) (b₀ :: suite) (ts a cls d)) (r : HdN X hds l) :
      HdN X (.ExceptHandler (some (.Name x np)) none (b₀ :: suite) pos' :: hds) ((c, ts) :: l)
  | consAs {x n : Str} {i : Nat} {c : Value} {ts : HT3} {b₀ : Stmt} {suite : List Stmt} {np pos' : Pos} {hds : List ExceptHandler} {l : List (Value × HT3)} (hN : X.N.Nodup) (hi : X.N[i]? = some n) (hln : X.env.kindOf n = some .local) (hc : Names X x c)
      (hsu : ∀ (a : Addr) (oe : Obj) (cls : Value) (d : Option Addr) (pn : List (Addr × Obj)), Zc cls d oe → (∃ vs, oe.data = .fields vs) → PSs (X.suite a ((a, oe) :: pn)) (b₀ :: suite) (ts a cls d)) (r : HdN X hds l) :
      HdN X (.ExceptHandler (some (.Name x np)) (some n) (b₀ :: suite) pos' :: hds) ((c, offT i ts) :: l)
section
variable {X : Cx} {body : List Stmt} {h₀ : ExceptHandler} {hds : List ExceptHandler} {l : List (Value × HT3)} {pos : Pos} {tb : WX → TS} {Wout : WX}
theorem ps_try_mix (hs : X.stack = X.env :: X.outer) (hf : X.env.frame = some X.env.locals) (tk : Takes X Wout)
    (hb : ∀ (W : WX) (pn : List (Addr × Obj)) (xe : Value → Shared → Prop), Takes (X.tr pn xe) W → PassesOwn (model X.prog X.w) X.A X.env xe → PSs (X.tr pn xe) body (tb W))
    (hh : HdN X (h₀ :: hds) l) : PS X (.Try body (h₀ :: hds) [] [] pos) (fun D σ H => tb (wMany X.K Wout D l) D σ H) := by
  refine ⟨fun pins s σ H D I h => ?_⟩
  have ok := I.ok
  have hfr : X.A.frames = some (X.env :: X.outer) := by rw [ok.frames, hs]
  refine wpAny_Try_except ?_
  refine wpAny_mono ((hb (wMany X.K Wout D l) (X.pn ++ pins) (fun e s₁ => wpAny (model X.prog X.w) X.A (noteFrame e X.env) (fun _ s₂ => wpAny (model X.prog X.w) X.A (setFlight e none) (fun _ s₃ =>
    wpAny (model X.prog X.w) X.A (handleBy e X.env (h₀ :: hds)) (SP X pins D) X.xe s₃) X.xe s₂) X.xe s₁) (fun u s' xx => ?_) PassesOwn.looking).run [] s σ H D (I.toTry _) h) (fun f s1 hsp => ?_) (fun e s1 he => he)
  · obtain ⟨a, B, sI, pins', σ', H', cls, d, rfl, J', nb, up, sky, na, os, ag, w⟩ := xx
    have J : Inv X pins σ' H' sI := J'.ofTry ok
    have sky' : Sky B (X.env :: X.outer) a (Zc cls d) X.env.locals s'.heap := by rw [← hs]; exact sky
    show wpAny (model X.prog X.w) X.A (noteFrame (.ref a) X.env) _ _ _
    refine Sky.land Zc.steady hfr hf sky' fun h3 fl3 up3 => ?_
    have J3 : Inv X pins σ' H' { s' with heap := h3 } := J.landed nb fl3.1 (up.trans up3) os ag
    obtain ⟨oe3, vs3, he3, hz3, hd3⟩ := fl3.there
    have notFr : ∀ {h : Heap} {o : Obj} {vs : Array Value}, h.FunFrames B (X.env :: X.outer) → h.get? a = some o → o.data = .fields vs → a ∉ frs (X.env :: X.outer) := fun {h o vs} ff e dd hm => by
      obtain ⟨_, o', e', hnf⟩ := ff.mem hm
      rw [e] at e'; cases e'
      exact hnf _ dd
    have nfr := notFr fl3.2.2.1 he3 hd3
    have nL : a ≠ X.env.locals := fun z => nfr (List.mem_filterMap.mpr ⟨X.env, List.mem_cons_self, by rw [hf, z]⟩)
    have nF : a ∉ X.fs := fun hm => by
      obtain ⟨e, he, q⟩ := List.mem_filterMap.mp hm
      exact nfr (List.mem_filterMap.mpr ⟨e, List.mem_cons_of_mem _ he, q⟩)
    have S3 := J3.suite he3 hd3 na nL nF
    have LT : PySem.W.Looks (model X.prog X.w) h3 (typeOf (.ref a)) cls := fun A Q E s k q => wpAny_typeOf_ref (k _ _ he3) (by rw [hz3.1]; exact q)
    have go : ∀ {hds' : List ExceptHandler} {l' : List (Value × HT3)}, HdN X hds' l' → wMany X.K Wout D l' cls d σ' H' →
        wpAny (model X.prog X.w) X.A (handleBy (.ref a) X.env hds') (SP X pins D) X.xe { s' with heap := h3 } := by
      intro hds' l' hk
      induction hk with
      | nil =>
        intro w
        refine wpAny_handleBy_nil ?_
        obtain ⟨k1, k2, k3, oe, vs, T, oT, ts', he, hz, hd, h1, hr⟩ := id fl3
        unfold PySem.passOn
        refine wpAny_bind (wpAny_field he hd h1 ?_)
        rw [if_neg (show ¬ ((Value.ref T == Value.none) = true) from by simp)]
        have fin : wpAny (model X.prog X.w) X.A (setFlight (.ref a) X.env.frame) (fun _ s4 => wpAny (model X.prog X.w) X.A (throw (.ref a) : Sem Flow) (SP X pins D) X.xe s4) X.xe { s' with heap := h3 } := by
          rw [hf]
          refine HandSPX.setFlight_upZ fl3 fun h4 hh4 up4 => wpAny_throw (tk _ _ ?_)
          exact ⟨a, B, sI, pins, σ', H', cls, d, rfl, J, nb, (up.trans up3).trans up4, .inr (.inr (by rw [hs]; exact hh4)), na, os, ag, w⟩
        first
          | exact wpAny_bind (wpAny_pure (wpAny_bind fin))
          | exact wpAny_bind fin
      | @cons x c ts b₀ suite np pos' hds2 l2 hc hsu r ih =>
        intro w
        obtain ⟨b, hb1, hyes, hno⟩ := w
        refine wpAny_handleBy_cons (codeAny_handlers_test ?_) (by intro q; cases q)
        have LM := PySem.W.exm_one (M := model X.prog X.w) (J3.kIn) LT hb1
        have test : ∀ {Q : Value → Shared → Prop} {E : Value → Shared → Prop}, Q c { s' with heap := h3 } → wpAny (model X.prog X.w) (X.A.mark (some (.ref a))) (eval (.Name x np) X.env) Q E { s' with heap := h3 } := fun {Q E} q => by
          obtain ⟨hg, hdbg, hm | ⟨hm, hv, hnn⟩⟩ := hc
          · exact ld_glob (X := X.suite a ((a, oe3) :: (X.pn ++ pins))) S3 hg hm q hdbg
          · exact ld_blt (X := X.suite a ((a, oe3) :: (X.pn ++ pins))) S3 hg hm hv q hnn hdbg
        refine test (LM.here ?_)
        cases b with
        | true =>
          refine codeAny_handlers_suite ?_
          refine HandSPX.lands_againZ fl3 fun h4 fl4 up4 => ?_
          have J4 : Inv X pins σ' H' { s' with heap := h4 } := J.landed nb fl4.1 ((up.trans up3).trans up4) os ag
          obtain ⟨oe4, vs4, he4, hz4, hd4⟩ := fl4.there
          have S4 := J4.suite he4 hd4 na nL nF
          refine wpAny_mono ((hsu a oe4 cls d (X.pn ++ pins) hz4 ⟨_, hd4⟩).run [] _ _ H' _ S4 (hyes rfl a na)) (fun f s6 hsp => ?_) (fun _ _ z => False.elim z)
          cases f with
          | next =>
            obtain ⟨σ6, H6, S6, q6⟩ := hsp
            exact ⟨_, _, S6.unsuite ok, q6⟩
          | brk =>
            obtain ⟨σ6, H6, S6, q6⟩ := hsp
            exact ⟨_, _, S6.unsuite ok, q6⟩
          | cont =>
            obtain ⟨σ6, H6, S6, q6⟩ := hsp
            exact ⟨_, _, S6.unsuite ok, q6⟩
          | ret u =>
            obtain ⟨v6, σ6, H6, S6, r6, q6⟩ := hsp
            exact ⟨_, _, _, S6.unsuite ok, r6, q6⟩
        | false =>
          show wpAny _ X.A (handleBy (.ref a) X.env hds2) _ _ _
          exact ih (hno rfl)
      | @consAs x n i c ts b₀ suite np pos' hds2 l2 hN hi hln hc hsu r ih =>
        intro w
        obtain ⟨b, hb1, hyes, hno⟩ := w
        have hloc : Loc X.env.scope n := .inl hln
        refine wpAny_handleBy_cons (codeAny_handlers_test ?_) (by intro q; cases q)
        have LM := PySem.W.exm_one (M := model X.prog X.w) (J3.kIn) LT hb1
        have test : ∀ {Q : Value → Shared → Prop} {E : Value → Shared → Prop}, Q c { s' with heap := h3 } → wpAny (model X.prog X.w) (X.A.mark (some (.ref a))) (eval (.Name x np) X.env) Q E { s' with heap := h3 } := fun {Q E} q => by
          obtain ⟨hg, hdbg, hm | ⟨hm, hv, hnn⟩⟩ := hc
          · exact ld_glob (X := X.suite a ((a, oe3) :: (X.pn ++ pins))) S3 hg hm q hdbg
          · exact ld_blt (X := X.suite a ((a, oe3) :: (X.pn ++ pins))) S3 hg hm hv q hnn hdbg
        refine test (LM.here ?_)
        cases b with
        | true =>
          refine codeAny_handlers_suite_as ?_
          refine HandSPX.lands_againZ fl3 fun h4 fl4 up4 => ?_
          have J4 : Inv X pins σ' H' { s' with heap := h4 } := J.landed nb fl4.1 ((up.trans up3).trans up4) os ag
          obtain ⟨oe4, vs4, he4, hz4, hd4⟩ := fl4.there
          have S4 := J4.suite he4 hd4 na nL nF
          refine store_ok (X := X.suite a ((a, oe4) :: (X.pn ++ pins))) (v := .ref a) S4 hN hi hloc rfl (fun s5 S5 => ?_) (.inr hln)
          refine wpAny_mono ((hsu a oe4 cls d (X.pn ++ pins) hz4 ⟨_, hd4⟩).run [] s5 _ H' _ S5 (hyes rfl a na)) (fun f s6 hsp => ?_) (fun _ _ z => False.elim z)
          have end_ : ∀ {σ6 : L2.St} {H6 : Hp} {Q : Shared → Prop}, Inv (X.suite a ((a, oe4) :: (X.pn ++ pins))) [] σ6 H6 s6 → (∀ s7, Inv X pins (σ6.set i none) H6 s7 → Q s7) →
              wpAny (model X.prog X.w) X.A (do bindName X.env n .none; unbindBehindTheSuite X.env n pos') (fun _ s7 => Q s7) X.xe s6 := fun {σ6 H6 Q} S6 hq => gone_ok (S6.unsuite ok) hN hi hln hq
          cases f with
          | next =>
            obtain ⟨σ6, H6, S6, q6⟩ := hsp
            exact end_ S6 fun s7 J7 => ⟨_, _, J7, q6⟩
          | brk =>
            obtain ⟨σ6, H6, S6, q6⟩ := hsp
            exact end_ S6 fun s7 J7 => ⟨_, _, J7, q6⟩
          | cont =>
            obtain ⟨σ6, H6, S6, q6⟩ := hsp
            exact end_ S6 fun s7 J7 => ⟨_, _, J7, q6⟩
          | ret u =>
            obtain ⟨v6, σ6, H6, S6, r6, q6⟩ := hsp
            exact end_ S6 fun s7 J7 => ⟨_, _, _, J7, r6, q6⟩
        | false =>
          show wpAny _ X.A (handleBy (.ref a) X.env hds2) _ _ _
          exact ih (hno rfl)
    exact go hh w
  · cases f with
    | next =>
      obtain ⟨σ', H', J', q⟩ := hsp
      exact wpAny_execs_nil ⟨σ', H', J'.ofTry ok, q⟩
    | brk =>
      obtain ⟨σ', H', J', q⟩ := hsp
      exact ⟨σ', H', J'.ofTry ok, q⟩
    | cont =>
      obtain ⟨σ', H', J', q⟩ := hsp
      exact ⟨σ', H', J'.ofTry ok, q⟩
    | ret u =>
      obtain ⟨v, σ', H', J', r, q⟩ := hsp
      exact ⟨v, σ', H', J'.ofTry ok, r, q⟩
end
/-- the clauses on data: which classes, the name's slot if any, the suite -/
abbrev HdD := (Nat → Option Bool) × Option Nat × (DEnv → Ot)
def hdRun (o : Option Nat) (es : DEnv → Ot) (c : Nat) (fs : List (Str × D)) (de1 : DEnv) : Ot := match o with
  | some i => if calmD (de1.set i .no) = true then offEx i (es (de1.set i (.ex c fs))) else .bad
  | none => noOut (es de1)
def hdsRun (c : Nat) (fs : List (Str × D)) (de1 : DEnv) : List HdD → Ot
  | [] => .ex c fs de1
  | (mt, o, es) :: r => match mt c with
    | some true => hdRun o es c fs de1
    | some false => hdsRun c fs de1 r
    | none => .bad
def vTryMany (l : List HdD) (eb : DEnv → Ot) (de : DEnv) : Ot := match eb de with
  | .ex c fs de1 => hdsRun c fs de1 l
  | o => o
inductive JHs (kap : Nat → Addr) (xi : Xi) (X : Cx) : List ExceptHandler → List (Value × HT3) → List HdD → Prop
  | nil : JHs kap xi X [] [] []
  | cons {x : Str} {c : Value} {mt : Nat → Option Bool} {ts : Addr → Value → Option Addr → WX → TS} {es : DEnv → Ot} {b₀ : Stmt} {suite : List Stmt} {np pos' : Pos} {hds : List ExceptHandler} {l : List (Value × HT3)} {dl : List HdD} (hc : Names X x c)
      (hm : ∀ k b, mt k = some b → PySem.W.exmOne X.K (.ref (kap k)) c = some b)
      (hsu : ∀ (a : Addr) (oe : Obj) (cls : Value) (d : Option Addr) (pn : List (Addr × Obj)), Zc cls d oe → (∃ vs, oe.data = .fields vs) → JSs kap xi (X.suite a ((a, oe) :: pn)) W0 (b₀ :: suite) (ts a cls d) es) (r : JHs kap xi X hds l dl) :
      JHs kap xi X (.ExceptHandler (some (.Name x np)) none (b₀ :: suite) pos' :: hds) ((c, fun a cls d => ts a cls d W0) :: l) ((mt, none, es) :: dl)
  | consAs {x n : Str} (i : Nat) {c : Value} {mt : Nat → Option Bool} {ts : Addr → Value → Option Addr → WX → TS} {es : DEnv → Ot} {b₀ : Stmt} {suite : List Stmt} {np pos' : Pos} {hds : List ExceptHandler} {l : List (Value × HT3)} {dl : List HdD} (hN : X.N.Nodup) (hi : X.N[i]? = some n) (hln : X.env.kindOf n = some .local) (hc : Names X x c)
      (hm : ∀ k b, mt k = some b → PySem.W.exmOne X.K (.ref (kap k)) c = some b)
      (hsu : ∀ (a : Addr) (oe : Obj) (cls : Value) (d : Option Addr) (pn : List (Addr × Obj)), Zc cls d oe → (∃ vs, oe.data = .fields vs) → JSs kap (some (a, cls, d)) (X.suite a ((a, oe) :: pn)) W0 (b₀ :: suite) (ts a cls d) es) (r : JHs kap xi X hds l dl) :
      JHs kap xi X (.ExceptHandler (some (.Name x np)) (some n) (b₀ :: suite) pos' :: hds) ((c, offT i fun a cls d => ts a cls d W0) :: l) ((mt, some i, es) :: dl)
section
variable {kap : Nat → Addr} {xi : Xi} {X : Cx} {W : WX} {body : List Stmt} {h₀ : ExceptHandler} {hds : List ExceptHandler} {l : List (Value × HT3)} {dl : List HdD} {pos : Pos} {tb : WX → TS} {eb : DEnv → Ot}
theorem JHs.p {hds : List ExceptHandler} {l : List (Value × HT3)} {dl : List HdD} (h : JHs kap xi X hds l dl) : HdN X hds l := by
  induction h with
  | nil => exact .nil
  | cons hc hm hsu r ih => exact .cons hc (fun a oe cls d pn hz hf => (hsu a oe cls d pn hz hf).p) ih
  | consAs i hN hi hln hc hm hsu r ih => exact .consAs hN hi hln hc (fun a oe cls d pn hz hf => (hsu a oe cls d pn hz hf).p) ih
theorem JHs.s {hds : List ExceptHandler} {l : List (Value × HT3)} {dl : List HdD} (h : JHs kap xi X hds l dl) {F H : Hp} {de : DEnv} {O : Own?} {W : WX} {Dn : Ends} {c : Nat} {fs : List (Str × D)} {de1 : DEnv}
    (hp : PS1 X.K kap xi F H de O W Dn (hdsRun c fs de1 dl)) : PX X.K kap xi F H de O (wMany X.K W Dn l) c fs de1 := by
  induction h with
  | nil => exact hp
  | @cons x cv mt ts es b₀ suite np pos' hds l dl hc hm hsu r ih =>
    unfold hdsRun at hp
    intro F' H' sg' O' d R' g' xr
    split at hp
    · rename_i hmt
      refine ⟨true, hm c true hmt, fun _ a ha => ?_, fun z => by cases z⟩
      have hp := PS1.shift g' hp
      exact (hsu a { cls := .ref (kap c), dict := d, data := .fields #[] } (.ref (kap c)) d [] ⟨rfl, rfl⟩ ⟨_, rfl⟩).s W0 F' H' _ _ _ _ R' (noOut_ends hp)
    · rename_i hmt
      exact ⟨false, hm c false hmt, (fun z => by cases z), fun _ => ih hp F' H' sg' O' d R' g' xr⟩
    · exact hp.elim
  | @consAs x n i cv mt ts es b₀ suite np pos' hds l dl hN hi hln hc hm hsu r ih =>
    unfold hdsRun at hp
    intro F' H' sg' O' d R' g' xr
    split at hp
    · rename_i hmt
      unfold hdRun at hp
      dsimp only at hp
      split at hp
      · rename_i hcalm
        refine ⟨true, hm c true hmt, fun _ a ha => ?_, fun z => by cases z⟩
        have R2 := R'.onEx (a := a) i c hcalm xr
        have hp := PS1.shift (g'.trans (go_ex i c fs)) hp
        exact (hsu a { cls := .ref (kap c), dict := d, data := .fields #[] } (.ref (kap c)) d [] ⟨rfl, rfl⟩ ⟨_, rfl⟩).s W0 F' H' _ _ _ _ R2 (off_ends (F0 := F) (H0 := H) (de1 := de) (O1 := O) hp)
      · exact hp.elim
    · rename_i hmt
      exact ⟨false, hm c false hmt, (fun z => by cases z), fun _ => ih hp F' H' sg' O' d R' g' xr⟩
    · exact hp.elim
theorem jTryMany (hs : X.stack = X.env :: X.outer) (hf : X.env.frame = some X.env.locals) (tk : Takes X W)
    (hb : ∀ (W : WX) (pn : List (Addr × Obj)) (xe : Value → Shared → Prop), Takes (X.tr pn xe) W → PassesOwn (model X.prog X.w) X.A X.env xe → JSs kap xi (X.tr pn xe) W body tb eb)
    (hh : JHs kap xi X (h₀ :: hds) l dl) : JS kap xi X W (.Try body (h₀ :: hds) [] [] pos) (fun W D σ H => tb (wMany X.K W D l) D σ H) (vTryMany dl eb) := ⟨ps_try_mix hs hf tk (fun W pn xe tk po => (hb W pn xe tk po).p) hh.p, by
  intro W F H sg de O Dn R hp
  have sb := (hb W0 [] (fun _ _ => False) takes0 PassesOwn.never).s
  refine sb (wMany X.K W Dn l) F H sg de O Dn R ?_
  unfold vTryMany at hp
  cases eo : eb de with
  | nx de1 => rw [eo] at hp; exact hp
  | ret d de1 => rw [eo] at hp; exact hp
  | retF d de1 => rw [eo] at hp; exact hp
  | brk de1 => rw [eo] at hp; exact hp
  | ct de1 => rw [eo] at hp; exact hp
  | bad => rw [eo] at hp; exact hp
  | ex c fs de1 => rw [eo] at hp; exact hh.s hp⟩
end
end DL

set_option maxRecDepth 100000
set_option maxHeartbeats 2000000
set_option autoImplicit false
/-! repr of data at any depth -/
namespace DL
open PySem L2 PySem.Spec PyProof.Rows
def keyPy : Key → PyData
  | .inl i => .int i
  | .inr x => .str x
mutual
def toR : D → Option PyData
  | .non => some .none
  | .bl b => some (.bool b)
  | .int i => some (.int i)
  | .str s => some (.str s)
  | .tup xs => (toRs xs).map .tuple
  | .lst xs => (toRs xs).map .list
  | .dk kvs => (toRk kvs).map .dict
  | .dn _ => none
  | .scr _ => none
  | .obj _ _ => none
  | .cls _ => none
def toRs : List D → Option (List PyData)
  | [] => some []
  | d :: r => (toR d).bind fun p => (toRs r).map fun ps => p :: ps
def toRk : List (Key × D) → Option (List (PyData × PyData))
  | [] => some []
  | (k, d) :: r => (toR d).bind fun p => (toRk r).map fun ps => (keyPy k, p) :: ps
end
theorem toRk_split : ∀ {ds : List (Key × D)} {ps : List (PyData × PyData)}, toRk ds = some ps → toRs (ds.map (·.2)) = some (ps.map (·.2)) ∧ ps.map (·.1) = ds.map fun q => keyPy q.1
  | [], ps, e => by cases e; exact ⟨rfl, rfl⟩
  | (k, d) :: r, ps, e => by
    obtain ⟨p, e1, e2⟩ := bind_some e
    obtain ⟨qs, e3, e4⟩ := Option.map_eq_some_iff.mp e2
    obtain ⟨h1, h2⟩ := toRk_split e3
    subst e4
    refine ⟨?_, by simp [h2]⟩
    show (toR d).bind (fun p => (toRs (r.map (·.2))).map fun ps => p :: ps) = _
    rw [e1, h1]
    rfl
theorem pairs_keys {P : Program} {w : World} {h : Heap} : ∀ {es : List DictEntry} {vs : List (Key × Value)}, Pairs (mixKind P w) es vs → ReadsAll h (es.map (·.key)) (vs.map fun q => keyPy q.1) [] ∧ es.map (·.val) = vs.map (·.2)
  | _, _, .nil => ⟨.nil, rfl⟩
  | e :: es, (k, v) :: vs, .cons h1 h2 r => by
    obtain ⟨q1, q2⟩ := pairs_keys (h := h) r
    refine ⟨?_, by simp [h2, q2]⟩
    have hk : keyIs k e.key = true := h1
    rcases keyIs_shape hk with ⟨i, t, rfl, e1⟩ | ⟨x, t, rfl, e1⟩
    · have := ReadsAll.cons (h := h) (Reads.int i t) q1
      rw [← e1] at this
      exact this
    · have := ReadsAll.cons (h := h) (Reads.str x t) q1
      rw [← e1] at this
      exact this
theorem kv_split : ∀ {kvs : List (Key × V)} {vs : List (Key × Value)}, KV kvs vs → kvs.map (·.1) = vs.map (·.1) ∧ Vals (kvs.map (·.2)) (vs.map (·.2))
  | _, _, .nil => ⟨rfl, .nil⟩
  | _, _, .cons h r => by
    obtain ⟨q1, q2⟩ := kv_split r
    exact ⟨by simp [h.1, q1], .cons h.2 q2⟩
section
variable {X : Cx} {pins : List (Addr × Obj)} {σ : L2.St} {H : Hp} {s : Shared} {kap : Nat → Addr}
mutual
theorem rd_of (I : Inv X pins σ H s) (hsm : SmB X.base) : ∀ {v : V} {d : D}, Rep X.K kap H v d → ∀ {p : PyData} {u : Value}, toR d = some p → RelV v u → ∃ as, Reads s.heap u p as ∧ sysModules ∉ as
  | _, _, .non, p, u, e, r => by cases e; cases r; exact ⟨_, .none, by simp⟩
  | _, _, .bl b, p, u, e, r => by cases e; cases r; exact ⟨_, .bool b, by simp⟩
  | _, _, .int i, p, u, e, r => by cases e; obtain ⟨t, rfl⟩ := r; exact ⟨_, .int i t, by simp⟩
  | _, _, .str x, p, u, e, r => by cases e; obtain ⟨t, rfl⟩ := r; exact ⟨_, .str x t, by simp⟩
  | _, _, .tup h q, p, u, e, r => by
    obtain ⟨ps, e1, rfl⟩ := Option.map_eq_some_iff.mp e
    cases r
    obtain ⟨its, rv, ⟨o, ho, hc, n, hd⟩, _⟩ := I.tuple h
    obtain ⟨as, h1, h2⟩ := rds_of I hsm q e1 rv
    exact ⟨_, .tuple ho hc hd h1, h2⟩
  | _, _, .lst (a := a) h q, p, u, e, r => by
    obtain ⟨ps, e1, rfl⟩ := Option.map_eq_some_iff.mp e
    cases r
    obtain ⟨its, rv, ⟨o, n, ho, hc, _, hd⟩, _⟩ := I.list (SqL.of h)
    obtain ⟨as, h1, h2⟩ := rds_of I hsm q e1 rv
    refine ⟨_, .list ho hc hd h1, fun z => ?_⟩
    rcases List.mem_cons.mp z with z | z
    · obtain ⟨mm, o', _, _, k1, _⟩ := hsm
      have := (I.bs _ _ k1).2
      rw [z, h] at this
      cases this
    · exact h2 z
  | _, _, .dk (a := a) h n q, p, u, e, r => by
    obtain ⟨ps, e1, rfl⟩ := Option.map_eq_some_iff.mp e
    cases r
    obtain ⟨_, ha, vs, hkv, o, es, ep, ho, hx, hd, _, hp, _⟩ := I.hok _ _ h
    obtain ⟨e2, e3⟩ := toRk_split e1
    obtain ⟨k1, k2⟩ := kv_split hkv
    obtain ⟨p1, p2⟩ := pairs_keys (h := s.heap) hp
    obtain ⟨as, h1, h2⟩ := rds_of I hsm q e2 (by rw [p2]; exact k2 : Vals _ (es.toList.map (·.val)))
    refine ⟨_, .dict (bs := as) (as := []) ho hx.1 hd ?_ h1, fun z => ?_⟩
    · have e5 : ps.map (·.1) = vs.map fun q => keyPy q.1 := by
        rw [e3]
        have : (vs.map (·.1)).map keyPy = (ps.map (·.2)).map (fun _ => PyData.none) ∨ True := .inr trivial
        rw [show (fun q : Key × D => keyPy q.1) = keyPy ∘ (·.1) from rfl, show (fun q : Key × Value => keyPy q.1) = keyPy ∘ (·.1) from rfl, ← List.map_map, ← List.map_map, ← n, k1]
      rw [e5]
      exact p1
    · simp at z
      rcases z with z | z
      · rw [← z] at ha
        simp at ha
      · exact h2 z
  | _, _, .dn _ _ _ _ _ _ _, p, u, e, r => by cases e
  | _, _, .scr _ _, p, u, e, r => by cases e
  | _, _, .obj _ _ _, p, u, e, r => by cases e
  | _, _, .clsB _, p, u, e, r => by cases e
  | _, _, .clsO _, p, u, e, r => by cases e
theorem rds_of (I : Inv X pins σ H s) (hsm : SmB X.base) : ∀ {vs : List V} {ds : List D}, Reps X.K kap H vs ds → ∀ {ps : List PyData} {us : List Value}, toRs ds = some ps → Vals vs us → ∃ as, ReadsAll s.heap us ps as ∧ sysModules ∉ as
  | _, _, .nil, ps, us, e, r => by cases e; cases r; exact ⟨_, .nil, by simp⟩
  | _, _, .cons h q, ps, us, e, r => by
    obtain ⟨p, e1, e2⟩ := bind_some e
    obtain ⟨qs, e3, e4⟩ := Option.map_eq_some_iff.mp e2
    subst e4
    cases r with
    | cons r1 r2 =>
      obtain ⟨as, h1, h2⟩ := rd_of I hsm h e1 r1
      obtain ⟨bs, h3, h4⟩ := rds_of I hsm q e3 r2
      exact ⟨_, .cons h1 h3, fun z => (List.mem_append.mp z).elim h2 h4⟩
end
end
/-- what repr tells -/
def reprD (d : D) : Option Str := (toR d).bind fun p => if p.showable = true ∧ p.shown.length ≤ 16777216 ∧ p.depth ≤ 100 then some p.shown else none
def fRepr : List D → Option D
  | [d] => (reprD d).map .str
  | _ => none
def rRepr (K : PySem.W.Frag) (kap : Nat → Addr) : List V → Hp → VK → Prop := fun xs H Q => ∃ x d t, xs = [x] ∧ Rep K kap H x d ∧ reprD d = some t ∧ Q (.str t) H
theorem call_repr {X : Cx} {kap : Nat → Addr} {k : Nat} (hr : RoomG k X.A) (hsm : SmB X.base) : CallR X (.builtin "repr") (rRepr X.K kap) := by
  intro pins s σ H xs us Q I r h
  obtain ⟨x, d, t, rfl, rx, e, q⟩ := h
  obtain ⟨u, rfl, ru⟩ := vals1 r
  obtain ⟨p, e1, e2⟩ := bind_some e
  split at e2
  · rename_i hz
    cases e2
    obtain ⟨as, h1, h2⟩ := rd_of I hsm rx e1 ru
    obtain ⟨z1, z2, z3⟩ := hz
    have un := hr.un
    rw [← line_eq] at z2
    cases h1 with
    | none => exact PySem.P.repr_of_none ⟨.str _, H, I.tok _, ⟨_, rfl⟩, by simpa [PyData.shown] using q⟩
    | bool b => exact PySem.P.repr_of_bool ⟨.str _, H, I.tok _, ⟨_, rfl⟩, by simpa [PyData.shown] using q⟩
    | int i t => exact PySem.P.repr_of_int (by simpa [PyData.showable] using z1) ⟨.str _, H, I.tok _, ⟨_, rfl⟩, by simpa [PyData.shown] using q⟩
    | str x t => exact PySem.P.repr_of_str ⟨.str _, H, I.tok _, ⟨_, rfl⟩, by simpa [PyData.shown] using q⟩ (by simpa [PyData.shown] using z2)
    | list a1 a2 a3 a4 => exact PySem.repr_of_reads' (.list a1 a2 a3 a4) z1 (fun _ => h2) hr.g (by omega) (fun b o e => e) (fun h' u tk hk => ⟨.str _, H, I.kept hk, ⟨_, rfl⟩, q⟩) z2
    | tuple a1 a2 a3 a4 => exact PySem.repr_of_reads' (.tuple a1 a2 a3 a4) z1 (fun _ => h2) hr.g (by omega) (fun b o e => e) (fun h' u tk hk => ⟨.str _, H, I.kept hk, ⟨_, rfl⟩, q⟩) z2
    | dict a1 a2 a3 a4 a5 => exact PySem.repr_of_reads' (.dict a1 a2 a3 a4 a5) z1 (fun _ => h2) hr.g (by omega) (fun b o e => e) (fun h' u tk hk => ⟨.str _, H, I.kept hk, ⟨_, rfl⟩, q⟩) z2
  · cases e2
theorem sp_repr {K : PySem.W.Frag} {kap : Nat → Addr} : SPN K kap (rRepr K kap) fRepr := by
  intro F H xs as z Q sub ra e q
  unfold fRepr at e
  split at e
  · obtain ⟨t, e1, rfl⟩ := Option.map_eq_some_iff.mp e
    obtain ⟨x, rfl, r⟩ := one_of ra
    exact ⟨x, _, t, rfl, r.rep sub, e1, q _ F H New.refl sub (.str _)⟩
  · cases e
end DL

set_option maxRecDepth 100000
set_option maxHeartbeats 2000000
set_option autoImplicit false
/-! a call that only reads what is owned: its answer is a flat one -/
namespace DL
open PySem L2
def scal : D → Bool
  | .non => true
  | .bl _ => true
  | .int _ => true
  | .str _ => true
  | _ => false
def argB (de : DEnv) : List CA → Option (List D)
  | [] => some []
  | .v d :: r => (argB de r).map (d :: ·)
  | .s i :: r => (slotAt i de).bind fun d => (argB de r).map (d :: ·)
def flatO (de : DEnv) : Fo → Rs D
  | .ret d none => if scal d = true then .ok d de else .bad
  | _ => .bad
def callB (n : Nat) (m : List D → Fo) (dcs : List D) (cs : List CA) (de : DEnv) : Rs D := match argB de cs with
  | some ds => if ds.length + dcs.length = n then flatO de (m (ds ++ dcs)) else .bad
  | none => .bad
def wCallB (n : Nat) (m : List D → Fo) (dcs : List D) (ea : DEnv → Rs (List CA)) (de : DEnv) : Rs D := (ea de).bind fun cs de1 => callB n m dcs cs de1
open Classical in
/-- all that is owned, as if it were frozen -/
noncomputable def allF (F H : Hp) (O : Own?) : Hp := fun a => if ∃ i, O i = some a then H a else F a
section
variable {K : PySem.W.Frag} {kap : Nat → Addr} {xi : Xi} {F H : Hp} {sg : St} {de : DEnv} {O : Own?} {W : WX}
theorem RS.offF (R : RS K kap xi F H sg de O) {i : Nat} {p : Addr} (h : O i = some p) : F p = none := by
  obtain ⟨s, d, h1, h2⟩ := R.onl i p h
  obtain ⟨q, k1, _, k3, _⟩ := R.ow i s d h1 h2
  rw [h] at k1
  cases k1
  exact k3
theorem allF_up (R : RS K kap xi F H sg de O) : Same F (allF F H O) := fun a u e => by
  unfold allF
  by_cases h : ∃ i, O i = some a
  · obtain ⟨i, h⟩ := h
    rw [R.offF h] at e
    cases e
  · rw [if_neg h]; exact e
theorem allF_sub (R : RS K kap xi F H sg de O) : Same (allF F H O) H := fun a u e => by
  unfold allF at e
  by_cases h : ∃ i, O i = some a
  · rw [if_pos h] at e; exact e
  · rw [if_neg h] at e; exact R.sub a u e
theorem allF_rd (R : RS K kap xi F H sg de O) {i : Nat} {d : D} (h : slotAt i de = some d) : ∃ v, sg[i]? = some (some v) ∧ Rep K kap (allF F H O) v d := by
  unfold slotAt at h
  cases e : de[i]? with
  | none => rw [e] at h; cases h
  | some s =>
    rw [e] at h
    have own : s.owd = some d → ∃ v, sg[i]? = some (some v) ∧ Rep K kap (allF F H O) v d := fun ho => by
      obtain ⟨p, k1, k2, k3, k4⟩ := R.ow i s d e ho
      obtain ⟨o, k5, k6⟩ := k4.freeze k3
      refine ⟨_, k2, k6.mono fun a u z => ?_⟩
      by_cases q : a = p
      · subst q
        rw [upd_same] at z
        cases z
        unfold allF
        rw [if_pos ⟨i, k1⟩]
        exact k5
      · rw [upd_ne q] at z
        exact allF_up R a u z
    cases s with
    | va d' => cases h; obtain ⟨v, h1, h2⟩ := R.va i _ e; exact ⟨v, h1, h2.mono (allF_up R)⟩
    | ow d' => cases h; exact own rfl
    | pn d' => cases h; exact own rfl
    | no => cases h
    | ex c fs => cases h
theorem argB_reps (R : RS K kap xi F H sg de O) : ∀ {vs : List V} {cs : List CA} {ds : List D}, CAs K kap F sg vs cs → argB de cs = some ds → Reps K kap (allF F H O) vs ds
  | _, _, ds, .nil, e => by cases e; exact .nil
  | _, _, ds, .v h r, e => by
    obtain ⟨ds', e1, rfl⟩ := Option.map_eq_some_iff.mp e
    exact .cons (h.mono (allF_up R)) (argB_reps R r e1)
  | _, _, ds, .s h r, e => by
    obtain ⟨d, e1, e2⟩ := bind_some e
    obtain ⟨ds', e3, rfl⟩ := Option.map_eq_some_iff.mp e2
    obtain ⟨v, h1, h2⟩ := allF_rd R e1
    rw [h] at h1
    cases h1
    exact .cons h2 (argB_reps R r e3)
theorem scal_rep {F' : Hp} {v : V} {d : D} (r : Rep K kap F' v d) (h : scal d = true) : Rep K kap F v d := by
  cases r <;> first | (cases h; done) | constructor
theorem call_B {n : Nat} {m : List D → Fo} {dcs : List D} {cs : List CA} {vs dvs : List V} {Q : VK} (hd : ∀ F, Reps K kap F dvs dcs) (R : RS K kap xi F H sg de O) (A : CAs K kap F sg vs cs)
    (hp : PE1 K kap (RlE K kap) xi F H sg de O W Q (callB n m dcs cs de)) : spD K kap n none m (vs ++ dvs) H Q (WE W sg) := by
  unfold callB at hp
  split at hp
  · rename_i ds e
    split at hp
    · rename_i hn
      have rr := (argB_reps R A e).append (hd _)
      refine ⟨allF F H O, ds ++ dcs, none, by rw [List.length_append]; exact hn, allF_sub R, ⟨rr.length, fun i d h _ => rr.get h, fun k d z _ => (by cases z), fun z => absurd rfl z⟩, ?_⟩
      cases eo : m (ds ++ dcs) with
      | ret d q =>
        rw [eo] at hp
        cases q with
        | some q => exact hp.elim
        | none =>
          unfold flatO at hp
          dsimp only at hp
          split at hp
          · rename_i hs
            intro v F' H' f r
            have hk : ∀ a o, H a = some o → H' a = some o := fun a o h => f.keep a o h (by simp)
            refine hp v F H' O (R.keepO (Same.refl F) (fun a o h => hk a o (R.sub a o h)) fun i p h => ⟨?_, R.offF h⟩) ⟨Same.refl F, fun a o h _ => hk a o h, fun i a h => .inl ⟨i, h⟩, f.dom, fun a h => .inl h, fun i d h => ⟨rfl, d, h⟩⟩ (scal_rep r hs) fun _ z => z.elim
            obtain ⟨s, d', h1, h2⟩ := R.onl i p h
            obtain ⟨q, k1, _, _, k4⟩ := R.ow i s d' h1 h2
            rw [h] at k1
            cases k1
            obtain ⟨o, ho⟩ := k4.some
            rw [ho]
            exact hk p o ho
          · exact hp.elim
      | retF d q => rw [eo] at hp; exact hp.elim
      | ex c fs q => rw [eo] at hp; exact hp.elim
      | bad => rw [eo] at hp; exact hp.elim
    · exact hp.elim
  · exact hp.elim
end
section
variable {kap : Nat → Addr} {xi : Xi} {X : Cx} {W : WX} {e : Expr} {es : List Expr} {ta : WX → TA} {ea : DEnv → Rs (List CA)} {pos p : Pos} {k n : Nat} {x : Str} {md : List D → Fo} {dcs : List D}
theorem gCallB (g : GF X.prog X.w X.K X.mg X.base kap x k n none md dcs) (hr : RoomG k X.A) (tk : Takes X W) (ha : JC kap xi X W (e :: es) ta ea) (hg : Gl X x := by rfl) (hdb : (x == ("__debug__" : Str)) = false := by decide)
    (he : starEach (e :: es) X.env = (false, eval e X.env) :: starEach es X.env := by rfl) (hpl : (backTo pos (starEach es X.env)).any (·.1) = false := by rfl) :
    JE kap xi X W (.Call (.Name x p) (e :: es) [] pos) (fun W => tCallSD (spD X.K kap n none md) g.g.dvs (WE W) (ta W)) (wCallB n md dcs ea) :=
  ⟨pe_callG g.g.ok hr hg g.hm g.g.kp g.g.bi g.g.vs (fun s => passAt tk s) ha.p hdb he hpl, by
    intro W F H sg de O Q R hp
    refine ha.s.bind R hp fun vs cs F1 H1 de1 O1 R1 g1 A _ hp => ?_
    exact call_B g.g.rs R1 A hp⟩
end
end DL

set_option maxRecDepth 100000
set_option maxHeartbeats 2000000
set_option autoImplicit false
/-! enumerate of a tuple -/
namespace DL
open PySem L2 PySem.Spec PyProof.Rows
section
variable {prog : Program} {w : World} {A : Around} {E : Value → Shared → Prop} {s : Shared}
theorem nextT_item {it t : Addr} {i : Nat} {items : Array Value} {x : Value} {Q : Value → Shared → Prop} (hit : s.heap.IsTupleIter it t i) (ht : s.heap.IsTuple t items) (hx : items[i]? = some x)
    (hQ : ∀ h', h'.IsTupleIter it t (i + 1) → Heap.SameBut it s.heap h' → Q x { s with heap := h' }) : wpAny (model prog w) A (Builtin.SmallTypes.nextOf (.ref it)) Q E s := by
  obtain ⟨o, ho, hc, hd⟩ := id hit
  obtain ⟨ol, hol, _, nl, hdl⟩ := ht
  unfold Builtin.SmallTypes.nextOf
  refine wpAny_bind (wpAny_callSpecial?_slot (name := Str.ofString "__next__") hit.typeIs F.slot_tuple_iterator_next (wpAny_call_entry F.slot_tuple_iterator_next hit.typeIs F.entry_tuple_iterator_next ?_ (F.args_tuple_iterator_next_1 _)))
  show wpAny _ _ (field (.ref it) 0 >>= _) _ _ s
  refine wpAny_bind (wpAny_field ho hd (x := .ref t) rfl ?_)
  show wpAny _ _ (if (Value.ref t == Value.none) = true then _ else _) _ _ s
  rw [if_neg (by exact Bool.false_ne_true)]
  refine wpAny_bind (wpAny_field ho hd (x := .int i 0) rfl (wpAny_bind (wpAny_seqItems hol hdl ?_)))
  simp only [Int.toNat_natCast, hx]
  exact wpAny_bind (wpAny_setField ho hd (by simp) (wpAny_pure ⟨x, rfl, wpAny_pure (hQ _ ⟨_, Heap.get?_update_self _ ho (Obj.isFreed_of_fields (Obj.data_mapFields hd _)), (Obj.cls_mapFields ..).trans hc, by rw [Obj.data_mapFields hd]; simp [rawInt]⟩ (Heap.SameBut.update ..))⟩))
theorem nextT_end {it t : Addr} {i : Nat} {items : Array Value} {Q : Value → Shared → Prop} (hh : A.handled = none) (hit : s.heap.IsTupleIter it t i) (ht : s.heap.IsTuple t items) (hx : items[i]? = none)
    (hE : ∀ h' e, Heap.ExtBut it s.heap h' → (∃ o, h'.get? e = some o ∧ o.cls = .type "StopIteration") → E (.ref e) { s with heap := h' }) : wpAny (model prog w) A (Builtin.SmallTypes.nextOf (.ref it)) Q E s := by
  obtain ⟨o, ho, hc, hd⟩ := id hit
  obtain ⟨ol, hol, _, nl, hdl⟩ := ht
  unfold Builtin.SmallTypes.nextOf
  refine wpAny_bind (wpAny_callSpecial?_slot (name := Str.ofString "__next__") hit.typeIs F.slot_tuple_iterator_next (wpAny_call_entry F.slot_tuple_iterator_next hit.typeIs F.entry_tuple_iterator_next ?_ (F.args_tuple_iterator_next_1 _)))
  show wpAny _ _ (field (.ref it) 0 >>= _) _ _ s
  refine wpAny_bind (wpAny_field ho hd (x := .ref t) rfl ?_)
  show wpAny _ _ (if (Value.ref t == Value.none) = true then _ else _) _ _ s
  rw [if_neg (by exact Bool.false_ne_true)]
  refine wpAny_bind (wpAny_field ho hd (x := .int i 0) rfl (wpAny_bind (wpAny_seqItems hol hdl ?_)))
  simp only [Int.toNat_natCast, hx]
  refine wpAny_bind (wpAny_rule (wpAny_bind (wpAny_setField ho hd (by simp) ?_)))
  show wpAny _ _ (newExc (.type "StopIteration") [] >>= _) _ _ _
  refine wpAny_bind ?_
  simp only [newExc, newTuple]
  refine wpAny_bind (wpAny_newObj_type ?_ (by size_fits))
  refine wpAny_bind (m := firstArgMember _ _) (wpAny_of_eq (a := Value.none) (by first | rfl | (simp only [firstArgMember]; rfl)) ?_)
  refine wpAny_newObj_type ?_ (by size_fits)
  simp only [raiseNew]
  refine wpAny_bind (wpAny_handled ?_)
  first | rw [show A.in1.handled = none from hh] | rw [hh]
  exact wpAny_bind (wpAny_pure (wpAny_throw (hE _ _ (((Heap.SameBut.update ..).extBut.push _).push _) ⟨_, Heap.get?_push_size _ rfl, rfl⟩)))
end
theorem drawsT {prog : Program} {w : World} {A : Around} (hh : A.handled = none) (it t : Addr) (hne : t ≠ it) (items : Array Value) :
    Draws prog w A it [it, t] items.size (fun i v => items[i]? = some v) (fun i h => h.IsTupleIter it t i ∧ h.IsTuple t items) where
  live := fun _ _ st => let ⟨o, ho, _⟩ := st.1; ⟨o, ho⟩
  frame := fun _ _ _ st hk => ⟨st.1.at fun o e => hk it (by simp) o e, let ⟨o, ho, r⟩ := st.2; ⟨o, hk t (by simp) o ho, r⟩⟩
  item := fun i s Q E hi st hQ => nextT_item st.1 st.2 (x := items[i]) (by simp [hi]) fun h' hit' hs' => hQ _ h' s.toks (by simp [hi]) ⟨hit', let ⟨o, ho, r⟩ := st.2; ⟨o, (hs'.2 t hne).trans ho, r⟩⟩ hs'
  done := fun s Q E st hE => nextT_end hh st.1 st.2 (by simp) hE
theorem drawsT_end {prog : Program} {w : World} {A : Around} (hh : A.handled = none) (it t : Addr) (i : Nat) (items : Array Value) (hi : items[i]? = none) :
    Draws prog w A it [it, t] 0 (fun _ _ => True) (fun _ h => h.IsTupleIter it t i ∧ h.IsTuple t items) where
  live := fun _ _ st => let ⟨o, ho, _⟩ := st.1; ⟨o, ho⟩
  frame := fun _ _ _ st hk => ⟨st.1.at fun o e => hk it (by simp) o e, let ⟨o, ho, r⟩ := st.2; ⟨o, hk t (by simp) o ho, r⟩⟩
  item := fun _ _ _ _ h => absurd h (Nat.not_lt_zero _)
  done := fun s Q E st hE => nextT_end hh st.1 st.2 hi hE
theorem enumT_new (t : Addr) (items : Array Value) (n : Nat) (dct : Option Addr) (sl : Array (Option Value)) :
    Meets (Builtin.«enumerate.__new__» ⟨[.type "enumerate", .ref t], []⟩) (fun _ R s => s.heap.get? t = some { cls := .type "tuple", dict := dct, data := .seq items n, slots := sl } ∧
      R (.ok (.ret (.ref (s.heap.push { cls := .type "tuple_iterator", data := .fields #[.ref t, .int 0 0] }).objs.size)))
        { s with heap := (s.heap.push { cls := .type "tuple_iterator", data := .fields #[.ref t, .int 0 0] }).push { cls := .type "enumerate", data := .fields #[.none, .bool false, .ref s.heap.objs.size, rawInt 0, .none, .none] } }) :=
  .of_wp fun prog w A R s h => by
    obtain ⟨hp, g, d, tk, os⟩ := s; obtain ⟨hl, h⟩ := h
    have hsub := sub_enumerate
    have hL : Heap.IsTuple (Shared.heap ⟨hp, g, d, tk, os⟩) t items := ⟨_, hl, rfl, n, rfl⟩
    wp_walk using wpAny_loadPart' hl
    refine wpAny_stack_any fun st => wpAny_pure ?_
    split
    · rename_i c _ _ _ _ _
      cases (c == Value.type "enumerate")
      · wp_walk using wpAny_loadPart' hl, wpAny_pyIter_tuple hL
        exact ⟨_, rfl, h⟩
      · wp_walk using wpAny_loadPart' hl, wpAny_pyIter_tuple hL
        exact ⟨_, rfl, h⟩
    · wp_walk using wpAny_loadPart' hl, wpAny_pyIter_tuple hL
      exact ⟨_, rfl, h⟩
theorem call_enumT {prog : Program} {w : World} {A : Around} {E : Value → Shared → Prop} {s : Shared} {t : Addr} {items : Array Value} {Q : Value → Shared → Prop} (hL : s.heap.IsTuple t items)
    (h : ∀ h', IsEnum h' (s.heap.objs.size + 1) s.heap.objs.size 0 .none → h'.IsTupleIter s.heap.objs.size t 0 → h'.objs.size = s.heap.objs.size + 2 → (∀ b o, s.heap.get? b = some o → h'.get? b = some o) → Q (.ref (s.heap.objs.size + 1)) { s with heap := h' }) :
    wpAny (model prog w) A (call (.type "enumerate") [.ref t]) Q E s := by
  obtain ⟨⟨c, dct, dt, sl⟩, hl, hc, n, hd⟩ := hL
  replace hc : c = .type "tuple" := hc
  replace hd : dt = .seq items n := hd
  subst hc hd
  refine callType_new F.called_enumerate (by decide) (F.typeCall_enumerate_1 _) (F.newCall_enumerate_1 _) (fun obj => F.args_object_init_2 obj _) F.entry_enumerate_new (enumT_new t items n dct sl) ⟨hl, ?_⟩
  have hz : (s.heap.push { cls := .type "tuple_iterator", data := .fields #[.ref t, .int 0 0] }).objs.size = s.heap.objs.size + 1 := Heap.size_push ..
  show _ ∧ _
  rw [hz]
  have he : IsEnum ((s.heap.push { cls := .type "tuple_iterator", data := .fields #[.ref t, .int 0 0] }).push { cls := .type "enumerate", data := .fields #[.none, .bool false, .ref s.heap.objs.size, rawInt 0, .none, .none] }) (s.heap.objs.size + 1) s.heap.objs.size 0 .none := by
    have := Heap.get?_push_size (s.heap.push { cls := .type "tuple_iterator", data := .fields #[.ref t, .int 0 0] }) (o := { cls := .type "enumerate", data := .fields #[.none, .bool false, .ref s.heap.objs.size, rawInt 0, .none, .none] }) rfl
    rw [hz] at this; exact this
  exact ⟨⟨_, he, rfl⟩, h _ he ⟨_, Heap.get?_push_of_some _ (Heap.get?_push_size _ rfl), rfl, rfl⟩ (by rw [Heap.size_push, hz]) fun b o x => Heap.get?_push_of_some _ (Heap.get?_push_of_some _ x)⟩
/-- the tuple at a, each item in a new pair -/
def IteT (K : PySem.W.Frag) (a : Addr) : It :=
  ⟨fun i H => ∃ (xs : List V) (x : V), SqT K H a xs ∧ xs[i]? = some x, fun i H v H' => ∃ T x, v = .ref T ∧ H T = none ∧ H' = upd H T (.tup [.int (i : Nat), x]) ∧ ∀ xs, SqT K H a xs → xs[i]? = some x, fun i H => ∃ xs : List V, SqT K H a xs ∧ xs.length ≤ i⟩
theorem turn_enumT {P : Program} {w : World} {K : PySem.W.Frag} {elts : List Expr} {kk : Nat} {tpos : Pos} (a e it : Addr) :
    Turn P w K (.Tuple elts kk tpos) (IteT K a) [e, it] e (fun i h => (∃ old, IsEnum h e it ((i : Nat) : Int) old) ∧ h.IsTupleIter it a i ∧ e ≠ it) where
  mem := by simp
  obj := fun i h st b hb => by
    obtain ⟨⟨old, he⟩, ⟨o, ho, hc, hd⟩, _⟩ := st
    have e' : b = e ∨ b = it := by simpa using hb
    rcases e' with z | z
    · rw [z]; exact ⟨_, he, fun v q => nomatch q⟩
    · rw [z]; exact ⟨o, ho, fun v q => by rw [hd] at q; cases q⟩
  keep := fun i h h' st k => let ⟨⟨old, he⟩, hi, hne⟩ := st; ⟨⟨old, k e (by simp) _ he⟩, hi.at fun o q => k it (by simp) o q, hne⟩
  item := by
    intro X hP hw hK hc i pins s σ H E I hf st hg
    subst hP hw hK
    obtain ⟨⟨old, he⟩, hit, hne⟩ := st
    obtain ⟨xs, x, hq, hx⟩ := hg
    obtain ⟨its, rv, p, hz⟩ := I.tuple hq
    obtain ⟨u, hu, ru⟩ := rv.get hx
    have hel : e < s.heap.objs.size := Heap.lt_size he
    have hil : it < s.heap.objs.size := by obtain ⟨_, q, _⟩ := hit; exact Heap.lt_size q
    have ht : s.heap.IsTuple a its.toArray := p
    have hai : a ≠ it := fun z => by
      obtain ⟨o, h1, h2, h3⟩ := hit
      obtain ⟨o', h4, h5, n, h6⟩ := ht
      rw [z, h1] at h4
      cases h4
      rw [h3] at h6
      cases h6
    have hae : e ≠ a := fun z => by
      obtain ⟨o', h4, h5, n, h6⟩ := ht
      rw [← z, he] at h4
      cases h4
      cases h6
    have hil2 : i < its.toArray.size := by have := (List.getElem?_eq_some_iff.mp hu).1; simpa using this
    refine wpAny_pyNext_enum_itemD (drawsT (A := X.A.in1) (I.ok.hd hc) it a hai its.toArray) he ⟨hit, ht⟩ hil2 hne (by simp [hne, hae]) fun y h' tk hy ho hit' hT hsz hk => ?_
    have hyu : y = u := by
      have : its[i]? = some y := by simpa using hy
      rw [hu] at this
      cases this
      rfl
    subst hyu
    refine ⟨_, rfl, wpAny_letOwnedTupleGo_enum (s := { s with heap := h', toks := tk + 1 }) ho fun h'' he' sb => ?_⟩
    have hT2 : h''.get? s.heap.objs.size = some { cls := .type "tuple", data := .seq #[.int i tk, y] } := (sb.2 _ (Nat.ne_of_gt hel)).trans hT
    have new : ObjOk X.prog X.w (upd H s.heap.objs.size (.tup [.int (i : Nat), x])) h'' s.heap.objs.size (.tup [.int (i : Nat), x]) :=
      ⟨by show 2 ≤ sizeLine; decide, [.int i tk, y], .cons ⟨_, rfl⟩ (.cons ru .nil), ⟨_, hT2, rfl, _, rfl⟩⟩
    have I1 : Inv X pins σ (upd H s.heap.objs.size (.tup [.int (i : Nat), x])) { s with heap := h'', toks := tk + 1 } :=
      I.turnedNew (ch := [e, it]) (fun b ob hb q => (sb.2 b (fun z => hb (by simp [z]))).trans (hk b ob (fun z => hb (by simp [z])) (fun z => hb (by simp [z])) q)) hf (Nat.le_refl _) new
    refine ⟨.ref s.heap.objs.size, _, I1, rfl, ⟨_, x, rfl, I.hok.fresh (Nat.le_refl _), rfl, fun ys hy => by rw [I.tuple_inj hy hq]; exact hx⟩, ⟨⟨y, ?_⟩, hit'.1.at fun o q => (sb.2 it (Ne.symm hne)).trans q, hne⟩, fun b hb => ?_⟩
    · have e1 : ((i + 1 : Nat) : Int) = (i : Int) + 1 := by omega
      rw [e1]; exact he'
    · have hb' : b < s.heap.objs.size := by
        have e' : b = e ∨ b = it := by simpa using hb
        rcases e' with z | z
        · rw [z]; exact hel
        · rw [z]; exact hil
      rw [upd_ne (Nat.ne_of_lt hb')]
      exact (hf b hb).1
  done := by
    intro X hP hw hK hc i pins s σ H E I hf st hg
    subst hP hw hK
    obtain ⟨⟨old, he⟩, hit, hne⟩ := st
    obtain ⟨xs, hq, hx⟩ := hg
    obtain ⟨its, rv, p, hz⟩ := I.tuple hq
    obtain ⟨f0, f1, f2, f3, f4, f5⟩ := hf it (by simp)
    have hl := rv.length
    have ht : s.heap.IsTuple a its.toArray := p
    exact wpAny_pyNext_enum_endD (drawsT_end (A := X.A.in1) (I.ok.hd hc) it a i its.toArray (by simp; omega)) he ⟨hit, ht⟩ fun h' eb => ⟨rfl, I.turned (t' := s.toks) (fun b o hb q => eb b o hb q) f0 f1 f3 f4 f5⟩
  self := fun A i s Q E st h => let ⟨⟨_, he⟩, _⟩ := st; wpAny_pyIter_enum he h
def iEnumA (K : PySem.W.Frag) (ta : TA) : TI := fun σ H R => ta σ H fun vs H1 => ∃ a, vs = [.ref a] ∧ (((∃ xs, SqL K H1 a xs) ∧ R (Ite K a) H1) ∨ ((∃ xs, SqT K H1 a xs) ∧ R (IteT K a) H1))
theorem pi_enumA {X : Cx} {e : Expr} {ta : TA} {p pos tpos : Pos} {elts : List Expr} {kk : Nat} (hg : Gl X "enumerate") (hm : X.mg "enumerate" = none) (ha : PA X [e] ta) (hs : starEach [e] X.env = [(false, eval e X.env)] := by rfl) :
    PI X (.Tuple elts kk tpos) (.Call (.Name "enumerate" p) [e] [] pos) (iEnumA X.K ta) := by
  refine ⟨fun pins s σ H R I h => ?_⟩
  refine Call_ (ld_blt I hg hm boot_enumerate (PyProof.Rows.callWith_type1 (thn (ha.run pos pins s σ H _ I h) fun us s1 ⟨vs, H1, I1, r1, a, ea, q⟩ => ?_) hs rfl))
  subst ea
  cases r1 with
  | cons r rr =>
    cases rr
    cases r
    have fin : ∀ {h' : Heap}, (∀ b o, s1.heap.get? b = some o → h'.get? b = some o) → ∀ b ∈ [s1.heap.objs.size + 1, s1.heap.objs.size], _ := fun {h'} hk b hb => by
      have e' : b = s1.heap.objs.size + 1 ∨ b = s1.heap.objs.size := by simpa using hb
      have hle : s1.heap.objs.size ≤ b := by
        rcases e' with z | z
        · rw [z]; exact Nat.le_add_right _ _
        · rw [z]; exact Nat.le_refl _
      exact I1.fpOk hle (I1.hok.fresh hle)
    rcases q with ⟨⟨xs, hq⟩, q⟩ | ⟨⟨xs, hq⟩, q⟩
    · obtain ⟨its, rv, p', hz⟩ := I1.list hq
      refine call_enumerate_list p'.isList fun h' he hit hsz hk => wpAny_pyIter_enum he ?_
      exact ⟨s1.heap.objs.size + 1, [s1.heap.objs.size + 1, s1.heap.objs.size], _, _, H1, rfl, I1.kept (t' := s1.toks) hk, turn_enum a (s1.heap.objs.size + 1) s1.heap.objs.size, ⟨⟨.none, he⟩, hit, Nat.succ_ne_self _⟩, fin hk, q⟩
    · obtain ⟨its, rv, p', hz⟩ := I1.tuple hq
      refine call_enumT (show s1.heap.IsTuple a its.toArray from p') fun h' he hit hsz hk => wpAny_pyIter_enum he ?_
      exact ⟨s1.heap.objs.size + 1, [s1.heap.objs.size + 1, s1.heap.objs.size], _, _, H1, rfl, I1.kept (t' := s1.toks) hk, turn_enumT a (s1.heap.objs.size + 1) s1.heap.objs.size, ⟨⟨.none, he⟩, hit, Nat.succ_ne_self _⟩, fin hk, q⟩
section
variable {K : PySem.W.Frag} {kap : Nat → Addr} {xi : Xi} {F : Hp} {a : Addr} {vs : List V} {ds : List D}
theorem iteT_ok (h : SqT K F a vs) (r : Reps K kap F vs ds) : ItOk K kap (IteT K a) F (enumD 0 ds) := fun i F2 H2 e1 e2 => by
  have h2 : SqT K H2 a vs := sqT_mono (e1.trans e2) h
  refine ⟨fun hl => ⟨vs, h2, by rw [r.length]; rw [enumD_len] at hl; exact hl⟩, fun d hd => ?_⟩
  rw [enumD_get] at hd
  obtain ⟨d', q1, q2⟩ := Option.map_eq_some_iff.mp hd
  obtain ⟨v, g1, g2⟩ := r.get q1
  refine ⟨⟨vs, v, h2, g1⟩, fun x H' ⟨T, x', ex, hT, eH, y⟩ => ?_⟩
  subst ex eH q2
  have := y vs h2
  rw [g1] at this
  cases this
  obtain ⟨n, s⟩ := New.one (o := .tup [.int (i : Nat), v]) e2 hT
  exact ⟨_, n, s, .tup (SqT.of upd_same) (.cons (by simpa using Rep.int _) (.cons ((g2.mono e1).mono n.f) .nil))⟩
end
def vEnumS (ev : DEnv → Rs D) (de : DEnv) : Rs (List D) := (ev de).bind fun d de1 => ofO ((itemsOf d).map (enumD 0)) de1
theorem jiEnumS {kap : Nat → Addr} {xi : Xi} {X : Cx} {W : WX} {e : Expr} {t : WX → TE} {ev : DEnv → Rs D} {p pos tpos : Pos} {elts : List Expr} {kk : Nat} (hm : X.mg "enumerate" = none) (h : JE kap xi X W e t ev) (hg : Gl X "enumerate" := by rfl) (hs : starEach [e] X.env = [(false, eval e X.env)] := by rfl) :
    JI kap xi X W (.Tuple elts kk tpos) (.Call (.Name "enumerate" p) [e] [] pos) (fun W => iEnumA X.K (tCons (t W) tNil)) (vEnumS ev) := ⟨pi_enumA hg hm (pa_cons h.p pa_nil hs) hs, by
  intro W F H sg de O Q R hp
  refine h.s.bind R hp fun v d F1 H1 de1 O1 R1 g1 r _ hp => ?_
  obtain ⟨ds, e, hp⟩ := ofO_some hp
  obtain ⟨ds', e1, rfl⟩ := Option.map_eq_some_iff.mp e
  obtain ⟨a, vs, rfl, rr, hq⟩ := rep_items r e1
  refine ⟨a, rfl, ?_⟩
  rcases hq with hq | hq
  · exact .inl ⟨⟨vs, sqL_mono R1.sub hq⟩, hp.done R1 New.refl R1.sub (ite_ok hq rr)⟩
  · exact .inr ⟨⟨vs, sqT_mono R1.sub hq⟩, hp.done R1 New.refl R1.sub (iteT_ok hq rr)⟩⟩
end DL

set_option maxRecDepth 100000
set_option maxHeartbeats 2000000
set_option autoImplicit false
/-! o.m(k = v, ..): only the receiver by place -/
namespace DL
open PySem L2 PySem.Spec PyProof.Rows
structure DM (P : Program) (w : World) (K : PySem.W.Frag) (mg : Str → Option Value) (base : Heap) (kap : Nat → Addr) (k n : Nat) (mu : Option Nat) (ks : List Str) (md : List D → Fo) (ar : List D → List D → List D) where
  f : Addr
  fd : FuncData
  ps : List Str
  g : List Value → List Value → List Value
  gV : List V → List V → List V
  ok : FnG P w K mg base (L2.CX P w) k f fd ps (spD K kap n mu md)
  kb : KBn K fd ps 1 ks g gV
  ar : ∀ (v : V) (zs : List V), zs.length = ks.length → ∃ ws, gV [v] zs = v :: ws ∧ ∀ F fs, Reps K kap F zs fs → Reps K kap F ws (ar [] fs)
structure GMt (P : Program) (w : World) (K : PySem.W.Frag) (mg : Str → Option Value) (base : Heap) (kap : Nat → Addr) (nm : Str) (c k n : Nat) (mu : Option Nat) (ks : List Str) (md : List D → Fo) (ar : List D → List D → List D) where
  g : DM P w K mg base kap k n mu ks md ar
  hc : Cls K (kap c)
  hm : Meth K (kap c) nm g.f
def wMethK (c : Nat) (nm : Str) (n : Nat) (mu : Option Nat) (m : List D → Fo) (ar : List D → List D → List D) (ev : DEnv → Rs D) (ek : DEnv → Rs (List D)) (de : DEnv) : Rs D :=
  (ev de).bind fun d de1 => if isOb c nm d = true then (ek de1).bind fun zs de2 => callC n mu m [] (.v d :: (ar [] zs).map CA.v) de2 else .bad
theorem cas_vals {K : PySem.W.Frag} {kap : Nat → Addr} {F : Hp} {sg : L2.St} : ∀ {vs : List V} {ds : List D}, Reps K kap F vs ds → CAs K kap F sg vs (ds.map CA.v)
  | _, _, .nil => .nil
  | _, _, .cons h r => .v h (cas_vals r)
def tMethKSD (C : Addr) (m : Str) (j : Nat) (sp : Sp) (gV : List V → List V → List V) (E : L2.St → XK) (ta : TE) (tk : TA) : TE := fun sg H Q => ta sg H fun x H1 => ∃ a dx fs, x = .ref a ∧ H1 a = some (.ins C dx fs) ∧ fs.lookup m = none ∧
  tk sg H1 fun zs H2 => zs.length = j ∧ sp (gV [x] zs) H2 Q (E sg)
section
variable {kap : Nat → Addr} {xi : Xi} {X : Cx} {W : WX} {o : Expr} {kws : List Keyword} {t : WX → TE} {tk : WX → TA} {ev : DEnv → Rs D} {ek : DEnv → Rs (List D)} {pos apos : Pos} {k n c : Nat} {nm : Str} {mu : Option Nat} {md : List D → Fo} {ks : List Str} {ar : List D → List D → List D}
theorem run_fnKG {CX : CXT} {f : Addr} {fd : FuncData} {ps : List Str} {g : List Value → List Value → List Value} {gV : List V → List V → List V} {sp : Sp} {E : L2.St → XK} {j : Nat} {pins : List (Addr × Obj)} {sg : L2.St} {H : Hp} {s : Shared} {Q : VK} {us ws : List Value} {vs zs : List V}
    (F : FnG X.prog X.w X.K X.mg X.base CX k f fd ps sp) (hr : RoomG k X.A) (hb : KBn X.K fd ps j ks g gV) (hx : PassesAt CX X sg (E sg)) (I : Inv X pins sg H s) (r : Vals vs us) (rz : Vals zs ws) (l1 : us.length = j) (l2 : ws.length = ks.length)
    (h : sp (gV vs zs) H Q (E sg)) : wpAny (model X.prog X.w) X.A (call (.ref f) us (ks.zip ws)) (EP X pins sg Q) X.xe s := by
  have r2 := hb.rel r rz
  refine wpAny_call (codeAny_mono (F.run X.A X.stack s H ⟨us, ks.zip ws⟩ (g us ws) (gV vs zs) Q (E sg) hr I.env0 (hb.to s us ws I.kIn l1 l2) r2 h) fun r s' hq => ?_)
  cases r with
  | error e => exact hx pins H s e s' I hq
  | ok fl => cases fl with
    | ret u => exact I.after hq
    | next => exact hq.elim
    | brk => exact hq.elim
    | cont => exact hq.elim
theorem snd_methK (g : DM X.prog X.w X.K X.mg X.base kap k n mu ks md ar) (hz : ∀ de ds de', ek de = .ok ds de' → ds.length = ks.length) (hv : Snd X.K kap xi (RlE X.K kap) t ev) (hk : Snd X.K kap xi (RlA X.K kap) tk ek) :
    Snd X.K kap xi (RlE X.K kap) (fun W => tMethKSD (kap c) nm ks.length (spD X.K kap n mu md) g.gV (WE W) (t W) (tk W)) (wMethK c nm n mu md ar ev ek) := by
  intro W F H sg de O Q R hp
  refine hv.bind R hp fun v d F1 H1 de1 O1 R1 g1 r _ hp => ?_
  split at hp
  · rename_i hob
    obtain ⟨fs, rfl, hl⟩ := isOb_of hob
    obtain ⟨a, dx, vs, rfl, h1, n1, r1⟩ := RB.obj R1.sub (.inl r)
    refine ⟨a, dx, vs, rfl, h1, field_none n1 hl, ?_⟩
    refine hk W F1 H1 sg de1 O1 _ R1 ?_
    cases e2 : ek de1 with
    | ok zs0 de2 =>
      have l2 := hz _ _ _ e2
      rw [e2] at hp
      intro zs F2 H2 O2 R2 g2 r2 _
      have hp := PE1.shift g2 hp
      have lz : zs.length = ks.length := (Reps.length r2).trans l2
      refine ⟨lz, ?_⟩
      obtain ⟨ws, ew, hw⟩ := g.ar (.ref a) zs lz
      rw [ew]
      have hc := call_C (dvs := []) (vs := .ref a :: ws) (fun _ => .nil) R2 (.v (Rep.mono g2.ex r) (cas_vals (hw F2 zs0 r2))) hp
      rwa [List.append_nil] at hc
    | ex c' fs' de2 => rw [e2] at hp; exact hp
    | bad => rw [e2] at hp; exact hp.elim
  · exact hp.elim
theorem gMethK (g : GMt X.prog X.w X.K X.mg X.base kap nm c k n mu ks md ar) (hr : RoomG k X.A) (tkx : Takes X W) (ho : JE kap xi X W o t ev) (hk : JK kap xi X W kws tk ek) (hz : ∀ de ds de', ek de = .ok ds de' → ds.length = ks.length)
    (hall : (backToKw pos (keywordEach kws X.env)).all (·.1.isSome) = true := by rfl) (hks : (backToKw pos (keywordEach kws X.env)).filterMap (·.1) = ks := by rfl)
    (hpl : ((backTo pos (starEach [] X.env)).any (·.1) || (backToKw pos (keywordEach kws X.env)).any (·.1.isNone)) = false := by rfl)
    {pl : Sem Bool} (ht : eval (.Call (.Attribute o nm apos) [] kws pos) X.env = (do
      let ov ← eval o X.env
      standAt apos.atName
      let (f, first) ← holding [ov] (getMethod ov nm pl)
      callWith pos f first (backTo pos (starEach [] X.env)) (backToKw pos (keywordEach kws X.env))) := by rfl) :
    JE kap xi X W (.Call (.Attribute o nm apos) [] kws pos) (fun W => tMethKSD (kap c) nm ks.length (spD X.K kap n mu md) g.g.gV (WE W) (t W) (tk W)) (wMethK c nm n mu md ar ev ek) := by
  refine ⟨⟨fun pins s sg H Q I h => ?_⟩, snd_methK g.g hz ho.s hk.s⟩
  refine PySem.W.methodCall_KW (pl := pl) (thn (ho.p.run pins s sg H _ I h) fun u s1 ⟨x, H1, I1, rx, a, dx, fs, ex, ea, l, q⟩ => ?_) ht
  subst ex
  obtain rfl : u = Value.ref a := rx
  refine getmeth_ok I1 ea g.hc g.hm l ?_
  refine PySem.W.callWith_KW0 (first := [.ref a]) (h₀ := X.base) I.ok.mod.kin g.hm.kp hall ?_ hpl
  refine thn (hk.p.run pos pins s1 sg H1 _ I1 q) fun ws s2 ⟨zs, H2, I2, rz, lz, q2⟩ => ⟨I2.kIn, ?_⟩
  rw [hks]
  exact run_fnKG (us := [.ref a]) (vs := [.ref a]) g.g.ok hr g.g.kb (passAt tkx sg) I2 (.cons rfl .nil) rz rfl (rz.length.symm.trans lz) q2
end
/-! ### // by anything but 0 -/
def cDivG (_ j : Int) : Bool := decide (j ≠ 0) && decide (j.natAbs < 2 ^ 8000)
def fFdivG : D → D → Option D := fIC cDivG fun i j => .int (i.fdiv j)
def CDivG (_ j : Int) : Prop := j ≠ 0 ∧ j.natAbs.log2 < 9000
theorem op_fdivG {X : Cx} : OpR X (binaryOp .FloorDiv) (rI CDivG fun i j => .int (i.fdiv j)) := opI fun _ _ _ _ _ _ _ hc q => floordiv_int hc.1 q (.inl (PyProof.noPylong_of_log2 hc.2))
theorem jFdivG {kap : Nat → Addr} {xi : Xi} {X : Cx} {W : WX} {a b : Expr} {ta tb : WX → TE} {oa ob : Op} {pos : Pos} (ha : JO kap xi X W a ta oa) (hb : JO kap xi X W b tb ob) : JE kap xi X W (.BinOp a .FloorDiv b pos) (fun W => tOp (rI CDivG fun i j => .int (i.fdiv j)) (ta W) (tb W)) (vO2 fFdivG oa ob) := jOp op_fdivG (spIC (fun i j h => by
    unfold cDivG at h
    rw [Bool.and_eq_true, decide_eq_true_eq, decide_eq_true_eq] at h
    refine ⟨h.1, ?_⟩
    by_cases h0 : j.natAbs = 0
    · rw [h0]; decide +kernel
    · exact Nat.lt_of_lt_of_le ((Nat.log2_lt h0).mpr h.2) (by decide)) fun _ _ _ => .int _) ha hb
end DL

set_option maxRecDepth 100000
set_option maxHeartbeats 2000000
set_option autoImplicit false
/-! f(g(..), ..): a fresh thing is handed to a parameter that f changes, and dropped -/
namespace DL
open PySem L2 PySem.Spec PyProof.Rows
def callT (de : DEnv) : Fo → Rs D
  | .ret d _ => .ok d de
  | .retF d _ => .ok d de
  | .ex c fs _ => .ex c fs de
  | .bad => .bad
def wCallT (n : Nat) (m : List D → Fo) (dcs : List D) (ev : DEnv → Rs D) (ea : DEnv → Rs (List CA)) (de : DEnv) : Rs D :=
  (ev de).bind fun d de1 => (ea de1).bind fun cs de2 => match argD none cs de2 with
    | some ds => if (d :: ds).length + dcs.length = n then callT de2 (m ((d :: ds) ++ dcs)) else .bad
    | none => .bad
section
variable {K : PySem.W.Frag} {kap : Nat → Addr} {xi : Xi} {F H F2 H2 : Hp} {sg : L2.St} {de de2 : DEnv} {O O2 : Own?} {W : WX}
theorem RS.afterT (R : RS K kap xi F2 H2 sg de2 O2) {F' H' : Hp} {p : Addr} {q : Option D} (f : FPost K kap F2 H2 F' H' (some p) q) (hn : ∀ i, O2 i ≠ some p) : RS K kap xi F' H' sg de2 O2 :=
  R.keepO f.ex f.sub fun i p' e => by
    have np : p' ≠ p := fun z => hn i (by rw [← z]; exact e)
    obtain ⟨t, d, h1, h2⟩ := R.onl i p' e
    obtain ⟨p'', k1, k2, k3, k4⟩ := R.ow i t d h1 h2
    rw [e] at k1
    cases k1
    obtain ⟨o, ho⟩ := k4.some
    have hk := f.keep p' o ho fun z => np (by cases z; rfl)
    refine ⟨by rw [hk, ho], ?_⟩
    cases e' : F' p' with
    | none => rfl
    | some u =>
      rcases f.fnew p' (by rw [e']; simp) with z | z
      · exact absurd k3 z
      · rw [ho] at z; cases z
theorem Go.afterT (g : Go F H de O F2 H2 de2 O2) {F' H' : Hp} {p : Addr} {q : Option D} (f : FPost K kap F2 H2 F' H' (some p) q) (org : H p = none ∨ ∃ i, O i = some p) : Go F H de O F' H' de2 O2 where
  ex := g.ex.trans f.ex
  keep := fun a o h n => f.keep a o (g.keep a o h n) fun z => by
    cases z
    rcases org with q | ⟨i, q⟩
    · rw [h] at q; cases q
    · exact n i q
  new := g.new
  dom := fun a h => g.dom a (f.dom a h)
  fnew := fun a h => by
    rcases f.fnew a h with z | z
    · exact g.fnew a z
    · exact .inr (.inl (g.dom a z))
  pin := g.pin
end
section
variable {kap : Nat → Addr} {xi : Xi} {X : Cx} {W : WX} {e : Expr} {es : List Expr} {t : WX → TE} {ta : WX → TA} {ev : DEnv → Rs D} {ea : DEnv → Rs (List CA)} {pos p : Pos} {k n : Nat} {x : Str} {md : List D → Fo} {dcs : List D}
theorem snd_callT {K : PySem.W.Frag} {dvs : List V} (hd : ∀ F, Reps K kap F dvs dcs) (hv : Snd K kap xi (RlF K kap) t ev) (ha : Snd K kap xi (RlC K kap) ta ea) :
    Snd K kap xi (RlE K kap) (fun W => tCallSD (spD K kap n (some 0) md) dvs (WE W) (tCons (t W) (ta W))) (wCallT n md dcs ev ea) := by
  intro W F H sg de O Q R hp
  unfold wCallT at hp
  cases e1 : ev de with
  | ok d de1 =>
    rw [e1] at hp
    refine hv W F H sg de O _ R ?_
    rw [e1]
    intro v F1 H1 O1 R1 g1 ⟨p, hvp, hf, how, hO⟩ org
    subst hvp
    have org := org p rfl
    have hp : PE1 K kap (RlE K kap) xi F H sg de O W Q ((ea de1).bind fun cs de2 => match argD none cs de2 with
      | some ds => if (d :: ds).length + dcs.length = n then callT de2 (md ((d :: ds) ++ dcs)) else .bad
      | none => .bad) := hp
    refine ha W F1 H1 sg de1 O1 _ R1 ?_
    cases e2 : ea de1 with
    | ok cs de2 =>
      rw [e2] at hp
      intro vs F2 H2 O2 R2 g2 A _
      have hp : PE1 K kap (RlE K kap) xi F H sg de O W Q (match argD none cs de2 with
        | some ds => if (d :: ds).length + dcs.length = n then callT de2 (md ((d :: ds) ++ dcs)) else .bad
        | none => .bad) := hp
      split at hp
      · rename_i ds e3
        split at hp
        · rename_i hn
          obtain ⟨o, ho⟩ := how.some
          have hk : H2 p = some o := g2.keep p o ho hO
          have hf2 : F2 p = none := by
            cases q : F2 p with
            | none => rfl
            | some u =>
              rcases g2.fnew p (by rw [q]; simp) with z | z | ⟨i, z⟩
              · exact absurd hf z
              · rw [ho] at z; cases z
              · exact absurd z (hO i)
          have how2 : Own K kap F2 H2 p d := how.mono g2.ex (by rw [hk, ho])
          have hO2 : ∀ i, O2 i ≠ some p := fun i z => by
            rcases g2.new i p z with ⟨j, q⟩ | q
            · exact hO j q
            · rw [ho] at q; cases q
          obtain ⟨P, AR, _, _⟩ := args_of R2 A e3
          have hP : P = none := by
            cases P with
            | none => rfl
            | some q => obtain ⟨k, d', z, _⟩ := AR.no (by simp); cases z
          have AR2 : ArgR K kap F2 H2 (some 0) (V.ref p :: vs) (d :: ds) (some p) := ⟨congrArg Nat.succ AR.len, fun j d' hi hm => by
              cases j with
              | zero => exact absurd rfl hm
              | succ j =>
                obtain ⟨v', k1, k2⟩ := AR.va j d' (by simpa using hi) (by simp)
                exact ⟨v', by simpa using k1, k2⟩, fun k d' z hd => by
              cases z
              simp at hd
              subst hd
              exact ⟨p, rfl, rfl, hf2, how2⟩, fun _ => ⟨0, d, rfl, rfl⟩⟩
          have gg := g1.trans g2
          refine ⟨F2, (d :: ds) ++ dcs, some p, by rw [List.length_append]; exact hn, R2.sub, args_more AR2 (hd F2) (fun z => by cases z), ?_⟩
          cases eo : md ((d :: ds) ++ dcs) with
          | ret d' q =>
            rw [eo] at hp
            exact fun v F' H' f r => hp v F' H' O2 (R2.afterT f hO2) (gg.afterT f org) r fun _ z => z.elim
          | retF d' q =>
            rw [eo] at hp
            exact fun p2 F' H' f h1 h2 h3 _ => fz_of hp (.ref p2) F' H' O2 (R2.afterT f hO2) (gg.afterT f org) ⟨p2, rfl, h1, h2, R2.nofresh h3⟩ fun _ z => by cases z; exact .inl (gg.dom p2 h3)
          | ex c fs q =>
            rw [eo] at hp
            exact fun F' H' dx f h1 => hp F' H' sg O2 dx (R2.afterT f hO2) (gg.afterT f org) h1
          | bad => rw [eo] at hp; exact hp.elim
        · exact hp.elim
      · exact hp.elim
    | ex c fs de2 =>
      rw [e2] at hp
      exact PE1.shift g1 hp
    | bad => rw [e2] at hp; exact hp.elim
  | ex c fs de1 =>
    refine hv W F H sg de O _ R ?_
    rw [e1] at hp ⊢
    exact hp
  | bad => rw [e1] at hp; exact hp.elim
theorem gCallT (g : GF X.prog X.w X.K X.mg X.base kap x k n (some 0) md dcs) (hr : RoomG k X.A) (tk : Takes X W) (h : JF kap xi X W e t ev) (ha : JC kap xi X W es ta ea) (hg : Gl X x := by rfl) (hdb : (x == ("__debug__" : Str)) = false := by decide)
    (he : starEach (e :: es) X.env = (false, eval e X.env) :: starEach es X.env := by rfl) (hpl : (backTo pos (starEach es X.env)).any (·.1) = false := by rfl) :
    JE kap xi X W (.Call (.Name x p) (e :: es) [] pos) (fun W => tCallSD (spD X.K kap n (some 0) md) g.g.dvs (WE W) (tCons (t W) (ta W))) (wCallT n md dcs ev ea) :=
  ⟨pe_callG g.g.ok hr hg g.hm g.g.kp g.g.bi g.g.vs (fun s => passAt tk s) (pa_cons h.p ha.p he) hdb he hpl, snd_callT g.g.rs h.s ha.s⟩
end
end DL

set_option maxRecDepth 100000
set_option maxHeartbeats 2000000
set_option autoImplicit false
/-! [e for t in l if c for u in k if d] -/
namespace DL
open PySem L2 PySem.Spec PyProof.Rows
def lcGo2 (vs vs1 : List Nat) (g : D → DEnv → Option DEnv) (tt : DEnv → Rs Bool) (ei1 : DEnv → Rs (List D)) (g1 : D → DEnv → Option DEnv) (tt1 : DEnv → Rs Bool) (te : DEnv → Rs D) : List D → DEnv → Option (List D × DEnv)
  | [], de => some ([], de)
  | d :: r, de => (g d de).bind fun de1 => match tt de1 with
    | .ok true de2 => (match ei1 de2 with
      | .ok ds1 de3 => (lcGo vs1 g1 tt1 te ds1 (wipeD de3 vs1)).bind fun p => (lcGo2 vs vs1 g tt ei1 g1 tt1 te r (wipeD p.2 vs)).map fun q => (p.1 ++ q.1, q.2)
      | _ => none)
    | .ok false de2 => lcGo2 vs vs1 g tt ei1 g1 tt1 te r (wipeD de2 vs)
    | _ => none
def vLc2 (vs vs1 : List Nat) (ei : DEnv → Rs (List D)) (g : D → DEnv → Option DEnv) (tt : DEnv → Rs Bool) (ei1 : DEnv → Rs (List D)) (g1 : D → DEnv → Option DEnv) (tt1 : DEnv → Rs Bool) (te : DEnv → Rs D) (de : DEnv) : Rs D :=
  (ei de).bind fun ds de1 => if plainAt de1 vs = true then (match lcGo2 vs vs1 g tt ei1 g1 tt1 te ds (wipeD de1 vs) with
    | some (xs, de2) => if xs.length ≤ 16777216 then .ok (.lst xs) (restD de1 vs de2) else .bad
    | none => .bad) else .bad
theorem snd_lc2 {K : PySem.W.Frag} {kap : Nat → Addr} {xi : Xi} {wi wi1 : WX → TI} {g g1 : TG} {is is1 vs vs1 : List Nat} {tt tt1 : WX → TT} {te : WX → TE} {ei ei1 : DEnv → Rs (List D)} {eg eg1 : D → DEnv → Option DEnv} {et et1 : DEnv → Rs Bool} {ee : DEnv → Rs D}
    (hi : Snd K kap xi (RlI K kap) wi ei) (hg : SndG K kap xi g is eg) (his : ∀ i ∈ is, i ∈ vs) (ht : Snd K kap xi RlB tt et)
    (hi1 : Snd K kap xi (RlI K kap) wi1 ei1) (hg1 : SndG K kap xi g1 is1 eg1) (his1 : ∀ i ∈ is1, i ∈ vs1) (ht1 : Snd K kap xi RlB tt1 et1) (hvs : ∀ i ∈ vs1, i ∈ vs) (he : Snd K kap xi (RlE K kap) te ee) :
    Snd K kap xi (RlF K kap) (fun W => tLc2 (wi W) g (tt W0) (wi1 W0) g1 (tt1 W0) (te W0) vs vs1) (vLc2 vs vs1 ei eg et ei1 eg1 et1 ee) := by
  intro W F H sg de O Q R hp
  refine hi.bind R hp fun J ds F1 H1 de1 O1 R1 g1' ij _ hp => ?_
  split at hp
  · rename_i hpl
    obtain ⟨Ow, Rw, gw⟩ := R1.wipe vs
    cases el : lcGo2 vs vs1 eg et ei1 eg1 et1 ee ds (wipeD de1 vs) with
    | none => rw [el] at hp; exact hp.elim
    | some p0 =>
      obtain ⟨xs, de2⟩ := p0
      rw [el] at hp
      have hp : PE1 K kap (RlF K kap) xi F1 H1 sg de1 O1 W Q (if xs.length ≤ 16777216 then .ok (.lst xs) (restD de1 vs de2) else .bad) := hp
      split at hp
      · rename_i hlen
        intro Dn hD
        have hDF : F1 Dn = none := R1.sub.free hD
        have hDO : ∀ i, Ow i ≠ some Dn := Rw.nofresh hD
        have R0 := Rw.side (o := .lst []) hDF hDO
        refine ⟨fun i m Hc => m = ds.length - i ∧ i ≤ ds.length ∧ ∃ Fc dc Oc acc accD rest, Same F1 Fc ∧ RS K kap xi Fc Hc (L2.wipe sg vs) dc Oc ∧ Go F1 H1 (wipeD de1 vs) Ow Fc Hc dc Oc ∧ Hc Dn = some (.lst acc) ∧ Fc Dn = none ∧ (∀ i, Oc i ≠ some Dn) ∧ Reps K kap Fc acc accD ∧
          (∀ i ∈ vs, ∀ s, dc[i]? = some s → s = .no) ∧ dc.length = de1.length ∧ lcGo2 vs vs1 eg et ei1 eg1 et1 ee (ds.drop i) dc = some (rest, de2) ∧ accD ++ rest = xs,
          ⟨ds.length, by simp, Nat.zero_le _, F1, wipeD de1 vs, Ow, [], [], xs, Same.refl _, R0, Go.refl.side hD, upd_same, hDF, hDO, .nil, fun i hi s e => wipeD_in hi s e, wipeD_len _ _, by simpa using el, rfl⟩, ?_⟩
        rintro i m Hc ⟨rfl, hil, Fc, dc, Oc, acc, accD, rest, ex, Rc, gc, hDc, hFc, hOc, racc, hno, hdl, hgo, hxs⟩
        obtain ⟨hstop, hstep⟩ := ij i Fc Hc ex Rc.sub
        by_cases hlt : i < ds.length
        · have hd : ds[i]? = some ds[i] := by simp [hlt]
          obtain ⟨go, hy⟩ := hstep _ hd
          rw [List.drop_eq_getElem_cons hlt] at hgo
          unfold lcGo2 at hgo
          refine .inr ⟨go, fun H' => ∃ Fc dc Oc acc accD rest, Same F1 Fc ∧ RS K kap xi Fc H' (L2.wipe sg vs) dc Oc ∧ Go F1 H1 (wipeD de1 vs) Ow Fc H' dc Oc ∧ H' Dn = some (.lst acc) ∧ Fc Dn = none ∧ (∀ i, Oc i ≠ some Dn) ∧ Reps K kap Fc acc accD ∧
            (∀ i ∈ vs, ∀ s, dc[i]? = some s → s = .no) ∧ dc.length = de1.length ∧ lcGo2 vs vs1 eg et ei1 eg1 et1 ee (ds.drop (i + 1)) dc = some (rest, de2) ∧ accD ++ rest = xs, fun H' p' => ⟨ds.length - (i + 1), by omega, rfl, hlt, p'⟩, fun x H' y => ?_⟩
          obtain ⟨F2, n2, s2, r2⟩ := hy x H' y
          have R2 := Rc.new n2 s2
          have g2 : Go Fc Hc dc Oc F2 H' dc Oc := n2.go
          obtain ⟨hD2, hF2, hO2⟩ := g2.notO hDc hFc hOc
          obtain ⟨dc1, eg1', hgo⟩ := bind_some hgo
          refine hg F2 H' (L2.wipe sg vs) dc Oc x _ dc1 _ R2 r2 eg1' fun sg3 O3 R3 g3 ag al => ?_
          have ew : L2.wipe sg3 vs = L2.wipe sg vs := by
            have h1 : L2.wipe sg3 vs = L2.wipe (L2.wipe sg vs) vs := wipe_eq al fun j hj => ag j fun z => hj (his j z)
            rw [h1]
            exact wipe_eq (wipe_length _ _) fun j hj => wipe_out hj
          refine ⟨ew, ?_⟩
          obtain ⟨hD3, hF3, hO3⟩ := g3.notO hD2 hF2 hO2
          have hgo : (match et dc1 with
            | .ok true de2' => (match ei1 de2' with
              | .ok ds1 de3 => (lcGo vs1 eg1 et1 ee ds1 (wipeD de3 vs1)).bind fun p => (lcGo2 vs vs1 eg et ei1 eg1 et1 ee (ds.drop (i + 1)) (wipeD p.2 vs)).map fun q => (p.1 ++ q.1, q.2)
              | _ => none)
            | .ok false de2' => lcGo2 vs vs1 eg et ei1 eg1 et1 ee (ds.drop (i + 1)) (wipeD de2' vs)
            | _ => none) = some (rest, de2) := hgo
          refine ht W0 F2 H' sg3 dc1 O3 _ R3 ?_
          cases e4 : et dc1 with
          | bad => rw [e4] at hgo; cases hgo
          | ex c fs dc2 => rw [e4] at hgo; cases hgo
          | ok b dc2 =>
            rw [e4] at hgo
            intro v F3 H3 O4 R4 g4 rb _
            have rb : v = b := rb
            subst rb
            obtain ⟨hD4, hF4, hO4⟩ := g4.notO hD3 hF3 hO3
            have gA := ((gc.trans g2).trans g3).trans g4
            cases v with
            | false =>
              refine iteF ?_
              obtain ⟨O5, R5, g5⟩ := R4.wipe vs
              obtain ⟨hD5, hF5, hO5⟩ := g5.notO hD4 hF4 hO4
              rw [ew] at R5
              exact ⟨F3, wipeD dc2 vs, O5, acc, accD, rest, ((ex.trans n2.f).trans g4.ex), R5, gA.trans g5, hD5, hF5, hO5, racc.mono (n2.f.trans g4.ex), fun i hi s e => wipeD_in hi s e,
                by rw [← R5.len, wipe_length, R1.len], hgo, hxs⟩
            | true =>
              refine iteT (hi1 W0 F3 H3 sg3 dc2 O4 _ R4 ?_)
              have hgo : (match ei1 dc2 with
                | .ok ds1 de3 => (lcGo vs1 eg1 et1 ee ds1 (wipeD de3 vs1)).bind fun p => (lcGo2 vs vs1 eg et ei1 eg1 et1 ee (ds.drop (i + 1)) (wipeD p.2 vs)).map fun q => (p.1 ++ q.1, q.2)
                | _ => none) = some (rest, de2) := hgo
              cases e5 : ei1 dc2 with
              | bad => rw [e5] at hgo; cases hgo
              | ex c fs dc3 => rw [e5] at hgo; cases hgo
              | ok ds1 dc3 =>
                rw [e5] at hgo
                obtain ⟨⟨ys, dcz⟩, hin, hgo⟩ := bind_some hgo
                obtain ⟨⟨rest2, dz⟩, ho1, ho2⟩ := Option.map_eq_some_iff.mp hgo
                cases ho2
                intro J1 F4 H4 O5 R5 g5 ij1 _
                obtain ⟨hD5, hF5, hO5⟩ := g5.notO hD4 hF4 hO4
                obtain ⟨Ox, Rx, gx⟩ := R5.wipe vs1
                obtain ⟨hDx, hFx, hOx⟩ := gx.notO hD5 hF5 hO5
                have gB := (gA.trans g5).trans gx
                have hlx : dc3.length = de1.length := by rw [← R5.len, al, wipe_length, R1.len]
                refine ⟨fun j k Hc => k = ds1.length - j ∧ j ≤ ds1.length ∧ ∃ Fd dd Od acc1 accD1 rest1, Same F4 Fd ∧ RS K kap xi Fd Hc (L2.wipe sg3 vs1) dd Od ∧ Go F1 H1 (wipeD de1 vs) Ow Fd Hc dd Od ∧ Hc Dn = some (.lst acc1) ∧ Fd Dn = none ∧ (∀ i, Od i ≠ some Dn) ∧ Reps K kap Fd acc1 accD1 ∧
                  lcGo vs1 eg1 et1 ee (ds1.drop j) dd = some (rest1, dcz) ∧ accD1 ++ (rest1 ++ rest2) = xs,
                  ⟨ds1.length, by simp, Nat.zero_le _, F4, wipeD dc3 vs1, Ox, acc, accD, ys, Same.refl _, Rx, gB, hDx, hFx, hOx, racc.mono ((n2.f.trans g4.ex).trans g5.ex), by simpa using hin, hxs⟩, ?_⟩
                rintro j k Hd ⟨rfl, hjl, Fd, dd, Od, acc1, accD1, rest1, exd, Rd, gd, hDd, hFd, hOd, raccd, hgod, hxsd⟩
                obtain ⟨hstop1, hstep1⟩ := ij1 j Fd Hd exd Rd.sub
                by_cases hlt1 : j < ds1.length
                · have hd1 : ds1[j]? = some ds1[j] := by simp [hlt1]
                  obtain ⟨go1, hy1⟩ := hstep1 _ hd1
                  rw [List.drop_eq_getElem_cons hlt1] at hgod
                  unfold lcGo at hgod
                  refine .inr ⟨go1, fun H' => ∃ Fd dd Od acc1 accD1 rest1, Same F4 Fd ∧ RS K kap xi Fd H' (L2.wipe sg3 vs1) dd Od ∧ Go F1 H1 (wipeD de1 vs) Ow Fd H' dd Od ∧ H' Dn = some (.lst acc1) ∧ Fd Dn = none ∧ (∀ i, Od i ≠ some Dn) ∧ Reps K kap Fd acc1 accD1 ∧
                    lcGo vs1 eg1 et1 ee (ds1.drop (j + 1)) dd = some (rest1, dcz) ∧ accD1 ++ (rest1 ++ rest2) = xs, fun H' p' => ⟨ds1.length - (j + 1), by omega, rfl, hlt1, p'⟩, fun x1 H6 y1 => ?_⟩
                  obtain ⟨F6, n6, s6, r6⟩ := hy1 x1 H6 y1
                  have R6 := Rd.new n6 s6
                  have g6 : Go Fd Hd dd Od F6 H6 dd Od := n6.go
                  obtain ⟨hD6, hF6, hO6⟩ := g6.notO hDd hFd hOd
                  obtain ⟨dd1, eg2', hgod⟩ := bind_some hgod
                  refine hg1 F6 H6 (L2.wipe sg3 vs1) dd Od x1 _ dd1 _ R6 r6 eg2' fun sg7 O7 R7 g7 ag7 al7 => ?_
                  have ew7 : L2.wipe sg7 vs1 = L2.wipe sg3 vs1 := by
                    have h1 : L2.wipe sg7 vs1 = L2.wipe (L2.wipe sg3 vs1) vs1 := wipe_eq al7 fun j hj => ag7 j fun z => hj (his1 j z)
                    rw [h1]
                    exact wipe_eq (wipe_length _ _) fun j hj => wipe_out hj
                  refine ⟨ew7, ?_⟩
                  obtain ⟨hD7, hF7, hO7⟩ := g7.notO hD6 hF6 hO6
                  have hgod : (match et1 dd1 with
                    | .ok true de2' => (match ee de2' with
                      | .ok x de3 => (lcGo vs1 eg1 et1 ee (ds1.drop (j + 1)) (wipeD de3 vs1)).map fun p => (x :: p.1, p.2)
                      | _ => none)
                    | .ok false de2' => lcGo vs1 eg1 et1 ee (ds1.drop (j + 1)) (wipeD de2' vs1)
                    | _ => none) = some (rest1, dcz) := hgod
                  refine ht1 W0 F6 H6 sg7 dd1 O7 _ R7 ?_
                  cases e8 : et1 dd1 with
                  | bad => rw [e8] at hgod; cases hgod
                  | ex c fs dd2 => rw [e8] at hgod; cases hgod
                  | ok b1 dd2 =>
                    rw [e8] at hgod
                    intro v1 F8 H8 O8 R8 g8 rb1 _
                    have rb1 : v1 = b1 := rb1
                    subst rb1
                    obtain ⟨hD8, hF8, hO8⟩ := g8.notO hD7 hF7 hO7
                    have gC := ((gd.trans g6).trans g7).trans g8
                    cases v1 with
                    | false =>
                      refine iteF ?_
                      obtain ⟨O9, R9, g9⟩ := R8.wipe vs1
                      obtain ⟨hD9, hF9, hO9⟩ := g9.notO hD8 hF8 hO8
                      rw [ew7] at R9
                      exact ⟨F8, wipeD dd2 vs1, O9, acc1, accD1, rest1, ((exd.trans n6.f).trans g8.ex), R9, gC.trans g9, hD9, hF9, hO9, raccd.mono (n6.f.trans g8.ex), hgod, hxsd⟩
                    | true =>
                      refine iteT (he W0 F8 H8 sg7 dd2 O8 _ R8 ?_)
                      have hgod : (match ee dd2 with
                        | .ok x de3 => (lcGo vs1 eg1 et1 ee (ds1.drop (j + 1)) (wipeD de3 vs1)).map fun p => (x :: p.1, p.2)
                        | _ => none) = some (rest1, dcz) := hgod
                      cases e9 : ee dd2 with
                      | bad => rw [e9] at hgod; cases hgod
                      | ex c fs dd3 => rw [e9] at hgod; cases hgod
                      | ok x0 dd3 =>
                        rw [e9] at hgod
                        obtain ⟨⟨rest', dz'⟩, h1, h2⟩ := Option.map_eq_some_iff.mp hgod
                        cases h2
                        intro y0 F9 H9 O9 R9 g9 ry _
                        obtain ⟨hD9, hF9, hO9⟩ := g9.notO hD8 hF8 hO8
                        have hle : acc1.length = accD1.length := raccd.length
                        have hlt9 : accD1.length < xs.length := by rw [← hxsd]; simp
                        refine ⟨acc1, hD9, by rw [line_eq, hle]; omega, ?_⟩
                        have Ra := R9.side (o := .lst (acc1 ++ [y0])) hF9 hO9
                        obtain ⟨Ob, Rb, gb⟩ := Ra.wipe vs1
                        obtain ⟨hDb, hFb, hOb⟩ := gb.notO upd_same hF9 hO9
                        rw [ew7] at Rb
                        exact ⟨F9, wipeD dd3 vs1, Ob, acc1 ++ [y0], accD1 ++ [x0], rest', (((exd.trans n6.f).trans g8.ex).trans g9.ex), Rb, ((gC.trans g9).side hD).trans gb, hDb, hFb, hOb, (raccd.mono ((n6.f.trans g8.ex).trans g9.ex)).append (.cons ry .nil), h1, by rw [← hxsd]; simp⟩
                · refine .inl ⟨hstop1 (Nat.le_of_not_lt hlt1), ?_⟩
                  rw [List.drop_eq_nil_of_le (Nat.le_of_not_lt hlt1)] at hgod
                  cases hgod
                  obtain ⟨O9, R9, g9⟩ := Rd.wipe vs
                  obtain ⟨hD9, hF9, hO9⟩ := g9.notO hDd hFd hOd
                  have ew9 : L2.wipe (L2.wipe sg3 vs1) vs = L2.wipe sg vs := by
                    rw [← ew]
                    exact wipe_eq (wipe_length _ _) fun j hj => wipe_out fun z => hj (hvs j z)
                  rw [ew9] at R9
                  exact ⟨Fd, wipeD dcz vs, O9, acc1, accD1, rest2, (((ex.trans n2.f).trans g4.ex).trans g5.ex).trans exd, R9, gd.trans g9, hD9, hF9, hO9, raccd, fun i hi s e => wipeD_in hi s e, by rw [← R9.len, wipe_length, R1.len], ho1, by simpa using hxsd⟩
        · refine .inl ⟨hstop (Nat.le_of_not_lt hlt), ?_⟩
          rw [List.drop_eq_nil_of_le (Nat.le_of_not_lt hlt)] at hgo
          cases hgo
          rw [List.append_nil] at hxs
          subst hxs
          have Rr := R1.rest hpl ex Rc hno hdl
          refine hp (.ref Dn) Fc Hc Oc Rr ⟨gc.ex, fun a o h n => gc.keep a o h fun j e => ?_, fun j a e => ?_, gc.dom, fun a h => ?_, fun j d' e => ?_⟩ ⟨Dn, rfl, hFc, ⟨acc, hDc, racc⟩, hOc⟩ fun p z => by cases z; exact .inl hD
          · exact absurd e (fun _ => by
              rcases gw.new j a e with ⟨k, z⟩ | z
              · exact n k z
              · rw [h] at z; cases z)
          · rcases gc.new j a e with ⟨k, z⟩ | z
            · rcases gw.new k a z with ⟨k2, z2⟩ | z2
              · exact .inl ⟨k2, z2⟩
              · exact .inr z2
            · exact .inr z
          · rcases gc.fnew a h with z | z | ⟨k, z⟩
            · exact .inl z
            · exact .inr (.inl z)
            · rcases gw.new k a z with ⟨k2, z2⟩ | z2
              · exact .inr (.inr ⟨k2, z2⟩)
              · exact .inr (.inl z2)
          · have hj : j ∉ vs := fun hj => by
              have z := restD_in hj _ e
              have l1 := (List.getElem?_eq_some_iff.mp e).1
              rw [restD_len, hdl] at l1
              have p1 : plainS de1[j]? = true := List.all_eq_true.mp hpl j hj
              rw [List.getD_eq_getElem?_getD] at z
              rw [List.getElem?_eq_getElem l1] at p1 z
              have z : Sl.pn d' = de1[j] := by simpa using z
              rw [← z] at p1
              cases p1
            rw [restD_out hj] at e
            obtain ⟨k1, d1, k2⟩ := gc.pin j d' e
            obtain ⟨k3, d3, k4⟩ := gw.pin j d1 k2
            exact ⟨k1.trans k3, d3, k4⟩
      · exact hp.elim
  · exact hp.elim
theorem jLc2 (own : List (Str × Nat)) (vs1 : List Nat) {kap : Nat → Addr} {xi : Xi} {X : Cx} {W : WX} {tg iter tg1 iter1 elt : Expr} {ifs ifs1 : List Expr} {scope : Scope} {pos : Pos} {wi wi1 : WX → TI} {g g1 : TG} {is is1 : List Nat} {tt tt1 : WX → TT} {te : WX → TE} {ei ei1 : DEnv → Rs (List D)} {eg eg1 : D → DEnv → Option DEnv} {et et1 : DEnv → Rs Bool} {ee : DEnv → Rs D}
    (hN : X.N.Nodup) (ok : BlkOk X.N X.env.scope scope own) (hi : JI kap xi X W tg iter wi ei) (hg : ∀ (s : Shared) (H : Hp) (C : Addr) (cl : List (Str × Addr)) (fp : List Addr), JG kap (X.blk s H scope (compEnvC scope cl C X.env) fp) tg g is eg)
    (ht : ∀ (s : Shared) (H : Hp) (C : Addr) (cl : List (Str × Addr)) (fp : List Addr), JTs kap xi (X.blk s H scope (compEnvC scope cl C X.env) fp) W0 ifs tt et)
    (hi1 : ∀ (s : Shared) (H : Hp) (C : Addr) (cl : List (Str × Addr)) (fp : List Addr), JI kap xi (X.blk s H scope (compEnvC scope cl C X.env) fp) W0 tg1 iter1 wi1 ei1)
    (hg1 : ∀ (s : Shared) (H : Hp) (C : Addr) (cl : List (Str × Addr)) (fp : List Addr), JG kap (X.blk s H scope (compEnvC scope cl C X.env) fp) tg1 g1 is1 eg1)
    (ht1 : ∀ (s : Shared) (H : Hp) (C : Addr) (cl : List (Str × Addr)) (fp : List Addr), JTs kap xi (X.blk s H scope (compEnvC scope cl C X.env) fp) W0 ifs1 tt1 et1)
    (he : ∀ (s : Shared) (H : Hp) (C : Addr) (cl : List (Str × Addr)) (fp : List Addr), JE kap xi (X.blk s H scope (compEnvC scope cl C X.env) fp) W0 elt te ee)
    (his : ∀ i ∈ is, i ∈ own.map (·.2)) (his1 : ∀ i ∈ is1, i ∈ vs1) (hvs : ∀ i ∈ vs1, i ∈ own.map (·.2)) (hc : X.calm = true := by rfl) (hs : ∀ x, foldedSetIterable iter X.env x = pure x := by intro _; rfl) (hs1 : ∀ env x, foldedSetIterable iter1 env x = pure x := by intro _ _; rfl) :
    JF kap xi X W (.ListComp elt [⟨tg, iter, ifs, 0⟩, ⟨tg1, iter1, ifs1, 0⟩] scope pos) (fun W => tLc2 (wi W) g (tt W0) (wi1 W0) g1 (tt1 W0) (te W0) (own.map (·.2)) vs1) (vLc2 (own.map (·.2)) vs1 ei eg et ei1 eg1 et1 ee) :=
  ⟨pe_lc2 hc hN hi.p ok hvs (fun s H C cl fp => (hg s H C cl fp).p) (fun s H C cl fp => (ht s H C cl fp).p) (fun s H C cl fp => (hi1 s H C cl fp).p) (fun s H C cl fp => (hg1 s H C cl fp).p) (fun s H C cl fp => (ht1 s H C cl fp).p) (fun s H C cl fp => (he s H C cl fp).p) hs hs1,
    snd_lc2 hi.s (fun F H sg de O v d de' Q => (hg X.s_0 X.H_0 0 [] []).s xi F H sg de O v d de' Q) his (ht X.s_0 X.H_0 0 [] []).s (hi1 X.s_0 X.H_0 0 [] []).s (fun F H sg de O v d de' Q => (hg1 X.s_0 X.H_0 0 [] []).s xi F H sg de O v d de' Q) his1 (ht1 X.s_0 X.H_0 0 [] []).s hvs (he X.s_0 X.H_0 0 [] []).s⟩
theorem JI.via {kap : Nat → Addr} {xi : Xi} {X : Cx} {W : WX} {tg iter : Expr} {wi wi' : WX → TI} {ei : DEnv → Rs (List D)} (h : JI kap xi X W tg iter wi ei) (eq : wi' = wi) : JI kap xi X W tg iter wi' ei := by rw [eq]; exact h
end DL

set_option maxRecDepth 100000
set_option maxHeartbeats 2000000
set_option autoImplicit false
/-! == and != of a class with its own __eq__ -/
namespace DL
open PySem L2 PySem.Spec PyProof.Rows
/-- an __eq__ of the class at C, and that no type in question goes first -/
structure OwnE (P : Program) (w : World) (K : PySem.W.Frag) (mg : Str → Option Value) (base : Heap) (kap : Nat → Addr) (cs : List Nat) (k c : Nat) (m : List D → Fo) where
  g : DG P w K mg base kap k 2 none m []
  hs : PySem.W.findIn K (.ref (kap c)) "__eq__" = some (some (.ref g.f))
  hf : PySem.W.isFn K (.ref g.f) = true
  nf : ∀ s, (tyIn cs s || tyN s) = true → PySem.W.notFirst K (kap c) (tyVal kap s) = true
def rOwn (K : PySem.W.Frag) (kap : Nat → Addr) (c : Nat) (m : List D → Fo) : R2 := fun x y H Q => (∃ a dx fs, x = .ref a ∧ H a = some (.ins (kap c) dx fs)) ∧ (∃ tb, TyY K H y tb ∧ PySem.W.notFirst K (kap c) tb = true) ∧ spD K kap 2 none m [x, y] H Q (fun _ _ _ => False)
def fOwn (cs : List Nat) (c : Nat) (m : List D → Fo) (a b : D) : Option D := match a with
  | .obj c' _ => if c' = c then (tyOf b).bind fun s => if (tyIn cs s || tyN s) = true then (match m [a, b] with
    | .ret d none => if scal d = true then some d else none
    | _ => none) else none else none
  | _ => none
section
variable {kap : Nat → Addr} {X : Cx} {cs : List Nat} {k c : Nat} {m : List D → Fo}
theorem sp_own {P : Program} {w : World} {K : PySem.W.Frag} {mg : Str → Option Value} {base : Heap} (kk : KitK K kap cs) (o : OwnE P w K mg base kap cs k c m) : SP2 K kap (rOwn K kap c m) (fOwn cs c m) := by
  intro F H x y a b z Q sub ra rb e q
  unfold fOwn at e
  split at e
  · rename_i c' fs
    split at e
    · rename_i hc
      subst hc
      obtain ⟨s, e1, e⟩ := bind_some e
      split at e
      · rename_i hs
        obtain ⟨p, dx, vs, rfl, h1, n1, r1⟩ := ra.obj sub
        refine ⟨⟨p, dx, vs, rfl, h1⟩, ⟨_, tyx_of kk sub rb e1 hs, o.nf s hs⟩, ?_⟩
        have A : ArgR K kap H H none [V.ref p, y] [.obj c' fs, b] none := ⟨rfl, fun i d hi _ => by
            match i, hi with
            | 0, hi => cases hi; exact ⟨_, rfl, ra.rep sub⟩
            | 1, hi => cases hi; exact ⟨_, rfl, rb.rep sub⟩, (fun k d z _ => by cases z), (fun z => absurd rfl z)⟩
        refine ⟨H, [.obj c' fs, b], none, rfl, Same.refl H, A, ?_⟩
        cases eo : m [.obj c' fs, b] with
        | ret d q' =>
          rw [eo] at e
          cases q' with
          | none =>
            have e : (if scal d = true then some d else none) = some z := e
            split at e
            · rename_i hsc
              cases e
              exact fun v F' H' f r => q v F H' ⟨Same.refl F, fun a o h => f.keep a o h (by simp), fun a h => .inl h⟩ (fun a o h => f.keep a o (sub a o h) (by simp)) (scal_rep r hsc)
            · cases e
          | some _ => cases e
        | retF d q' => rw [eo] at e; cases e
        | ex c fs q' => rw [eo] at e; cases e
        | bad => rw [eo] at e; cases e
      · cases e
    · cases e
  · cases e
theorem op_own (hu : X.A.units + 1 < cLine) (hr : RoomG k X.A) (o : OwnE X.prog X.w X.K X.mg X.base kap cs k c m) : OpR X (compareOp .Eq) (rOwn X.K kap c m) := by
  intro pins s σ H x y v u Q I rx ry h
  obtain ⟨⟨a, dx, fs, rfl, ha⟩, ⟨tb, ty, hn⟩, hsp⟩ := h
  cases rx
  obtain ⟨mA, J, _⟩ := ins_get I.hok ha
  obtain ⟨od, J, _⟩ := J.look
  obtain ⟨mm, hF⟩ := I.fr
  obtain ⟨Pz, Z, pz, _⟩ := kit_ofY I ry ty
  refine PySem.W.cmp_K (op := .Eq) (tb := tb) (by omega) hF I.ok.mod.kin J (Z.ty _ _ I.kIn pz) hn o.hs o.hf ?_
  have hl : o.g.dvs = [] := by
    have := o.g.rs (fun _ => none)
    cases h : o.g.dvs with
    | nil => rfl
    | cons v r => rw [h] at this; cases this
  have hrun := run_fnG (X := X) (Q := Q) (E := fun (_ : L2.St) (_ : Value) (_ : Option Addr) (_ : Hp) => False) (us := [.ref a, u]) (vs := [V.ref a, y]) (dvs := o.g.dvs) o.g.ok hr o.g.bi o.g.vs (fun pins H s e s' I h => by
    obtain ⟨_, _, _, _, _, _, _, _, _, _, _, _, hf⟩ := h
    exact hf.elim) I (.cons rfl (.cons ry .nil)) (by rw [hl]; exact hsp)
  refine wpAny_mono hrun (fun r s' hq => ?_) fun _ _ e => e
  obtain ⟨z, H', I', rz, q⟩ := hq
  cases r <;> first | (exact ⟨z, H', I', rz, q⟩) | (cases z <;> first | (cases rz; done) | (obtain ⟨_, h⟩ := rz; cases h))
end
/-! ### != by the own __eq__ -/
section
open PySem.W
variable {prog : Program} {w : World} {A : Around} {E : Value → Shared → Prop} {s : Shared} {K : Frag} {x C f : Addr} {ox : Obj} {od : Option Obj} {b tb : Value}
theorem objNe_K {Q : Fin → Shared → Prop} (X : K.In s.heap) (I : InstAt s.heap x ox C od) (hs : findIn K (.ref C) "__eq__" = some (some (.ref f))) (hf : isFn K (.ref f) = true) (hu : A.units < cLine)
    (hcall : wpAny (model prog w) A (call (.ref f) [.ref x, b]) (fun v s' => ∃ r, v = .bool r ∧ Q (.done (.ret (.bool (!r)))) s') E s) :
    wpAny (model prog w) A (Builtin.«object.__ne__» ⟨[.ref x, b], []⟩) Q E s := by
  unfold Builtin.«object.__ne__»
  repeat (first
    | with_reducible refine wpAny_cRoomFor hu ?_
    | (refine wpAny_bind (m := callSpecialIfBound? (.ref x) (Str.ofString "__eq__") [b])
        (ifBound_K X I hs hf (wpAny_mono hcall (fun r s' hr => by
          obtain ⟨b, rfl, hq⟩ := hr
          repeat (first | exact hq | exact wpAny_pure hq | exact wpAny_truthy_bool hq | (refine wpAny_bind (m := truthy (.bool _)) (wpAny_truthy_bool ?_)) | wp_step)) fun _ _ e => e)))
    | wp_step)
theorem ifBound_objNe {M : Model} {args : List Value} {Q : Option Value → Shared → Prop} (X : K.In s.heap) (I : InstAt s.heap x ox C od) (hs : findIn K (.ref C) "__ne__" = some (some (.builtin "object.__ne__")))
    (h : wpAny M A (call (.builtin "object.__ne__") (.ref x :: args)) (fun v => Q (some v)) E s) : wpAny M A (callSpecialIfBound? (.ref x) "__ne__" args) Q E s := by
  simp only [callSpecialIfBound?, bindSpecialIfBound?]
  refine wpAny_holding (wpAny_bind (wpAny_bind (wpAny_bind (I.type.here ((looks_findIn X hs).here ?_)))))
  refine wpAny_bind (wpAny_askSetting (wpAny_ite ?_))
  have fin : wpAny M A (call (.builtin "object.__ne__") ([.ref x] ++ args) >>= fun v => pure (some v)) Q E s := wpAny_bind (wpAny_mono h (fun v s' h' => wpAny_pure h') fun _ _ h' => h')
  split
  · exact wpAny_bind (wpAny_of_eq (F.cmp_object.ne.bind _) (wpAny_pure (by exact fin)))
  · exact wpAny_tryCatch (wpAny_bind (wpAny_of_eq (F.cmp_object.ne.bind _) (wpAny_pure (by exact fin))))
theorem cmp_ne_K {L : Addr} {h₀ : Heap} {m : Str → Option Value} {Q : Value → Shared → Prop} (hu : A.units + 1 < cLine) (Fr_ : Fr h₀ L s.heap m) (X₀ : K.In h₀) (I : InstAt s.heap x ox C od) (hb : Looks (model prog w) s.heap (typeOf b) tb) (hn : notFirst K C tb = true)
    (hm : mroIn K C (.type "object") = some true) (hne : findIn K (.ref C) "__ne__" = some (some (.builtin "object.__ne__"))) (hs : findIn K (.ref C) "__eq__" = some (some (.ref f))) (hf : isFn K (.ref f) = true)
    (h : wpAny (model prog w) A.in1 (call (.ref f) [.ref x, b]) (fun v s' => ∃ r, v = .bool r ∧ Q (.bool (!r)) s') E s) : wpAny (model prog w) A (richCompare .NotEq (.ref x) b) Q E s := by
  have X := X₀.keeps Fr_.keep
  have one : wpAny (model prog w) A (tryCompare (.ref x) (cmpInfo .NotEq).2.1 b) (fun r s' => ∃ v, r = some v ∧ Q v s') E s := by
    show wpAny (model prog w) A (tryCompare (.ref x) "__ne__" b) _ E s
    unfold tryCompare
    refine wpAny_bind (ifBound_objNe X I hne (wpAny_call (codeAny_call_builtin F.cmp_object.ne.plain F.cmpEntry_ne (check_slot F.cmpKind_ne F.cmpSplit_ne (I.type.andThen (looks_mroIn X hm)) (F.cmpArgs_ne _ _) ?_))))
    refine objNe_K X I hs hf (by show A.in1.units < cLine; exact Nat.lt_of_le_of_lt (by first | exact Nat.le_refl _ | simp [Around.in1]) hu) (wpAny_mono h (fun r s' hr => ?_) fun _ _ e => e)
    obtain ⟨r, rfl, q⟩ := hr
    exact ⟨r, rfl, wpAny_pure ⟨_, rfl, q⟩⟩
  unfold richCompare
  simp only [oneThing_ref]
  refine wpAny_holding (wpAny_bind (wpAny_cRoomFor (Nat.lt_of_succ_lt hu) ?_))
  refine wpAny_bind (I.type.here (wpAny_bind (hb.here ?_)))
  split
  · rename_i q
    have e : subIn K tb (.ref C) = some false := by
      rcases Bool.or_eq_true_iff.mp hn with e | e
      · rw [beq_iff_eq.mp e] at q; simp at q
      · exact beq_iff_eq.mp e
    refine wpAny_bind ((looks_subIn X e).here ?_)
    simp only [Bool.false_eq_true, if_false]
    refine wpAny_bind (wpAny_mono one (fun r s' z => ?_) fun _ _ e => e)
    obtain ⟨v, rfl, hq⟩ := z
    exact wpAny_pure hq
  · refine wpAny_bind (wpAny_pure ?_)
    simp only [Bool.false_eq_true, if_false]
    refine wpAny_bind (wpAny_mono one (fun r s' z => ?_) fun _ _ e => e)
    obtain ⟨v, rfl, hq⟩ := z
    exact wpAny_pure hq
end
def rOwnNe (K : PySem.W.Frag) (kap : Nat → Addr) (c : Nat) (m : List D → Fo) : R2 := fun x y H Q => (∃ a dx fs, x = .ref a ∧ H a = some (.ins (kap c) dx fs)) ∧ (∃ tb, TyY K H y tb ∧ PySem.W.notFirst K (kap c) tb = true) ∧ spD K kap 2 none m [x, y] H (fun v H' => ∃ b, v = .bl b ∧ Q (.bl (!b)) H') (fun _ _ _ => False)
section
variable {kap : Nat → Addr} {X : Cx} {cs : List Nat} {k c : Nat} {m : List D → Fo}
theorem op_ownNe (hu : X.A.units + 2 < cLine) (hr : RoomG k X.A.in1) (o : OwnE X.prog X.w X.K X.mg X.base kap cs k c m) (hm : PySem.W.mroIn X.K (kap c) (.type "object") = some true) (hne : PySem.W.findIn X.K (.ref (kap c)) "__ne__" = some (some (.builtin "object.__ne__"))) : OpR X (compareOp .NotEq) (rOwnNe X.K kap c m) := by
  intro pins s σ H x y v u Q I rx ry h
  obtain ⟨⟨a, dx, fs, rfl, ha⟩, ⟨tb, ty, hn⟩, hsp⟩ := h
  cases rx
  obtain ⟨mA, J, _⟩ := ins_get I.hok ha
  obtain ⟨od, J, _⟩ := J.look
  obtain ⟨mm, hF⟩ := I.fr
  obtain ⟨Pz, Z, pz, _⟩ := kit_ofY I ry ty
  refine cmp_ne_K (tb := tb) (by omega) hF I.ok.mod.kin J (Z.ty _ _ I.kIn pz) hn hm hne o.hs o.hf ?_
  have hl : o.g.dvs = [] := by
    have := o.g.rs (fun _ => none)
    cases h : o.g.dvs with
    | nil => rfl
    | cons v r => rw [h] at this; cases this
  have r2 : Vals ([V.ref a, y] ++ o.g.dvs) ([Value.ref a, u] ++ o.g.ds) := Vals.append (.cons rfl (.cons ry .nil)) o.g.vs
  have e0 : Env0 X.prog X.w X.K X.mg X.base X.A.in1 X.stack s H := by
    have e := I.env0
    exact ⟨e.frames, e.mod, e.bs, e.bsz, e.funs, e.frf, e.hok, e.bare⟩
  have hsp2 : spD X.K kap 2 none m ([V.ref a, y] ++ o.g.dvs) H (fun v H' => ∃ b, v = .bl b ∧ Q (.bl (!b)) H') (fun _ _ _ => False) := by rw [hl]; exact hsp
  refine wpAny_call (codeAny_mono (o.g.ok.run X.A.in1 X.stack s H ⟨[.ref a, u], []⟩ ([Value.ref a, u] ++ o.g.ds) ([V.ref a, y] ++ o.g.dvs) _ _ hr e0 (o.g.bi s [.ref a, u] I.kIn (by rw [← r2.length]; exact o.g.ok.len _ _ _ _ hsp2)) r2 hsp2) fun r s' hq => ?_)
  cases r with
  | error e =>
    obtain ⟨_, _, _, _, _, _, _, _, _, _, _, _, hf⟩ := hq
    exact hf.elim
  | ok fl => cases fl with
    | ret w =>
      obtain ⟨z, H', I', rz, b, rfl, q⟩ := I.after hq
      cases rz
      exact ⟨b, rfl, .bl (!b), H', I', rfl, q⟩
    | next => exact hq.elim
    | brk => exact hq.elim
    | cont => exact hq.elim
end
def fNegB : Option D → Option D
  | some (.bl b) => some (.bl (!b))
  | _ => none
def fOwnNe (cs : List Nat) (c : Nat) (m : List D → Fo) (a b : D) : Option D := fNegB (fOwn cs c m a b)
def fEqA (cs : List Nat) (c : Nat) (m : List D → Fo) (a b : D) : Option D := match a with
  | .obj _ _ => fOwn cs c m a b
  | _ => fEq a b
def fNeA (cs : List Nat) (c : Nat) (m : List D → Fo) (a b : D) : Option D := match a with
  | .obj _ _ => fOwnNe cs c m a b
  | _ => fNe a b
def rEqA (K : PySem.W.Frag) (kap : Nat → Addr) (c : Nat) (m : List D → Fo) : R2 := fun x y H Q => rEqD K x y H Q ∨ rOwn K kap c m x y H Q
def rNeA (K : PySem.W.Frag) (kap : Nat → Addr) (c : Nat) (m : List D → Fo) : R2 := fun x y H Q => rNeD K x y H Q ∨ rOwnNe K kap c m x y H Q
theorem RoomG.in1 {k : Nat} {A : Around} (r : RoomG (k + 1) A) : RoomG k A.in1 := ⟨r.r.in1, r.g⟩
section
variable {kap : Nat → Addr} {X : Cx} {cs : List Nat} {k c : Nat} {m : List D → Fo}
theorem sp_ownNe {P : Program} {w : World} {K : PySem.W.Frag} {mg : Str → Option Value} {base : Heap} (kk : KitK K kap cs) (o : OwnE P w K mg base kap cs k c m) : SP2 K kap (rOwnNe K kap c m) (fOwnNe cs c m) := by
  intro F H x y a b z Q sub ra rb e q
  unfold fOwnNe at e
  cases e0 : fOwn cs c m a b with
  | none => rw [e0] at e; cases e
  | some d =>
    rw [e0] at e
    cases d with
    | bl r =>
      cases e
      exact sp_own kk o F H x y a b (.bl r) (fun v H' => ∃ b, v = .bl b ∧ Q (.bl (!b)) H') sub ra rb e0 fun v F' H' n s2 rr => by
        cases rr
        exact ⟨r, rfl, q _ F' H' n s2 (.bl _)⟩
    | _ => cases e
theorem sp_eqA {P : Program} {w : World} {K : PySem.W.Frag} {mg : Str → Option Value} {base : Heap} (kk : KitK K kap cs) (o : OwnE P w K mg base kap cs k c m) : SP2 K kap (rEqA K kap c m) (fEqA cs c m) := by
  intro F H x y a b z Q sub ra rb e q
  unfold fEqA at e
  split at e
  · exact .inr (sp_own kk o F H x y _ b z Q sub ra rb e q)
  · exact .inl (sp_eq F H x y a b z Q sub ra rb e q)
theorem sp_neA {P : Program} {w : World} {K : PySem.W.Frag} {mg : Str → Option Value} {base : Heap} (kk : KitK K kap cs) (o : OwnE P w K mg base kap cs k c m) : SP2 K kap (rNeA K kap c m) (fNeA cs c m) := by
  intro F H x y a b z Q sub ra rb e q
  unfold fNeA at e
  split at e
  · exact .inr (sp_ownNe kk o F H x y _ b z Q sub ra rb e q)
  · exact .inl (sp_ne F H x y a b z Q sub ra rb e q)
theorem op_eqA (hr : RoomG (k + 1) X.A) (o : OwnE X.prog X.w X.K X.mg X.base kap cs k c m) : OpR X (compareOp .Eq) (rEqA X.K kap c m) := (op_eqD (by have := hr.un; omega)).or (op_own (by have := hr.un; omega) (hr.mono (Nat.le_succ k)) o)
/-- what != asks besides -/
structure OwnN (K : PySem.W.Frag) (kap : Nat → Addr) (c : Nat) : Prop where
  hm : PySem.W.mroIn K (kap c) (.type "object") = some true
  hne : PySem.W.findIn K (.ref (kap c)) "__ne__" = some (some (.builtin "object.__ne__"))
theorem op_neA (hr : RoomG (k + 1) X.A) (o : OwnE X.prog X.w X.K X.mg X.base kap cs k c m) (o2 : OwnN X.K kap c) : OpR X (compareOp .NotEq) (rNeA X.K kap c m) := (op_neD (by have := hr.un; omega)).or (op_ownNe (by have := hr.un; omega) hr.in1 o o2.hm o2.hne)
end
theorem own_nf {K : PySem.W.Frag} {kap : Nat → Addr} {cs : List Nat} {c : Nat} (kk : KitK K kap cs) (hc : c ∈ cs) : ∀ s, (tyIn cs s || tyN s) = true → PySem.W.notFirst K (kap c) (tyVal kap s) = true := by
  intro s hs
  rw [Bool.or_eq_true] at hs
  unfold PySem.W.notFirst
  cases s with
  | b S =>
    have hS : S ∈ "NoneType" :: bCls := by
      rcases hs with h | h
      · exact List.mem_cons_of_mem _ (List.contains_iff_mem.mp h)
      · have e : S = "NoneType" := by simpa [tyN] using h
        rw [e]; exact List.mem_cons_self ..
    show ((Value.type S == Value.ref (kap c)) || PySem.W.subIn K (.type S) (.ref (kap c)) == some false) = true
    rw [sub_bo K _ S hS]
    simp
  | o c' =>
    have hc' : c' ∈ cs := by
      rcases hs with h | h
      · exact List.contains_iff_mem.mp h
      · cases h
    show ((Value.ref (kap c') == Value.ref (kap c)) || PySem.W.subIn K (.ref (kap c')) (.ref (kap c)) == some false) = true
    by_cases q : c' = c
    · subst q; simp
    · obtain ⟨m1, m2⟩ := kk.mo c' hc' c hc q
      have m3 : PySem.W.subIn K (.ref (kap c')) (.ref (kap c)) = some false := m1
      rw [m3]
      simp
end DL

set_option maxRecDepth 100000
set_option maxHeartbeats 2000000
set_option autoImplicit false
/-! dicts with nested keys as data: d[k], k in d, d[k] = v, for k in d; an own __getitem__ -/
namespace DL
open PySem L2 PySem.Spec PyProof.Rows
section
variable {K : PySem.W.Frag} {kap : Nat → Addr} {F H : Hp}
mutual
theorem ka_rep (e : Same F H) : ∀ {v : V} {d : D} {k : NestedKey}, Rep K kap F v d → keyD d = some k → KA K H k v
  | _, _, _, .non, h => by cases h; exact .none
  | _, _, _, .bl b, h => by cases h; exact .bl b
  | _, _, _, .int i, h => by cases h; exact .int i
  | _, _, _, .str _, h => by cases h
  | _, _, _, .tup a r, h => by
    obtain ⟨ks, h1, rfl⟩ := Option.map_eq_some_iff.mp h
    exact .tup (sqT_mono e a) (kas_rep e r h1)
  | _, _, _, .lst _ _, h => by cases h
  | _, _, _, .scr _ _, h => by cases h
  | _, _, _, .dk _ _ _, h => by cases h
  | _, _, _, .dn _ _ _ _ _ _ _, h => by cases h
  | _, _, _, .obj _ _ _, h => by cases h
  | _, _, _, .clsB _, h => by cases h
  | _, _, _, .clsO _, h => by cases h
theorem kas_rep (e : Same F H) : ∀ {vs : List V} {ds : List D} {ks : List NestedKey}, Reps K kap F vs ds → keyDs ds = some ks → KAs K H ks vs
  | _, _, _, .nil, h => by cases h; exact .nil
  | _, _, _, .cons a r, h => by
    obtain ⟨k, h1, h2⟩ := bind_some h
    obtain ⟨ks, h3, rfl⟩ := Option.map_eq_some_iff.mp h2
    exact .cons (ka_rep e a h1) (kas_rep e r h3)
end
theorem keyN_inv {d : D} {k : NestedKey} (h : keyN d = some k) : ∃ ds ks, d = .tup ds ∧ keyDs ds = some ks ∧ k = .tup ks ∧ okK k = true := by
  unfold keyN at h
  split at h
  · rename_i ds
    obtain ⟨ks, h1, h2⟩ := bind_some h
    split at h2
    · rename_i ok
      cases h2
      exact ⟨ds, ks, rfl, h1, rfl, ok⟩
    · cases h2
  · cases h
theorem keyN_rep (e : Same F H) {v : V} {d : D} {k : NestedKey} (r : Rep K kap F v d) (h : keyN d = some k) : ∃ b, v = .ref b ∧ KA K H k (.ref b) ∧ okK k = true := by
  obtain ⟨ds, ks, rfl, h1, rfl, ok⟩ := keyN_inv h
  cases r with
  | tup a q => exact ⟨_, rfl, .tup (sqT_mono e a) (kas_rep e q h1), ok⟩
theorem keyN_rb (e : Same F H) {v : V} {d : D} {k : NestedKey} (r : RB K kap F H v d) (h : keyN d = some k) : ∃ b, v = .ref b ∧ KA K H k (.ref b) ∧ okK k = true := by
  obtain ⟨ds, ks, rfl, h1, rfl, ok⟩ := keyN_inv h
  obtain ⟨p, vs, rfl, h2, h3⟩ := r.tup
  exact ⟨_, rfl, .tup (sqT_mono e h2) (kas_rep e h3 h1), ok⟩
theorem keys_rep (e : Same F H) : ∀ {xs : List NEnt} {ds : List (D × D)}, (xs.map fun x => some x.1) = ds.map (fun p => keyN p.1) → Reps K kap F (xs.map fun x => V.ref x.2.1) (ds.map (·.1)) → KeysA K H xs
  | [], [], _, _ => fun _ h => (nomatch h)
  | [], _ :: _, h, _ => by simp at h
  | _ :: _, [], h, _ => by simp at h
  | x :: xs, p :: ds, h, .cons r q => by
    simp only [List.map_cons, List.cons.injEq] at h
    intro y hy
    rcases List.mem_cons.mp hy with rfl | hy
    · obtain ⟨b, e1, e2, _⟩ := keyN_rep e r h.1.symm
      cases e1
      exact e2
    · exact keys_rep e h.2 q y hy
/-- what stands at a key -/
def valN : List (D × D) → NestedKey → Option D
  | [], _ => none
  | p :: r, k => if keyN p.1 = some k then some p.2 else valN r k
theorem valN_at : ∀ {xs : List NEnt} {vs : List V} {ds : List (D × D)}, Vals vs (xs.map (·.2.2)) → (xs.map fun x => some x.1) = ds.map (fun p => keyN p.1) → Reps K kap F vs (ds.map (·.2)) → ∀ k : NestedKey,
    (∀ z, valN ds k = some z → ∃ p v, atKey xs k = some p ∧ RelV v p.2 ∧ Rep K kap F v z) ∧ (valN ds k = none → atKey xs k = none)
  | [], _, [], _, _, _, k => ⟨(fun z h => by cases h), (fun _ => rfl)⟩
  | [], _, _ :: _, _, h, _, _ => by simp at h
  | _ :: _, _, [], _, h, _, _ => by simp at h
  | x :: xs, v :: vs, p :: ds, .cons rv qv, h, .cons r q, k => by
    simp only [List.map_cons, List.cons.injEq] at h
    by_cases e : x.1 = k
    · have e1 : keyN p.1 = some k := by rw [← h.1, e]
      have ha : atKey (x :: xs) k = some x.2 := by simp [atKey, e]
      refine ⟨fun z hz => ?_, fun hz => ?_⟩
      · unfold valN at hz
        rw [if_pos e1] at hz
        cases hz
        exact ⟨_, v, ha, rv, r⟩
      · unfold valN at hz
        rw [if_pos e1] at hz
        cases hz
    · have e1 : ¬ keyN p.1 = some k := by rw [← h.1]; exact fun z => e (Option.some.inj z)
      have ha : atKey (x :: xs) k = atKey xs k := by simp [atKey, e]
      obtain ⟨i1, i2⟩ := valN_at qv h.2 q k
      unfold valN
      rw [if_neg e1, ha]
      exact ⟨i1, i2⟩
theorem valN_some {xs : List NEnt} {vs : List V} {ds : List (D × D)} (h1 : Vals vs (xs.map (·.2.2))) (h2 : (xs.map fun x => some x.1) = ds.map (fun p => keyN p.1)) (h3 : Reps K kap F vs (ds.map (·.2))) (k : NestedKey) : (atKey xs k).isSome = (valN ds k).isSome := by
  obtain ⟨i1, i2⟩ := valN_at h1 h2 h3 k
  cases e : valN ds k with
  | none => rw [i2 e]; rfl
  | some z =>
    obtain ⟨p, v, h, _⟩ := i1 z e
    rw [h]
    rfl
/-- d[k] = v -/
def putN : List (D × D) → NestedKey → D → D → List (D × D)
  | [], _, kd, v => [(kd, v)]
  | p :: r, k, kd, v => if keyN p.1 = some k then (p.1, v) :: r else p :: putN r k kd v
def stH : List NEnt → NestedKey → Addr → Value → List NEnt
  | [], k, b, u => [(k, b, u)]
  | x :: r, k, b, u => if x.1 = k then (x.1, x.2.1, u) :: r else x :: stH r k b u
theorem storedH_eq (k : NestedKey) (b : Addr) (u : Value) : ∀ {xs : List NEnt}, (xs.map (·.1)).Nodup → storedH xs k b u = stH xs k b u
  | [], _ => rfl
  | x :: xs, hn => by
    rw [List.map_cons, List.nodup_cons] at hn
    have ih := storedH_eq k b u hn.2
    unfold stH
    by_cases e : x.1 = k
    · rw [if_pos e]
      have ha : atKey (x :: xs) k = some x.2 := by simp [atKey, e]
      rw [storedH_old ha, List.map_cons, map_putAt_of_not_mem xs k u (e ▸ hn.1)]
      unfold putAt
      rw [if_pos e]
    · rw [if_neg e, ← ih]
      have ha : atKey (x :: xs) k = atKey xs k := by simp [atKey, e]
      unfold storedH
      rw [ha]
      split
      · rw [List.map_cons]
        congr 1
        unfold putAt
        rw [if_neg e]
      · rfl
theorem put_at {b : Addr} {u : Value} {v : V} {kd z : D} {k : NestedKey} (hk : Rep K kap F (.ref b) kd) (hkd : keyN kd = some k) (ru : RelV v u) (hz : Rep K kap F v z) : ∀ {xs : List NEnt} {vs : List V} {ds : List (D × D)}, Vals vs (xs.map (·.2.2)) → (xs.map fun x => some x.1) = ds.map (fun p => keyN p.1) → Reps K kap F (xs.map fun x => V.ref x.2.1) (ds.map (·.1)) → Reps K kap F vs (ds.map (·.2)) →
    ∃ ws, Vals ws ((stH xs k b u).map (·.2.2)) ∧ ((stH xs k b u).map fun x => some x.1) = (putN ds k kd z).map (fun p => keyN p.1) ∧ Reps K kap F ((stH xs k b u).map fun x => V.ref x.2.1) ((putN ds k kd z).map (·.1)) ∧ Reps K kap F ws ((putN ds k kd z).map (·.2))
  | [], _, [], _, _, _, _ => ⟨[v], .cons ru .nil, by simp [stH, putN, hkd], .cons hk .nil, .cons hz .nil⟩
  | [], _, _ :: _, _, h, _, _ => by simp at h
  | _ :: _, _, [], _, h, _, _ => by simp at h
  | x :: xs, w :: vs, p :: ds, .cons rv qv, h, .cons r0 q0, .cons r q => by
    simp only [List.map_cons, List.cons.injEq] at h
    unfold stH putN
    by_cases e : x.1 = k
    · have e1 : keyN p.1 = some k := by rw [← h.1, e]
      rw [if_pos e, if_pos e1]
      exact ⟨v :: vs, .cons ru qv, by simp [h.1, h.2], .cons r0 q0, .cons hz q⟩
    · have e1 : ¬ keyN p.1 = some k := by rw [← h.1]; exact fun z => e (Option.some.inj z)
      rw [if_neg e, if_neg e1]
      obtain ⟨ws, w1, w2, w3, w4⟩ := put_at hk hkd ru hz qv h.2 q0 q
      exact ⟨w :: ws, .cons rv w1, by simp [h.1, w2], .cons r0 w3, .cons r w4⟩
theorem putN_len (ds : List (D × D)) (k : NestedKey) (kd v : D) : (putN ds k kd v).length ≤ ds.length + 1 := by
  induction ds with
  | nil => simp [putN]
  | cons p r ih => unfold putN; split <;> simp <;> omega
/-! ### d[k] -/
def fIxN (a b : D) : Option D := match a with
  | .dn ds => (keyN b).bind fun k => valN ds k
  | _ => fIx a b
def rIxA (K : PySem.W.Frag) : R2 := fun x y H Q => rIx K x y H Q ∨ rIxN K x y H Q
theorem sp_ixN : SP2 K kap (rIxA K) fIxN := by
  intro F H x y a b z Q sub ra rb e q
  unfold fIxN at e
  split at e
  · rename_i ds
    obtain ⟨k, e1, e2⟩ := bind_some e
    obtain ⟨p, o, xs, vs, rfl, h1, h2, h3, h4, h5, h6, h7⟩ := ra.dn sub
    obtain ⟨c, rfl, k1, ok⟩ := keyN_rb sub rb e1
    obtain ⟨pp, v, g1, g2, g3⟩ := (valN_at h4 h5 h7 k).1 z e2
    exact .inr ⟨p, c, o, xs, k, pp, v, rfl, rfl, h1, h2, keys_rep sub h5 h6, k1, ok, g1, g2, q _ F H New.refl sub g3⟩
  · exact .inl (sp_ix F H x y a b z Q sub ra rb e q)
/-! ### k in d -/
def entN : D → Option (List (D × D))
  | .dn ds => some ds
  | .dk [] => some []
  | _ => none
def fInN (a b : D) : Option D := match entN b with
  | some ds => (keyN a).map fun k => .bl (valN ds k).isSome
  | none => fIn a b
def fNotInN (a b : D) : Option D := match entN b with
  | some ds => (keyN a).map fun k => .bl (!(valN ds k).isSome)
  | none => fNotIn a b
theorem entN_at (e : Same F H) {v : V} {d : D} {ds : List (D × D)} (r : RB K kap F H v d) (h : entN d = some ds) : ∃ a xs vs, v = .ref a ∧ DAt K H a xs ∧ Vals vs (xs.map (·.2.2)) ∧ (xs.map fun x => some x.1) = ds.map (fun p => keyN p.1) ∧ Reps K kap F (xs.map fun x => V.ref x.2.1) (ds.map (·.1)) ∧ Reps K kap F vs (ds.map (·.2)) := by
  unfold entN at h
  split at h
  · cases h
    obtain ⟨p, o, xs, vs, rfl, h1, h2, h3, h4, h5, h6, h7⟩ := r.dn e
    exact ⟨p, xs, vs, rfl, .inr ⟨o, h1, h2, h3, keys_rep e h5 h6⟩, h4, h5, h6, h7⟩
  · cases h
    obtain ⟨p, kvs, rfl, h1, n1, r1⟩ := r.dk e
    have : kvs = [] := by cases kvs with | nil => rfl | cons _ _ => simp at n1
    subst this
    exact ⟨p, [], [], rfl, .inl ⟨h1, rfl⟩, .nil, rfl, .nil, .nil⟩
  · cases h
def rInG (K : PySem.W.Frag) : R2 := fun x y H Q => rInD K x y H Q ∨ rInN K (fun b => b) x y H Q
def rNotInG (K : PySem.W.Frag) : R2 := fun x y H Q => rNotInD K x y H Q ∨ rInN K not x y H Q
theorem sp_inN : SP2 K kap (rInG K) fInN := by
  intro F H x y a b z Q sub ra rb e q
  unfold fInN at e
  split at e
  · rename_i ds hd
    obtain ⟨k, e1, rfl⟩ := Option.map_eq_some_iff.mp e
    obtain ⟨p, xs, vs, rfl, h1, h4, h5, h6, h7⟩ := entN_at sub rb hd
    obtain ⟨c, rfl, k1, ok⟩ := keyN_rb sub ra e1
    refine .inr ⟨p, c, xs, k, rfl, rfl, h1, k1, ok, ?_⟩
    rw [valN_some h4 h5 h7 k]
    exact q _ F H New.refl sub (.bl _)
  · exact .inl (sp_in F H x y a b z Q sub ra rb e q)
theorem sp_notInN : SP2 K kap (rNotInG K) fNotInN := by
  intro F H x y a b z Q sub ra rb e q
  unfold fNotInN at e
  split at e
  · rename_i ds hd
    obtain ⟨k, e1, rfl⟩ := Option.map_eq_some_iff.mp e
    obtain ⟨p, xs, vs, rfl, h1, h4, h5, h6, h7⟩ := entN_at sub rb hd
    obtain ⟨c, rfl, k1, ok⟩ := keyN_rb sub ra e1
    refine .inr ⟨p, c, xs, k, rfl, rfl, h1, k1, ok, ?_⟩
    rw [valN_some h4 h5 h7 k]
    exact q _ F H New.refl sub (.bl _)
  · exact .inl (sp_notIn F H x y a b z Q sub ra rb e q)
end
section
variable {X : Cx} {kap : Nat → Addr} {xi : Xi} {W : WX} {a b : Expr} {ta tb : WX → TE} {oa ob : Op} {pos : Pos}
theorem ix_nseq (hu : X.A.units + 64 < cLine) : IxR X (rIxA X.K) := ix_seq.or (ix_n hu)
theorem jItemN (hu : X.A.units + 64 < cLine) (ha : JO kap xi X W a ta oa) (hb : JO kap xi X W b tb ob) (hs : PlainIx b := by exact fun _ _ => rfl) : JE kap xi X W (.Subscript a b pos) (fun W => tOp (rIxA X.K) (ta W) (tb W)) (vO2 fIxN oa ob) := jIx (ix_nseq hu) sp_ixN ha hb hs
theorem opR_or {X : Cx} {f : Value → Value → Sem Value} {r r' : R2} (h : OpR X f r) (h' : OpR X f r') : OpR X f (fun x y H Q => r x y H Q ∨ r' x y H Q) := by
  intro pins s σ H x y v u Q I rx ry q
  rcases q with q | q
  · exact h pins s σ H x y v u Q I rx ry q
  · exact h' pins s σ H x y v u Q I rx ry q
theorem op_inG (hu : X.A.units + 65 < cLine) : OpR X (compareOp .In) (rInG X.K) := opR_or (op_inD hu) (op_inN (by omega))
theorem op_notInG (hu : X.A.units + 65 < cLine) : OpR X (compareOp .NotIn) (rNotInG X.K) := opR_or (op_notInD hu) (op_notInN (by omega))
end
/-! ### d[k] = v, d a name of our own -/
def putNA (i : Nat) (v k : D) (de : DEnv) : Option (Sl × D) → Ot
  | some (s, d) => (match entN d with
    | some ds => (match keyN k with
      | some kk => if ds.length < 16777216 then .nx (de.set i (s.same (.dn (putN ds kk k v)))) else .bad
      | none => .bad)
    | none => .bad)
  | none => .bad
def vSetN (i : Nat) (evv evk : DEnv → Rs D) (de : DEnv) : Ot :=
  (evv de).out fun v de1 => if (slotAt i de1).isSome = true then (evk de1).out fun k de2 => putNA i v k de2 (slotOw i de2) else .bad
section
variable {X : Cx} {kap : Nat → Addr} {xi : Xi} {W : WX} {e ek : Expr} {t tk : WX → TE} {ev evk : DEnv → Rs D} {pos pos' : Pos}
theorem jSetN (hu : X.A.units + 64 < cLine) (i : Nat) {x : Str} {xp : Pos} (hv : JE kap xi X W e t ev) (hk : JE kap xi X W ek tk evk) (hN : X.N[i]? = some x := by rfl) (hvis : Vis X.env.scope x := by first | exact Or.inl rfl | exact Or.inr (Or.inl rfl) | exact Or.inr (Or.inr rfl))
    (hd : (x == ("__debug__" : Str)) = false := by decide) (hcd : (x == ("__classdict__" : Str)) = false := by decide)
    (hs : swapsWith e (some (.Subscript (.Name x xp) ek pos')) pos.line X.env = pure false := by rfl) :
    JS kap xi X W (.Assign [.Subscript (.Name x xp) ek pos'] e pos) (fun W => sNPut X.K (tVar i) (tk W) (t W)) (vSetN i ev evk) := ⟨ps_nput hu (pe_var hN hvis hd hcd) hk.p hv.p hs, by
  intro W F H sg de O Dn R hp
  refine hv.s.out R hp fun v d F1 H1 de1 O1 R1 g1 r _ hp => ?_
  split at hp
  · rename_i hsl
    cases e0 : slotAt i de1 with
    | none => rw [e0] at hsl; cases hsl
    | some d0 =>
      obtain ⟨u, hu', _⟩ := R1.rb e0
      refine ⟨u, hu', ?_⟩
      refine hk.s.out R1 hp fun k' k F2 H2 de2 O2 R2 g2 rk _ hp => ?_
      cases eo : slotOw i de2 with
      | none => rw [eo] at hp; exact hp.elim
      | some sd =>
        obtain ⟨s, d1⟩ := sd
        rw [eo] at hp
        unfold putNA at hp
        dsimp only at hp
        split at hp
        · rename_i ds hent
          split at hp
          · rename_i kk hkk
            split at hp
            · rename_i hlen
              obtain ⟨e1, e2, p, h1, h2, h3, h4⟩ := R2.owl eo
              rw [hu'] at h2
              cases h2
              obtain ⟨a, xs, vs, ea, hat, g4, g5, g6, g7⟩ := entN_at R2.sub (.inr ⟨p, rfl, h3, h4⟩) hent
              cases ea
              obtain ⟨c, rfl, k1, ok⟩ := keyN_rep R2.sub rk hkk
              have hl : xs.length = ds.length := by simpa using congrArg List.length g5
              have hnd : (xs.map (·.1)).Nodup := by
                rcases hat with ⟨_, rfl⟩ | ⟨o, _, d', _, _⟩
                · exact List.nodup_nil
                · exact d'.nod
              refine ⟨p, c, xs, kk, rfl, rfl, hat, k1, ok, by rw [hl, line_eq]; exact hlen, fun o' u' ru hm dob => ?_⟩
              rw [storedH_eq kk c u' hnd] at dob
              have rr : Rep X.K kap F2 v d := Rep.mono g2.ex r
              obtain ⟨ws, w1, w2, w3, w4⟩ := put_at rk hkk ru rr g4 g5 g6 g7
              obtain ⟨R3, g3⟩ := R2.mut (o := exO p o') (d' := .dn (putN ds kk k d)) e1 e2 h1 ⟨o', _, ws, upd_same, dob, hm, w1, w2, w3, w4⟩
              exact hp F2 _ sg O2 R3 g3
            · exact hp.elim
          · exact hp.elim
        · exact hp.elim
  · exact hp.elim⟩
end
/-! ### for k in d -/
def itemsN : D → Option (List D)
  | .dn ds => some (ds.map (·.1))
  | d => itemsOf d
def vSeqN (ev : DEnv → Rs D) (de : DEnv) : Rs (List D) := (ev de).bind fun d de1 => ofO (itemsN d) de1
def iSeqN (K : PySem.W.Frag) (tl : TE) : TI := fun σ H R => tl σ H fun x H1 => (∃ a, x = .ref a ∧ (((∃ xs, SqL K H1 a xs) ∧ R (Itl K a) H1) ∨ ((∃ xs, SqT K H1 a xs) ∧ R (Itt K a) H1))) ∨
  ∃ (a : Addr) (o : Obj) (xs : List NEnt), x = .ref a ∧ H1 a = some (exO a o) ∧ DOb o xs ∧ (a == sysModules) = false ∧ R (Itn a o xs) H1
theorem pi_seqN {X : Cx} {tg l : Expr} {tl : TE} (hl : PE X l tl) : PI X tg l (iSeqN X.K tl) := by
  refine ⟨fun pins s σ H R I h => ?_⟩
  refine thn (hl.run pins s σ H _ I h) fun v s1 ⟨x, H1, I1, r1, q1⟩ => ?_
  rcases q1 with q1 | ⟨a, o, xs, e, hd, d, hm, q⟩
  · have k : PE X l (fun _ _ Q => Q x H1) ∨ True := .inr trivial
    obtain ⟨a, e, q⟩ := q1
    subst e
    cases r1
    rcases q with ⟨⟨xs, hq⟩, q⟩ | ⟨⟨xs, hq⟩, q⟩
    · obtain ⟨its, rv, p, hz⟩ := I1.list hq
      refine wpAny_pyIter_list p.isList ?_
      refine ⟨s1.heap.objs.size, [s1.heap.objs.size], _, _, H1, rfl, I1.kept (t' := s1.toks) fun b o e => Heap.get?_push_of_some _ e, turn_list a _, ⟨_, Heap.get?_push_size _ rfl, rfl, rfl⟩, fun b hb => ?_, q⟩
      have e : b = s1.heap.objs.size := by simpa using hb
      subst e
      exact I1.fpOk (Nat.le_refl _) (I1.hok.fresh (Nat.le_refl _))
    · obtain ⟨its, rv, p, hz⟩ := I1.tuple hq
      refine wpAny_pyIter_tuple (show s1.heap.IsTuple a its.toArray from p) ?_
      refine ⟨s1.heap.objs.size, [s1.heap.objs.size], _, _, H1, rfl, I1.kept (t' := s1.toks) fun b o e => Heap.get?_push_of_some _ e, turn_tuple a _, ⟨_, Heap.get?_push_size _ rfl, rfl, rfl⟩, fun b hb => ?_, q⟩
      have e : b = s1.heap.objs.size := by simpa using hb
      subst e
      exact I1.fpOk (Nat.le_refl _) (I1.hok.fresh (Nat.le_refl _))
  · subst e
    cases r1
    obtain ⟨es, ep, hdt, hes⟩ := d.dat
    refine iter_keys hm (exO_get I1 hd) d.ex hdt (pi_one (tk := s1.toks) I1 _ (turn_n _ hdt hes) ⟨_, Heap.get?_push_size _ rfl, rfl, ?_⟩ q)
    rw [ent_size hes] <;> rfl
theorem itn_ok {K : PySem.W.Frag} {kap : Nat → Addr} {F : Hp} {a : Addr} {o : Obj} {xs : List NEnt} {ks : List D} (h : F a = some (exO a o)) (r : Reps K kap F (xs.map fun x => V.ref x.2.1) ks) : ItOk K kap (Itn a o xs) F ks := fun i F2 H2 e1 e2 => by
  have h2 : H2 a = some (exO a o) := e2 _ _ (e1 _ _ h)
  have hl : xs.length = ks.length := by have := r.length; simpa using this
  refine ⟨fun hi => ⟨h2, by rw [hl]; exact hi⟩, fun d hd => ?_⟩
  obtain ⟨v, g1, g2⟩ := r.get hd
  have il : i < xs.length := by rw [hl]; exact (List.getElem?_eq_some_iff.mp hd).1
  refine ⟨⟨h2, il⟩, fun x H' ⟨e, y, hy, ey⟩ => ?_⟩
  subst e ey
  rw [List.getElem?_map, hy] at g1
  cases g1
  exact ⟨F2, New.refl, e2, g2.mono e1⟩
theorem jiSeqN {kap : Nat → Addr} {xi : Xi} {X : Cx} {W : WX} {tg e : Expr} {t : WX → TE} {ev : DEnv → Rs D} (h : JE kap xi X W e t ev) : JI kap xi X W tg e (fun W => iSeqN X.K (t W)) (vSeqN ev) := ⟨pi_seqN h.p, by
  intro W F H sg de O Q R hp
  refine h.s.bind R hp fun v d F1 H1 de1 O1 R1 g1 r _ hp => ?_
  obtain ⟨ds, e, hp⟩ := ofO_some hp
  unfold itemsN at e
  split at e
  · cases e
    cases r with
    | dn h1 h2 h3 h4 h5 h6 h7 => exact .inr ⟨_, _, _, rfl, R1.sub _ _ h1, h2, h3, hp.done R1 New.refl R1.sub (itn_ok h1 h6)⟩
  · obtain ⟨a, vs, rfl, rr, hq⟩ := rep_items r e
    refine .inl ⟨a, rfl, ?_⟩
    rcases hq with hq | hq
    · exact .inl ⟨⟨vs, sqL_mono R1.sub hq⟩, hp.done R1 New.refl R1.sub (itl_ok hq rr)⟩
    · exact .inr ⟨⟨vs, sqT_mono R1.sub hq⟩, hp.done R1 New.refl R1.sub (itt_ok hq rr)⟩⟩
/-! ### an own __getitem__ -/
structure OwnI (P : Program) (w : World) (K : PySem.W.Frag) (mg : Str → Option Value) (base : Heap) (kap : Nat → Addr) (k c : Nat) (m : List D → Fo) where
  g : DG P w K mg base kap k 2 none m []
  hs : PySem.W.findIn K (.ref (kap c)) "__getitem__" = some (some (.ref g.f))
  hf : PySem.W.isFn K (.ref g.f) = true
  hfn : PySem.W.fnIn K g.f = true
def isC (c : Nat) : D → Bool
  | .obj c' _ => c' == c
  | _ => false
def vOwnIx (c : Nat) (m : List D → Fo) (ev ev' : DEnv → Rs D) (de : DEnv) : Rs D :=
  (ev de).bind fun x de1 => (ev' de1).bind fun y de2 => if isC c x = true then callC 2 none m [] [.v x, .v y] de2 else .bad
def tOwnIx (K : PySem.W.Frag) (kap : Nat → Addr) (c : Nat) (m : List D → Fo) (W : WX) (ta tb : TE) : TE := fun σ H Q => ta σ H fun x H1 => tb σ H1 fun y H2 => (∃ a dx fs, x = .ref a ∧ H2 a = some (.ins (kap c) dx fs)) ∧ spD K kap 2 none m [x, y] H2 Q (WE W σ)
section
variable {X : Cx} {kap : Nat → Addr} {xi : Xi} {W : WX} {a b : Expr} {ta tb : WX → TE} {ev ev' : DEnv → Rs D} {pos : Pos} {k c : Nat} {m : List D → Fo}
theorem snd_ownIx {K : PySem.W.Frag} (ha : Snd K kap xi (RlE K kap) ta ev) (hb : Snd K kap xi (RlE K kap) tb ev') : Snd K kap xi (RlE K kap) (fun W => tOwnIx K kap c m W (ta W) (tb W)) (vOwnIx c m ev ev') := by
  intro W F H sg de O Q R hp
  refine ha.bind R hp fun x d F1 H1 de1 O1 R1 g1 r _ hp => ?_
  refine hb.bind R1 hp fun y d' F2 H2 de2 O2 R2 g2 r' _ hp => ?_
  split at hp
  · rename_i hc
    have r2 : Rep K kap F2 x d := Rep.mono g2.ex r
    refine ⟨?_, ?_⟩
    · cases d with
      | obj c' fs =>
        have e : c' = c := by simpa [isC] using hc
        subst e
        cases r2 with
        | obj h n q => exact ⟨_, _, _, rfl, R2.sub _ _ h⟩
      | _ => cases hc
    · have := call_C (dvs := []) (fun F => Reps.nil) R2 (CAs.v r2 (CAs.v r' .nil)) hp
      simpa using this
  · exact hp.elim
theorem jOwnIx (o : OwnI X.prog X.w X.K X.mg X.base kap k c m) (hr : RoomG k X.A.in1) (tkx : Takes X W) (ha : JE kap xi X W a ta ev) (hb : JE kap xi X W b tb ev')
    (hsl : ∀ x i, subscripted b true (.ref x) i = runValue (.builtin "lifetime.subscript" ⟨[.ref x, i], []⟩) := by intro _ _; with_unfolding_all rfl) : JE kap xi X W (.Subscript a b pos) (fun W => tOwnIx X.K kap c m W (ta W) (tb W)) (vOwnIx c m ev ev') := ⟨by
  refine ⟨fun pins s σ H Q I h => ?_⟩
  refine Subscript_ (binT ha.p hb.p I (R := fun x y H2 => (∃ a dx fs, x = .ref a ∧ H2 a = some (.ins (kap c) dx fs)) ∧ spD X.K kap 2 none m [x, y] H2 Q (WE W σ)) h fun v u s2 x y H2 I2 rx ry q => ?_)
  obtain ⟨⟨p, dx, fs, rfl, hp⟩, hsp⟩ := q
  cases rx
  obtain ⟨mA, J, _⟩ := ins_get I2.hok hp
  obtain ⟨od, J, _⟩ := J.look
  obtain ⟨mm, hF⟩ := I2.fr
  refine PySem.W.sub_K hF I2.ok.mod.kin J o.hs o.hfn o.hf ?_ (hsl _ _)
  have hl : o.g.dvs = [] := by
    have := o.g.rs (fun _ => none)
    cases h : o.g.dvs with
    | nil => rfl
    | cons v r => rw [h] at this; cases this
  have r2 : Vals ([V.ref p, y] ++ o.g.dvs) ([Value.ref p, u] ++ o.g.ds) := Vals.append (.cons rfl (.cons ry .nil)) o.g.vs
  have e0 : Env0 X.prog X.w X.K X.mg X.base X.A.in1 X.stack s2 H2 := by
    have e := I2.env0
    exact ⟨e.frames, e.mod, e.bs, e.bsz, e.funs, e.frf, e.hok, e.bare⟩
  have hsp2 : spD X.K kap 2 none m ([V.ref p, y] ++ o.g.dvs) H2 Q (WE W σ) := by rw [hl]; exact hsp
  refine wpAny_call (codeAny_mono (o.g.ok.run X.A.in1 X.stack s2 H2 ⟨[.ref p, u], []⟩ ([Value.ref p, u] ++ o.g.ds) ([V.ref p, y] ++ o.g.dvs) _ _ hr e0 (o.g.bi s2 [.ref p, u] I2.kIn (by rw [← r2.length]; exact o.g.ok.len _ _ _ _ hsp2)) r2 hsp2) fun r s' hq => ?_)
  cases r with
  | error e => exact passAt tkx σ pins H2 s2 e s' I2 hq
  | ok fl => cases fl with
    | ret u => exact I2.after hq
    | next => exact hq.elim
    | brk => exact hq.elim
    | cont => exact hq.elim, snd_ownIx ha.s hb.s⟩
end
end DL

set_option maxRecDepth 100000
set_option maxHeartbeats 2000000
set_option autoImplicit false
/-! a thing of our own lent to a call that gives back a list of flat data -/
namespace DL
open PySem L2 PySem.Spec PyProof.Rows
mutual
def flD : D → Bool
  | .non => true
  | .bl _ => true
  | .int _ => true
  | .str _ => true
  | .tup ds => flDs ds
  | _ => false
def flDs : List D → Bool
  | [] => true
  | d :: ds => flD d && flDs ds
end
/-- F' without what is ours -/
noncomputable def offO (F' : Hp) (O : Own?) : Hp := fun a => open Classical in if ∃ i, O i = some a then none else F' a
section
variable {K : PySem.W.Frag} {kap : Nat → Addr} {F' : Hp} {O : Own?}
mutual
theorem fl_rep (hO : ∀ i a, O i = some a → ∀ vs, ¬ Rd F' a (.tup vs)) : ∀ {v : V} {d : D}, Rep K kap F' v d → flD d = true → Rep K kap (offO F' O) v d
  | _, _, .non, _ => .non
  | _, _, .bl b, _ => .bl b
  | _, _, .int i, _ => .int i
  | _, _, .str s, _ => .str s
  | _, _, .tup (a := a) (vs := vs) h r, e => by
    refine .tup ?_ (fl_reps hO r e)
    have key : ∀ u, F' a = some u → (u = .tup vs ∨ ∃ o, u = .frz o (.tup vs)) → offO F' O a = some u := fun u hu hh => by
      unfold offO
      split
      · rename_i hz
        obtain ⟨i, hi⟩ := hz
        refine absurd ?_ (hO i a hi vs)
        rcases hh with rfl | ⟨o, rfl⟩
        · exact .inl hu
        · exact .inr ⟨o, hu⟩
      · exact hu
    rcases h with (h | ⟨o, h⟩) | h
    · exact .inl (.inl (key _ h (.inl rfl)))
    · exact .inl (.inr ⟨o, key _ h (.inr ⟨o, rfl⟩)⟩)
    · exact .inr h
  | _, _, .lst _ _, e => by cases e
  | _, _, .scr _ _, e => by cases e
  | _, _, .dk _ _ _, e => by cases e
  | _, _, .dn _ _ _ _ _ _ _, e => by cases e
  | _, _, .obj _ _ _, e => by cases e
  | _, _, .clsB _, e => by cases e
  | _, _, .clsO _, e => by cases e
theorem fl_reps (hO : ∀ i a, O i = some a → ∀ vs, ¬ Rd F' a (.tup vs)) : ∀ {vs : List V} {ds : List D}, Reps K kap F' vs ds → flDs ds = true → Reps K kap (offO F' O) vs ds
  | _, _, .nil, _ => .nil
  | _, _, .cons h r, e => by
    rw [flDs, Bool.and_eq_true] at e
    exact .cons (fl_rep hO h e.1) (fl_reps hO r e.2)
end
end

def flatL (de : DEnv) : Fo → Rs D
  | .retF (.lst ds) none => if flDs ds = true then .ok (.lst ds) de else .bad
  | .ret d none => if flD d = true then .ok d de else .bad
  | _ => .bad
def callL (n : Nat) (m : List D → Fo) (dcs : List D) (cs : List CA) (de : DEnv) : Rs D := match argB de cs with
  | some ds => if ds.length + dcs.length = n then flatL de (m (ds ++ dcs)) else .bad
  | none => .bad
def wCallL (n : Nat) (m : List D → Fo) (dcs : List D) (ea : DEnv → Rs (List CA)) (de : DEnv) : Rs D := (ea de).bind fun cs de1 => callL n m dcs cs de1
section
variable {K : PySem.W.Frag} {kap : Nat → Addr} {xi : Xi} {F H : Hp} {sg : L2.St} {de : DEnv} {O : Own?} {W : WX}
def notT : HO → Bool
  | .tup _ => false
  | .frz _ _ => false
  | _ => true
theorem own_not (R : RS K kap xi F H sg de O) {i : Nat} {a : Addr} (h : O i = some a) : ∃ o, H a = some o ∧ notT o = true := by
  obtain ⟨s, d, h1, h2⟩ := R.onl i a h
  obtain ⟨q, k1, _, _, k4⟩ := R.ow i s d h1 h2
  rw [h] at k1
  cases k1
  cases d with
  | lst ds => obtain ⟨vs, g, _⟩ := k4; exact ⟨_, g, rfl⟩
  | dk ds => obtain ⟨vs, g, _⟩ := k4; exact ⟨_, g, rfl⟩
  | dn ds => obtain ⟨o, xs, vs, g, _⟩ := k4; exact ⟨_, g, rfl⟩
  | obj c fs => obtain ⟨dx, vs, g, _⟩ := k4; exact ⟨_, g, rfl⟩
  | _ => exact k4.elim
/-- the state behind such a call -/
theorem lent (R : RS K kap xi F H sg de O) {F' H' : Hp} {q : Option D} (f : FPost K kap (allF F H O) H F' H' none q) :
    RS K kap xi (offO F' O) H' sg de O ∧ Go F H de O (offO F' O) H' de O ∧ (∀ i a, O i = some a → ∀ vs, ¬ Rd F' a (.tup vs)) ∧ Same (offO F' O) H' := by
  have hk : ∀ a o, H a = some o → H' a = some o := fun a o h => f.keep a o h (by simp)
  have up : Same F (offO F' O) := fun a u e => by
    unfold offO
    split
    · rename_i hz
      obtain ⟨i, hi⟩ := hz
      rw [R.offF hi] at e
      cases e
    · exact f.ex a u (allF_up R a u e)
  have off : ∀ i p, O i = some p → offO F' O p = none := fun i p h => by
    unfold offO
    rw [if_pos ⟨i, h⟩]
  have sub : Same (offO F' O) H' := fun a u e => by
    unfold offO at e
    split at e
    · cases e
    · exact f.sub a u e
  refine ⟨R.keepO up sub fun i p h => ⟨?_, off i p h⟩, ⟨up, fun a o h _ => hk a o h, fun i a h => .inl ⟨i, h⟩, f.dom, fun a h => ?_, fun i d h => ⟨rfl, d, h⟩⟩, fun i a h vs => ?_, sub⟩
  · obtain ⟨o, ho, _⟩ := own_not R h
    rw [ho]
    exact hk p o ho
  · have h2 : F' a ≠ none := fun z => h (by unfold offO; split <;> first | rfl | exact z)
    rcases f.fnew a h2 with z | z
    · unfold allF at z
      split at z
      · rename_i hz; exact .inr (.inr hz)
      · exact .inl z
    · exact .inr (.inl z)
  · obtain ⟨o, ho, hn⟩ := own_not R h
    have h1 : allF F H O a = some o := by unfold allF; rw [if_pos ⟨i, h⟩]; exact ho
    have h2 := f.ex a o h1
    intro rd
    rcases rd with rd | ⟨ob, rd⟩
    · rw [h2] at rd; cases rd; cases hn
    · rw [h2] at rd; cases rd; cases hn
theorem call_L {n : Nat} {m : List D → Fo} {dcs : List D} {cs : List CA} {vs dvs : List V} {Q : VK} (hd : ∀ F, Reps K kap F dvs dcs) (R : RS K kap xi F H sg de O) (A : CAs K kap F sg vs cs)
    (hp : PE1 K kap (RlE K kap) xi F H sg de O W Q (callL n m dcs cs de)) : spD K kap n none m (vs ++ dvs) H Q (WE W sg) := by
  unfold callL at hp
  split at hp
  · rename_i ds e
    split at hp
    · rename_i hn
      have rr := (argB_reps R A e).append (hd _)
      refine ⟨allF F H O, ds ++ dcs, none, by rw [List.length_append]; exact hn, allF_sub R, ⟨rr.length, fun i d h _ => rr.get h, fun k d z _ => (by cases z), fun z => absurd rfl z⟩, ?_⟩
      cases eo : m (ds ++ dcs) with
      | ret d q =>
        rw [eo] at hp
        cases q with
        | some q => exact hp.elim
        | none =>
          unfold flatL at hp
          dsimp only at hp
          split at hp
          · rename_i hs
            intro v F' H' f r
            obtain ⟨R2, g2, hO, s2⟩ := lent R f
            exact hp v _ H' O R2 g2 (fl_rep hO r hs) fun _ z => z.elim
          · exact hp.elim
      | retF d q =>
        rw [eo] at hp
        cases q with
        | some q => cases d <;> exact hp.elim
        | none =>
          cases d with
          | lst xs =>
            unfold flatL at hp
            dsimp only at hp
            split at hp
            · rename_i hs
              intro p F' H' f hf ho hH _
              obtain ⟨R2, g2, hO, s2⟩ := lent R f
              obtain ⟨ws, w1, w2⟩ := ho
              have hf2 : offO F' O p = none := by unfold offO; split <;> first | rfl | exact hf
              have e1 : Same (offO F' O) (upd (offO F' O) p (.lst ws)) := same_upd hf2
              have hp2 : ∀ i q, O i = some q → q ≠ p := fun i q h z => by
                obtain ⟨o, ho, _⟩ := own_not R h
                rw [z, hH] at ho
                cases ho
              have s3 : Same (upd (offO F' O) p (.lst ws)) H' := fun a u z => by
                by_cases c : a = p
                · subst c; rw [upd_same] at z; cases z; exact w1
                · rw [upd_ne c] at z; exact s2 a u z
              have R3 : RS K kap xi (upd (offO F' O) p (.lst ws)) H' sg de O := R2.keepO e1 s3 fun i q h => ⟨rfl, by rw [upd_ne (hp2 i q h)]; unfold offO; rw [if_pos ⟨i, h⟩]⟩
              have g3 : Go (offO F' O) H' de O (upd (offO F' O) p (.lst ws)) H' de O → Go F H de O (upd (offO F' O) p (.lst ws)) H' de O := fun g => g2.trans g
              refine hp (.ref p) _ H' O R3 ⟨g2.ex.trans e1, g2.keep, g2.new, g2.dom, fun a h => ?_, g2.pin⟩ (.lst upd_same ((fl_reps hO w2 hs).mono e1)) fun _ z => z.elim
              by_cases c : a = p
              · subst c; exact .inr (.inl hH)
              · rw [upd_ne c] at h; exact g2.fnew a h
            · exact hp.elim
          | _ => exact hp.elim
      | ex c fs q => rw [eo] at hp; exact hp.elim
      | bad => rw [eo] at hp; exact hp.elim
    · exact hp.elim
  · exact hp.elim
end
section
variable {kap : Nat → Addr} {xi : Xi} {X : Cx} {W : WX} {e : Expr} {es : List Expr} {ta : WX → TA} {ea : DEnv → Rs (List CA)} {pos p : Pos} {k n : Nat} {x : Str} {md : List D → Fo} {dcs : List D}
theorem gCallL (g : GF X.prog X.w X.K X.mg X.base kap x k n none md dcs) (hr : RoomG k X.A) (tk : Takes X W) (ha : JC kap xi X W (e :: es) ta ea) (hg : Gl X x := by rfl) (hdb : (x == ("__debug__" : Str)) = false := by decide)
    (he : starEach (e :: es) X.env = (false, eval e X.env) :: starEach es X.env := by rfl) (hpl : (backTo pos (starEach es X.env)).any (·.1) = false := by rfl) :
    JE kap xi X W (.Call (.Name x p) (e :: es) [] pos) (fun W => tCallSD (spD X.K kap n none md) g.g.dvs (WE W) (ta W)) (wCallL n md dcs ea) :=
  ⟨pe_callG g.g.ok hr hg g.hm g.g.kp g.g.bi g.g.vs (fun s => passAt tk s) ha.p hdb he hpl, by
    intro W F H sg de O Q R hp
    refine ha.s.bind R hp fun vs cs F1 H1 de1 O1 R1 g1 A _ hp => ?_
    exact call_L g.g.rs R1 A hp⟩
end
end DL

set_option maxRecDepth 100000
set_option maxHeartbeats 2000000
set_option autoImplicit false
/-! {k: v for ..}, the keys nested tuples -/
namespace DL
open PySem L2 PySem.Spec PyProof.Rows
/-- what a store into the new dict asks, and what it leaves -/
def StN (K : PySem.W.Frag) (D : Addr) (y z : V) (H5 : Hp) (Nx : Hp → Prop) : Prop := ∃ (b : Addr) (xs : List NEnt) (k : NestedKey), y = .ref b ∧ DAt K H5 D xs ∧ KA K H5 k (.ref b) ∧ okK k = true ∧ xs.length < sizeLine ∧
  ∀ (o' : Obj) (u : Value), RelV z u → (D == sysModules) = false → DOb o' (storedH xs k b u) → Nx (upd H5 D (exO D o'))
theorem n_dictSet {X : Cx} {pins : List (Addr × Obj)} {σ : L2.St} {H : Hp} {s : Shared} {D : Addr} {y z : V} {u r : Value} {Nx : Hp → Prop} {E : Value → Shared → Prop} {Q : Unit → Shared → Prop} (hu : X.A.units + 64 < cLine) (I : Inv X pins σ H s) (ry : RelV y u) (rz : RelV z r) (h : StN X.K D y z H Nx)
    (hq : ∀ H' s', Inv X pins σ H' s' → Nx H' → Q () s') : wpAny (model X.prog X.w) X.A (dictSet D u r) Q E s := by
  obtain ⟨b, xs, k, rfl, d, hb, ok, hl, hn⟩ := h
  cases (show u = Value.ref b from ry)
  obtain ⟨dd, hm, hz, mu, hok⟩ := dat_of I d
  refine wpAny_dictSet_heap (hsz := hz) (show X.A.units + 8 < cLine by omega) (key_is I hb ok) dd fun h' dd' hs => ?_
  obtain ⟨q, es, ep, hq', h2, h3, h4, _, h5⟩ := dd'
  have hok' := storedH_ok (b := b) (u := r) hok ok
  have dob : DOb q (storedH xs k b r) := ⟨h2, ⟨es, ep, h3, by rw [h4, ents_eq hok']⟩, h5, hok', by
    have := storedH_len xs k b r
    omega⟩
  exact hq _ _ (d_write I mu hs ⟨q, hq'⟩ (exO_ok hq')) (hn q r rz hm dob)
def tDcN (K : PySem.W.Frag) (wi : TI) (g : TG) (tt : TT) (tk tv : TE) (vs : List Nat) : TE := fun σ H Q => wi σ H fun J H1 => ∀ D, H1 D = none → ∃ W : Nat → Nat → Hp → Prop, (∃ m, W 0 m (upd H1 D (.dK []))) ∧ ∀ i m H, W i m H →
  (J.stop i H ∧ Q (.ref D) H) ∨ (J.go i H ∧ ∃ Nx : Hp → Prop, (∀ H', Nx H' → ∃ m', m' < m ∧ W (i + 1) m' H') ∧ ∀ x H', J.yld i H x H' → g x (wipe σ vs) H' fun σ2 H2 => wipe σ2 vs = wipe σ vs ∧ tt σ2 H2 fun b H3 =>
    if b = true then tk σ2 H3 fun y H4 => tv σ2 H4 fun z H5 => StN K D y z H5 Nx else Nx H3)
section
variable {X : Cx}
theorem dcn_core {pins : List (Addr × Obj)} {s : Shared} {σ : L2.St} {H : Hp} {Q : VK} {kx vx tg iter : Expr} {ifs : List Expr} {scope : Scope} {own : List (Str × Nat)} {pos pos' : Pos} {wi : TI} {g : TG} {tt : TT} {tk tv : TE} {use : Option (Value → Sem Unit)} {Qf : Value → Shared → Prop}
    (hu : X.A.units + 64 < cLine) (hc : X.calm = true) (hN : X.N.Nodup) (I : Inv X pins σ H s) (hi : PI X tg iter wi) (ok : BlkOk X.N X.env.scope scope own)
    (hg : ∀ (s : Shared) (H : Hp) (C : Addr) (cl : List (Str × Addr)) (fp : List Addr), PG (X.blk s H scope (compEnvC scope cl C X.env) fp) tg g) (ht : ∀ (s : Shared) (H : Hp) (C : Addr) (cl : List (Str × Addr)) (fp : List Addr), PTs (X.blk s H scope (compEnvC scope cl C X.env) fp) ifs tt)
    (hk : ∀ (s : Shared) (H : Hp) (C : Addr) (cl : List (Str × Addr)) (fp : List Addr), PE (X.blk s H scope (compEnvC scope cl C X.env) fp) kx tk)
    (he : ∀ (s : Shared) (H : Hp) (C : Addr) (cl : List (Str × Addr)) (fp : List Addr), PE (X.blk s H scope (compEnvC scope cl C X.env) fp) vx tv) (hs : ∀ x, foldedSetIterable iter X.env x = pure x)
    (h : tDcN X.K wi g tt tk tv (own.map (·.2)) σ H Q)
    (fin : ∀ D C s' m H', Inv X pins σ H' s' → Q (.ref D) H' → s'.heap.Ns C m → FpOk X pins H' C → compPost (model X.prog X.w) X.A X.xe use Qf (.ref D) C (.ok .next) s') :
    wpAny (model X.prog X.w) X.A (comprehension (.DictComp kx vx [⟨tg, iter, ifs, 0⟩] scope pos) scope X.env pos' newDict false (eval iter X.env) use) Qf X.xe s := by
  have free : ∀ y ∈ scope.names, y.2 = .free → ∃ c, X.env.cells.lookup y.1 = some c := fun y hy e => (ok.free y hy e).elim (fun k => I.ok.has _ (.inl k)) fun k => I.ok.has _ (.inr k)
  refine wpAny_comprehension_free (use := use) rfl hs (closure_ok free) ok.kind (fun y hy e => by rw [ok.uniq y hy, e])
    (thn (hi.run pins s σ H _ I h) fun xv s1 hx => thn hx fun itv s2 h2 => ?_)
  obtain ⟨it, fp, tn, J, H2, e, I2, T, st2, f2, q⟩ := h2
  subst e
  refine wpAny_newObj_type (newEnv_comp ?_)
  generalize hD : s2.heap.objs.size = D
  obtain ⟨W, ⟨m0, w0⟩, turn⟩ := q D (I2.hok.fresh (Nat.le_of_eq hD))
  have sz : ∀ b ∈ fp, b < s2.heap.objs.size := fun b hb => let ⟨_, e, _⟩ := T.obj _ _ st2 b hb; Heap.lt_size e
  generalize e3 : ({ s2 with heap := s2.heap.push { cls := .type "dict", data := .dict #[] } } : Shared) = s3
  have h3 : s3.heap = s2.heap.push { cls := .type "dict", data := .dict #[] } := by rw [← e3]
  have I3 : Inv X pins σ (upd H2 D (.dK [])) s3 := by
    rw [← e3]
    refine I2.laid (t' := s2.toks) (fun b o e => Heap.get?_push_of_some _ e) (Nat.le_of_eq hD) ?_
    rw [← hD]
    exact dk_empty s2.heap I2.big
  have f3 : ∀ b ∈ fp, FpOk X pins (upd H2 D (.dK [])) b ∧ b < s3.heap.objs.size := fun b hb => by
    refine ⟨⟨?_, (f2 b hb).2⟩, by rw [h3, Heap.size_push]; exact Nat.lt_succ_of_lt (sz b hb)⟩
    rw [upd_ne (by rw [← hD]; exact Nat.ne_of_lt (sz b hb))]
    exact (f2 b hb).1
  have st3 : tn 0 s3.heap := T.keep _ _ _ st2 fun b _ o e => by rw [h3]; exact Heap.get?_push_of_some _ e
  have I4 := block_start I3 ok hN f3
  have pg := hg s3 (upd H2 D (.dK [])) s3.heap.objs.size (cellsFrom (s3.heap.objs.size + 1) scope.names (cloFrom X.env.cells scope.names [])) fp
  have pt := ht s3 (upd H2 D (.dK [])) s3.heap.objs.size (cellsFrom (s3.heap.objs.size + 1) scope.names (cloFrom X.env.cells scope.names [])) fp
  have pk := hk s3 (upd H2 D (.dK [])) s3.heap.objs.size (cellsFrom (s3.heap.objs.size + 1) scope.names (cloFrom X.env.cells scope.names [])) fp
  have pe := he s3 (upd H2 D (.dK [])) s3.heap.objs.size (cellsFrom (s3.heap.objs.size + 1) scope.names (cloFrom X.env.cells scope.names [])) fp
  show codeAny _ _ (.compStart (.DictComp kx vx [⟨tg, iter, ifs, 0⟩] scope pos) 0 (.ref it) (.ref D) (compEnvC scope (cellsFrom (s3.heap.objs.size + 1) scope.names (cloFrom X.env.cells scope.names [])) s3.heap.objs.size X.env)) (compPost (model X.prog X.w) X.A X.xe use Qf (.ref D) s3.heap.objs.size) { s3 with heap := pushCells (s3.heap.push { cls := .type "dict", data := .dict #[] }) scope.names }
  have nfp : ∀ b ∈ fp, (upd H2 D (.dK [])) b = none := fun b hb => (f3 b hb).1.1
  generalize hce : compEnvC scope (cellsFrom (s3.heap.objs.size + 1) scope.names (cloFrom X.env.cells scope.names [])) s3.heap.objs.size X.env = ce at I4 pg pt pk pe ⊢
  have cL : ce.locals = s3.heap.objs.size := by subst hce; rfl
  generalize hH3 : upd H2 D (.dK []) = H3 at I3 I4 pg pt pk pe w0 nfp f3
  generalize e4 : ({ s3 with heap := pushCells (s3.heap.push { cls := .type "dict", data := .dict #[] }) scope.names } : Shared) = s4 at I4 ⊢
  have st4 : tn 0 s4.heap := T.keep _ _ _ st3 fun b _ o e => by rw [← e4]; exact pushCells_keeps _ _ _ _ (Heap.get?_push_of_some _ e)
  have stat : ∀ {σ' : L2.St} {H' : Hp} {s' : Shared}, Inv (X.blk s3 H3 scope ce fp) [] σ' H' s' → (∀ b ∈ fp, H' b = none) → ∀ b ∈ fp, FpOk (X.blk s3 H3 scope ce fp) [] H' b := fun {σ' H' s'} I' hn b hb =>
    ⟨hn b hb, (I'.ok.exf b hb).1, I'.ok.exfs b hb, .inl hb, fun x c e => (I'.ok.exf b hb).2 x c e, fun p hp => absurd (show p ∈ ([] : List (Addr × Obj)) ++ [] from hp) (by simp)⟩
  have loop : codeAny (model X.prog X.w) X.A (.compLoop (.DictComp kx vx [⟨tg, iter, ifs, 0⟩] scope pos) 0 (.ref it) (.ref D) ce) (compPost (model X.prog X.w) X.A X.xe use Qf (.ref D) s3.heap.objs.size) s4 := by
    refine compLoop_anyD (fun n s' => ∃ i H', Inv (X.blk s3 H3 scope ce fp) [] (wipe σ (own.map (·.2))) H' s' ∧ tn i s'.heap ∧ (∀ b ∈ fp, H' b = none) ∧ W i n H') ?_ m0 ⟨0, H3, I4, st4, nfp, w0⟩
    rintro n s5 ⟨i, H5, I5, st5, n5, w5⟩
    rcases turn i n H5 w5 with ⟨stop, qq⟩ | ⟨go, Nx, hNx, step⟩
    · refine thnF (T.done (X.blk s3 H3 scope ce fp) rfl rfl rfl hc i [] s5 _ H5 (fun _ _ => False) I5 (stat I5 n5) st5 stop) fun r s6 ⟨hr, I6⟩ => ?_
      subst hr
      have I7 : Inv X pins σ H5 s6 := I3.call' (ch := fp) I6.os I6.base I6.hok I6.bare fun b hb => ⟨(f3 b hb).1.2.2.2.1, (f3 b hb).1.2.1, (f3 b hb).1.2.2.2.2.1, (f3 b hb).1.2.2.2.2.2⟩
      have nC : H5 s3.heap.objs.size = none := by
        have z : H5 ce.locals = none := I6.free
        rwa [cL] at z
      obtain ⟨m, hn, _⟩ := I6.loc
      have hn : s6.heap.Ns ce.locals m := hn
      rw [cL] at hn
      exact fin D s3.heap.objs.size s6 m H5 I7 qq hn (I3.fpOk (Nat.le_refl _) nC)
    · refine thnF (T.item (X.blk s3 H3 scope ce fp) rfl rfl rfl hc i [] s5 _ H5 (fun _ _ => False) I5 (stat I5 n5) st5 go) fun r s6 ⟨u, hr, h6⟩ => ?_
      subst hr
      refine thnF h6 fun _ s7 ⟨x, H7, I7, r7, y7, st7, n7⟩ => ?_
      refine thnF (pg.run _ s7 _ H7 x u _ (I7.pinned (stat I7 n7) (T.obj _ _ st7)) r7 (step x H7 y7)) fun _ s8 ⟨σ8, H8, I8, hw8, q8⟩ => ?_
      refine thnF (pt.run _ s8 σ8 H8 _ I8 q8) fun b s9 ⟨H9, I9, q9⟩ => ?_
      have back : ∀ {s' : Shared} {H' : Hp}, Inv (X.blk s3 H3 scope ce fp) ([] ++ pinsAt fp s7.heap) σ8 H' s' → Nx H' → ∃ m, m < n ∧ ∃ i H', Inv (X.blk s3 H3 scope ce fp) [] (wipe σ (own.map (·.2))) H' s' ∧ tn i s'.heap ∧ (∀ b ∈ fp, H' b = none) ∧ W i m H' := fun {s' H'} I' nx => by
        obtain ⟨m', hm, w'⟩ := hNx H' nx
        have pin' : ∀ b ∈ fp, ∀ o, s7.heap.get? b = some o → s'.heap.get? b = some o ∧ H' b = none := fun b hb o e =>
          let z := I'.pin (b, o) (List.mem_append_right _ (List.mem_append_right _ (mem_pinsAt hb e)))
          ⟨z.1, z.2.1⟩
        have hl : (wipe σ (own.map (·.2))).length = σ8.length := by rw [← hw8, wipe_length]
        refine ⟨m', hm, i + 1, H', (I'.unpinned (pins := [])).weak hl (fun j v e => ?_), T.keep _ _ _ st7 fun b hb o e => (pin' b hb o e).1, fun b hb => ?_, w'⟩
        · rw [← hw8] at e
          exact (wipe_some e).1
        · obtain ⟨o, e, _⟩ := T.obj _ _ st7 b hb
          exact (pin' b hb o e).2
      cases b with
      | false =>
        simp only [Bool.false_eq_true, if_false] at q9 ⊢
        exact back I9 q9
      | true =>
        simp only [if_true] at q9 ⊢
        refine thnF (pk.run _ s9 σ8 H9 _ I9 q9) fun z s10 ⟨yk, H10, I10, r10, q10⟩ => thnF (pe.run _ s10 σ8 H10 _ I10 q10) fun z2 s11 ⟨yv, H11, I11, r11, q11⟩ => ?_
        exact n_dictSet (X := X.blk s3 H3 scope ce fp) (Nx := Nx) hu I11 r10 r11 q11 fun H' s' I' nx => back I' nx
  exact codeAny_compStart_dict loop (T.self X.A 0 _ _ _ st4 loop)
theorem pe_dcn {kx vx tg iter : Expr} {ifs : List Expr} {scope : Scope} {own : List (Str × Nat)} {pos : Pos} {wi : TI} {g : TG} {tt : TT} {tk tv : TE} (hu : X.A.units + 64 < cLine) (hc : X.calm = true) (hN : X.N.Nodup) (hi : PI X tg iter wi) (ok : BlkOk X.N X.env.scope scope own)
    (hg : ∀ (s : Shared) (H : Hp) (C : Addr) (cl : List (Str × Addr)) (fp : List Addr), PG (X.blk s H scope (compEnvC scope cl C X.env) fp) tg g) (ht : ∀ (s : Shared) (H : Hp) (C : Addr) (cl : List (Str × Addr)) (fp : List Addr), PTs (X.blk s H scope (compEnvC scope cl C X.env) fp) ifs tt)
    (hk : ∀ (s : Shared) (H : Hp) (C : Addr) (cl : List (Str × Addr)) (fp : List Addr), PE (X.blk s H scope (compEnvC scope cl C X.env) fp) kx tk)
    (he : ∀ (s : Shared) (H : Hp) (C : Addr) (cl : List (Str × Addr)) (fp : List Addr), PE (X.blk s H scope (compEnvC scope cl C X.env) fp) vx tv) (hs : ∀ x, foldedSetIterable iter X.env x = pure x := by intro _; rfl) :
    PE X (.DictComp kx vx [⟨tg, iter, ifs, 0⟩] scope pos) (tDcN X.K wi g tt tk tv (own.map (·.2))) := by
  refine ⟨fun pins s σ H Q I h => ?_⟩
  rw [arm_eval_DictComp]
  refine dcn_core hu hc hN I hi ok hg ht hk he hs h fun D C s' m H' I' q hn f => ⟨m, hn, fun h'' sb => ?_⟩
  obtain ⟨f0, f1, f2, f3, f4, f5⟩ := f
  exact ⟨.ref D, H', I'.turned (t' := s'.toks) (fun b o hb e => (sb.2 b hb).trans e) f0 f1 f3 f4 f5, rfl, q⟩
end

/-! ### as data -/
def dnD : List (D × D) → D
  | [] => .dk []
  | p :: r => .dn (p :: r)
def dcGo (vs : List Nat) (g : D → DEnv → Option DEnv) (tt : DEnv → Rs Bool) (tk tv : DEnv → Rs D) : List D → List (D × D) → DEnv → Option (List (D × D) × DEnv)
  | [], acc, de => some (acc, de)
  | d :: r, acc, de => (g d de).bind fun de1 => match tt de1 with
    | .ok true de2 => (match tk de2 with
      | .ok kd de3 => (match tv de3 with
        | .ok z de4 => (keyN kd).bind fun kk => dcGo vs g tt tk tv r (putN acc kk kd z) (wipeD de4 vs)
        | _ => none)
      | _ => none)
    | .ok false de2 => dcGo vs g tt tk tv r acc (wipeD de2 vs)
    | _ => none
def vDc (vs : List Nat) (ei : DEnv → Rs (List D)) (g : D → DEnv → Option DEnv) (tt : DEnv → Rs Bool) (tk tv : DEnv → Rs D) (de : DEnv) : Rs D :=
  (ei de).bind fun ds de1 => if plainAt de1 vs = true ∧ ds.length ≤ 1000000 then (match dcGo vs g tt tk tv ds [] (wipeD de1 vs) with
    | some (xs, de2) => .ok (dnD xs) (restD de1 vs de2)
    | none => .bad) else .bad
theorem ent_dnD (xs : List (D × D)) : entN (dnD xs) = some xs := by cases xs <;> rfl
theorem dnD_put (xs : List (D × D)) (k : NestedKey) (kd z : D) : dnD (putN xs k kd z) = .dn (putN xs k kd z) := by
  cases h : putN xs k kd z with
  | nil => cases xs with
    | nil => cases h
    | cons p r => unfold putN at h; split at h <;> cases h
  | cons p r => rfl
section
variable {K : PySem.W.Frag} {kap : Nat → Addr} {xi : Xi} {wi : WX → TI} {g : TG} {is vs : List Nat} {tt : WX → TT} {tk tv : WX → TE} {ei : DEnv → Rs (List D)} {eg : D → DEnv → Option DEnv} {et : DEnv → Rs Bool} {ek ee : DEnv → Rs D}
/-- the store, told of the data -/
theorem stN_of {F H : Hp} {Dn : Addr} {y z : V} {kd x0 : D} {kk : NestedKey} {acc : List (D × D)} {Nx : Hp → Prop} (sub : Same F H) (hF : F Dn = none) (ho : Own K kap F H Dn (dnD acc)) (hl : acc.length < 16777216) (hk : Rep K kap F y kd) (hkk : keyN kd = some kk) (hz : Rep K kap F z x0)
    (h : ∀ o, Own K kap F (upd H Dn o) Dn (dnD (putN acc kk kd x0)) → Nx (upd H Dn o)) : StN K Dn y z H Nx := by
  obtain ⟨c, rfl, k1, ok⟩ := keyN_rep sub hk hkk
  obtain ⟨a, xs, ws, ea, hat, g4, g5, g6, g7⟩ := entN_at sub (.inr ⟨Dn, rfl, hF, ho⟩) (ent_dnD acc)
  cases ea
  have hll : xs.length = acc.length := by simpa using congrArg List.length g5
  have hnd : (xs.map (·.1)).Nodup := by
    rcases hat with ⟨_, rfl⟩ | ⟨o, _, d', _, _⟩
    · exact List.nodup_nil
    · exact d'.nod
  refine ⟨c, xs, kk, rfl, hat, k1, ok, by rw [hll, line_eq]; exact hl, fun o' u' ru hm dob => ?_⟩
  rw [storedH_eq kk c u' hnd] at dob
  obtain ⟨us, w1, w2, w3, w4⟩ := put_at hk hkk ru hz g4 g5 g6 g7
  refine h (exO Dn o') ?_
  rw [dnD_put]
  exact ⟨o', _, us, upd_same, dob, hm, w1, w2, w3, w4⟩
theorem snd_dc (hi : Snd K kap xi (RlI K kap) wi ei) (hg : SndG K kap xi g is eg) (his : ∀ i ∈ is, i ∈ vs) (ht : Snd K kap xi RlB tt et) (hk : Snd K kap xi (RlE K kap) tk ek) (he : Snd K kap xi (RlE K kap) tv ee) :
    Snd K kap xi (RlF K kap) (fun W => tDcN K (wi W) g (tt W0) (tk W0) (tv W0) vs) (vDc vs ei eg et ek ee) := by
  intro W F H sg de O Q R hp
  refine hi.bind R hp fun J ds F1 H1 de1 O1 R1 g1 ij _ hp => ?_
  split at hp
  · rename_i hh
    obtain ⟨hpl, hlen⟩ := hh
    obtain ⟨Ow, Rw, gw⟩ := R1.wipe vs
    cases el : dcGo vs eg et ek ee ds [] (wipeD de1 vs) with
    | none => rw [el] at hp; exact hp.elim
    | some p0 =>
      obtain ⟨xs, de2⟩ := p0
      rw [el] at hp
      intro Dn hD
      have hDF : F1 Dn = none := R1.sub.free hD
      have hDO : ∀ i, Ow i ≠ some Dn := Rw.nofresh hD
      have R0 := Rw.side (o := .dK []) hDF hDO
      refine ⟨fun i m Hc => m = ds.length - i ∧ i ≤ ds.length ∧ ∃ Fc dc Oc accD, Same F1 Fc ∧ RS K kap xi Fc Hc (L2.wipe sg vs) dc Oc ∧ Go F1 H1 (wipeD de1 vs) Ow Fc Hc dc Oc ∧ Own K kap Fc Hc Dn (dnD accD) ∧ Fc Dn = none ∧ (∀ i, Oc i ≠ some Dn) ∧ accD.length ≤ i ∧
        (∀ i ∈ vs, ∀ s, dc[i]? = some s → s = .no) ∧ dc.length = de1.length ∧ dcGo vs eg et ek ee (ds.drop i) accD dc = some (xs, de2),
        ⟨ds.length, by simp, Nat.zero_le _, F1, wipeD de1 vs, Ow, [], Same.refl _, R0, Go.refl.side hD, ⟨[], upd_same, rfl, .nil⟩, hDF, hDO, Nat.le_refl _, fun i hi s e => wipeD_in hi s e, wipeD_len _ _, by simpa using el⟩, ?_⟩
      rintro i m Hc ⟨rfl, hil, Fc, dc, Oc, accD, ex, Rc, gc, hDc, hFc, hOc, hal, hno, hdl, hgo⟩
      obtain ⟨o0, ho0⟩ := hDc.some
      obtain ⟨hstop, hstep⟩ := ij i Fc Hc ex Rc.sub
      by_cases hlt : i < ds.length
      · have hd : ds[i]? = some ds[i] := by simp [hlt]
        obtain ⟨go, hy⟩ := hstep _ hd
        rw [List.drop_eq_getElem_cons hlt] at hgo
        unfold dcGo at hgo
        refine .inr ⟨go, fun H' => ∃ Fc dc Oc accD, Same F1 Fc ∧ RS K kap xi Fc H' (L2.wipe sg vs) dc Oc ∧ Go F1 H1 (wipeD de1 vs) Ow Fc H' dc Oc ∧ Own K kap Fc H' Dn (dnD accD) ∧ Fc Dn = none ∧ (∀ i, Oc i ≠ some Dn) ∧ accD.length ≤ i + 1 ∧
          (∀ i ∈ vs, ∀ s, dc[i]? = some s → s = .no) ∧ dc.length = de1.length ∧ dcGo vs eg et ek ee (ds.drop (i + 1)) accD dc = some (xs, de2), fun H' p' => ⟨ds.length - (i + 1), by omega, rfl, hlt, p'⟩, fun x H' y => ?_⟩
        obtain ⟨F2, n2, s2, r2⟩ := hy x H' y
        have R2 := Rc.new n2 s2
        have g2 : Go Fc Hc dc Oc F2 H' dc Oc := n2.go
        obtain ⟨hD2, hF2, hO2⟩ := g2.notO ho0 hFc hOc
        obtain ⟨dc1, eg1, hgo⟩ := bind_some hgo
        refine hg F2 H' (L2.wipe sg vs) dc Oc x _ dc1 _ R2 r2 eg1 fun sg3 O3 R3 g3 ag al => ?_
        have ew : L2.wipe sg3 vs = L2.wipe sg vs := by
          have h1 : L2.wipe sg3 vs = L2.wipe (L2.wipe sg vs) vs := wipe_eq al fun j hj => ag j fun z => hj (his j z)
          rw [h1]
          exact wipe_eq (wipe_length _ _) fun j hj => wipe_out hj
        refine ⟨ew, ?_⟩
        obtain ⟨hD3, hF3, hO3⟩ := g3.notO hD2 hF2 hO2
        refine ht W0 F2 H' sg3 dc1 O3 _ R3 ?_
        cases e4 : et dc1 with
        | bad => rw [e4] at hgo; cases hgo
        | ex c fs dc2 => rw [e4] at hgo; cases hgo
        | ok b dc2 =>
          rw [e4] at hgo
          intro v F3 H3 O4 R4 g4 rb _
          have rb : v = b := rb
          subst rb
          obtain ⟨hD4, hF4, hO4⟩ := g4.notO hD3 hF3 hO3
          have gA := ((gc.trans g2).trans g3).trans g4
          have ow4 : Own K kap F3 H3 Dn (dnD accD) := hDc.mono (n2.f.trans g4.ex) (hD4.trans ho0.symm)
          cases v with
          | false =>
            refine iteF ?_
            obtain ⟨O5, R5, g5⟩ := R4.wipe vs
            obtain ⟨hD5, hF5, hO5⟩ := g5.notO hD4 hF4 hO4
            rw [ew] at R5
            exact ⟨F3, wipeD dc2 vs, O5, accD, ((ex.trans n2.f).trans g4.ex), R5, gA.trans g5, ow4, hF5, hO5, Nat.le_succ_of_le hal, fun i hi s e => wipeD_in hi s e,
              by rw [← R5.len, wipe_length, R1.len], hgo⟩
          | true =>
            refine iteT (hk W0 F3 H3 sg3 dc2 O4 _ R4 ?_)
            have hgo : (match ek dc2 with
              | .ok kd de3 => (match ee de3 with
                | .ok z de4 => (keyN kd).bind fun kk => dcGo vs eg et ek ee (ds.drop (i + 1)) (putN accD kk kd z) (wipeD de4 vs)
                | _ => none)
              | _ => none) = some (xs, de2) := hgo
            cases e5 : ek dc2 with
            | bad => rw [e5] at hgo; cases hgo
            | ex c fs dc3 => rw [e5] at hgo; cases hgo
            | ok kd dc3 =>
              rw [e5] at hgo
              intro yk F4 H4 O5 R5 g5 rk _
              obtain ⟨hD5, hF5, hO5⟩ := g5.notO hD4 hF4 hO4
              refine he W0 F4 H4 sg3 dc3 O5 _ R5 ?_
              have hgo : (match ee dc3 with
                | .ok z de4 => (keyN kd).bind fun kk => dcGo vs eg et ek ee (ds.drop (i + 1)) (putN accD kk kd z) (wipeD de4 vs)
                | _ => none) = some (xs, de2) := hgo
              cases e6 : ee dc3 with
              | bad => rw [e6] at hgo; cases hgo
              | ex c fs dc4 => rw [e6] at hgo; cases hgo
              | ok x0 dc4 =>
                rw [e6] at hgo
                intro y0 F5 H5 O6 R6 g6 ry _
                obtain ⟨hD6, hF6, hO6⟩ := g6.notO hD5 hF5 hO5
                obtain ⟨kk, hkk, hgo⟩ := bind_some hgo
                have ow6 : Own K kap F5 H5 Dn (dnD accD) := ow4.mono (g5.ex.trans g6.ex) (hD6.trans hD4.symm)
                refine stN_of R6.sub hF6 ow6 (by omega) (rk.mono g6.ex) hkk ry fun o ho => ?_
                have R7 := R6.side (o := o) hF6 hO6
                obtain ⟨O7, R8, g8⟩ := R7.wipe vs
                obtain ⟨hD8, hF8, hO8⟩ := g8.notO upd_same hF6 hO6
                rw [ew] at R8
                have := putN_len accD kk kd x0
                exact ⟨F5, wipeD dc4 vs, O7, putN accD kk kd x0, ((((ex.trans n2.f).trans g4.ex).trans g5.ex).trans g6.ex), R8, (((gA.trans g5).trans g6).side hD).trans g8, ho, hF8, hO8, by omega, fun i hi s e => wipeD_in hi s e,
                  by rw [← R8.len, wipe_length, R1.len], hgo⟩
      · refine .inl ⟨hstop (Nat.le_of_not_lt hlt), ?_⟩
        rw [List.drop_eq_nil_of_le (Nat.le_of_not_lt hlt)] at hgo
        cases hgo
        have Rr := R1.rest hpl ex Rc hno hdl
        refine hp (.ref Dn) Fc Hc Oc Rr ⟨gc.ex, fun a o h n => gc.keep a o h fun j e => ?_, fun j a e => ?_, gc.dom, fun a h => ?_, fun j d' e => ?_⟩ ⟨Dn, rfl, hFc, hDc, hOc⟩ fun p z => by cases z; exact .inl hD
        · exact absurd e (fun _ => by
            rcases gw.new j a e with ⟨k, z⟩ | z
            · exact n k z
            · rw [h] at z; cases z)
        · rcases gc.new j a e with ⟨k, z⟩ | z
          · rcases gw.new k a z with ⟨k2, z2⟩ | z2
            · exact .inl ⟨k2, z2⟩
            · exact .inr z2
          · exact .inr z
        · rcases gc.fnew a h with z | z | ⟨k, z⟩
          · exact .inl z
          · exact .inr (.inl z)
          · rcases gw.new k a z with ⟨k2, z2⟩ | z2
            · exact .inr (.inr ⟨k2, z2⟩)
            · exact .inr (.inl z2)
        · have hj : j ∉ vs := fun hj => by
            have z := restD_in hj _ e
            have l1 := (List.getElem?_eq_some_iff.mp e).1
            rw [restD_len, hdl] at l1
            have p1 : plainS de1[j]? = true := List.all_eq_true.mp hpl j hj
            rw [List.getD_eq_getElem?_getD] at z
            rw [List.getElem?_eq_getElem l1] at p1 z
            have z : Sl.pn d' = de1[j] := by simpa using z
            rw [← z] at p1
            cases p1
          rw [restD_out hj] at e
          obtain ⟨k1, d1, k2⟩ := gc.pin j d' e
          obtain ⟨k3, d3, k4⟩ := gw.pin j d1 k2
          exact ⟨k1.trans k3, d3, k4⟩
  · exact hp.elim
end
theorem jDc (own : List (Str × Nat)) {kap : Nat → Addr} {xi : Xi} {X : Cx} {W : WX} {tg iter kx vx : Expr} {ifs : List Expr} {scope : Scope} {pos : Pos} {wi : WX → TI} {g : TG} {is : List Nat} {tt : WX → TT} {tk tv : WX → TE} {ei : DEnv → Rs (List D)} {eg : D → DEnv → Option DEnv} {et : DEnv → Rs Bool} {ek ee : DEnv → Rs D}
    (hu : X.A.units + 64 < cLine) (hN : X.N.Nodup) (ok : BlkOk X.N X.env.scope scope own) (hi : JI kap xi X W tg iter wi ei) (hg : ∀ (s : Shared) (H : Hp) (C : Addr) (cl : List (Str × Addr)) (fp : List Addr), JG kap (X.blk s H scope (compEnvC scope cl C X.env) fp) tg g is eg)
    (ht : ∀ (s : Shared) (H : Hp) (C : Addr) (cl : List (Str × Addr)) (fp : List Addr), JTs kap xi (X.blk s H scope (compEnvC scope cl C X.env) fp) W0 ifs tt et)
    (hk : ∀ (s : Shared) (H : Hp) (C : Addr) (cl : List (Str × Addr)) (fp : List Addr), JE kap xi (X.blk s H scope (compEnvC scope cl C X.env) fp) W0 kx tk ek)
    (he : ∀ (s : Shared) (H : Hp) (C : Addr) (cl : List (Str × Addr)) (fp : List Addr), JE kap xi (X.blk s H scope (compEnvC scope cl C X.env) fp) W0 vx tv ee)
    (his : ∀ i ∈ is, i ∈ own.map (·.2)) (hc : X.calm = true := by rfl) (hs : ∀ x, foldedSetIterable iter X.env x = pure x := by intro _; rfl) :
    JF kap xi X W (.DictComp kx vx [⟨tg, iter, ifs, 0⟩] scope pos) (fun W => tDcN X.K (wi W) g (tt W0) (tk W0) (tv W0) (own.map (·.2))) (vDc (own.map (·.2)) ei eg et ek ee) :=
  ⟨pe_dcn hu hc hN hi.p ok (fun s H C cl fp => (hg s H C cl fp).p) (fun s H C cl fp => (ht s H C cl fp).p) (fun s H C cl fp => (hk s H C cl fp).p) (fun s H C cl fp => (he s H C cl fp).p) hs,
    snd_dc hi.s (fun F H sg de O v d de' Q => (hg X.s_0 X.H_0 0 [] []).s xi F H sg de O v d de' Q) his (ht X.s_0 X.H_0 0 [] []).s (hk X.s_0 X.H_0 0 [] []).s (he X.s_0 X.H_0 0 [] []).s⟩
end DL

set_option maxRecDepth 100000
set_option maxHeartbeats 2000000
set_option autoImplicit false
/-! == and != of dicts with nested keys -/
namespace DL
open PySem L2 PySem.Spec PyProof.Rows
open PySem.SeqAt (EqIn EqAt)
section
variable {prog : Program} {w : World} {A : Around} {E : Value → Shared → Prop} {s : Shared}
/-- each entry looked up in the other dict -/
inductive HitsN (prog : Program) (w : World) (A : Around) (s : Shared) (xb : List NEnt) : List NEnt → Bool → Prop
  | nil : HitsN prog w A s xb [] true
  | miss {x : NEnt} {r : List NEnt} : atKey xb x.1 = none → HitsN prog w A s xb (x :: r) false
  | hit {x : NEnt} {p : Addr × Value} {r : List NEnt} {e b : Bool} : atKey xb x.1 = some p → EqIn prog w A s x.2.2 p.2 e → HitsN prog w A s xb r b → HitsN prog w A s xb (x :: r) (e && b)
theorem HitsN.inv {xb : List NEnt} {x : NEnt} {r : List NEnt} {b : Bool} (h : HitsN prog w A s xb (x :: r) b) :
    (atKey xb x.1 = none ∧ b = false) ∨ ∃ p e b', atKey xb x.1 = some p ∧ EqIn prog w A s x.2.2 p.2 e ∧ HitsN prog w A s xb r b' ∧ b = (e && b') := by
  cases h with
  | miss hn => exact .inl ⟨hn, rfl⟩
  | hit hy he hr => exact .inr ⟨_, _, _, hy, he, hr, rfl⟩
theorem atKey_get {xs : List NEnt} (hn : (xs.map (·.1)).Nodup) {k : NestedKey} {j : Nat} {p : Addr × Value} (h : xs[j]? = some (k, p)) : atKey xs k = some p := by
  unfold atKey
  have hm : (k, p) ∈ xs := List.mem_of_getElem? h
  have : xs.find? (fun x => decide (x.1 = k)) = some (k, p) := by
    cases e : xs.find? (fun x => decide (x.1 = k)) with
    | none =>
      have := List.find?_eq_none.mp e _ hm
      simp at this
    | some y =>
      have h1 := List.find?_some e
      have h2 := List.mem_of_find?_eq_some e
      obtain ⟨i, hi⟩ := List.getElem?_of_mem h2
      have e1 : y.1 = k := by simpa using h1
      have : xs[i]? = some (k, y.2) := by rw [hi, ← e1]
      have := idxH_unique hn this h
      subst this
      rw [h] at hi
      exact hi.symm
  rw [this]
  rfl
theorem atKey_miss {xs : List NEnt} {k : NestedKey} (h : ∀ (j : Nat) (p : Addr × Value), xs[j]? ≠ some (k, p)) : atKey xs k = none := by
  unfold atKey
  have : xs.find? (fun x => decide (x.1 = k)) = none := List.find?_eq_none.mpr fun y hy => by
    intro e
    have e1 : y.1 = k := by simpa using e
    obtain ⟨i, hi⟩ := List.getElem?_of_mem hy
    exact h i y.2 (by rw [hi, ← e1])
  rw [this]
  rfl
theorem same_n {nm : String} {a b : Addr} {xa xb : List NEnt} {r : Bool} {Q : Bool → Shared → Prop} (hu : (nestedKind prog w).room A) (ha : (a == sysModules) = false) (hb : (b == sysModules) = false)
    (da : s.heap.DictOfH (nestedKind prog w) a xa) (db : s.heap.DictOfH (nestedKind prog w) b xb) (hits : xa.length = xb.length → HitsN prog w A s xb xa r) (h : Q (xa.length == xb.length && r) s) :
    wpAny (model prog w) A (Builtin.Dict.samePairs nm a b) Q E s := by
  obtain ⟨oa, es, ep, hoa, _, hda, hea, hia, _⟩ := da
  obtain ⟨ob, es', ep', hob, _, hdb, heb, hib, hnb⟩ := db
  have hla : xa.length = es.size := (size_of_entries hea).symm
  have hlb : xb.length = es'.size := (size_of_entries heb).symm
  rw [hla, hlb] at h
  unfold Builtin.Dict.samePairs Builtin.Dict.showsAll
  rw [if_neg (show ¬ (a == sysModules) = true by rw [ha]; exact Bool.false_ne_true), if_neg (show ¬ (b == sysModules) = true by rw [hb]; exact Bool.false_ne_true)]
  refine wpAny_bind (wpAny_pure (wpAny_bind (wpAny_pure ?_)))
  refine wpAny_bind (wpAny_dictEntries hoa hda ?_)
  dsimp only
  refine wpAny_bind (wpAny_dictEntries hob hdb ?_)
  by_cases hsz : es.size = es'.size
  case neg =>
    rw [if_pos (by simpa using hsz)]
    have hbf : (es.size == es'.size) = false := by simpa using hsz
    rw [hbf, Bool.false_and] at h
    exact wpAny_bind (wpAny_rule (wpAny_pure h))
  case pos =>
    have h' : Q r s := by simpa [hsz] using h
    have hits' := hits (by rw [hla, hlb]; exact hsz)
    rw [if_neg (by rw [hsz]; simp)]
    refine wpAny_bind (wpAny_dictEpoch hoa hda ?_)
    refine wpAny_bind ?_
    rw [Std.Legacy.Range.forIn_eq_forIn_range']
    simp only [Std.Legacy.Range.size, Nat.sub_zero, Nat.add_sub_cancel, Nat.div_one]
    refine wpAny_forIn_list _
      (fun rest q s' => s' = s ∧ q = (none, ()) ∧ ∃ i, rest = List.range' i (es.size - i) ∧ i ≤ es.size ∧ HitsN prog w A s xb (xa.drop i) r)
      _ ?_ ?_ _ _ ⟨rfl, rfl, 0, by simp, Nat.zero_le _, hits'⟩
    · rintro x rest q s' ⟨rfl, rfl, i, hr, hi, hpre⟩
      have hlt : i < es.size := by
        rcases Nat.lt_or_ge i es.size with h | h
        · exact h
        · rw [Nat.sub_eq_zero_of_le h] at hr; simp at hr
      obtain ⟨rfl, hrest⟩ : x = i ∧ rest = List.range' (i + 1) (es.size - (i + 1)) := by
        have e : es.size - i = (es.size - (i + 1)) + 1 := by omega
        rw [e, List.range'_succ] at hr
        injection hr with h1 h2
        exact ⟨h1, h2⟩
      refine wpAny_bind (wpAny_dictEntries hoa hda ?_)
      have hlt' : x < xa.length := by rw [hla]; exact hlt
      obtain ⟨y, hy⟩ : ∃ y, xa[x] = y := ⟨_, rfl⟩
      have hdrop : xa.drop x = y :: xa.drop (x + 1) := by rw [← hy]; exact List.drop_eq_getElem_cons hlt'
      have hen : es[x]? = some (entryOfKey (nestedKind prog w) y) := by
        rw [entry_at hea, List.getElem?_eq_getElem hlt', hy]
        rfl
      rw [hdrop] at hpre
      rw [hen]
      have hky : (nestedKind prog w).is s'.heap y.1 y.2.1 := hia y (by rw [← hy]; exact List.getElem_mem hlt')
      show wpAny _ _ (holding [_, _] _ >>= _) _ _ _
      refine wpAny_bind (wpAny_holding (wpAny_bind ?_))
      refine wpAny_dictFind_heap (k := y.1) hu hky hob hdb heb hib hnb (fun hno => ?_) (fun j p hj => ?_)
      · have hn := atKey_miss hno
        rcases hpre.inv with ⟨_, er⟩ | ⟨p, _, _, hp, _⟩
        · rw [er] at h'
          refine wpAny_pure ?_
          show wpAny _ _ (if (!false) = true then _ else _) _ _ _
          rw [if_pos (by decide)]
          exact wpAny_pure (wpAny_pure h')
        · rw [hn] at hp; exact nomatch hp
      · have hv := atKey_get hnb hj
        have hej : es'[j]? = some (entryOfKey (nestedKind prog w) (y.1, p)) := by rw [entry_at heb, hj]; rfl
        refine wpAny_bind (wpAny_dictEntries hob hdb ?_)
        rw [hej]
        rcases hpre.inv with ⟨hn, _⟩ | ⟨p', e, b', hp, he, hrr, er⟩
        · rw [hv] at hn; exact nomatch hn
        · rw [hv] at hp
          cases hp
          refine wpAny_holding (he _ _ ?_)
          cases e with
          | false =>
            rw [er, Bool.false_and] at h'
            show wpAny _ _ (if (!false) = true then _ else _) _ _ _
            rw [if_pos (by decide)]
            exact wpAny_pure (wpAny_pure h')
          | true =>
            rw [Bool.true_and] at er
            rw [← er] at hrr
            show wpAny _ _ (if (!true) = true then _ else _) _ _ _
            rw [if_neg (by decide)]
            refine wpAny_bind (wpAny_dictEpoch hoa hda ?_)
            rw [if_neg (by simp)]
            exact wpAny_pure ⟨rfl, rfl, x + 1, hrest, hlt, hrr⟩
    · rintro q s' ⟨rfl, rfl, i, hr, hi, hpre⟩
      have hin : i = es.size := by
        rcases Nat.lt_or_ge i es.size with h | h
        · have e : es.size - i = (es.size - (i + 1)) + 1 := by omega
          rw [e, List.range'_succ] at hr; exact nomatch hr
        · exact Nat.le_antisymm hi h
      refine wpAny_pure ?_
      rw [hin, ← hla, List.drop_length] at hpre
      cases hpre
      exact h'
theorem eq_n {a b : Addr} {xa xb : List NEnt} {r : Bool} {Q : Value → Shared → Prop} (hu : (nestedKind prog w).room A.in1) (hu2 : A.units < cLine) (ha : (a == sysModules) = false) (hb : (b == sysModules) = false)
    (da : s.heap.DictOfH (nestedKind prog w) a xa) (db : s.heap.DictOfH (nestedKind prog w) b xb) (hits : xa.length = xb.length → HitsN prog w A.in1 s xb xa r) (h : Q (.bool (xa.length == xb.length && r)) s) :
    wpAny (model prog w) A (compareOp .Eq (.ref a) (.ref b)) Q E s := by
  refine wpAny_richCompare_same_room (op := .Eq) da.typeIs db.typeIs PySem.F.slot_dict_eq (wpAny_call_entry PySem.F.slot_dict_eq da.typeIs PySem.F.entry_dict_eq ?_ (PySem.F.args_dict_eq_2 _ _)) hu2
  show wpAny _ _ (Builtin.Dict.dictSlotArgs "__eq__" ⟨[.ref a, .ref b], []⟩ >>= _) _ _ s
  refine wpAny_bind ?_
  unfold Builtin.Dict.dictSlotArgs
  refine wpAny_bind (wpAny_notOrdered_dict da.typeIs ?_)
  show wpAny _ _ (pure (Value.ref a, Value.ref b)) _ _ s
  refine wpAny_pure ?_
  refine wpAny_bind (wpAny_isInstance (T := "dict") db.typeIs PySem.F.sub_dict_dict ?_)
  simp only [Bool.not_true, Bool.false_eq_true, if_false]
  refine wpAny_bind (wpAny_pure (wpAny_bind (wpAny_pure ?_)))
  refine wpAny_bind (same_n hu ha hb da db hits ?_)
  refine wpAny_pure ⟨_, rfl, ?_, ?_⟩
  · exact fun x => nomatch x
  · simpa using h
theorem ne_n {a b : Addr} {xa xb : List NEnt} {r : Bool} {Q : Value → Shared → Prop} (hu : (nestedKind prog w).room A.in1) (hu2 : A.units < cLine) (ha : (a == sysModules) = false) (hb : (b == sysModules) = false)
    (da : s.heap.DictOfH (nestedKind prog w) a xa) (db : s.heap.DictOfH (nestedKind prog w) b xb) (hits : xa.length = xb.length → HitsN prog w A.in1 s xb xa r) (h : Q (.bool (!(xa.length == xb.length && r))) s) :
    wpAny (model prog w) A (compareOp .NotEq (.ref a) (.ref b)) Q E s := by
  refine wpAny_richCompare_same_room (op := .NotEq) da.typeIs db.typeIs PySem.F.slot_dict_ne (wpAny_call_entry PySem.F.slot_dict_ne da.typeIs PySem.F.entry_dict_ne ?_ (PySem.F.args_dict_ne_2 _ _)) hu2
  show wpAny _ _ (Builtin.Dict.dictSlotArgs "__ne__" ⟨[.ref a, .ref b], []⟩ >>= _) _ _ s
  refine wpAny_bind ?_
  unfold Builtin.Dict.dictSlotArgs
  refine wpAny_bind (wpAny_notOrdered_dict da.typeIs ?_)
  show wpAny _ _ (pure (Value.ref a, Value.ref b)) _ _ s
  refine wpAny_pure ?_
  refine wpAny_bind (wpAny_isInstance (T := "dict") db.typeIs PySem.F.sub_dict_dict ?_)
  simp only [Bool.not_true, Bool.false_eq_true, if_false]
  refine wpAny_bind (wpAny_pure (wpAny_bind (wpAny_pure ?_)))
  refine wpAny_bind (same_n hu ha hb da db hits ?_)
  refine wpAny_pure ⟨_, rfl, ?_, ?_⟩
  · exact fun x => nomatch x
  · simpa using h
end
/-! ### as data -/
inductive HitsV (K : PySem.W.Frag) (H : Hp) (xb : List NEnt) : List NEnt → Bool → Prop
  | nil : HitsV K H xb [] true
  | miss {x : NEnt} {r : List NEnt} : atKey xb x.1 = none → HitsV K H xb (x :: r) false
  | hit {x : NEnt} {p : Addr × Value} {r : List NEnt} {b : Bool} {v u : V} {d e : PyData} : atKey xb x.1 = some p → RelV v x.2.2 → RelV u p.2 → Dp K H v d → Dp K H u e → SeqAt.shaped d = true → SeqAt.shaped e = true → HitsV K H xb r b → HitsV K H xb (x :: r) (PyData.eqv d e && b)
theorem HitsV.to {X : Cx} {pins : List (Addr × Obj)} {σ : L2.St} {H : Hp} {s : Shared} {A : Around} (I : Inv X pins σ H s) (hu : A.units + 64 < cLine) {xb : List NEnt} : ∀ {xs : List NEnt} {b : Bool}, HitsV X.K H xb xs b → HitsN X.prog X.w A s xb xs b
  | _, _, .nil => .nil
  | _, _, .miss h => .miss h
  | _, _, .hit (v := v) (u := u) (d := d) (e := e) h r1 r2 h1 h2 s1 s2 q => by
    obtain ⟨as, k1⟩ := Dp.reads I d v _ h1 r1
    obtain ⟨bs, k2⟩ := Dp.reads I e u _ h2 r2
    refine .hit h ?_ (HitsV.to I hu q)
    exact (SeqAt.eqAt_reads d e A s _ _ as bs k1 k2 (SeqAt.canLay_of_shaped s1) (SeqAt.canLay_of_shaped s2) (SeqAt.room_of_shaped s1 hu)).inModel _ _
def rEqN (K : PySem.W.Frag) (g : Bool → Bool) : R2 := fun x y H Q => ∃ (a b : Addr) (oa ob : Obj) (xs ys : List NEnt) (r : Bool), x = .ref a ∧ y = .ref b ∧ H a = some (exO a oa) ∧ DOb oa xs ∧ (a == sysModules) = false ∧ KeysA K H xs ∧ H b = some (exO b ob) ∧ DOb ob ys ∧ (b == sysModules) = false ∧ KeysA K H ys ∧ HitsV K H ys xs r ∧ Q (.bl (g (xs.length == ys.length && r))) H
theorem op_eqN {X : Cx} (hu : X.A.units + 70 < cLine) : OpR X (compareOp .Eq) (rEqN X.K fun b => b) := by
  intro pins s σ H x y v u Q I rx ry h
  obtain ⟨a, b, oa, ob, xs, ys, r, rfl, rfl, ha, da, ma, ka, hb, db, mb, kb, hh, q⟩ := h
  cases (show v = Value.ref a from rx)
  cases (show u = Value.ref b from ry)
  have hu1 : X.A.in1.units + 64 < cLine := by
    show X.A.units + 1 + 64 < cLine
    omega
  exact eq_n (room_n (by omega)) (by omega) ma mb (dob_of I ha da ka) (dob_of I hb db kb) (fun _ => hh.to I hu1) ⟨.bl _, H, I, rfl, q⟩
theorem op_neN {X : Cx} (hu : X.A.units + 70 < cLine) : OpR X (compareOp .NotEq) (rEqN X.K not) := by
  intro pins s σ H x y v u Q I rx ry h
  obtain ⟨a, b, oa, ob, xs, ys, r, rfl, rfl, ha, da, ma, ka, hb, db, mb, kb, hh, q⟩ := h
  cases (show v = Value.ref a from rx)
  cases (show u = Value.ref b from ry)
  have hu1 : X.A.in1.units + 64 < cLine := by
    show X.A.units + 1 + 64 < cLine
    omega
  exact ne_n (room_n (by omega)) (by omega) ma mb (dob_of I ha da ka) (dob_of I hb db kb) (fun _ => hh.to I hu1) ⟨.bl _, H, I, rfl, q⟩
/-- all entries of the one looked up in the other -/
def eqGo (bs : List (D × D)) : List (D × D) → Option Bool
  | [] => some true
  | p :: r => (keyN p.1).bind fun k => match valN bs k with
    | none => some false
    | some z => if SeqAt.shaped (toPy p.2) && SeqAt.shaped (toPy z) then (eqGo bs r).map fun b => PyData.eqv (toPy p.2) (toPy z) && b else none
def fEqN (g : Bool → Bool) (a b : D) : Option D := match a, b with
  | .dn xs, .dn ys => (eqGo ys xs).map fun r => .bl (g (xs.length == ys.length && r))
  | _, _ => none
section
variable {K : PySem.W.Frag} {kap : Nat → Addr}
theorem hits_of {F H : Hp} (e : Same F H) {ys : List NEnt} {us : List V} {bs : List (D × D)} (g1 : Vals us (ys.map (·.2.2))) (g2 : (ys.map fun x => some x.1) = bs.map (fun p => keyN p.1)) (g3 : Reps K kap H us (bs.map (·.2))) :
    ∀ {xs : List NEnt} {vs : List V} {as : List (D × D)} {r : Bool}, Vals vs (xs.map (·.2.2)) → (xs.map fun x => some x.1) = as.map (fun p => keyN p.1) → Reps K kap H vs (as.map (·.2)) → eqGo bs as = some r → HitsV K H ys xs r
  | [], _, [], _, _, _, _, h => by cases h; exact .nil
  | [], _, _ :: _, _, _, h, _, _ => by simp at h
  | _ :: _, _, [], _, _, h, _, _ => by simp at h
  | x :: xs, v :: vs, p :: as, r, .cons rv qv, h, .cons rd qd, hr => by
    simp only [List.map_cons, List.cons.injEq] at h
    unfold eqGo at hr
    rw [← h.1] at hr
    have hr : (match valN bs x.1 with
    | none => some false
    | some z => if SeqAt.shaped (toPy p.2) && SeqAt.shaped (toPy z) then (eqGo bs as).map fun b => PyData.eqv (toPy p.2) (toPy z) && b else none) = some r := hr
    obtain ⟨i1, i2⟩ := valN_at g1 g2 g3 x.1
    cases hz : valN bs x.1 with
    | none =>
      rw [hz] at hr
      cases hr
      exact .miss (i2 hz)
    | some z =>
      rw [hz] at hr
      dsimp only at hr
      split at hr
      · rename_i hs
        rw [Bool.and_eq_true] at hs
        obtain ⟨b, h1, rfl⟩ := Option.map_eq_some_iff.mp hr
        obtain ⟨p2, u, k1, k2, k3⟩ := i1 z hz
        exact .hit k1 rv k2 (dp_of rd (SeqAt.canLay_of_shaped hs.1)) (dp_of k3 (SeqAt.canLay_of_shaped hs.2)) hs.1 hs.2 (hits_of e g1 g2 g3 qv h.2 qd h1)
      · cases hr
theorem sp_eqN (g : Bool → Bool) : SP2 K kap (rEqN K g) (fEqN g) := by
  intro F H x y a b z Q sub ra rb e q
  unfold fEqN at e
  split at e
  · rename_i as bs
    obtain ⟨r, h1, rfl⟩ := Option.map_eq_some_iff.mp e
    obtain ⟨p, o, xs, vs, rfl, a1, a2, a3, a4, a5, a6, a7⟩ := ra.dn sub
    obtain ⟨p', o', ys, us, rfl, b1, b2, b3, b4, b5, b6, b7⟩ := rb.dn sub
    have la : xs.length = as.length := by simpa using congrArg List.length a5
    have lb : ys.length = bs.length := by simpa using congrArg List.length b5
    refine ⟨p, p', o, o', xs, ys, r, rfl, rfl, a1, a2, a3, keys_rep sub a5 a6, b1, b2, b3, keys_rep sub b5 b6, hits_of sub b4 b5 (b7.mono sub) a4 a5 (a7.mono sub) h1, ?_⟩
    rw [la, lb]
    exact q _ F H New.refl sub (.bl _)
  · cases e
end
theorem uu70 {k : Nat} {A : Around} (r : RoomG k A) : A.units + 70 < cLine := by have := r.un; omega
/-- a method called by place -/
structure GMp (P : Program) (w : World) (K : PySem.W.Frag) (mg : Str → Option Value) (base : Heap) (kap : Nat → Addr) (nm : Str) (c k n : Nat) (mu : Option Nat) (md : List D → Fo) (dcs : List D) where
  g : DG P w K mg base kap k n mu md dcs
  hc : Cls K (kap c)
  hm : Meth K (kap c) nm g.f
section
variable {kap : Nat → Addr} {xi : Xi} {X : Cx} {W : WX} {e o : Expr} {es : List Expr} {t : WX → TE} {ta : WX → TA} {ev : DEnv → Rs D} {ea : DEnv → Rs (List CA)} {pos p apos : Pos} {k n : Nat} {x : Str} {mu : Option Nat} {md : List D → Fo} {dcs : List D}
theorem gMeth {nm : Str} {c : Nat} (g : GMp X.prog X.w X.K X.mg X.base kap nm c k n mu md dcs) (hr : RoomG k X.A) (tk : Takes X W) (ho : JE kap xi X W o t ev) (ha : JC kap xi X W (e :: es) ta ea)
    {pl : Sem Bool} (hst : starEach (e :: es) X.env = (false, eval e X.env) :: starEach es X.env := by rfl) (hpl : (backTo pos (starEach es X.env)).any (·.1) = false := by rfl)
    (ht : eval (.Call (.Attribute o nm apos) (e :: es) [] pos) X.env = (do
      let ov ← eval o X.env
      standAt apos.atName
      let (f, first) ← holding [ov] (getMethod ov nm pl)
      callWith pos f first (backTo pos (starEach (e :: es) X.env)) (backToKw pos (keywordEach [] X.env))) := by rfl) :
    JE kap xi X W (.Call (.Attribute o nm apos) (e :: es) [] pos) (fun W => tMethSD (kap c) nm (spD X.K kap n mu md) g.g.dvs (WE W) (t W) (ta W)) (wMeth c nm n mu md dcs ev ea) :=
  jMeth c g.g g.hc g.hm hr tk ho ha hst hpl ht
theorem gMeth0 {nm : Str} {c : Nat} (g : GMp X.prog X.w X.K X.mg X.base kap nm c k n mu md dcs) (hr : RoomG k X.A) (tk : Takes X W) (ho : JE kap xi X W o t ev)
    {pl : Sem Bool} (ht : eval (.Call (.Attribute o nm apos) [] [] pos) X.env = (do
      let ov ← eval o X.env
      standAt apos.atName
      let (f, first) ← holding [ov] (getMethod ov nm pl)
      callWith pos f first (backTo pos (starEach [] X.env)) (backToKw pos (keywordEach [] X.env))) := by rfl) :
    JE kap xi X W (.Call (.Attribute o nm apos) [] [] pos) (fun W => tMethSD (kap c) nm (spD X.K kap n mu md) g.g.dvs (WE W) (t W) tNil) (wMeth c nm n mu md dcs ev cNil) :=
  jMeth0 c g.g g.hc g.hm hr tk ho ht
theorem gMethF {nm : Str} {c : Nat} (g : GMp X.prog X.w X.K X.mg X.base kap nm c k n mu md dcs) (hr : RoomG k X.A) (tk : Takes X W) (ho : JE kap xi X W o t ev) (ha : JC kap xi X W (e :: es) ta ea)
    {pl : Sem Bool} (hst : starEach (e :: es) X.env = (false, eval e X.env) :: starEach es X.env := by rfl) (hpl : (backTo pos (starEach es X.env)).any (·.1) = false := by rfl)
    (ht : eval (.Call (.Attribute o nm apos) (e :: es) [] pos) X.env = (do
      let ov ← eval o X.env
      standAt apos.atName
      let (f, first) ← holding [ov] (getMethod ov nm pl)
      callWith pos f first (backTo pos (starEach (e :: es) X.env)) (backToKw pos (keywordEach [] X.env))) := by rfl) :
    JF kap xi X W (.Call (.Attribute o nm apos) (e :: es) [] pos) (fun W => tMethSD (kap c) nm (spD X.K kap n mu md) g.g.dvs (WE W) (t W) (ta W)) (wMethF c nm n mu md dcs ev ea) :=
  jMethF c g.g g.hc g.hm hr tk ho ha hst hpl ht
theorem gMethF0 {nm : Str} {c : Nat} (g : GMp X.prog X.w X.K X.mg X.base kap nm c k n mu md dcs) (hr : RoomG k X.A) (tk : Takes X W) (ho : JE kap xi X W o t ev)
    {pl : Sem Bool} (ht : eval (.Call (.Attribute o nm apos) [] [] pos) X.env = (do
      let ov ← eval o X.env
      standAt apos.atName
      let (f, first) ← holding [ov] (getMethod ov nm pl)
      callWith pos f first (backTo pos (starEach [] X.env)) (backToKw pos (keywordEach [] X.env))) := by rfl) :
    JF kap xi X W (.Call (.Attribute o nm apos) [] [] pos) (fun W => tMethSD (kap c) nm (spD X.K kap n mu md) g.g.dvs (WE W) (t W) tNil) (wMethF c nm n mu md dcs ev cNil) :=
  jMethF0 c g.g g.hc g.hm hr tk ho ht
theorem gMethS (i : Nat) {c : Nat} {x nm : Str} {xp : Pos} (g : GMp X.prog X.w X.K X.mg X.base kap nm c k n mu md dcs) (hr : RoomG k X.A) (tk : Takes X W) (ha : JC kap xi X W (e :: es) ta ea)
    (hN : X.N[i]? = some x := by rfl) (hv : Vis X.env.scope x := by first | exact Or.inl rfl | exact Or.inr (Or.inl rfl) | exact Or.inr (Or.inr rfl)) (hd : (x == ("__debug__" : Str)) = false := by decide) (hcd : (x == ("__classdict__" : Str)) = false := by decide)
    {pl : Sem Bool} (hst : starEach (e :: es) X.env = (false, eval e X.env) :: starEach es X.env := by rfl) (hpl : (backTo pos (starEach es X.env)).any (·.1) = false := by rfl)
    (ht : eval (.Call (.Attribute (.Name x xp) nm apos) (e :: es) [] pos) X.env = (do
      let ov ← eval (.Name x xp) X.env
      standAt apos.atName
      let (f, first) ← holding [ov] (getMethod ov nm pl)
      callWith pos f first (backTo pos (starEach (e :: es) X.env)) (backToKw pos (keywordEach [] X.env))) := by rfl) :
    JE kap xi X W (.Call (.Attribute (.Name x xp) nm apos) (e :: es) [] pos) (fun W => tMethSD (kap c) nm (spD X.K kap n mu md) g.g.dvs (WE W) (tVar i) (ta W)) (wMethS c nm n mu md dcs i ea) :=
  jMethS c i g.g g.hc g.hm hr tk ha hN hv hd hcd hst hpl ht
theorem gMethS0 (i : Nat) {c : Nat} {x nm : Str} {xp : Pos} (g : GMp X.prog X.w X.K X.mg X.base kap nm c k n mu md dcs) (hr : RoomG k X.A) (tk : Takes X W)
    (hN : X.N[i]? = some x := by rfl) (hv : Vis X.env.scope x := by first | exact Or.inl rfl | exact Or.inr (Or.inl rfl) | exact Or.inr (Or.inr rfl)) (hd : (x == ("__debug__" : Str)) = false := by decide) (hcd : (x == ("__classdict__" : Str)) = false := by decide)
    {pl : Sem Bool} (ht : eval (.Call (.Attribute (.Name x xp) nm apos) [] [] pos) X.env = (do
      let ov ← eval (.Name x xp) X.env
      standAt apos.atName
      let (f, first) ← holding [ov] (getMethod ov nm pl)
      callWith pos f first (backTo pos (starEach [] X.env)) (backToKw pos (keywordEach [] X.env))) := by rfl) :
    JE kap xi X W (.Call (.Attribute (.Name x xp) nm apos) [] [] pos) (fun W => tMethSD (kap c) nm (spD X.K kap n mu md) g.g.dvs (WE W) (tVar i) tNil) (wMethS c nm n mu md dcs i cNil) :=
  jMethS0 c i g.g g.hc g.hm hr tk hN hv hd hcd ht
end
end DL

set_option maxRecDepth 100000
set_option maxHeartbeats 2000000
set_option autoImplicit false
/-! x.f += e, x an owned object -/
namespace DL
open PySem L2
def augFB (i : Nat) (c : Nat) (f : Str) (z : Int) (de : DEnv) : Option (Sl × D) → Ot
  | some (s, .obj c' fs) => if c' = c ∧ fs.length < 1000 then .nx (de.set i (s.same (.obj c' (putD f (.int z) fs)))) else .bad
  | _ => .bad
def augFI (i : Nat) (c : Nat) (f : Str) (g : Int → Int → Int) (a : Int) (de : DEnv) : D → Ot
  | .int j => augFB i c f (g a j) de (slotOw i de)
  | _ => .bad
def augFL (i : Nat) (c : Nat) (f : Str) (g : Int → Int → Int) (ev : DEnv → Rs D) (de : DEnv) : Option D → Ot
  | some (.int a) => (ev de).out fun b de1 => augFI i c f g a de1 b
  | _ => .bad
def augFA (i : Nat) (cl : List Nat) (f : Str) (g : Int → Int → Int) (ev : DEnv → Rs D) (de : DEnv) : Option (Sl × D) → Ot
  | some (_, .obj c fs) => if cl.contains c = true then augFL i c f g ev de (fs.lookup f) else .bad
  | _ => .bad
def vAugFld (i : Nat) (cl : List Nat) (f : Str) (g : Int → Int → Int) (ev : DEnv → Rs D) (de : DEnv) : Ot := augFA i cl f g ev de (slotOw i de)
section
variable {kap : Nat → Addr} {xi : Xi} {X : Cx} {W : WX} {e : Expr} {t : WX → TE} {ev : DEnv → Rs D} {pos pos' np : Pos} {x f : Str}
theorem snd_augFld {K : PySem.W.Frag} (i : Nat) (cl : List Nat) (g : Int → Int → Int) {rd : V → V → Hp → VK → Prop} (hrd : ∀ a b H Q, Q (.int (g a b)) H → rd (.int a) (.int b) H Q) (hcl : ∀ c ∈ cl, Cls K (kap c) ∧ NoAttr K (kap c) f) (h : Snd K kap xi (RlE K kap) t ev) :
    SndS K kap xi (fun W => sFldAug K (tVar i) (t W) rd f) (vAugFld i cl f g ev) := by
  intro W F H sg de O Dn R hp
  unfold vAugFld augFA at hp
  split at hp
  · rename_i s c fs eo
    split at hp
    · rename_i hc
      unfold augFL at hp
      split at hp
      · rename_i a ea
        obtain ⟨e1, e2, p, h1, h2, h3, dx, vs, h4, h5, h6⟩ := R.owl eo
        obtain ⟨k1, k2⟩ := hcl c (List.contains_iff_mem.mp hc)
        obtain ⟨v, hv, rv⟩ := field_get h5 h6 ea
        cases rv
        refine ⟨_, h2, p, _, dx, vs, _, rfl, h4, k1, k2, hv, ?_⟩
        refine h.out R hp fun w d F1 H1 de1 O1 R1 g1 r _ hq => ?_
        unfold augFI at hq
        split at hq
        · rename_i j
          unfold augFB at hq
          split at hq
          · rename_i s' c' fs' eo'
            split at hq
            · rename_i hh
              obtain ⟨rfl, hl⟩ := hh
              obtain ⟨f1, f2, p', i1, i2, i3, dx', vs', i4, i5, i6⟩ := R1.owl eo'
              have hpp : p' = p := by
                rw [h2] at i2
                cases i2
                rfl
              subst hpp
              cases r
              refine hrd _ _ _ _ ⟨dx', vs', i4, ?_, ?_⟩
              · have := congrArg List.length i5
                rw [List.length_map, List.length_map] at this
                rw [this]
                exact hl
              · obtain ⟨R3, g3⟩ := R1.mut (o := .ins (kap c') dx' (putF f (.int (g a j)) vs')) (d' := .obj c' (putD f (.int (g a j)) fs')) f1 f2 i1 ⟨dx', _, upd_same, put_names f _ _ i5, put_reps (.int _) i5 i6⟩
                exact hq F1 _ sg O1 R3 g3
            · exact hq.elim
          · exact hq.elim
        · exact hq.elim
      · exact hp.elim
    · exact hp.elim
  · exact hp.elim
theorem jAugFldAdd (i : Nat) (cl : List Nat) (hcl : ∀ c ∈ cl, Cls X.K (kap c) ∧ NoAttr X.K (kap c) f) (h : JE kap xi X W e t ev) (hN : X.N[i]? = some x := by rfl) (hv : Vis X.env.scope x := by first | exact Or.inl rfl | exact Or.inr (Or.inl rfl) | exact Or.inr (Or.inr rfl)) (hd : (x == ("__debug__" : Str)) = false := by decide)
    (hcd : (x == ("__classdict__" : Str)) = false := by decide) :
    JS kap xi X W (.AugAssign (.Attribute (.Name x np) f pos') .Add e pos) (fun W => sFldAug X.K (tVar i) (t W) rAdd f) (vAugFld i cl f (fun i j => i + j) ev) :=
  ⟨ps_fldaug (pe_var hN hv hd hcd) h.p in_add, snd_augFld i cl _ (fun a b H Q q => ⟨a, b, rfl, rfl, q⟩) hcl h.s⟩
theorem jAugFldSub (i : Nat) (cl : List Nat) (hcl : ∀ c ∈ cl, Cls X.K (kap c) ∧ NoAttr X.K (kap c) f) (h : JE kap xi X W e t ev) (hN : X.N[i]? = some x := by rfl) (hv : Vis X.env.scope x := by first | exact Or.inl rfl | exact Or.inr (Or.inl rfl) | exact Or.inr (Or.inr rfl)) (hd : (x == ("__debug__" : Str)) = false := by decide)
    (hcd : (x == ("__classdict__" : Str)) = false := by decide) :
    JS kap xi X W (.AugAssign (.Attribute (.Name x np) f pos') .Sub e pos) (fun W => sFldAug X.K (tVar i) (t W) rSub f) (vAugFld i cl f (fun i j => i - j) ev) :=
  ⟨ps_fldaug (pe_var hN hv hd hcd) h.p in_sub, snd_augFld i cl _ (fun a b H Q q => ⟨a, b, rfl, rfl, q⟩) hcl h.s⟩
end
end DL

set_option maxRecDepth 100000
set_option maxHeartbeats 2000000
set_option autoImplicit false
/-! len() by an own __len__ -/
namespace DL
open PySem L2 PySem.Spec PyProof.Rows
structure OwnL (P : Program) (w : World) (K : PySem.W.Frag) (mg : Str → Option Value) (base : Heap) (kap : Nat → Addr) (k c : Nat) (m : List D → Fo) where
  g : DG P w K mg base kap k 1 none m []
  hs : PySem.W.findIn K (.ref (kap c)) "__len__" = some (some (.ref g.f))
  hf : PySem.W.isFn K (.ref g.f) = true
def lenOk : Fo → Option D
  | .ret (.int n) none => if 0 ≤ n ∧ n < 9223372036854775808 then some (.int n) else none
  | _ => none
def fLenO (c : Nat) (m : List D → Fo) : List D → Option D
  | [.obj c' fs] => if c' = c then lenOk (m [.obj c' fs]) else none
  | xs => fLen xs
def rLenOwn (K : PySem.W.Frag) (kap : Nat → Addr) (c : Nat) (m : List D → Fo) : List V → Hp → VK → Prop := fun xs H Q => ∃ a dx fs, xs = [V.ref a] ∧ H a = some (.ins (kap c) dx fs) ∧ spD K kap 1 none m [V.ref a] H (fun v H' => ∃ n, v = .int n ∧ 0 ≤ n ∧ n < 9223372036854775808 ∧ Q (.int n) H') (fun _ _ _ => False)
def rLenO (K : PySem.W.Frag) (kap : Nat → Addr) (c : Nat) (m : List D → Fo) : List V → Hp → VK → Prop := fun xs H Q => rLenA K xs H Q ∨ rLenOwn K kap c m xs H Q
theorem len_own {prog : Program} {w : World} {A : Around} {E : Value → Shared → Prop} {s : Shared} {K : PySem.W.Frag} {x C f : Addr} {ox : Obj} {od : Option Obj} {Q : Value → Shared → Prop} (X : K.In s.heap) (I : PySem.W.InstAt s.heap x ox C od)
    (hs : PySem.W.findIn K (.ref C) "__len__" = some (some (.ref f))) (hf : PySem.W.typeIn K (.ref f) = some (.type "function"))
    (h : wpAny (model prog w) A.in1 (call (.ref f) [.ref x]) (fun v s' => ∃ n t, v = .int n t ∧ 0 ≤ n ∧ n < 9223372036854775808 ∧ Q (.int n s'.toks) { s' with toks := s'.toks + 1 }) E s) : wpAny (model prog w) A (call (.builtin "len") [.ref x]) Q E s := by
  refine Calls.call_function_entry kind_len plain_len entry_len (args_len1 _) ?_
  unfold Builtin.«len»
  refine wpAny_bind (m := oneArg "len" _) (wpAny_pure ?_)
  refine wpAny_bind (m := callSpecial? (.ref x) (Str.ofString "__len__")) (PySem.W.special_fn X I hs hf (wpAny_mono h (fun v s' hv => ?_) fun _ _ e => e))
  obtain ⟨n, t, rfl, h0, h1, q⟩ := hv
  refine wpAny_bind (wpAny_holding (wpAny_pure ?_))
  refine wpAny_bind (wpAny_letGo ?_)
  show wpAny _ _ (if n < 0 then _ else _) _ _ _
  rw [if_neg (by omega)]
  show wpAny _ _ (if n ≥ 2 ^ 63 then _ else _) _ _ _
  rw [if_neg (by omega)]
  exact wpAny_bind (wpAny_mkInt (wpAny_pure ⟨_, rfl, q⟩))
section
variable {kap : Nat → Addr} {X : Cx} {k c : Nat} {m : List D → Fo}
theorem call_lenOwn (hr : RoomG k X.A.in1) (o : OwnL X.prog X.w X.K X.mg X.base kap k c m) : CallR X (.builtin "len") (rLenOwn X.K kap c m) := by
  intro pins s σ H xs us Q I r h
  obtain ⟨a, dx, fs, rfl, ha, hsp⟩ := h
  obtain ⟨u, rfl, rx⟩ := vals1 r
  cases (show u = Value.ref a from rx)
  obtain ⟨mA, J, _⟩ := ins_get I.hok ha
  obtain ⟨od, J, _⟩ := J.look
  have hl : o.g.dvs = [] := by
    have := o.g.rs (fun _ => none)
    cases h : o.g.dvs with
    | nil => rfl
    | cons v r => rw [h] at this; cases this
  have r2 : Vals ([V.ref a] ++ o.g.dvs) ([Value.ref a] ++ o.g.ds) := Vals.append (.cons rfl .nil) o.g.vs
  have e0 : Env0 X.prog X.w X.K X.mg X.base X.A.in1 X.stack s H := by
    have e := I.env0
    exact ⟨e.frames, e.mod, e.bs, e.bsz, e.funs, e.frf, e.hok, e.bare⟩
  have hsp2 : spD X.K kap 1 none m ([V.ref a] ++ o.g.dvs) H (fun v H' => ∃ n, v = .int n ∧ 0 ≤ n ∧ n < 9223372036854775808 ∧ Q (.int n) H') (fun _ _ _ => False) := by rw [hl]; exact hsp
  refine len_own I.kIn J o.hs (beq_iff_eq.mp o.hf) ?_
  refine wpAny_call (codeAny_mono (o.g.ok.run X.A.in1 X.stack s H ⟨[.ref a], []⟩ ([Value.ref a] ++ o.g.ds) ([V.ref a] ++ o.g.dvs) _ _ hr e0 (o.g.bi s [.ref a] I.kIn (by rw [← r2.length]; exact o.g.ok.len _ _ _ _ hsp2)) r2 hsp2) fun r s' hq => ?_)
  cases r with
  | error e =>
    obtain ⟨_, _, _, _, _, _, _, _, _, _, _, _, hf⟩ := hq
    exact hf.elim
  | ok fl => cases fl with
    | ret w =>
      obtain ⟨z, H', I', rz, n, rfl, h0, h1, q⟩ := I.after hq
      obtain ⟨t, rfl⟩ := rz
      exact ⟨n, t, rfl, h0, h1, .int n, H', I'.tok _, ⟨_, rfl⟩, q⟩
    | next => exact hq.elim
    | brk => exact hq.elim
    | cont => exact hq.elim
theorem call_lenO (hr : RoomG k X.A.in1) (o : OwnL X.prog X.w X.K X.mg X.base kap k c m) : CallR X (.builtin "len") (rLenO X.K kap c m) := callR_or call_lenA (call_lenOwn hr o)
theorem sp_lenO {K : PySem.W.Frag} : SPN K kap (rLenO K kap c m) (fLenO c m) := by
  intro F H xs as z Q sub ra e q
  unfold fLenO at e
  split at e
  · rename_i c' fs
    split at e
    · rename_i hc
      subst hc
      refine .inr ?_
      obtain ⟨x, rfl, r⟩ := one_of ra
      obtain ⟨p, dx, vs, rfl, h1, n1, r1⟩ := r.obj sub
      refine ⟨p, dx, vs, rfl, h1, ?_⟩
      have A : ArgR K kap H H none [V.ref p] [.obj c' fs] none := ⟨rfl, fun i d hi _ => by
          match i, hi with
          | 0, hi => cases hi; exact ⟨_, rfl, r.rep sub⟩, (fun k d z _ => by cases z), (fun z => absurd rfl z)⟩
      refine ⟨H, [.obj c' fs], none, rfl, Same.refl H, A, ?_⟩
      cases eo : m [.obj c' fs] with
      | ret d q' =>
        rw [eo] at e
        cases q' with
        | none =>
          cases d with
          | int n =>
            have e : (if 0 ≤ n ∧ n < 9223372036854775808 then some (D.int n) else none) = some z := e
            split at e
            · rename_i hn
              cases e
              exact fun v F' H' f r => by
                cases r
                exact ⟨n, rfl, hn.1, hn.2, q _ F H' ⟨Same.refl F, fun a o h => f.keep a o h (by simp), fun a h => .inl h⟩ (fun a o h => f.keep a o (sub a o h) (by simp)) (.int n)⟩
            · cases e
          | _ => cases e
        | some _ => cases d <;> cases e
      | retF d q' => rw [eo] at e; cases e
      | ex c fs q' => rw [eo] at e; cases e
      | bad => rw [eo] at e; cases e
    · cases e
  · exact .inl (sp_len F H xs as z Q sub ra e q)
end
end DL

set_option maxRecDepth 100000
set_option maxHeartbeats 2000000
set_option autoImplicit false
/-! operators by an own class, with an int on either side -/
namespace DL
open PySem L2 PySem.Spec PyProof.Rows
section
variable {prog : Program} {w : World} {A : Around} {E : Value → Shared → Prop} {s : Shared} {K : PySem.W.Frag} {x C dx f g : Addr} {ox : Obj} {od : Option Obj} {i : Int} {t : Tok}
open PySem.W
theorem binR {op : Operator} {id : String} {Q : Value → Shared → Prop} (X : K.In s.heap) (I : PySem.W.InstAt s.heap x ox C od) (hc : selfFirst K C = true) (hs : findIn K (.ref C) (PySem.dunder op.info.2) = some (some (.ref f)))
    (hr : findIn K (.ref C) (dunderR op.info.2) = some (some (.ref g))) (hg : isFn K (.ref g) = true)
    (hfi : fillsNumberSlot (.type "int") op.info.2 = pure true) (hl : Slot "int" (PySem.dunder op.info.2) id) (hsub : subIn K (.ref C) (.type "int") = some false)
    (hd : ∀ Q' : Value → Shared → Prop, Q' .notImplemented s → wpAny (model prog w) A (call (.builtin id) [.int i t, .ref x]) Q' E s)
    (h : wpAny (model prog w) A (call (.ref g) [.ref x, .int i t]) (PySem.W.CmpBack Q) E s) : wpAny (model prog w) A (binaryOp op (.int i t) (.ref x)) Q E s := by
  obtain ⟨cd, rest, hcd, hm⟩ := ksp_first hc
  rcases hi : op.info with ⟨sym, nm'⟩
  rw [hi] at hs hr hfi hl
  dsimp only at hs hr hfi hl
  have one := ksp_try X I hr hg h
  simp only [binaryOp, hi]
  refine wpAny_holding (wpAny_bind ?_)
  unfold binaryOp1
  refine wpAny_bind (wpAny_typeOf (typeIs_int s i t) (wpAny_bind (I.type.here (wpAny_bind (wpAny_of_eq hfi ?_)))))
  have hne : (Value.type "int" == Value.ref C) = false := Bool.eq_false_iff.mpr fun q => by cases beq_iff_eq.mp q
  simp only [hne, Bool.false_eq_true, if_false]
  refine wpAny_bind ((fills_K X hcd hm hs).here ?_)
  simp only [Bool.and_self, if_true]
  refine wpAny_bind ((looks_subIn X hsub).here ?_)
  have hpy : numberSlotInPython (.type "int") nm' = pure false := rfl
  simp only [Bool.false_eq_true, if_false, pure_bind, Bool.not_false, Bool.and_self, if_true, hpy]
  refine wpAny_bind (wpAny_tryMethod_declines (typeIs_int s i t) hl (hd _ ⟨rfl, ?_⟩))
  refine wpAny_bind (wpAny_mono one (fun r s' hr' => ?_) fun _ _ e => e)
  obtain ⟨v, rfl, hq⟩ := hr'
  exact wpAny_bind (wpAny_rule (wpAny_pure (wpAny_pure hq)))
/-- an int's own method declines a thing of an own class -/
def Decl (B : Builtin) : Prop := ∀ (a : Int) (t : Tok) (x C dx : Addr), Meets (B ⟨[.int a t, .ref x], []⟩) (fun _ R s => s.heap.get? x = some (PySem.W.instObj C dx) ∧ R (.ok (.ret Value.notImplemented)) s)
theorem decl_add : Decl Builtin.«int.__add__» := fun a t x C dx => .of_wp fun prog w A R s h => by obtain ⟨hp, g, d, tk, os⟩ := s; obtain ⟨hl, h⟩ := h; wp_walk; exact ⟨_, rfl, h⟩
theorem decl_sub : Decl Builtin.«int.__sub__» := fun a t x C dx => .of_wp fun prog w A R s h => by obtain ⟨hp, g, d, tk, os⟩ := s; obtain ⟨hl, h⟩ := h; wp_walk; exact ⟨_, rfl, h⟩
theorem decl_mul : Decl Builtin.«int.__mul__» := fun a t x C dx => .of_wp fun prog w A R s h => by obtain ⟨hp, g, d, tk, os⟩ := s; obtain ⟨hl, h⟩ := h; wp_walk; exact ⟨_, rfl, h⟩
theorem decl_fdiv : Decl Builtin.«int.__floordiv__» := fun a t x C dx => .of_wp fun prog w A R s h => by obtain ⟨hp, g, d, tk, os⟩ := s; obtain ⟨hl, h⟩ := h; wp_walk; exact ⟨_, rfl, h⟩
theorem decl_lt : Decl Builtin.«int.__lt__» := fun a t x C dx => .of_wp fun prog w A R s h => by obtain ⟨hp, g, d, tk, os⟩ := s; obtain ⟨hl, h⟩ := h; wp_walk; exact ⟨_, rfl, h⟩
theorem decl_le : Decl Builtin.«int.__le__» := fun a t x C dx => .of_wp fun prog w A R s h => by obtain ⟨hp, g, d, tk, os⟩ := s; obtain ⟨hl, h⟩ := h; wp_walk; exact ⟨_, rfl, h⟩
theorem decl_gt : Decl Builtin.«int.__gt__» := fun a t x C dx => .of_wp fun prog w A R s h => by obtain ⟨hp, g, d, tk, os⟩ := s; obtain ⟨hl, h⟩ := h; wp_walk; exact ⟨_, rfl, h⟩
theorem decl_ge : Decl Builtin.«int.__ge__» := fun a t x C dx => .of_wp fun prog w A R s h => by obtain ⟨hp, g, d, tk, os⟩ := s; obtain ⟨hl, h⟩ := h; wp_walk; exact ⟨_, rfl, h⟩
theorem decl_eq : Decl Builtin.«int.__eq__» := fun a t x C dx => .of_wp fun prog w A R s h => by obtain ⟨hp, g, d, tk, os⟩ := s; obtain ⟨hl, h⟩ := h; wp_walk; exact ⟨_, rfl, h⟩
theorem decl_ne : Decl Builtin.«int.__ne__» := fun a t x C dx => .of_wp fun prog w A R s h => by obtain ⟨hp, g, d, tk, os⟩ := s; obtain ⟨hl, h⟩ := h; wp_walk; exact ⟨_, rfl, h⟩
end
/-- what of an int an operator needs -/
structure IntOp (op : Operator) where
  id : String
  B : Builtin
  fo : Option Value
  ro : Option Value
  fi : fillsNumberSlot (.type "int") op.info.2 = pure true
  sl : Slot "int" (PySem.dunder op.info.2) id
  en : entryFor table id = some B
  ar : ∀ a b, argsOk id ⟨[a, b], []⟩
  de : Decl B
  h1 : fastLookup "int" (PySem.dunder op.info.2) = some fo
  h2 : fastLookup "int" (dunderR op.info.2) = some ro
def io_add : IntOp .Add := ⟨"int.__add__", _, some (.builtin "int.__add__"), some (.builtin "int.__radd__"), F.fills_int_add, F.slot_int_add, F.entry_int_add, F.args_int_add_2, decl_add, by kernel_rfl, by kernel_rfl⟩
def io_sub : IntOp .Sub := ⟨"int.__sub__", _, some (.builtin "int.__sub__"), some (.builtin "int.__rsub__"), F.fills_int_sub, F.slot_int_sub, F.entry_int_sub, F.args_int_sub_2, decl_sub, by kernel_rfl, by kernel_rfl⟩
def io_mul : IntOp .Mult := ⟨"int.__mul__", _, some (.builtin "int.__mul__"), some (.builtin "int.__rmul__"), F.fills_int_mul, F.slot_int_mul, F.entry_int_mul, F.args_int_mul_2, decl_mul, by kernel_rfl, by kernel_rfl⟩
def io_fdiv : IntOp .FloorDiv := ⟨"int.__floordiv__", _, some (.builtin "int.__floordiv__"), some (.builtin "int.__rfloordiv__"), F.fills_int_floordiv, F.slot_int_floordiv, F.entry_int_floordiv, F.args_int_floordiv_2, decl_fdiv, by kernel_rfl, by kernel_rfl⟩
structure OwnB (P : Program) (w : World) (K : PySem.W.Frag) (mg : Str → Option Value) (base : Heap) (kap : Nat → Addr) (op : Operator) (k c : Nat) (m mr : List D → Fo) where
  g : DG P w K mg base kap k 2 none m []
  r : DG P w K mg base kap k 2 none mr []
  hs : PySem.W.findIn K (.ref (kap c)) (PySem.dunder op.info.2) = some (some (.ref g.f))
  hf : PySem.W.isFn K (.ref g.f) = true
  rs : PySem.W.findIn K (.ref (kap c)) (dunderR op.info.2) = some (some (.ref r.f))
  rf : PySem.W.isFn K (.ref r.f) = true
  cf : PySem.W.selfFirst K (kap c) = true
  ni : PySem.W.mroIn K (kap c) (.type "int") = some false
def isRef (K : PySem.W.Frag) (kap : Nat → Addr) (c : Nat) (x : V) (H : Hp) : Prop := ∃ a dx fs, x = .ref a ∧ H a = some (.ins (kap c) dx fs)
def ownOp (c : Nat) (m mr : List D → Fo) (f : D → D → Option D) (de : DEnv) (x y : D) : Rs D := match x, y with
  | .obj c1 fs, .int j => if c1 = c then callC 2 none m [] [.v (.obj c1 fs), .v (.int j)] de else .bad
  | .obj c1 fs, .obj c2 gs => if c1 = c ∧ c2 = c then callC 2 none m [] [.v (.obj c1 fs), .v (.obj c2 gs)] de else .bad
  | .int i, .obj c2 gs => if c2 = c then callC 2 none mr [] [.v (.obj c2 gs), .v (.int i)] de else .bad
  | x, y => ofO (f x y) de
def vOwnOp (c : Nat) (m mr : List D → Fo) (f : D → D → Option D) (ev ev' : DEnv → Rs D) (de : DEnv) : Rs D := (ev de).bind fun x de1 => (ev' de1).bind fun y de2 => ownOp c m mr f de2 x y
def tOwnOp (K : PySem.W.Frag) (kap : Nat → Addr) (c : Nat) (m mr : List D → Fo) (r : R2) (W : WX) (ta tb : TE) : TE := fun σ H Q => ta σ H fun x H1 => tb σ H1 fun y H2 =>
  (isRef K kap c x H2 ∧ ((∃ j, y = .int j) ∨ isRef K kap c y H2) ∧ spD K kap 2 none m [x, y] H2 Q (WE W σ)) ∨ ((∃ i, x = .int i) ∧ isRef K kap c y H2 ∧ spD K kap 2 none mr [y, x] H2 Q (WE W σ)) ∨ r x y H2 Q
section
variable {X : Cx} {kap : Nat → Addr} {xi : Xi} {W : WX} {a b : Expr} {ta tb : WX → TE} {ev ev' : DEnv → Rs D} {pos : Pos} {k c : Nat} {m mr : List D → Fo} {op : Operator} {r : R2} {f : D → D → Option D}
theorem is_ref {K : PySem.W.Frag} {F H : Hp} {v : V} {fs : List (Str × D)} (e : Same F H) (h : Rep K kap F v (.obj c fs)) : isRef K kap c v H := by
  cases h with
  | obj h n q => exact ⟨_, _, _, rfl, e _ _ h⟩
theorem own_sound {K : PySem.W.Frag} {F H : Hp} {sg : L2.St} {de : DEnv} {O : Own?} {Q : VK} {x y : V} {d d' : D} (s : SP2 K kap r f) (R : RS K kap xi F H sg de O) (rx : Rep K kap F x d) (ry : Rep K kap F y d')
    (hp : PE1 K kap (RlE K kap) xi F H sg de O W Q (ownOp c m mr f de d d')) :
    (isRef K kap c x H ∧ ((∃ j, y = .int j) ∨ isRef K kap c y H) ∧ spD K kap 2 none m [x, y] H Q (WE W sg)) ∨ ((∃ i, x = .int i) ∧ isRef K kap c y H ∧ spD K kap 2 none mr [y, x] H Q (WE W sg)) ∨ r x y H Q := by
  unfold ownOp at hp
  split at hp
  · split at hp
    · rename_i hc
      subst hc
      cases ry
      refine .inl ⟨is_ref R.sub rx, .inl ⟨_, rfl⟩, ?_⟩
      have := call_C (dvs := []) (fun F => Reps.nil) R (CAs.v rx (CAs.v (.int _) .nil)) hp
      simpa using this
    · exact hp.elim
  · split at hp
    · rename_i hc
      obtain ⟨h1, h2⟩ := hc
      subst h1
      subst h2
      refine .inl ⟨is_ref R.sub rx, .inr (is_ref R.sub ry), ?_⟩
      have := call_C (dvs := []) (fun F => Reps.nil) R (CAs.v rx (CAs.v ry .nil)) hp
      simpa using this
    · exact hp.elim
  · split at hp
    · rename_i hc
      subst hc
      cases rx
      refine .inr (.inl ⟨⟨_, rfl⟩, is_ref R.sub ry, ?_⟩)
      have := call_C (dvs := []) (fun F => Reps.nil) R (CAs.v ry (CAs.v (.int _) .nil)) hp
      simpa using this
    · exact hp.elim
  · obtain ⟨z, e, hp⟩ := ofO_some hp
    exact .inr (.inr (s F H x y _ _ z Q R.sub (.inl rx) (.inl ry) e fun v F' H' n sub r => hp.done R n sub r))
theorem snd_ownOp {K : PySem.W.Frag} (s : SP2 K kap r f) (ha : Snd K kap xi (RlE K kap) ta ev) (hb : Snd K kap xi (RlE K kap) tb ev') : Snd K kap xi (RlE K kap) (fun W => tOwnOp K kap c m mr r W (ta W) (tb W)) (vOwnOp c m mr f ev ev') := by
  intro W F H sg de O Q R hp
  refine ha.bind R hp fun x d F1 H1 de1 O1 R1 g1 rx _ hp => ?_
  refine hb.bind R1 hp fun y d' F2 H2 de2 O2 R2 g2 ry _ hp => ?_
  exact own_sound s R2 (Rep.mono g2.ex rx) ry hp
theorem run_own {k : Nat} {m : List D → Fo} (g : DG X.prog X.w X.K X.mg X.base kap k 2 none m []) (hr : RoomG k X.A) (tkx : Takes X W) {pins : List (Addr × Obj)} {s : Shared} {σ : L2.St} {H : Hp} {x y : V} {v u : Value} {Q : VK} (I : Inv X pins σ H s) (rx : RelV x v) (ry : RelV y u) (h : spD X.K kap 2 none m [x, y] H Q (WE W σ)) :
    wpAny (model X.prog X.w) X.A (call (.ref g.f) [v, u]) (PySem.W.CmpBack (EP X pins σ Q)) X.xe s := by
  have hl : g.dvs = [] := by
    have := g.rs (fun _ => none)
    cases h : g.dvs with
    | nil => rfl
    | cons v r => rw [h] at this; cases this
  have hrun := run_fnG (X := X) (Q := Q) (E := WE W) (us := [v, u]) (vs := [x, y]) (dvs := g.dvs) g.ok hr g.bi g.vs (passAt tkx σ) I (.cons rx (.cons ry .nil)) (by rw [hl]; exact h)
  refine wpAny_mono hrun (fun r s' hq => ?_) fun _ _ e => e
  obtain ⟨z, H', I', rz, q⟩ := hq
  cases r <;> first | (exact ⟨z, H', I', rz, q⟩) | (cases z <;> first | (cases rz; done) | (obtain ⟨_, h⟩ := rz; cases h))
theorem jOwnOp (o : OwnB X.prog X.w X.K X.mg X.base kap op k c m mr) (io : IntOp op) (ho : OpR X (binaryOp op) r) (s : SP2 X.K kap r f) (hr : RoomG k X.A) (tkx : Takes X W) (ha : JE kap xi X W a ta ev) (hb : JE kap xi X W b tb ev') :
    JE kap xi X W (.BinOp a op b pos) (fun W => tOwnOp X.K kap c m mr r W (ta W) (tb W)) (vOwnOp c m mr f ev ev') := ⟨by
  refine ⟨fun pins s σ H Q I h => ?_⟩
  refine wpAny_BinOp (binT ha.p hb.p I h fun v u s2 x y H2 I2 rx ry q => ?_)
  obtain ⟨mm, hF⟩ := I2.fr
  rcases q with ⟨⟨p, dx, fs, rfl, hp⟩, hy, hsp⟩ | ⟨⟨i, rfl⟩, ⟨p, dx, fs, rfl, hp⟩, hsp⟩ | q
  · cases rx
    obtain ⟨mA, J, _⟩ := ins_get I2.hok hp
    obtain ⟨od, J, _⟩ := J.look
    have hrun := run_own o.g hr tkx I2 (x := .ref p) (v := .ref p) rfl ry hsp
    rcases hy with ⟨j, rfl⟩ | ⟨p', dx', fs', rfl, hp'⟩
    · obtain ⟨t, rfl⟩ := ry
      exact PySem.W.ksp_binT (T := "int") hF I2.ok.mod.kin J rfl o.cf o.hs o.hf o.rs (.inr ⟨_, rfl⟩) io.h1 io.h2 (sub_bo X.K _ "int" (by decide)) hrun
    · cases ry
      obtain ⟨mA', J', _⟩ := ins_get I2.hok hp'
      obtain ⟨od', J', _⟩ := J'.look
      exact PySem.W.binop_K hF I2.ok.mod.kin J J'.type o.cf o.hs o.hf hrun
  · obtain ⟨t, rfl⟩ := rx
    cases ry
    obtain ⟨mA, J, _⟩ := ins_get I2.hok hp
    have hob := J.obj
    obtain ⟨od, J, _⟩ := J.look
    have hrun := run_own o.r hr tkx I2 (x := .ref p) (v := .ref p) (y := .int i) (u := .int i t) rfl ⟨t, rfl⟩ hsp
    exact binR I2.kIn J o.cf o.hs o.rs o.rf io.fi io.sl o.ni (fun Q' hq => call_meets io.sl (typeIs_int s2 i t) io.en (io.ar _ _) (io.de i t p (kap c) dx) ⟨hob, hq⟩) hrun
  · exact ho pins s2 σ H2 x y v u Q I2 rx ry q, snd_ownOp s ha.s hb.s⟩
end
end DL

set_option maxRecDepth 100000
set_option maxHeartbeats 2000000
set_option autoImplicit false
/-! comparisons by an own class, with an int on either side -/
namespace DL
open PySem L2 PySem.Spec PyProof.Rows
section
variable {prog : Program} {w : World} {A : Around} {E : Value → Shared → Prop} {s : Shared} {K : PySem.W.Frag} {x C dx f g : Addr} {ox : Obj} {od : Option Obj} {i : Int} {t : Tok}
open PySem.W
theorem try_K {Q : Value → Shared → Prop} {name : Str} {b : Value} (X : K.In s.heap) (I : PySem.W.InstAt s.heap x ox C od) (hs : findIn K (.ref C) name = some (some (.ref f))) (hf : isFn K (.ref f) = true)
    (h : wpAny (model prog w) A (call (.ref f) [.ref x, b]) (PySem.W.CmpBack Q) E s) : wpAny (model prog w) A (tryCompare (.ref x) name b) (fun r s' => ∃ v, r = some v ∧ Q v s') E s := by
  unfold tryCompare
  refine wpAny_bind (ifBound_K X I hs hf (wpAny_mono h (fun v s' hv => ?_) fun _ _ e => e))
  cases v <;> first | exact hv.elim | exact wpAny_pure ⟨_, rfl, hv⟩
theorem cmpR {op : CmpOp} {id : String} {Q : Value → Shared → Prop} (hu : A.units < cLine) (X : K.In s.heap) (I : PySem.W.InstAt s.heap x ox C od) (hsub : subIn K (.ref C) (.type "int") = some false) (hl : Slot "int" (cmpInfo op).2.1 id)
    (hd : ∀ Q' : Value → Shared → Prop, Q' .notImplemented s → wpAny (model prog w) A (call (.builtin id) [.int i t, .ref x]) Q' E s)
    (h : wpAny (model prog w) A (tryCompare (.ref x) (cmpInfo op).2.2 (.int i t)) (fun r s' => ∃ v, r = some v ∧ Q v s') E s) : wpAny (model prog w) A (richCompare op (.int i t) (.ref x)) Q E s := by
  unfold richCompare
  simp only [(typeIs_int s i t).oneThing_none]
  refine wpAny_holding (wpAny_bind (wpAny_cRoomFor hu ?_))
  refine wpAny_bind (wpAny_typeOf (typeIs_int s i t) (wpAny_bind (I.type.here ?_)))
  have hne : (Value.type "int" != Value.ref C) = true := by
    rw [bne_iff_ne]
    intro q
    cases q
  simp only [hne, if_true]
  refine wpAny_bind ((looks_subIn X hsub).here ?_)
  simp only [Bool.false_eq_true, if_false, Bool.not_false, if_true]
  refine wpAny_bind (wpAny_tryCompare_declines (typeIs_int s i t) hl (hd _ ⟨rfl, ?_⟩))
  refine wpAny_bind (wpAny_mono h (fun r s' hr' => ?_) fun _ _ e => e)
  obtain ⟨v, rfl, hq⟩ := hr'
  exact wpAny_pure hq
end
structure IntCmp (op : CmpOp) where
  id : String
  B : Builtin
  sl : Slot "int" (cmpInfo op).2.1 id
  en : entryFor table id = some B
  ar : ∀ a b, argsOk id ⟨[a, b], []⟩
  de : Decl B
  rc : compareOp op = richCompare op
def ic_lt : IntCmp .Lt := ⟨"int.__lt__", _, F.slot_int_lt, F.entry_int_lt, F.args_int_lt_2, decl_lt, rfl⟩
def ic_le : IntCmp .LtE := ⟨"int.__le__", _, F.slot_int_le, F.entry_int_le, F.args_int_le_2, decl_le, rfl⟩
def ic_gt : IntCmp .Gt := ⟨"int.__gt__", _, F.slot_int_gt, F.entry_int_gt, F.args_int_gt_2, decl_gt, rfl⟩
def ic_ge : IntCmp .GtE := ⟨"int.__ge__", _, F.slot_int_ge, F.entry_int_ge, F.args_int_ge_2, decl_ge, rfl⟩
def ic_eq : IntCmp .Eq := ⟨"int.__eq__", _, F.slot_int_eq, F.entry_int_eq, F.args_int_eq_2, decl_eq, rfl⟩
def ic_ne : IntCmp .NotEq := ⟨"int.__ne__", _, F.slot_int_ne, F.entry_int_ne, F.args_int_ne_2, decl_ne, rfl⟩
structure OwnC (P : Program) (w : World) (K : PySem.W.Frag) (mg : Str → Option Value) (base : Heap) (kap : Nat → Addr) (op : CmpOp) (k c : Nat) (m mr : List D → Fo) where
  g : DG P w K mg base kap k 2 none m []
  r : DG P w K mg base kap k 2 none mr []
  hs : PySem.W.findIn K (.ref (kap c)) (cmpInfo op).2.1 = some (some (.ref g.f))
  hf : PySem.W.isFn K (.ref g.f) = true
  rs : PySem.W.findIn K (.ref (kap c)) (cmpInfo op).2.2 = some (some (.ref r.f))
  rf : PySem.W.isFn K (.ref r.f) = true
  ni : PySem.W.mroIn K (kap c) (.type "int") = some false
def scR : Fo → Option D
  | .ret d none => if scal d = true then some d else none
  | _ => none
def fCmpO (c : Nat) (m mr : List D → Fo) (f : D → D → Option D) (a b : D) : Option D := match a, b with
  | .obj c1 fs, .obj c2 gs => if c1 = c ∧ c2 = c then scR (m [.obj c1 fs, .obj c2 gs]) else none
  | .obj c1 fs, .int j => if c1 = c then scR (m [.obj c1 fs, .int j]) else none
  | .int i, .obj c2 gs => if c2 = c then scR (mr [.obj c2 gs, .int i]) else none
  | a, b => f a b
def fNeO (c : Nat) (m mr : List D → Fo) (f : D → D → Option D) (a b : D) : Option D := match a, b with
  | .obj c1 fs, .obj c2 gs => if c1 = c ∧ c2 = c then fNegB (scR (m [.obj c1 fs, .obj c2 gs])) else none
  | .obj c1 fs, .int j => if c1 = c then fNegB (scR (m [.obj c1 fs, .int j])) else none
  | .int i, .obj c2 gs => if c2 = c then fNegB (scR (mr [.obj c2 gs, .int i])) else none
  | a, b => f a b
def rCmpO (K : PySem.W.Frag) (kap : Nat → Addr) (c : Nat) (m mr : List D → Fo) (r : R2) : R2 := fun x y H Q =>
  (isRef K kap c x H ∧ ((∃ j, y = .int j) ∨ isRef K kap c y H) ∧ spD K kap 2 none m [x, y] H Q (fun _ _ _ => False)) ∨ ((∃ i, x = .int i) ∧ isRef K kap c y H ∧ spD K kap 2 none mr [y, x] H Q (fun _ _ _ => False)) ∨ r x y H Q
def rNeO (K : PySem.W.Frag) (kap : Nat → Addr) (c : Nat) (m mr : List D → Fo) (r : R2) : R2 := fun x y H Q =>
  (isRef K kap c x H ∧ ((∃ j, y = .int j) ∨ isRef K kap c y H) ∧ spD K kap 2 none m [x, y] H (fun v H' => ∃ b, v = .bl b ∧ Q (.bl (!b)) H') (fun _ _ _ => False)) ∨ ((∃ i, x = .int i) ∧ isRef K kap c y H ∧ spD K kap 2 none mr [y, x] H (fun v H' => ∃ b, v = .bl b ∧ Q (.bl (!b)) H') (fun _ _ _ => False)) ∨ r x y H Q
section
variable {K : PySem.W.Frag} {kap : Nat → Addr} {c : Nat} {m mr : List D → Fo} {r : R2} {f : D → D → Option D}
theorem run_sc {F H : Hp} {x y : V} {a b z : D} {Q : VK} (sub : Same F H) (ra : Rep K kap H x a) (rb : Rep K kap H y b) (e : scR (m [a, b]) = some z) (q : ∀ v F' H', New F H F' H' → Same F' H' → Rep K kap F' v z → Q v H') : spD K kap 2 none m [x, y] H Q (fun _ _ _ => False) := by
  have A : ArgR K kap H H none [x, y] [a, b] none := ⟨rfl, fun i d hi _ => by
      match i, hi with
      | 0, hi => cases hi; exact ⟨_, rfl, ra⟩
      | 1, hi => cases hi; exact ⟨_, rfl, rb⟩, (fun k d z _ => by cases z), (fun z => absurd rfl z)⟩
  refine ⟨H, [a, b], none, rfl, Same.refl H, A, ?_⟩
  cases eo : m [a, b] with
  | ret d q' =>
    rw [eo] at e
    cases q' with
    | none =>
      have e : (if scal d = true then some d else none) = some z := e
      split at e
      · rename_i hsc
        cases e
        exact fun v F' H' f r => q v F H' ⟨Same.refl F, fun a o h => f.keep a o h (by simp), fun a h => .inl h⟩ (fun a o h => f.keep a o (sub a o h) (by simp)) (scal_rep r hsc)
      · cases e
    | some _ => cases e
  | retF d q' => rw [eo] at e; cases e
  | ex c fs q' => rw [eo] at e; cases e
  | bad => rw [eo] at e; cases e
theorem rb_ref {F H : Hp} {v : V} {fs : List (Str × D)} (e : Same F H) (h : RB K kap F H v (.obj c fs)) : isRef K kap c v H := by
  obtain ⟨p, dx, vs, rfl, h1, n1, r1⟩ := h.obj e
  exact ⟨p, dx, vs, rfl, h1⟩
theorem sp_cmpO (s : SP2 K kap r f) : SP2 K kap (rCmpO K kap c m mr r) (fCmpO c m mr f) := by
  intro F H x y a b z Q sub ra rb e q
  unfold fCmpO at e
  split at e
  · split at e
    · rename_i hc
      obtain ⟨h1, h2⟩ := hc
      subst h1
      subst h2
      exact .inl ⟨rb_ref sub ra, .inr (rb_ref sub rb), run_sc sub (ra.rep sub) (rb.rep sub) e q⟩
    · cases e
  · split at e
    · rename_i hc
      subst hc
      have ry : Rep K kap H y (.int _) := rb.rep sub
      cases ry
      exact .inl ⟨rb_ref sub ra, .inl ⟨_, rfl⟩, run_sc sub (ra.rep sub) (.int _) e q⟩
    · cases e
  · split at e
    · rename_i hc
      subst hc
      have rx : Rep K kap H x (.int _) := ra.rep sub
      cases rx
      exact .inr (.inl ⟨⟨_, rfl⟩, rb_ref sub rb, run_sc sub (rb.rep sub) (.int _) e q⟩)
    · cases e
  · exact .inr (.inr (s F H x y _ _ z Q sub ra rb e q))
theorem neg_some {o : Option D} {z : D} (h : fNegB o = some z) : ∃ b, o = some (.bl b) ∧ z = .bl (!b) := by
  unfold fNegB at h
  split at h
  · cases h
    exact ⟨_, rfl, rfl⟩
  · cases h
theorem sp_neO (s : SP2 K kap r f) : SP2 K kap (rNeO K kap c m mr r) (fNeO c m mr f) := by
  intro F H x y a b z Q sub ra rb e q
  unfold fNeO at e
  have qq : ∀ b, z = .bl (!b) → ∀ v F' H', New F H F' H' → Same F' H' → Rep K kap F' v (.bl b) → ∃ b', v = .bl b' ∧ Q (.bl (!b')) H' := fun b hz v F' H' n s2 rr => by
    cases rr
    subst hz
    exact ⟨b, rfl, q _ F' H' n s2 (.bl _)⟩
  split at e
  · split at e
    · rename_i hc
      obtain ⟨h1, h2⟩ := hc
      subst h1
      subst h2
      obtain ⟨b, e, hz⟩ := neg_some e
      exact .inl ⟨rb_ref sub ra, .inr (rb_ref sub rb), run_sc sub (ra.rep sub) (rb.rep sub) e (qq b hz)⟩
    · cases e
  · split at e
    · rename_i hc
      subst hc
      obtain ⟨b, e, hz⟩ := neg_some e
      have ry : Rep K kap H y (.int _) := rb.rep sub
      cases ry
      exact .inl ⟨rb_ref sub ra, .inl ⟨_, rfl⟩, run_sc sub (ra.rep sub) (.int _) e (qq b hz)⟩
    · cases e
  · split at e
    · rename_i hc
      subst hc
      obtain ⟨b, e, hz⟩ := neg_some e
      have rx : Rep K kap H x (.int _) := ra.rep sub
      cases rx
      exact .inr (.inl ⟨⟨_, rfl⟩, rb_ref sub rb, run_sc sub (rb.rep sub) (.int _) e (qq b hz)⟩)
    · cases e
  · exact .inr (.inr (s F H x y _ _ z Q sub ra rb e q))
end
section
variable {X : Cx} {kap : Nat → Addr} {k c : Nat} {m mr : List D → Fo} {r : R2} {op : CmpOp}
theorem run_own2 (g : DG X.prog X.w X.K X.mg X.base kap k 2 none m []) (hr : RoomG k X.A) {pins : List (Addr × Obj)} {s : Shared} {σ : L2.St} {H : Hp} {x y : V} {v u : Value} {Q : VK} (I : Inv X pins σ H s) (rx : RelV x v) (ry : RelV y u) (h : spD X.K kap 2 none m [x, y] H Q (fun _ _ _ => False)) :
    wpAny (model X.prog X.w) X.A (call (.ref g.f) [v, u]) (PySem.W.CmpBack (EP X pins σ Q)) X.xe s := by
  have hl : g.dvs = [] := by
    have := g.rs (fun _ => none)
    cases h : g.dvs with
    | nil => rfl
    | cons v r => rw [h] at this; cases this
  have hrun := run_fnG (X := X) (Q := Q) (E := fun (_ : L2.St) (_ : Value) (_ : Option Addr) (_ : Hp) => False) (us := [v, u]) (vs := [x, y]) (dvs := g.dvs) g.ok hr g.bi g.vs (fun pins H s e s' I h => by
    obtain ⟨_, _, _, _, _, _, _, _, _, _, _, _, hf⟩ := h
    exact hf.elim) I (.cons rx (.cons ry .nil)) (by rw [hl]; exact h)
  refine wpAny_mono hrun (fun r s' hq => ?_) fun _ _ e => e
  obtain ⟨z, H', I', rz, q⟩ := hq
  cases r <;> first | (exact ⟨z, H', I', rz, q⟩) | (cases z <;> first | (cases rz; done) | (obtain ⟨_, h⟩ := rz; cases h))
theorem nf_int {K : PySem.W.Frag} {C : Addr} : PySem.W.notFirst K C (.type "int") = true := by
  unfold PySem.W.notFirst
  rw [sub_bo K C "int" (by decide)]
  simp
theorem nf_self {K : PySem.W.Frag} {C : Addr} : PySem.W.notFirst K C (.ref C) = true := by
  unfold PySem.W.notFirst
  simp
theorem op_cmpO (o : OwnC X.prog X.w X.K X.mg X.base kap op k c m mr) (ic : IntCmp op) (ho : OpR X (compareOp op) r) (hr : RoomG k X.A) : OpR X (compareOp op) (rCmpO X.K kap c m mr r) := by
  intro pins s σ H x y v u Q I rx ry h
  have hu : X.A.units < cLine := by have := hr.un; omega
  obtain ⟨mm, hF⟩ := I.fr
  rcases h with ⟨⟨p, dx, fs, rfl, hp⟩, hy, hsp⟩ | ⟨⟨i, rfl⟩, ⟨p, dx, fs, rfl, hp⟩, hsp⟩ | q
  · cases rx
    obtain ⟨mA, J, _⟩ := ins_get I.hok hp
    obtain ⟨od, J, _⟩ := J.look
    have hrun := run_own2 o.g hr I (x := .ref p) (v := .ref p) rfl ry hsp
    rw [ic.rc]
    rcases hy with ⟨j, rfl⟩ | ⟨p', dx', fs', rfl, hp'⟩
    · obtain ⟨t, rfl⟩ := ry
      exact PySem.W.cmp_K hu hF I.ok.mod.kin J (tb := .type "int") (PySem.W.Looks.of_pure rfl) nf_int o.hs o.hf hrun
    · cases ry
      obtain ⟨mA', J', _⟩ := ins_get I.hok hp'
      obtain ⟨od', J', _⟩ := J'.look
      exact PySem.W.cmp_K hu hF I.ok.mod.kin J J'.type nf_self o.hs o.hf hrun
  · obtain ⟨t, rfl⟩ := rx
    cases ry
    obtain ⟨mA, J, _⟩ := ins_get I.hok hp
    have hob := J.obj
    obtain ⟨od, J, _⟩ := J.look
    have hrun := run_own2 o.r hr I (x := .ref p) (v := .ref p) (y := .int i) (u := .int i t) rfl ⟨t, rfl⟩ hsp
    rw [ic.rc]
    exact cmpR hu I.kIn J o.ni ic.sl (fun Q' hq => call_meets ic.sl (typeIs_int s i t) ic.en (ic.ar _ _) (ic.de i t p (kap c) dx) ⟨hob, hq⟩) (try_K I.kIn J o.rs o.rf hrun)
  · exact ho pins s σ H x y v u Q I rx ry q
end
end DL

set_option maxRecDepth 100000
set_option maxHeartbeats 2000000
set_option autoImplicit false
/-! - and abs() by an own class; what is never reached -/
namespace DL
open PySem L2 PySem.Spec PyProof.Rows
def vBadE (_ : DEnv) : Rs D := .bad
def vBadS (_ : DEnv) : Ot := .bad
section
variable {X : Cx} {kap : Nat → Addr} {xi : Xi} {W : WX}
theorem jBadS {st : Stmt} : JS kap xi X W st (fun _ _ _ _ => False) vBadS := ⟨⟨fun _ _ _ _ _ _ h => h.elim⟩, fun W F H sg de O Dn R hp => hp.elim⟩
theorem jBadE {e : Expr} : JE kap xi X W e (fun _ _ _ _ => False) vBadE := ⟨⟨fun _ _ _ _ _ _ h => h.elim⟩, fun W F H sg de O Q R hp => hp.elim⟩
end
structure OwnU (P : Program) (w : World) (K : PySem.W.Frag) (mg : Str → Option Value) (base : Heap) (kap : Nat → Addr) (nm : Str) (k c : Nat) (m : List D → Fo) where
  g : DG P w K mg base kap k 1 none m []
  hs : PySem.W.findIn K (.ref (kap c)) nm = some (some (.ref g.f))
  hf : PySem.W.isFn K (.ref g.f) = true
def ownUn (c : Nat) (m : List D → Fo) (f : D → Option D) (de : DEnv) (x : D) : Rs D := match x with
  | .obj c1 fs => if c1 = c then callC 1 none m [] [.v (.obj c1 fs)] de else .bad
  | x => ofO (f x) de
def vOwnUn (c : Nat) (m : List D → Fo) (f : D → Option D) (ev : DEnv → Rs D) (de : DEnv) : Rs D := (ev de).bind fun x de1 => ownUn c m f de1 x
def tOwnUn (K : PySem.W.Frag) (kap : Nat → Addr) (c : Nat) (m : List D → Fo) (r : V → Hp → VK → Prop) (W : WX) (ta : TE) : TE := fun σ H Q => ta σ H fun x H1 => (isRef K kap c x H1 ∧ spD K kap 1 none m [x] H1 Q (WE W σ)) ∨ r x H1 Q
def absCs (c : Nat) (m : List D → Fo) (de : DEnv) : List CA → Rs D
  | [.v d] => ownUn c m (fun x => fAbs [x]) de d
  | _ => .bad
def vOwnAbs (c : Nat) (m : List D → Fo) (ea : DEnv → Rs (List CA)) (de : DEnv) : Rs D := (ea de).bind fun cs de1 => absCs c m de1 cs
def rAbs : V → Hp → VK → Prop := fun x H Q => ∃ i, x = .int i ∧ Q (.int (if i < 0 then -i else i)) H
def tOwnAbs (K : PySem.W.Frag) (kap : Nat → Addr) (c : Nat) (m : List D → Fo) (W : WX) (ta : TA) : TE := fun σ H Q => ta σ H fun vs H1 => ∃ x, vs = [x] ∧ ((isRef K kap c x H1 ∧ spD K kap 1 none m [x] H1 Q (WE W σ)) ∨ rAbs x H1 Q)
section
variable {X : Cx} {kap : Nat → Addr} {xi : Xi} {W : WX} {a : Expr} {ta : WX → TE} {ev : DEnv → Rs D} {pos p : Pos} {k c : Nat} {m : List D → Fo} {r : V → Hp → VK → Prop} {f : D → Option D}
theorem un_sound {K : PySem.W.Frag} {F H : Hp} {sg : L2.St} {de : DEnv} {O : Own?} {Q : VK} {x : V} {d : D} (s : SP1 K kap r f) (R : RS K kap xi F H sg de O) (rx : Rep K kap F x d)
    (hp : PE1 K kap (RlE K kap) xi F H sg de O W Q (ownUn c m f de d)) : (isRef K kap c x H ∧ spD K kap 1 none m [x] H Q (WE W sg)) ∨ r x H Q := by
  unfold ownUn at hp
  split at hp
  · split at hp
    · rename_i hc
      subst hc
      refine .inl ⟨is_ref R.sub rx, ?_⟩
      have := call_C (dvs := []) (fun F => Reps.nil) R (CAs.v rx .nil) hp
      simpa using this
    · exact hp.elim
  · obtain ⟨z, e, hp⟩ := ofO_some hp
    exact .inr (s F H x _ z Q R.sub (.inl rx) e fun v F' H' n sub r => hp.done R n sub r)
theorem snd_ownUn {K : PySem.W.Frag} (s : SP1 K kap r f) (ha : Snd K kap xi (RlE K kap) ta ev) : Snd K kap xi (RlE K kap) (fun W => tOwnUn K kap c m r W (ta W)) (vOwnUn c m f ev) := by
  intro W F H sg de O Q R hp
  refine ha.bind R hp fun x d F1 H1 de1 O1 R1 g1 rx _ hp => ?_
  exact un_sound s R1 rx hp
theorem run_own1 {k : Nat} {m : List D → Fo} {A : Around} (g : DG X.prog X.w X.K X.mg X.base kap k 1 none m []) (hr : RoomG k X.A.in1) (tkx : Takes X W) {pins : List (Addr × Obj)} {s : Shared} {σ : L2.St} {H : Hp} {x : V} {v : Value} {Q : VK} (I : Inv X pins σ H s) (rx : RelV x v) (h : spD X.K kap 1 none m [x] H Q (WE W σ)) :
    wpAny (model X.prog X.w) X.A.in1 (call (.ref g.f) [v]) (EP X pins σ Q) X.xe s := by
  have hl : g.dvs = [] := by
    have := g.rs (fun _ => none)
    cases h : g.dvs with
    | nil => rfl
    | cons v r => rw [h] at this; cases this
  have r2 : Vals ([x] ++ g.dvs) ([v] ++ g.ds) := Vals.append (.cons rx .nil) g.vs
  have e0 : Env0 X.prog X.w X.K X.mg X.base X.A.in1 X.stack s H := by
    have e := I.env0
    exact ⟨e.frames, e.mod, e.bs, e.bsz, e.funs, e.frf, e.hok, e.bare⟩
  have hsp2 : spD X.K kap 1 none m ([x] ++ g.dvs) H Q (WE W σ) := by rw [hl]; exact h
  refine wpAny_call (codeAny_mono (g.ok.run X.A.in1 X.stack s H ⟨[v], []⟩ ([v] ++ g.ds) ([x] ++ g.dvs) _ _ hr e0 (g.bi s [v] I.kIn (by rw [← r2.length]; exact g.ok.len _ _ _ _ hsp2)) r2 hsp2) fun r s' hq => ?_)
  cases r with
  | error e => exact passAt tkx σ pins H s e s' I hq
  | ok fl => cases fl with
    | ret u => exact I.after hq
    | next => exact hq.elim
    | brk => exact hq.elim
    | cont => exact hq.elim
theorem jOwnNeg (o : OwnU X.prog X.w X.K X.mg X.base kap "__neg__" k c m) (s : SP1 X.K kap r f) (ho : UnR X (unaryOp .USub) r) (hr : RoomG k X.A) (tkx : Takes X W) (ha : JE kap xi X W a ta ev) :
    JE kap xi X W (.UnaryOp .USub a pos) (fun W => tOwnUn X.K kap c m r W (ta W)) (vOwnUn c m f ev) := ⟨by
  refine ⟨fun pins s σ H Q I h => ?_⟩
  refine UnaryOp_ (thn (ha.p.run pins s σ H _ I h) fun v s1 ⟨x, H1, I1, rx, q⟩ => ?_)
  rcases q with ⟨⟨p, dx, fs, rfl, hp⟩, hsp⟩ | q
  · cases rx
    obtain ⟨mm, hF⟩ := I1.fr
    obtain ⟨mA, J, _⟩ := ins_get I1.hok hp
    obtain ⟨od, J, _⟩ := J.look
    have hl : o.g.dvs = [] := by
      have := o.g.rs (fun _ => none)
      cases h : o.g.dvs with
      | nil => rfl
      | cons v r => rw [h] at this; cases this
    have hrun := run_fnG (X := X) (Q := Q) (E := WE W) (us := [.ref p]) (vs := [V.ref p]) (dvs := o.g.dvs) o.g.ok hr o.g.bi o.g.vs (passAt tkx σ) I1 (.cons rfl .nil) (by rw [hl]; exact hsp)
    exact PySem.W.ksp_neg hF I1.ok.mod.kin J o.hs o.hf hrun
  · exact ho pins s1 σ H1 x v Q I1 rx q, snd_ownUn s ha.s⟩
theorem sp1_abs {K : PySem.W.Frag} : SP1 K kap rAbs (fun x => fAbs [x]) := by
  intro F H x a z Q sub ra e q
  cases a with
  | int i =>
    have e : some (D.int (if i < 0 then -i else i)) = some z := e
    cases e
    have ry : Rep K kap H x (.int i) := ra.rep sub
    cases ry
    exact ⟨i, rfl, q _ F H New.refl sub (.int _)⟩
  | _ => cases e
theorem abs_own {prog : Program} {w : World} {A : Around} {E : Value → Shared → Prop} {s : Shared} {K : PySem.W.Frag} {x C f : Addr} {ox : Obj} {od : Option Obj} {Q : Value → Shared → Prop} (X : K.In s.heap) (I : PySem.W.InstAt s.heap x ox C od)
    (hs : PySem.W.findIn K (.ref C) "__abs__" = some (some (.ref f))) (hf : PySem.W.isFn K (.ref f) = true)
    (h : wpAny (model prog w) A.in1 (call (.ref f) [.ref x]) Q E s) : wpAny (model prog w) A (call (.builtin "abs") [.ref x]) Q E s := by
  refine Calls.call_function_entry kind_abs plain_abs entry_abs (args_abs _) ?_
  unfold Builtin.«abs»
  refine wpAny_bind (m := oneArg "abs" _) (wpAny_pure ?_)
  refine wpAny_bind (m := callSpecial? (.ref x) (Str.ofString "__abs__")) (PySem.W.special_fn X I hs (beq_iff_eq.mp hf) (wpAny_mono h (fun v s' hv => ?_) fun _ _ e => e))
  exact wpAny_pure ⟨_, rfl, hv⟩
variable {es : List Expr} {tt : WX → TA} {ea : DEnv → Rs (List CA)}
theorem jOwnAbs (o : OwnU X.prog X.w X.K X.mg X.base kap "__abs__" k c m) (hr : RoomG k X.A.in1) (tkx : Takes X W) (ha : JC kap xi X W (a :: es) tt ea) (hm : X.mg "abs" = none) (hv : bootBuiltins "abs" = some (.builtin "abs")) (hg : Gl X "abs" := by rfl)
    (he : starEach (a :: es) X.env = (false, eval a X.env) :: starEach es X.env := by rfl) (hpl : (backTo pos (starEach es X.env)).any (·.1) = false := by rfl) :
    JE kap xi X W (.Call (.Name "abs" p) (a :: es) [] pos) (fun W => tOwnAbs X.K kap c m W (tt W)) (vOwnAbs c m ea) := ⟨by
  refine ⟨fun pins s σ H Q I h => ?_⟩
  refine wpAny_Call_Name_kw (ld_blt I hg hm hv ?_ (by decide) (by decide))
  refine PyProof.Rows.callWith_builtin1 (thn (ha.p.run pos pins s σ H _ I h) fun us s1 ⟨vs, H1, I1, r1, q1⟩ => ?_) he hpl
  obtain ⟨x, rfl, q⟩ := q1
  rcases q with ⟨⟨p, dx, fs, rfl, hp⟩, hsp⟩ | q
  · obtain ⟨u, rfl, rx⟩ := vals1 r1
    cases (show u = Value.ref p from rx)
    obtain ⟨mA, J, _⟩ := ins_get I1.hok hp
    obtain ⟨od, J, _⟩ := J.look
    exact abs_own I1.kIn J o.hs o.hf (run_own1 (A := X.A) o.g hr tkx I1 (x := .ref p) (v := .ref p) rfl hsp)
  · obtain ⟨i, rfl, q⟩ := q
    exact call_abs pins s1 σ H1 _ us Q I1 r1 ⟨i, rfl, q⟩, by
  intro W F H sg de O Q R hp
  refine ha.s.bind R hp fun vs cs F1 H1 de1 O1 R1 g1 A _ hp => ?_
  unfold absCs at hp
  split at hp
  · cases A with
    | v rx rest =>
      cases rest
      exact ⟨_, rfl, un_sound sp1_abs R1 rx hp⟩
  · exact hp.elim⟩
end
section
variable {X : Cx} {kap : Nat → Addr} {xi : Xi} {W : WX} {a b : Expr} {ta tb : WX → TE} {ev ev' : DEnv → Rs D} {oa ob : Op} {pos : Pos} {k c : Nat} {m mr : List D → Fo}
theorem jOwnAdd (o : OwnB X.prog X.w X.K X.mg X.base kap .Add k c m mr) (hr : RoomG k X.A) (tkx : Takes X W) (ha : JE kap xi X W a ta ev) (hb : JE kap xi X W b tb ev') : JE kap xi X W (.BinOp a .Add b pos) (fun W => tOwnOp X.K kap c m mr (rAddA X.K) W (ta W) (tb W)) (vOwnOp c m mr fAdd ev ev') := jOwnOp o io_add op_addA sp_addA hr tkx ha hb
theorem jOwnSub (o : OwnB X.prog X.w X.K X.mg X.base kap .Sub k c m mr) (hr : RoomG k X.A) (tkx : Takes X W) (ha : JE kap xi X W a ta ev) (hb : JE kap xi X W b tb ev') : JE kap xi X W (.BinOp a .Sub b pos) (fun W => tOwnOp X.K kap c m mr (rI0 fun i j => .int (i - j)) W (ta W) (tb W)) (vOwnOp c m mr fSub ev ev') := jOwnOp o io_sub op_sub (spI fun _ _ _ => .int _) hr tkx ha hb
theorem jOwnMul (o : OwnB X.prog X.w X.K X.mg X.base kap .Mult k c m mr) (hr : RoomG k X.A) (tkx : Takes X W) (ha : JE kap xi X W a ta ev) (hb : JE kap xi X W b tb ev') : JE kap xi X W (.BinOp a .Mult b pos) (fun W => tOwnOp X.K kap c m mr (rI CMulW fun i j => .int (i * j)) W (ta W) (tb W)) (vOwnOp c m mr fMul ev ev') := jOwnOp o io_mul op_mulW (spIC (fun i j h => by
    unfold cMul at h
    rw [Bool.and_eq_true, decide_eq_true_eq, decide_eq_true_eq] at h
    exact wide_mul h.1 h.2 (by decide) (by decide) (by decide)) fun _ _ _ => .int _) hr tkx ha hb
theorem jOwnFdiv (o : OwnB X.prog X.w X.K X.mg X.base kap .FloorDiv k c m mr) (hr : RoomG k X.A) (tkx : Takes X W) (ha : JE kap xi X W a ta ev) (hb : JE kap xi X W b tb ev') : JE kap xi X W (.BinOp a .FloorDiv b pos) (fun W => tOwnOp X.K kap c m mr (rI CDivG fun i j => .int (i.fdiv j)) W (ta W) (tb W)) (vOwnOp c m mr fFdivG ev ev') := jOwnOp o io_fdiv op_fdivG (spIC (fun i j h => by
    unfold cDivG at h
    rw [Bool.and_eq_true, decide_eq_true_eq, decide_eq_true_eq] at h
    refine ⟨h.1, ?_⟩
    by_cases h0 : j.natAbs = 0
    · rw [h0]; decide +kernel
    · exact Nat.lt_of_lt_of_le ((Nat.log2_lt h0).mpr h.2) (by decide)) fun _ _ _ => .int _) hr tkx ha hb
theorem jOwnUSub (o : OwnU X.prog X.w X.K X.mg X.base kap "__neg__" k c m) (hr : RoomG k X.A) (tkx : Takes X W) (ha : JE kap xi X W a ta ev) : JE kap xi X W (.UnaryOp .USub a pos) (fun W => tOwnUn X.K kap c m (rU fun i => .int (-i)) W (ta W)) (vOwnUn c m fNeg ev) := jOwnNeg o spU un_neg hr tkx ha
end
section
open PySem.W
variable {prog : Program} {w : World} {A : Around} {E : Value → Shared → Prop} {s : Shared} {K : PySem.W.Frag} {x C f : Addr} {ox : Obj} {od : Option Obj} {b : Value}
theorem try_neK {Q : Value → Shared → Prop} (hu : A.units + 1 < cLine) (X : K.In s.heap) (I : PySem.W.InstAt s.heap x ox C od) (hm : mroIn K C (.type "object") = some true) (hne : findIn K (.ref C) "__ne__" = some (some (.builtin "object.__ne__"))) (hs : findIn K (.ref C) "__eq__" = some (some (.ref f))) (hf : isFn K (.ref f) = true)
    (h : wpAny (model prog w) A.in1 (call (.ref f) [.ref x, b]) (fun v s' => ∃ r, v = .bool r ∧ Q (.bool (!r)) s') E s) : wpAny (model prog w) A (tryCompare (.ref x) "__ne__" b) (fun r s' => ∃ v, r = some v ∧ Q v s') E s := by
  unfold tryCompare
  refine wpAny_bind (ifBound_objNe X I hne (wpAny_call (codeAny_call_builtin F.cmp_object.ne.plain F.cmpEntry_ne (check_slot F.cmpKind_ne F.cmpSplit_ne (I.type.andThen (looks_mroIn X hm)) (F.cmpArgs_ne _ _) ?_))))
  refine objNe_K X I hs hf (by show A.in1.units < cLine; exact Nat.lt_of_le_of_lt (by first | exact Nat.le_refl _ | simp [Around.in1]) hu) (wpAny_mono h (fun r s' hr => ?_) fun _ _ e => e)
  obtain ⟨r, rfl, q⟩ := hr
  exact ⟨r, rfl, wpAny_pure ⟨_, rfl, q⟩⟩
end
structure OwnNe (P : Program) (w : World) (K : PySem.W.Frag) (mg : Str → Option Value) (base : Heap) (kap : Nat → Addr) (k c : Nat) (m : List D → Fo) where
  g : DG P w K mg base kap k 2 none m []
  hs : PySem.W.findIn K (.ref (kap c)) "__eq__" = some (some (.ref g.f))
  hf : PySem.W.isFn K (.ref g.f) = true
  hm : PySem.W.mroIn K (kap c) (.type "object") = some true
  hne : PySem.W.findIn K (.ref (kap c)) "__ne__" = some (some (.builtin "object.__ne__"))
  ni : PySem.W.mroIn K (kap c) (.type "int") = some false
section
variable {X : Cx} {kap : Nat → Addr} {k c : Nat} {m : List D → Fo} {r : R2}
theorem run_ne (g : DG X.prog X.w X.K X.mg X.base kap k 2 none m []) (hr : RoomG k X.A.in1) {pins : List (Addr × Obj)} {s : Shared} {σ : L2.St} {H : Hp} {x y : V} {v u : Value} {Q : VK} (I : Inv X pins σ H s) (rx : RelV x v) (ry : RelV y u) (h : spD X.K kap 2 none m [x, y] H (fun v H' => ∃ b, v = .bl b ∧ Q (.bl (!b)) H') (fun _ _ _ => False)) :
    wpAny (model X.prog X.w) X.A.in1 (call (.ref g.f) [v, u]) (fun v s' => ∃ r, v = .bool r ∧ EP X pins σ Q (.bool (!r)) s') X.xe s := by
  have hl : g.dvs = [] := by
    have := g.rs (fun _ => none)
    cases h : g.dvs with
    | nil => rfl
    | cons v r => rw [h] at this; cases this
  have r2 : Vals ([x, y] ++ g.dvs) ([v, u] ++ g.ds) := Vals.append (.cons rx (.cons ry .nil)) g.vs
  have e0 : Env0 X.prog X.w X.K X.mg X.base X.A.in1 X.stack s H := by
    have e := I.env0
    exact ⟨e.frames, e.mod, e.bs, e.bsz, e.funs, e.frf, e.hok, e.bare⟩
  have hsp2 : spD X.K kap 2 none m ([x, y] ++ g.dvs) H (fun v H' => ∃ b, v = .bl b ∧ Q (.bl (!b)) H') (fun _ _ _ => False) := by rw [hl]; exact h
  refine wpAny_call (codeAny_mono (g.ok.run X.A.in1 X.stack s H ⟨[v, u], []⟩ ([v, u] ++ g.ds) ([x, y] ++ g.dvs) _ _ hr e0 (g.bi s [v, u] I.kIn (by rw [← r2.length]; exact g.ok.len _ _ _ _ hsp2)) r2 hsp2) fun r s' hq => ?_)
  cases r with
  | error e =>
    obtain ⟨_, _, _, _, _, _, _, _, _, _, _, _, hf⟩ := hq
    exact hf.elim
  | ok fl => cases fl with
    | ret w =>
      obtain ⟨z, H', I', rz, b, rfl, q⟩ := I.after hq
      cases rz
      exact ⟨b, rfl, .bl (!b), H', I', rfl, q⟩
    | next => exact hq.elim
    | brk => exact hq.elim
    | cont => exact hq.elim
theorem op_neO (o : OwnNe X.prog X.w X.K X.mg X.base kap k c m) (ho : OpR X (compareOp .NotEq) r) (hr : RoomG (k + 1) X.A) : OpR X (compareOp .NotEq) (rNeO X.K kap c m m r) := by
  intro pins s σ H x y v u Q I rx ry h
  have hu : X.A.units + 1 < cLine := by have := hr.un; omega
  obtain ⟨mm, hF⟩ := I.fr
  rcases h with ⟨⟨p, dx, fs, rfl, hp⟩, hy, hsp⟩ | ⟨⟨i, rfl⟩, ⟨p, dx, fs, rfl, hp⟩, hsp⟩ | q
  · cases rx
    obtain ⟨mA, J, _⟩ := ins_get I.hok hp
    obtain ⟨od, J, _⟩ := J.look
    have hrun := run_ne o.g hr.in1 I (x := .ref p) (v := .ref p) rfl ry hsp
    rcases hy with ⟨j, rfl⟩ | ⟨p', dx', fs', rfl, hp'⟩
    · obtain ⟨t, rfl⟩ := ry
      exact cmp_ne_K (tb := .type "int") hu hF I.ok.mod.kin J (PySem.W.Looks.of_pure rfl) nf_int o.hm o.hne o.hs o.hf hrun
    · cases ry
      obtain ⟨mA', J', _⟩ := ins_get I.hok hp'
      obtain ⟨od', J', _⟩ := J'.look
      exact cmp_ne_K hu hF I.ok.mod.kin J J'.type nf_self o.hm o.hne o.hs o.hf hrun
  · obtain ⟨t, rfl⟩ := rx
    cases ry
    obtain ⟨mA, J, _⟩ := ins_get I.hok hp
    have hob := J.obj
    obtain ⟨od, J, _⟩ := J.look
    have hrun := run_ne o.g hr.in1 I (x := .ref p) (v := .ref p) (y := .int i) (u := .int i t) rfl ⟨t, rfl⟩ hsp
    exact cmpR (op := .NotEq) (by omega) I.kIn J o.ni ic_ne.sl (fun Q' hq => call_meets ic_ne.sl (typeIs_int s i t) ic_ne.en (ic_ne.ar _ _) (ic_ne.de i t p (kap c) dx) ⟨hob, hq⟩) (try_neK hu I.kIn J o.hm o.hne o.hs o.hf hrun)
  · exact ho pins s σ H x y v u Q I rx ry q
end
end DL

set_option maxRecDepth 100000
set_option maxHeartbeats 2000000
set_option autoImplicit false
/-! the plain side: what the evaluators answer, for simp -/
namespace DL
open L2
section
variable {α β γ : Type} {a : α} {de : DEnv} {c : Nat} {fs : List (PySem.Str × D)} {f : α → DEnv → Rs β} {g : α → DEnv → Ot} {h : DEnv → Ot} {d d' : D}
@[simp] theorem ps1 : (Rs.ok a de).bind f = f a de := Eq.trans rfl rfl
@[simp] theorem ps2 : (Rs.ex (α := α) c fs de).bind f = .ex c fs de := Eq.trans rfl rfl
@[simp] theorem ps3 : (Rs.bad (α := α)).bind f = .bad := Eq.trans rfl rfl
@[simp] theorem ps4 : (Rs.ok a de).out g = g a de := Eq.trans rfl rfl
@[simp] theorem ps5 : (Rs.ex (α := α) c fs de).out g = .ex c fs de := Eq.trans rfl rfl
@[simp] theorem ps6 : (Rs.bad (α := α)).out g = .bad := Eq.trans rfl rfl
@[simp] theorem ps7 : (Ot.nx de).andThen h = h de := Eq.trans rfl rfl
@[simp] theorem ps8 : (Ot.ret d de).andThen h = .ret d de := Eq.trans rfl rfl
@[simp] theorem ps9 : (Ot.retF d de).andThen h = .retF d de := Eq.trans rfl rfl
@[simp] theorem ps10 : (Ot.brk de).andThen h = .brk de := Eq.trans rfl rfl
@[simp] theorem ps11 : (Ot.ct de).andThen h = .ct de := Eq.trans rfl rfl
@[simp] theorem ps12 : (Ot.ex c fs de).andThen h = .ex c fs de := Eq.trans rfl rfl
@[simp] theorem ps13 : Ot.bad.andThen h = .bad := Eq.trans rfl rfl
@[simp] theorem ps14 : ofO (some a) de = .ok a de := Eq.trans rfl rfl
@[simp] theorem ps15 : ofO (none : Option α) de = .bad := Eq.trans rfl rfl
end
def vVarA (k : Nat) (de : DEnv) : Option Sl → Rs D
  | some (.va d) => .ok d de
  | some (.ow d) => .ok d (de.set k (.va d))
  | _ => .bad
def vMoveA (k : Nat) (de : DEnv) : Option Sl → Rs D
  | some (.ow d) => .ok d (de.set k .no)
  | _ => .bad
def slotRunA (k : Nat) (de : DEnv) : Option D → Rs (DEnv → Option D)
  | some _ => .ok (slotAt k) de
  | none => .bad
def andA (ev2 : DEnv → Rs D) (d : D) (de : DEnv) : Rs D := match d with | .bl true => ev2 de | .bl false => .ok (.bl false) de | _ => .bad
def orA (ev2 : DEnv → Rs D) (d : D) (de : DEnv) : Rs D := match d with | .bl true => .ok (.bl true) de | .bl false => ev2 de | _ => .bad
def putLB (k : Nat) (v : D) (s : Sl) (xs : List D) (de : DEnv) : Option Nat → Ot
  | some j => .nx (de.set k (s.same (.lst (xs.set j v))))
  | none => .bad
def putLA (k : Nat) (v x : D) (de : DEnv) : Option (Sl × D) → Ot
  | some (s, .lst xs) => putLB k v s xs de ((asI x).bind fun k => ixN xs.length k)
  | _ => .bad
def fldA (k : Nat) (cl : List Nat) (nm : PySem.Str) (d : D) (de : DEnv) : Option (Sl × D) → Ot
  | some (s, .obj c fs) => if cl.contains c = true ∧ fs.length < 1000 then .nx (de.set k (s.same (.obj c (putD nm d fs)))) else .bad
  | _ => .bad
def cSlotA (k : Nat) (ec : DEnv → Rs (List CA)) (de : DEnv) : Option D → Rs (List CA)
  | some _ => (ec de).bind fun cs de2 => .ok (.s k :: cs) de2
  | none => .bad
def callA (n : Nat) (mu : Option Nat) (md : List D → Fo) (dcs : List D) (cs : List CA) (de : DEnv) : Option (List D) → Rs D
  | some ds => if ds.length + dcs.length = n ∧ okS mu (argS mu cs) = true then callE (argS mu cs) de (md (ds ++ dcs)) else .bad
  | none => .bad
def callFA (n : Nat) (mu : Option Nat) (md : List D → Fo) (dcs : List D) (cs : List CA) (de : DEnv) : Option (List D) → Rs D
  | some ds => if ds.length + dcs.length = n ∧ okS mu (argS mu cs) = true then callF (argS mu cs) de (md (ds ++ dcs)) else .bad
  | none => .bad
def putA (k : Nat) (d : D) (de : DEnv) : Option Sl → DEnv
  | some s => de.set k (s.same d)
  | none => de
def lastA : Option Sl → Option (Option D)
  | some (.pn d) => some (some d)
  | _ => none
def rngA (d : D) (de : DEnv) : Rs (List D) := match d with
  | .int j => if -(2 ^ 62) ≤ j ∧ j < 2 ^ 62 then .ok (rangeD 0 j.toNat) de else .bad
  | _ => .bad
def tryB (i : Nat) (es : DEnv → Ot) (c : Nat) (fs : List (PySem.Str × D)) (de1 : DEnv) : Option Bool → Ot
  | some true => if calmD (de1.set i .no) = true then offEx i (es (de1.set i (.ex c fs))) else .bad
  | some false => .ex c fs de1
  | none => .bad
def tryA (i : Nat) (mt : Nat → Option Bool) (es : DEnv → Ot) : Ot → Ot
  | .ex c fs de1 => tryB i es c fs de1 (mt c)
  | o => o
def tryD (es : DEnv → Ot) (c : Nat) (fs : List (PySem.Str × D)) (de1 : DEnv) : Option Bool → Ot
  | some true => noOut (es de1)
  | some false => .ex c fs de1
  | none => .bad
def tryC (mt : Nat → Option Bool) (es : DEnv → Ot) : Ot → Ot
  | .ex c fs de1 => tryD es c fs de1 (mt c)
  | o => o
def xfA (c : Nat) (f : PySem.Str) (de : DEnv) : Option Sl → Rs D
  | some (.ex c' fs) => if c' = c then ofO (fs.lookup f) de else .bad
  | _ => .bad
def mkA (de : DEnv) : Fo → Rs D
  | .ret .non (some d') => .ok d' de
  | .ex c' fs (some _) => .ex c' fs de
  | _ => .bad
def loopB (g : D → DEnv → Option DEnv) (tb : DEnv → Ot) (r : List D) : Ot → Ot
  | .nx de2 => vLoop g tb r de2
  | .ct de2 => vLoop g tb r de2
  | .brk de2 => .nx de2
  | o => o
def loopA (g : D → DEnv → Option DEnv) (tb : DEnv → Ot) (r : List D) : Option DEnv → Ot
  | some de1 => loopB g tb r (tb de1)
  | none => .bad
def finA (f : Option D → Fo) : Option (Option D) → Fo
  | some q => f q
  | none => .bad
section
variable {de : DEnv} {d d1 d2 : D} {i j : Int} {k m n : Nat} {e1 e2 : DEnv → Ot} {ev ev1 ev2 : DEnv → Rs D} {eb eb1 eb2 : DEnv → Rs Bool} {ea : DEnv → Rs (List D)} {ec : DEnv → Rs (List CA)} {o oa ob oc : Op} {os : List Op} {f g : D → D → Option D} {f1 : D → Option D} {fN : List D → Option D} {xs ys : List D} {x y : PySem.Str} {b b1 b2 : Bool} {c : Nat} {fs : List (PySem.Str × D)} {cl : List Nat} {nm : PySem.Str} {mu : Option Nat} {md : List D → Fo} {dcs : List D} {cs : List CA} {q : Option D} {s : Sl}
@[simp] theorem ps16 : vSeq e1 e2 de = (e1 de).andThen e2 := Eq.trans rfl rfl
@[simp] theorem ps17 : vSet k ev de = (ev de).out fun d de1 => .nx (de1.set k (.va d)) := Eq.trans rfl rfl
@[simp] theorem ps18 : vSetF k ev de = (ev de).out fun d de1 => .nx (de1.set k (.ow d)) := Eq.trans rfl rfl
@[simp] theorem ps19 : vExpr ev de = (ev de).out fun _ de1 => .nx de1 := Eq.trans rfl rfl
@[simp] theorem ps20 : vIf eb e1 e2 de = (eb de).out fun b de1 => if b = true then e1 de1 else e2 de1 := Eq.trans rfl rfl
@[simp] theorem ps21 : vRet ev de = (ev de).out fun d de1 => .ret d de1 := Eq.trans rfl rfl
@[simp] theorem ps22 : vRetF ev de = (ev de).out fun d de1 => .retF d de1 := Eq.trans rfl rfl
@[simp] theorem ps23 : vRetN de = .ret .non de := Eq.trans rfl rfl
@[simp] theorem ps24 : vSkip de = .nx de := Eq.trans rfl rfl
@[simp] theorem ps25 : vBrk de = .brk de := Eq.trans rfl rfl
@[simp] theorem ps26 : vCont de = .ct de := Eq.trans rfl rfl
@[simp] theorem ps27 : vC d de = .ok d de := Eq.trans rfl rfl
@[simp] theorem ps28 : vVar k de = vVarA k de de[k]? := by unfold vVar; cases de[k]? with | none => rfl | some s => cases s <;> rfl
@[simp] theorem ps29 : vVarA k de (some (.va d)) = .ok d de := Eq.trans rfl rfl
@[simp] theorem ps30 : vVarA k de (some (.ow d)) = .ok d (de.set k (.va d)) := Eq.trans rfl rfl
@[simp] theorem ps31 : vMove k de = vMoveA k de de[k]? := by unfold vMove; cases de[k]? with | none => rfl | some s => cases s <;> rfl
@[simp] theorem ps32 : vMoveA k de (some (.ow d)) = .ok d (de.set k .no) := Eq.trans rfl rfl
@[simp] theorem ps33 : (Op.e ev).run de = (ev de).bind fun d de1 => .ok (fun _ => some d) de1 := Eq.trans rfl rfl
@[simp] theorem ps34 : (Op.s k).run de = slotRunA k de (slotAt k de) := by show slotRun k de = _; unfold slotRun; cases slotAt k de <;> rfl
@[simp] theorem ps35 : slotRunA k de (some d) = .ok (slotAt k) de := Eq.trans rfl rfl
@[simp] theorem ps36 : slotAt k de = (de[k]?).bind Sl.dat := Eq.trans rfl rfl
@[simp] theorem ps37 : (Sl.va d).dat = some d := Eq.trans rfl rfl
@[simp] theorem ps38 : (Sl.ow d).dat = some d := Eq.trans rfl rfl
@[simp] theorem ps39 : (Sl.pn d).dat = some d := Eq.trans rfl rfl
@[simp] theorem ps40 : vO2 f oa ob de = (oa.run de).bind fun fa de1 => (ob.run de1).bind fun fb de2 => ofO ((fa de2).bind fun x => (fb de2).bind fun y => f x y) de2 := Eq.trans rfl rfl
@[simp] theorem ps41 : vO1 f1 oa de = (oa.run de).bind fun fa de1 => ofO ((fa de1).bind f1) de1 := Eq.trans rfl rfl
@[simp] theorem ps42 : vON fN os de = (runs os de).bind fun fs de1 => ofO ((reads fs de1).bind fN) de1 := Eq.trans rfl rfl
@[simp] theorem ps43 : runs [] de = .ok [] de := Eq.trans rfl rfl
@[simp] theorem ps44 : runs (o :: os) de = (o.run de).bind fun f de1 => (runs os de1).bind fun fs de2 => .ok (f :: fs) de2 := Eq.trans rfl rfl
@[simp] theorem ps45 : reads [] de = some [] := Eq.trans rfl rfl
@[simp] theorem ps46 {f : DEnv → Option D} {fs : List (DEnv → Option D)} : reads (f :: fs) de = (f de).bind fun d => (reads fs de).map fun ds => d :: ds := Eq.trans rfl rfl
@[simp] theorem ps47 : vB ev de = (ev de).bind fun d de1 => ofO (asB d) de1 := Eq.trans rfl rfl
@[simp] theorem ps48 : asB (.bl b) = some b := Eq.trans rfl rfl
@[simp] theorem ps49 : vNot eb de = (eb de).bind fun b de1 => .ok (!b) de1 := Eq.trans rfl rfl
@[simp] theorem ps50 : vAnd eb1 eb2 de = (eb1 de).bind fun b de1 => if b = true then eb2 de1 else .ok false de1 := Eq.trans rfl rfl
@[simp] theorem ps51 : vOr eb1 eb2 de = (eb1 de).bind fun b de1 => if b = true then .ok true de1 else eb2 de1 := Eq.trans rfl rfl
@[simp] theorem ps52 : vTru oa de = (oa.run de).bind fun fa de1 => ofO ((fa de1).bind truD) de1 := Eq.trans rfl rfl
@[simp] theorem ps53 : truD (.bl b) = some b := Eq.trans rfl rfl
@[simp] theorem ps54 : vAndV ev1 ev2 de = (ev1 de).bind (andA ev2) := Eq.trans rfl rfl
@[simp] theorem ps55 : andA ev2 (.bl true) de = ev2 de := Eq.trans rfl rfl
@[simp] theorem ps56 : andA ev2 (.bl false) de = .ok (.bl false) de := Eq.trans rfl rfl
@[simp] theorem ps57 : vOrV ev1 ev2 de = (ev1 de).bind (orA ev2) := Eq.trans rfl rfl
@[simp] theorem ps58 : orA ev2 (.bl true) de = .ok (.bl true) de := Eq.trans rfl rfl
@[simp] theorem ps59 : orA ev2 (.bl false) de = ev2 de := Eq.trans rfl rfl
@[simp] theorem ps60 : vNotV ev1 de = (ev1 de).bind fun d de1 => ofO (fNotV d) de1 := Eq.trans rfl rfl
@[simp] theorem ps61 : fNotV (.bl b) = some (.bl (!b)) := Eq.trans rfl rfl
@[simp] theorem ps62 : vIfE eb ev1 ev2 de = (eb de).bind fun b de1 => if b = true then ev1 de1 else ev2 de1 := Eq.trans rfl rfl
@[simp] theorem ps63 : vCh f g oa ob oc de = (oa.run de).bind fun fa de1 => (ob.run de1).bind fun fb de2 => (ofO ((fa de2).bind fun x => (fb de2).bind fun y => (f x y).bind asB) de2).bind fun k de2 => if k = true then (oc.run de2).bind fun fc de3 => ofO ((fb de3).bind fun y => (fc de3).bind fun z => g y z) de3 else .ok (.bl false) de2 := Eq.trans rfl rfl
@[simp] theorem ps64 : vNil de = .ok [] de := Eq.trans rfl rfl
@[simp] theorem ps65 : vCons ev ea de = (ev de).bind fun d de1 => (ea de1).bind fun ds de2 => .ok (d :: ds) de2 := Eq.trans rfl rfl
@[simp] theorem ps66 : vTup ea de = (ea de).bind fun ds de1 => if ds.length ≤ 16777216 then .ok (.tup ds) de1 else .bad := Eq.trans rfl rfl
@[simp] theorem ps67 : vLst ea de = (ea de).bind fun ds de1 => if ds.length ≤ 16777216 then .ok (.lst ds) de1 else .bad := Eq.trans rfl rfl
@[simp] theorem ps68 : fSub (.int i) (.int j) = some (.int (i - j)) := Eq.trans rfl rfl
@[simp] theorem ps69 (h : cMul i j = true) : fMul (.int i) (.int j) = some (.int (i * j)) := by show (if cMul i j = true then _ else _) = _; rw [if_pos h]
@[simp] theorem ps70 (h : cDiv i j = true) : fFdiv (.int i) (.int j) = some (.int (i / j)) := by show (if cDiv i j = true then _ else _) = _; rw [if_pos h]
@[simp] theorem ps71 (h : cMod i j = true) : fMod (.int i) (.int j) = some (.int (i % j)) := by show (if cMod i j = true then _ else _) = _; rw [if_pos h]
@[simp] theorem ps72 (h : cPow i j = true) : fPow (.int i) (.int j) = some (.int (i ^ j.toNat)) := by show (if cPow i j = true then _ else _) = _; rw [if_pos h]
@[simp] theorem ps73 : fLt (.int i) (.int j) = some (.bl (decide (i < j))) := Eq.trans rfl rfl
@[simp] theorem ps74 : fLe (.int i) (.int j) = some (.bl (decide (i ≤ j))) := Eq.trans rfl rfl
@[simp] theorem ps75 : fGt (.int i) (.int j) = some (.bl (decide (j < i))) := Eq.trans rfl rfl
@[simp] theorem ps76 : fGe (.int i) (.int j) = some (.bl (decide (j ≤ i))) := Eq.trans rfl rfl
@[simp] theorem ps77 : fNeg (.int i) = some (.int (-i)) := Eq.trans rfl rfl
@[simp] theorem ps78 : fAdd (.int i) (.int j) = some (.int (i + j)) := Eq.trans rfl rfl
@[simp] theorem ps79 : fAdd (.lst xs) (.lst ys) = if xs.length + ys.length ≤ 16777216 then some (.lst (xs ++ ys)) else none := Eq.trans rfl rfl
@[simp] theorem ps80 : fAdd (.tup xs) (.tup ys) = if xs.length + ys.length ≤ 16777216 then some (.tup (xs ++ ys)) else none := Eq.trans rfl rfl
@[simp] theorem ps81 : fCat (.lst xs) (.lst ys) = if xs.length + ys.length ≤ 16777216 then some (.lst (xs ++ ys)) else none := Eq.trans rfl rfl
@[simp] theorem ps82 : fIx (.lst xs) (.int i) = atI xs i := Eq.trans rfl rfl
@[simp] theorem ps83 : fIx (.tup xs) (.int i) = atI xs i := Eq.trans rfl rfl
@[simp] theorem ps84 : fIx (.scr xs) (.int i) = atI xs i := Eq.trans rfl rfl
@[simp] theorem ps85 : fLen [.lst xs] = some (.int xs.length) := Eq.trans rfl rfl
@[simp] theorem ps86 : fLen [.tup xs] = some (.int xs.length) := Eq.trans rfl rfl
@[simp] theorem ps87 : fLen [.scr xs] = some (.int xs.length) := Eq.trans rfl rfl
@[simp] theorem ps88 : fAbs [.int i] = some (.int (if i < 0 then -i else i)) := Eq.trans rfl rfl
@[simp] theorem ps89 : fInt [.int i] = some (.int i) := Eq.trans rfl rfl
@[simp] theorem ps90 : fTuple [.lst xs] = some (.tup xs) := Eq.trans rfl rfl
@[simp] theorem ps91 : fTuple [.tup xs] = some (.tup xs) := Eq.trans rfl rfl
@[simp] theorem ps92 : fList [.lst xs] = some (.lst xs) := Eq.trans rfl rfl
@[simp] theorem ps93 : fList [.tup xs] = some (.lst xs) := Eq.trans rfl rfl
@[simp] theorem ps94 : fFld cl nm (.obj c fs) = if cl.contains c then fs.lookup nm else none := Eq.trans rfl rfl
@[simp] theorem ps95 : vFld cl nm oa de = vO1 (fFld cl nm) oa de := Eq.trans rfl rfl
@[simp] theorem ps96 {t : Ty} : fIsi cl [d, .cls t] = (tyOf d).bind fun s => if (tyIn cl s || tyN s) && tyIn cl t then some (.bl (isi s t)) else none := Eq.trans rfl rfl
@[simp] theorem ps97 : tyOf .non = some (.b "NoneType") := Eq.trans rfl rfl
@[simp] theorem ps98 : tyOf (.bl b) = some (.b "bool") := Eq.trans rfl rfl
@[simp] theorem ps99 : tyOf (.int i) = some (.b "int") := Eq.trans rfl rfl
@[simp] theorem ps100 : tyOf (.str x) = some (.b "str") := Eq.trans rfl rfl
@[simp] theorem ps101 : tyOf (.tup xs) = some (.b "tuple") := Eq.trans rfl rfl
@[simp] theorem ps102 : tyOf (.lst xs) = some (.b "list") := Eq.trans rfl rfl
@[simp] theorem ps103 {kvs : List (Key × D)} : tyOf (.dk kvs) = some (.b "dict") := Eq.trans rfl rfl
@[simp] theorem ps104 : tyOf (.obj c fs) = some (.o c) := Eq.trans rfl rfl
@[simp] theorem ps105 {S U : String} : isi (.b S) (.b U) = (S == U || (S == "bool" && U == "int")) := Eq.trans rfl rfl
@[simp] theorem ps106 {S : String} : isi (.b S) (.o c) = false := Eq.trans rfl rfl
@[simp] theorem ps107 {S : String} : isi (.o c) (.b S) = false := Eq.trans rfl rfl
@[simp] theorem ps108 {c2 : Nat} : isi (.o c) (.o c2) = (c == c2) := Eq.trans rfl rfl
@[simp] theorem ps109 {S : String} : tyIn cl (.b S) = bCls.contains S := Eq.trans rfl rfl
@[simp] theorem ps110 : tyIn cl (.o c) = cl.contains c := Eq.trans rfl rfl
@[simp] theorem ps111 {S : String} : tyN (.b S) = (S == "NoneType") := Eq.trans rfl rfl
@[simp] theorem ps112 : tyN (.o c) = false := Eq.trans rfl rfl
@[simp] theorem ps113 : bCls = ["bool", "int", "str", "tuple", "list", "dict"] := Eq.trans rfl rfl
@[simp] theorem ps114 : asI (.int i) = some i := Eq.trans rfl rfl
@[simp] theorem ps115 : (Sl.pn d).same d1 = .pn d1 := Eq.trans rfl rfl
@[simp] theorem ps116 : (Sl.ow d).same d1 = .ow d1 := Eq.trans rfl rfl
@[simp] theorem ps117 : (Sl.pn d).owd = some d := Eq.trans rfl rfl
@[simp] theorem ps118 : (Sl.ow d).owd = some d := Eq.trans rfl rfl
@[simp] theorem ps119 : (Sl.va d).owd = none := Eq.trans rfl rfl
@[simp] theorem ps120 : Sl.no.owd = none := Eq.trans rfl rfl
@[simp] theorem ps121 : slotOw k de = (de[k]?).bind fun s => s.owd.map fun d => (s, d) := Eq.trans rfl rfl
@[simp] theorem ps122 : isLst (.lst xs) = true := Eq.trans rfl rfl
@[simp] theorem ps123 : vSetIx k ev1 ev2 de = (ev1 de).out fun v de1 => if ((slotAt k de1).map isLst).getD false = true then (ev2 de1).out fun x de2 => putL k v x de2 else .bad := Eq.trans rfl rfl
@[simp] theorem ps124 {v : D} : putL k v d de = putLA k v d de (slotOw k de) := by unfold putL; cases slotOw k de with | none => rfl | some p => obtain ⟨s, x⟩ := p; cases x <;> rfl
@[simp] theorem ps125 {v : D} : putLA k v d de (some (s, .lst xs)) = putLB k v s xs de ((asI d).bind fun k => ixN xs.length k) := Eq.trans rfl rfl
@[simp] theorem ps126 {v : D} : putLB k v s xs de (some m) = .nx (de.set k (s.same (.lst (xs.set m v)))) := Eq.trans rfl rfl
@[simp] theorem ps127 : vSetFld k cl nm ev de = (ev de).out fun d de1 => fldA k cl nm d de1 (slotOw k de1) := by unfold vSetFld; congr 1 <;> (funext d de1; cases slotOw k de1 with | none => rfl | some p => obtain ⟨s, x⟩ := p; cases x <;> rfl)
@[simp] theorem ps128 : fldA k cl nm d de (some (s, .obj c fs)) = if cl.contains c = true ∧ fs.length < 1000 then .nx (de.set k (s.same (.obj c (putD nm d fs)))) else .bad := Eq.trans rfl rfl
@[simp] theorem ps129 {v : D} : putD nm v [] = [(nm, v)] := Eq.trans rfl rfl
@[simp] theorem ps130 {v w : D} {n2 : PySem.Str} : putD nm v ((n2, w) :: fs) = if n2 = nm then (n2, v) :: fs else (n2, w) :: putD nm v fs := Eq.trans rfl rfl
@[simp] theorem psFor {ei : DEnv → Rs (List D)} {gg : D → DEnv → Option DEnv} : vFor ei gg e1 de = (ei de).out fun ds de1 => vLoop gg e1 ds de1 := Eq.trans rfl rfl
@[simp] theorem ps131 {gg : D → DEnv → Option DEnv} : vLoop gg e1 [] de = .nx de := Eq.trans rfl rfl
@[simp] theorem ps132 : vSeqI ev de = (ev de).bind fun d de1 => ofO (itemsOf d) de1 := Eq.trans rfl rfl
@[simp] theorem ps133 : itemsOf (.lst xs) = some xs := Eq.trans rfl rfl
@[simp] theorem ps134 : itemsOf (.tup xs) = some xs := Eq.trans rfl rfl
@[simp] theorem ps135 : itemsOf (.scr xs) = some xs := Eq.trans rfl rfl
@[simp] theorem ps136 : tName k d de = some (de.set k (.va d)) := Eq.trans rfl rfl
@[simp] theorem ps137 : vRng1 ev de = (ev de).bind rngA := Eq.trans rfl rfl
@[simp] theorem ps138 : cNil de = .ok [] de := Eq.trans rfl rfl
@[simp] theorem ps139 : cVal ev ec de = (ev de).bind fun d de1 => (ec de1).bind fun cs de2 => .ok (.v d :: cs) de2 := Eq.trans rfl rfl
@[simp] theorem ps140 : cSlot k ec de = cSlotA k ec de (slotAt k de) := by unfold cSlot; cases slotAt k de <;> rfl
@[simp] theorem ps141 : cSlotA k ec de (some d) = (ec de).bind fun cs de2 => .ok (.s k :: cs) de2 := Eq.trans rfl rfl
@[simp] theorem ps142 : wCall n mu md dcs ec de = (ec de).bind fun cs de1 => callC n mu md dcs cs de1 := Eq.trans rfl rfl
@[simp] theorem ps143 : wCallF n mu md dcs ec de = (ec de).bind fun cs de1 => callCF n mu md dcs cs de1 := Eq.trans rfl rfl
@[simp] theorem ps144 : argD mu [] de = some [] := by cases mu <;> rfl
@[simp] theorem ps145 {cc : CA} : argD none (cc :: cs) de = (caD cc de).bind fun d => (argD none cs de).map (d :: ·) := Eq.trans rfl rfl
@[simp] theorem ps146 : argD (some 0) (.s k :: cs) de = (slotOw k de).bind fun q => (argD none cs de).map (q.2 :: ·) := Eq.trans rfl rfl
@[simp] theorem ps147 {cc : CA} : argD (some (k + 1)) (cc :: cs) de = (caD cc de).bind fun d => (argD (some k) cs de).map (d :: ·) := Eq.trans rfl rfl
@[simp] theorem ps148 : caD (.v d) de = some d := Eq.trans rfl rfl
@[simp] theorem ps149 : argS none cs = none := by cases cs <;> rfl
@[simp] theorem ps150 : argS (some 0) (.s k :: cs) = some k := Eq.trans rfl rfl
@[simp] theorem ps151 {cc : CA} : argS (some (k + 1)) (cc :: cs) = argS (some k) cs := Eq.trans rfl rfl
@[simp] theorem ps152 : okS mu (none : Option Nat) = ((none : Option Nat).isSome == mu.isSome) := Eq.trans rfl rfl
@[simp] theorem ps153 : okS mu (some k) = ((some k).isSome == mu.isSome) := Eq.trans rfl rfl
@[simp] theorem ps154 : callC n mu md dcs cs de = callA n mu md dcs cs de (argD mu cs de) := by unfold callC; cases argD mu cs de <;> rfl
@[simp] theorem ps155 {ds : List D} : callA n mu md dcs cs de (some ds) = if ds.length + dcs.length = n ∧ okS mu (argS mu cs) = true then callE (argS mu cs) de (md (ds ++ dcs)) else .bad := Eq.trans rfl rfl
@[simp] theorem ps156 : callCF n mu md dcs cs de = callFA n mu md dcs cs de (argD mu cs de) := by unfold callCF; cases argD mu cs de <;> rfl
@[simp] theorem ps157 {ds : List D} : callFA n mu md dcs cs de (some ds) = if ds.length + dcs.length = n ∧ okS mu (argS mu cs) = true then callF (argS mu cs) de (md (ds ++ dcs)) else .bad := Eq.trans rfl rfl
@[simp] theorem ps158 {w : Option Nat} : callE w de (.ret d q) = .ok d (putBack w q de) := Eq.trans rfl rfl
@[simp] theorem ps159 {w : Option Nat} : callE w de (.retF d q) = .ok d (putBack w q de) := Eq.trans rfl rfl
@[simp] theorem ps160 {w : Option Nat} : callE w de (.ex c fs q) = .ex c fs (putBack w q de) := Eq.trans rfl rfl
@[simp] theorem ps161 {w : Option Nat} : callF w de (.retF d q) = .ok d (putBack w q de) := Eq.trans rfl rfl
@[simp] theorem ps162 {w : Option Nat} : callF w de (.ex c fs q) = .ex c fs (putBack w q de) := Eq.trans rfl rfl
@[simp] theorem ps163 : putBack none q de = de := by cases q <;> rfl
@[simp] theorem ps164 : putBack (some k) (some d) de = putA k d de de[k]? := by unfold putBack; dsimp only; cases de[k]? <;> rfl
@[simp] theorem ps165 : putA k d de (some s) = de.set k (s.same d) := Eq.trans rfl rfl
@[simp] theorem ps166 : finish none (.ret d de) = .ret d none := Eq.trans rfl rfl
@[simp] theorem ps167 : finish none (.retF d de) = .retF d none := Eq.trans rfl rfl
@[simp] theorem ps168 : finish none (.nx de) = .ret .non none := Eq.trans rfl rfl
@[simp] theorem ps169 : finish none (.ex c fs de) = .ex c fs none := Eq.trans rfl rfl
@[simp] theorem ps170 : lastOf (some k) de = lastA de[k]? := by unfold lastOf; dsimp only; cases de[k]? with | none => rfl | some s => cases s <;> rfl
@[simp] theorem ps171 : lastA (some (.pn d)) = some (some d) := Eq.trans rfl rfl
@[simp] theorem ps172 : finish (some k) (.ret d de) = finA (.ret d) (lastOf (some k) de) := by unfold finish; dsimp only; cases lastOf (some k) de <;> rfl
@[simp] theorem ps173 : finish (some k) (.retF d de) = finA (.retF d) (lastOf (some k) de) := by unfold finish; dsimp only; cases lastOf (some k) de <;> rfl
@[simp] theorem ps174 : finish (some k) (.nx de) = finA (.ret .non) (lastOf (some k) de) := by unfold finish; dsimp only; cases lastOf (some k) de <;> rfl
@[simp] theorem ps175 : finish (some k) (.ex c fs de) = finA (.ex c fs) (lastOf (some k) de) := by unfold finish; dsimp only; cases lastOf (some k) de <;> rfl
@[simp] theorem ps176 {f : Option D → Fo} : finA f (some q) = f q := Eq.trans rfl rfl
@[simp] theorem ps177 : env0 none xs = xs.map .va := by cases xs <;> rfl
@[simp] theorem ps178 : env0 (some 0) (d :: xs) = .pn d :: xs.map .va := Eq.trans rfl rfl
@[simp] theorem ps179 : env0 (some (k + 1)) (d :: xs) = .va d :: env0 (some k) xs := Eq.trans rfl rfl
@[simp] theorem ps180 {gg : D → DEnv → Option DEnv} : vLoop gg e1 (d :: xs) de = loopA gg e1 xs (gg d de) := by rw [vLoop]; cases gg d de with | none => rfl | some de1 => (show (match e1 de1 with | .nx de2 => vLoop gg e1 xs de2 | .ct de2 => vLoop gg e1 xs de2 | .brk de2 => .nx de2 | .ret d de2 => .ret d de2 | .retF d de2 => .retF d de2 | .ex c fs de2 => .ex c fs de2 | .bad => .bad) = loopB gg e1 xs (e1 de1); cases e1 de1 <;> rfl)
@[simp] theorem ps181 {gg : D → DEnv → Option DEnv} : loopA gg e1 xs (some de) = loopB gg e1 xs (e1 de) := Eq.trans rfl rfl
@[simp] theorem ps182 {gg : D → DEnv → Option DEnv} : loopB gg e1 xs (.nx de) = vLoop gg e1 xs de := Eq.trans rfl rfl
@[simp] theorem ps183 {gg : D → DEnv → Option DEnv} : loopB gg e1 xs (.ct de) = vLoop gg e1 xs de := Eq.trans rfl rfl
@[simp] theorem ps184 {gg : D → DEnv → Option DEnv} : loopB gg e1 xs (.brk de) = .nx de := Eq.trans rfl rfl
@[simp] theorem ps185 {gg : D → DEnv → Option DEnv} : loopB gg e1 xs (.ret d de) = .ret d de := Eq.trans rfl rfl
@[simp] theorem ps186 {gg : D → DEnv → Option DEnv} : loopB gg e1 xs (.retF d de) = .retF d de := Eq.trans rfl rfl
@[simp] theorem ps187 {gg : D → DEnv → Option DEnv} : loopB gg e1 xs (.ex c fs de) = .ex c fs de := Eq.trans rfl rfl
@[simp] theorem ps188 {mt : Nat → Option Bool} : vTryAs k mt e1 e2 de = tryA k mt e2 (e1 de) := by unfold vTryAs tryA; cases e1 de with | ex c fs de1 => (dsimp only; cases mt c with | none => rfl | some b => (cases b <;> rfl)) | _ => rfl
@[simp] theorem ps189 {mt : Nat → Option Bool} : vTryOnly mt e1 e2 de = tryC mt e2 (e1 de) := by unfold vTryOnly tryC; cases e1 de with | ex c fs de1 => (dsimp only; cases mt c with | none => rfl | some b => (cases b <;> rfl)) | _ => rfl
@[simp] theorem ps190 {mt : Nat → Option Bool} : tryA k mt e2 (.nx de) = .nx de := Eq.trans rfl rfl
@[simp] theorem ps191 {mt : Nat → Option Bool} : tryA k mt e2 (.ret d de) = .ret d de := Eq.trans rfl rfl
@[simp] theorem ps192 {mt : Nat → Option Bool} : tryA k mt e2 (.retF d de) = .retF d de := Eq.trans rfl rfl
@[simp] theorem ps193 {mt : Nat → Option Bool} : tryA k mt e2 (.brk de) = .brk de := Eq.trans rfl rfl
@[simp] theorem ps194 {mt : Nat → Option Bool} : tryA k mt e2 (.ct de) = .ct de := Eq.trans rfl rfl
@[simp] theorem ps195 {mt : Nat → Option Bool} : tryC mt e2 (.nx de) = .nx de := Eq.trans rfl rfl
@[simp] theorem ps196 {mt : Nat → Option Bool} : tryC mt e2 (.ret d de) = .ret d de := Eq.trans rfl rfl
@[simp] theorem ps197 {mt : Nat → Option Bool} : tryC mt e2 (.retF d de) = .retF d de := Eq.trans rfl rfl
@[simp] theorem ps198 {mt : Nat → Option Bool} : tryC mt e2 (.brk de) = .brk de := Eq.trans rfl rfl
@[simp] theorem ps199 {mt : Nat → Option Bool} : tryC mt e2 (.ct de) = .ct de := Eq.trans rfl rfl
@[simp] theorem ps200 {mt : Nat → Option Bool} : tryA k mt e2 (.ex c fs de) = tryB k e2 c fs de (mt c) := Eq.trans rfl rfl
@[simp] theorem ps201 {mt : Nat → Option Bool} : tryC mt e2 (.ex c fs de) = tryD e2 c fs de (mt c) := Eq.trans rfl rfl
@[simp] theorem ps202 : tryB k e2 c fs de (some true) = if calmD (de.set k .no) = true then offEx k (e2 (de.set k (.ex c fs))) else .bad := Eq.trans rfl rfl
@[simp] theorem ps203 : tryB k e2 c fs de (some false) = .ex c fs de := Eq.trans rfl rfl
@[simp] theorem ps204 : tryD e2 c fs de (some true) = noOut (e2 de) := Eq.trans rfl rfl
@[simp] theorem ps205 : tryD e2 c fs de (some false) = .ex c fs de := Eq.trans rfl rfl
@[simp] theorem ps206 : noOut (.nx de) = .nx de := Eq.trans rfl rfl
@[simp] theorem ps207 : noOut (.ret d de) = .ret d de := Eq.trans rfl rfl
@[simp] theorem ps208 : noOut (.retF d de) = .retF d de := Eq.trans rfl rfl
@[simp] theorem ps209 : noOut (.brk de) = .brk de := Eq.trans rfl rfl
@[simp] theorem ps210 : noOut (.ct de) = .ct de := Eq.trans rfl rfl
@[simp] theorem ps211 : offEx k (.nx de) = if calmD (de.set k .no) = true then .nx (de.set k .no) else .bad := Eq.trans rfl rfl
@[simp] theorem ps212 : offEx k (.brk de) = if calmD (de.set k .no) = true then .brk (de.set k .no) else .bad := Eq.trans rfl rfl
@[simp] theorem ps213 : offEx k (.ct de) = if calmD (de.set k .no) = true then .ct (de.set k .no) else .bad := Eq.trans rfl rfl
@[simp] theorem ps214 : offEx k (.ret d de) = if calmD (de.set k .no) = true then .ret d (de.set k .no) else .bad := Eq.trans rfl rfl
@[simp] theorem ps215 : offEx k (.retF d de) = if calmD (de.set k .no) = true then .retF d (de.set k .no) else .bad := Eq.trans rfl rfl
@[simp] theorem ps216 : calmD de = de.all noEx := Eq.trans rfl rfl
@[simp] theorem ps217 : noEx .no = true := Eq.trans rfl rfl
@[simp] theorem ps218 : noEx (.va d) = true := Eq.trans rfl rfl
@[simp] theorem ps219 : noEx (.ow d) = true := Eq.trans rfl rfl
@[simp] theorem ps220 : noEx (.pn d) = true := Eq.trans rfl rfl
@[simp] theorem ps221 : noEx (.ex c fs) = false := Eq.trans rfl rfl
@[simp] theorem ps222 : vXf k c nm de = xfA c nm de de[k]? := by unfold vXf; cases de[k]? with | none => rfl | some s => cases s <;> rfl
@[simp] theorem ps223 {c2 : Nat} : xfA c nm de (some (.ex c2 fs)) = if c2 = c then ofO (fs.lookup nm) de else .bad := Eq.trans rfl rfl
@[simp] theorem ps224 {ar : List D → List D → List D} {ek : DEnv → Rs (List D)} : wMakeK c n md ar ea ek de = (ea de).bind fun ds de1 => (ek de1).bind fun zs de2 => makeC c n md (ar ds zs) de2 := Eq.trans rfl rfl
@[simp] theorem ps225 : wMake c n md dcs ea de = (ea de).bind fun ds de1 => makeC c n md (ds ++ dcs) de1 := Eq.trans rfl rfl
@[simp] theorem ps226 : makeC c n md xs de = if xs.length + 1 = n then mkA de (md (.obj c [] :: xs)) else .bad := by unfold makeC; split <;> first | rfl | (cases md (.obj c [] :: xs) with | ret d q => cases d <;> cases q <;> rfl | ex c f q => cases q <;> rfl | _ => rfl)
@[simp] theorem ps227 : mkA de (.ret .non (some d)) = .ok d de := Eq.trans rfl rfl
@[simp] theorem ps228 : mkA de (.ex c fs (some d)) = .ex c fs de := Eq.trans rfl rfl
@[simp] theorem ps229 {par : PySem.Str} {okd : D → Bool} : vRaise2 c par okd ev de = (ev de).out fun d de1 => if okd d = true then .ex c [(par, d)] de1 else .bad := Eq.trans rfl rfl
@[simp] theorem ps230 : vRaise1 c de = .ex c [] de := Eq.trans rfl rfl
@[simp] theorem ps231 : anyD d = true := Eq.trans rfl rfl
@[simp] theorem ps232 {l : List (Nat × Bool)} : mtL l c = l.lookup c := Eq.trans rfl rfl
@[simp] theorem ps233 {β : Type} {l : List (Nat × β)} {v : β} {a : Nat} : ((a, v) :: l).lookup c = if c = a then some v else l.lookup c := if h : c = a then by simp [List.lookup, h] else by have h2 : (c == a) = false := (by simpa using h); simp [List.lookup, h, h2]
@[simp] theorem ps234 {β : Type} {l : List (PySem.Str × β)} {v : β} {a : PySem.Str} : ((a, v) :: l).lookup nm = if nm = a then some v else l.lookup nm := if h : nm = a then by simp [List.lookup, h] else by have h2 : (nm == a) = false := (by simpa using h); simp [List.lookup, h, h2]
@[simp] theorem ps235 {f3 : D → Option Int → Option Int → Option D} {p1 p2 : DEnv → Rs (Option Int)} : vSl f3 o p1 p2 de = (o.run de).bind fun fa de1 => (p1 de1).bind fun l de2 => (p2 de2).bind fun u de3 => ofO ((fa de3).bind fun d => f3 d l u) de3 := Eq.trans rfl rfl
@[simp] theorem ps236 : vNoP de = .ok none de := Eq.trans rfl rfl
@[simp] theorem ps237 : vPart ev de = (ev de).bind fun d de1 => ofO ((asI d).map some) de1 := Eq.trans rfl rfl
@[simp] theorem ps238 {l u : Option Int} : fSlA (.scr xs) l u = some (.lst (cutD xs l u)) := Eq.trans rfl rfl
@[simp] theorem ps239 {l u : Option Int} : fSlA (.lst xs) l u = some (.lst (cutD xs l u)) := Eq.trans rfl rfl
@[simp] theorem ps240 {l u : Option Int} : fSlA (.tup xs) l u = some (.tup (cutD xs l u)) := Eq.trans rfl rfl
@[simp] theorem ps241 {l u : Option Int} : fSlL (.scr xs) l u = some (.lst (cutD xs l u)) := Eq.trans rfl rfl
@[simp] theorem ps242 {l u : Option Int} : fSlL (.lst xs) l u = some (.lst (cutD xs l u)) := Eq.trans rfl rfl
end
theorem ofString_inj (a b : String) : (PySem.Str.ofString a = PySem.Str.ofString b) = (a = b) := by
  refine propext ⟨fun h => ?_, fun h => by rw [h]⟩
  rw [PySem.Str.ofString_eq_toList, PySem.Str.ofString_eq_toList] at h
  have h1 : a.toList.map Char.toNat = b.toList.map Char.toNat := by
    have := congrArg (fun s => s.cps.toList) h
    simpa using this
  have h2 : ∀ l m : List Char, l.map Char.toNat = m.map Char.toNat → l = m := fun l => by
    induction l with
    | nil => intro m e; cases m with | nil => rfl | cons _ _ => cases e
    | cons x l ih =>
      intro m e
      cases m with
      | nil => cases e
      | cons y m =>
        simp only [List.map_cons, List.cons.injEq] at e
        rw [ih m e.2, Char.ext (UInt32.toNat_inj.mp e.1)]
  exact String.ext (h2 _ _ h1)
@[simp] theorem ofString_eq (a b : String) : (PySem.Str.ofString a = PySem.Str.ofString b) = (a = b) := ofString_inj a b
theorem cutD_len (xs : List D) (l u : Option Int) : (cutD xs l u).length ≤ xs.length := by
  unfold cutD
  rw [List.length_take, List.length_drop]
  omega
theorem fNe_self (d : D) (h : PySem.SeqAt.shaped (toPy d) = true) : fNe d d = some (.bl false) := by
  unfold fNe
  rw [h, PySem.SeqAt.eqv_refl _ (PySem.SeqAt.canLay_of_shaped h)]
  rfl
theorem fEq_self (d : D) (h : PySem.SeqAt.shaped (toPy d) = true) : fEq d d = some (.bl true) := by
  unfold fEq
  rw [h, PySem.SeqAt.eqv_refl _ (PySem.SeqAt.canLay_of_shaped h)]
  rfl
@[simp] theorem fEq_int (i j : Int) : fEq (.int i) (.int j) = some (.bl (decide (i = j))) := by
  have h : ∀ k : Int, PySem.SeqAt.shaped (toPy (.int k)) = true := fun k => rfl
  unfold fEq
  rw [h, h]
  show some (D.bl (i == j)) = _
  rw [show (i == j) = decide (i = j) from rfl]
@[simp] theorem fNe_int (i j : Int) : fNe (.int i) (.int j) = some (.bl (!decide (i = j))) := by
  have h : ∀ k : Int, PySem.SeqAt.shaped (toPy (.int k)) = true := fun k => rfl
  unfold fNe
  rw [h, h]
  show some (D.bl (!(i == j))) = _
  rw [show (i == j) = decide (i = j) from rfl]
theorem fNe_str (x y : PySem.Str) (h1 : PySem.SeqAt.shaped (toPy (.str x)) = true) (h2 : PySem.SeqAt.shaped (toPy (.str y)) = true) : fNe (.str x) (.str y) = some (.bl (!decide (x = y))) := by
  unfold fNe
  rw [h1, h2]
  show some (D.bl (!(x == y))) = _
  rw [show (x == y) = decide (x = y) from rfl]
theorem fEq_str (x y : PySem.Str) (h1 : PySem.SeqAt.shaped (toPy (.str x)) = true) (h2 : PySem.SeqAt.shaped (toPy (.str y)) = true) : fEq (.str x) (.str y) = some (.bl (decide (x = y))) := by
  unfold fEq
  rw [h1, h2]
  show some (D.bl (x == y)) = _
  rw [show (x == y) = decide (x = y) from rfl]
theorem rngA_n (n : Nat) (h : n ≤ 100000000) (de : DEnv) : rngA (.int (n : Int)) de = .ok (rangeD 0 n) de := by
  have h0 : (n : Int) ≤ 100000000 := Int.ofNat_le.mpr h
  have h1 : -(2 ^ 62 : Int) ≤ (n : Int) := Int.le_trans (by decide : -(2 ^ 62 : Int) ≤ 0) (Int.natCast_nonneg n)
  have h2 : (n : Int) < 2 ^ 62 := Int.lt_of_le_of_lt h0 (by decide : (100000000 : Int) < 2 ^ 62)
  unfold rngA
  dsimp only
  rw [if_pos ⟨h1, h2⟩, Int.toNat_natCast]
theorem atI_n {α : Type} (l : List α) (n : Nat) : atI l (n : Int) = l[n]? := by
  unfold atI ixN
  by_cases h : n < l.length
  · simp [h]
  · simp [h]
theorem ixN_nat (m n : Nat) (h : n < m) : ixN m (n : Int) = some n := by
  unfold ixN
  simp [h]
@[simp] theorem rngL0 (de : DEnv) : rngA (.int 0) de = .ok (rangeD 0 0) de := rngA_n 0 (by decide) de
@[simp] theorem rngL1 (de : DEnv) : rngA (.int 1) de = .ok (rangeD 0 1) de := rngA_n 1 (by decide) de
@[simp] theorem rngL2 (de : DEnv) : rngA (.int 2) de = .ok (rangeD 0 2) de := rngA_n 2 (by decide) de
@[simp] theorem rngL3 (de : DEnv) : rngA (.int 3) de = .ok (rangeD 0 3) de := rngA_n 3 (by decide) de
@[simp] theorem rngL4 (de : DEnv) : rngA (.int 4) de = .ok (rangeD 0 4) de := rngA_n 4 (by decide) de
@[simp] theorem rngL5 (de : DEnv) : rngA (.int 5) de = .ok (rangeD 0 5) de := rngA_n 5 (by decide) de
@[simp] theorem rngL6 (de : DEnv) : rngA (.int 6) de = .ok (rangeD 0 6) de := rngA_n 6 (by decide) de
@[simp] theorem rngL7 (de : DEnv) : rngA (.int 7) de = .ok (rangeD 0 7) de := rngA_n 7 (by decide) de
@[simp] theorem rngL8 (de : DEnv) : rngA (.int 8) de = .ok (rangeD 0 8) de := rngA_n 8 (by decide) de
@[simp] theorem rngL9 (de : DEnv) : rngA (.int 9) de = .ok (rangeD 0 9) de := rngA_n 9 (by decide) de
@[simp] theorem rngL10 (de : DEnv) : rngA (.int 10) de = .ok (rangeD 0 10) de := rngA_n 10 (by decide) de
@[simp] theorem rngL11 (de : DEnv) : rngA (.int 11) de = .ok (rangeD 0 11) de := rngA_n 11 (by decide) de
@[simp] theorem rngL12 (de : DEnv) : rngA (.int 12) de = .ok (rangeD 0 12) de := rngA_n 12 (by decide) de
@[simp] theorem rngL13 (de : DEnv) : rngA (.int 13) de = .ok (rangeD 0 13) de := rngA_n 13 (by decide) de
@[simp] theorem rngL14 (de : DEnv) : rngA (.int 14) de = .ok (rangeD 0 14) de := rngA_n 14 (by decide) de
@[simp] theorem rngL15 (de : DEnv) : rngA (.int 15) de = .ok (rangeD 0 15) de := rngA_n 15 (by decide) de
@[simp] theorem rngL16 (de : DEnv) : rngA (.int 16) de = .ok (rangeD 0 16) de := rngA_n 16 (by decide) de
@[simp] theorem rngL17 (de : DEnv) : rngA (.int 17) de = .ok (rangeD 0 17) de := rngA_n 17 (by decide) de
@[simp] theorem rngL18 (de : DEnv) : rngA (.int 18) de = .ok (rangeD 0 18) de := rngA_n 18 (by decide) de
@[simp] theorem rngL19 (de : DEnv) : rngA (.int 19) de = .ok (rangeD 0 19) de := rngA_n 19 (by decide) de
@[simp] theorem rngL20 (de : DEnv) : rngA (.int 20) de = .ok (rangeD 0 20) de := rngA_n 20 (by decide) de
@[simp] theorem rngL21 (de : DEnv) : rngA (.int 21) de = .ok (rangeD 0 21) de := rngA_n 21 (by decide) de
@[simp] theorem rngL22 (de : DEnv) : rngA (.int 22) de = .ok (rangeD 0 22) de := rngA_n 22 (by decide) de
@[simp] theorem rngL23 (de : DEnv) : rngA (.int 23) de = .ok (rangeD 0 23) de := rngA_n 23 (by decide) de
@[simp] theorem rngL24 (de : DEnv) : rngA (.int 24) de = .ok (rangeD 0 24) de := rngA_n 24 (by decide) de
@[simp] theorem rngL25 (de : DEnv) : rngA (.int 25) de = .ok (rangeD 0 25) de := rngA_n 25 (by decide) de
@[simp] theorem rngL26 (de : DEnv) : rngA (.int 26) de = .ok (rangeD 0 26) de := rngA_n 26 (by decide) de
@[simp] theorem rngL27 (de : DEnv) : rngA (.int 27) de = .ok (rangeD 0 27) de := rngA_n 27 (by decide) de
@[simp] theorem rngL28 (de : DEnv) : rngA (.int 28) de = .ok (rangeD 0 28) de := rngA_n 28 (by decide) de
@[simp] theorem rngL29 (de : DEnv) : rngA (.int 29) de = .ok (rangeD 0 29) de := rngA_n 29 (by decide) de
@[simp] theorem rngL30 (de : DEnv) : rngA (.int 30) de = .ok (rangeD 0 30) de := rngA_n 30 (by decide) de
@[simp] theorem rngL31 (de : DEnv) : rngA (.int 31) de = .ok (rangeD 0 31) de := rngA_n 31 (by decide) de
@[simp] theorem rngL32 (de : DEnv) : rngA (.int 32) de = .ok (rangeD 0 32) de := rngA_n 32 (by decide) de
@[simp] theorem rngL33 (de : DEnv) : rngA (.int 33) de = .ok (rangeD 0 33) de := rngA_n 33 (by decide) de
@[simp] theorem rngL34 (de : DEnv) : rngA (.int 34) de = .ok (rangeD 0 34) de := rngA_n 34 (by decide) de
@[simp] theorem rngL35 (de : DEnv) : rngA (.int 35) de = .ok (rangeD 0 35) de := rngA_n 35 (by decide) de
@[simp] theorem rngL36 (de : DEnv) : rngA (.int 36) de = .ok (rangeD 0 36) de := rngA_n 36 (by decide) de
@[simp] theorem rngL37 (de : DEnv) : rngA (.int 37) de = .ok (rangeD 0 37) de := rngA_n 37 (by decide) de
@[simp] theorem rngL38 (de : DEnv) : rngA (.int 38) de = .ok (rangeD 0 38) de := rngA_n 38 (by decide) de
@[simp] theorem rngL39 (de : DEnv) : rngA (.int 39) de = .ok (rangeD 0 39) de := rngA_n 39 (by decide) de
@[simp] theorem rngL40 (de : DEnv) : rngA (.int 40) de = .ok (rangeD 0 40) de := rngA_n 40 (by decide) de
@[simp] theorem atI0 {α : Type} (l : List α) : atI l 0 = l[0]? := atI_n l 0
@[simp] theorem ixN0 (m : Nat) (h : 0 < m) : ixN m 0 = some 0 := ixN_nat m 0 h
@[simp] theorem atI1 {α : Type} (l : List α) : atI l 1 = l[1]? := atI_n l 1
@[simp] theorem ixN1 (m : Nat) (h : 1 < m) : ixN m 1 = some 1 := ixN_nat m 1 h
@[simp] theorem atI2 {α : Type} (l : List α) : atI l 2 = l[2]? := atI_n l 2
@[simp] theorem ixN2 (m : Nat) (h : 2 < m) : ixN m 2 = some 2 := ixN_nat m 2 h
@[simp] theorem atI3 {α : Type} (l : List α) : atI l 3 = l[3]? := atI_n l 3
@[simp] theorem ixN3 (m : Nat) (h : 3 < m) : ixN m 3 = some 3 := ixN_nat m 3 h
@[simp] theorem atI4 {α : Type} (l : List α) : atI l 4 = l[4]? := atI_n l 4
@[simp] theorem ixN4 (m : Nat) (h : 4 < m) : ixN m 4 = some 4 := ixN_nat m 4 h
@[simp] theorem atI5 {α : Type} (l : List α) : atI l 5 = l[5]? := atI_n l 5
@[simp] theorem ixN5 (m : Nat) (h : 5 < m) : ixN m 5 = some 5 := ixN_nat m 5 h
@[simp] theorem atI6 {α : Type} (l : List α) : atI l 6 = l[6]? := atI_n l 6
@[simp] theorem ixN6 (m : Nat) (h : 6 < m) : ixN m 6 = some 6 := ixN_nat m 6 h
@[simp] theorem atI7 {α : Type} (l : List α) : atI l 7 = l[7]? := atI_n l 7
@[simp] theorem ixN7 (m : Nat) (h : 7 < m) : ixN m 7 = some 7 := ixN_nat m 7 h
@[simp] theorem atI8 {α : Type} (l : List α) : atI l 8 = l[8]? := atI_n l 8
@[simp] theorem ixN8 (m : Nat) (h : 8 < m) : ixN m 8 = some 8 := ixN_nat m 8 h
@[simp] theorem atI9 {α : Type} (l : List α) : atI l 9 = l[9]? := atI_n l 9
@[simp] theorem ixN9 (m : Nat) (h : 9 < m) : ixN m 9 = some 9 := ixN_nat m 9 h
@[simp] theorem atI10 {α : Type} (l : List α) : atI l 10 = l[10]? := atI_n l 10
@[simp] theorem ixN10 (m : Nat) (h : 10 < m) : ixN m 10 = some 10 := ixN_nat m 10 h
@[simp] theorem atI11 {α : Type} (l : List α) : atI l 11 = l[11]? := atI_n l 11
@[simp] theorem ixN11 (m : Nat) (h : 11 < m) : ixN m 11 = some 11 := ixN_nat m 11 h
@[simp] theorem atI12 {α : Type} (l : List α) : atI l 12 = l[12]? := atI_n l 12
@[simp] theorem ixN12 (m : Nat) (h : 12 < m) : ixN m 12 = some 12 := ixN_nat m 12 h
theorem lt_pow_big {n k : Nat} (h : n < 2 ^ 200) (hk : 200 ≤ k) : n < 2 ^ k := Nat.lt_of_lt_of_le h (Nat.pow_le_pow_right (by decide) hk)
theorem cMul_ok {i j : Int} (h1 : i.natAbs < 2 ^ 200) (h2 : j.natAbs < 2 ^ 200) : cMul i j = true := by
  unfold cMul
  rw [decide_eq_true (lt_pow_big h1 (by decide)), decide_eq_true (lt_pow_big h2 (by decide))]
  rfl
theorem cDiv_ok {i j : Int} (h1 : 0 < j) (h2 : j.natAbs < 2 ^ 200) : cDiv i j = true := by
  unfold cDiv
  rw [decide_eq_true h1, decide_eq_true (lt_pow_big h2 (by decide))]
  rfl
theorem cMod_ok {i j : Int} (h1 : 0 < j) : cMod i j = true := decide_eq_true h1
theorem vLoop_nx {g : D → DEnv → Option DEnv} {tb : DEnv → Ot} {d : D} {r : List D} {de de1 de2 : DEnv} (h1 : g d de = some de1) (h2 : tb de1 = .nx de2) : vLoop g tb (d :: r) de = vLoop g tb r de2 := by
  rw [vLoop, h1]; dsimp only; rw [h2]
theorem vLoop_ct {g : D → DEnv → Option DEnv} {tb : DEnv → Ot} {d : D} {r : List D} {de de1 de2 : DEnv} (h1 : g d de = some de1) (h2 : tb de1 = .ct de2) : vLoop g tb (d :: r) de = vLoop g tb r de2 := by
  rw [vLoop, h1]; dsimp only; rw [h2]
/-- a loop whose every turn goes on, an invariant kept -/
theorem vLoop_inv {g : D → DEnv → Option DEnv} {tb : DEnv → Ot} {I : DEnv → Prop} : ∀ (l : List D) (de : DEnv), I de → (∀ d ∈ l, ∀ de, I de → ∃ de1 de2, g d de = some de1 ∧ (tb de1 = .nx de2 ∨ tb de1 = .ct de2) ∧ I de2) → ∃ de', vLoop g tb l de = .nx de' ∧ I de'
  | [], de, hi, _ => ⟨de, rfl, hi⟩
  | d :: r, de, hi, h => by
    obtain ⟨de1, de2, h1, h2, h3⟩ := h d List.mem_cons_self de hi
    obtain ⟨de3, k1, k2⟩ := vLoop_inv r de2 h3 fun d hd => h d (List.mem_cons_of_mem _ hd)
    rcases h2 with h2 | h2
    · exact ⟨de3, by rw [vLoop_nx h1 h2, k1], k2⟩
    · exact ⟨de3, by rw [vLoop_ct h1 h2, k1], k2⟩
theorem rangeD_mem {n : Nat} {d : D} (h : d ∈ rangeD 0 n) : ∃ k : Nat, k < n ∧ d = .int k := by
  unfold rangeD at h
  obtain ⟨k, h1, h2⟩ := List.mem_map.mp h
  exact ⟨k, List.mem_range.mp h1, by rw [← h2, Int.zero_add]⟩
end DL

set_option maxRecDepth 100000
set_option maxHeartbeats 2000000
set_option autoImplicit false
/-! the plain side: more of what the evaluators answer -/
namespace DL
open L2 PySem
def orIx : Option D → D → D → Option D
  | some z, _, _ => some z
  | none, a, b => match a with
    | .dn ds => (keyN b).bind fun k => valN ds k
    | _ => none
def orIn (g : Bool → Bool) : Option D → D → D → Option D
  | some z, _, _ => some z
  | none, a, b => (entN b).bind fun ds => (keyN a).map fun k => .bl (g (valN ds k).isSome)
def orIt : Option (List D) → D → Option (List D)
  | some xs, _ => some xs
  | none, .dn ds => some (ds.map (·.1))
  | none, _ => none
def putNC (i : Nat) (v k : D) (de : DEnv) (s : Sl) (ds : List (D × D)) : Option NestedKey → Ot
  | some kk => if ds.length < 16777216 then .nx (de.set i (s.same (.dn (putN ds kk k v)))) else .bad
  | none => .bad
def putNB (i : Nat) (v k : D) (de : DEnv) (s : Sl) : Option (List (D × D)) → Ot
  | some ds => putNC i v k de s ds (keyN k)
  | none => .bad
theorem fIn_none {x y : D} {e : List (D × D)} (h : entN y = some e) : fIn x y = none := by
  cases y <;> first | rfl | (cases h; done)
theorem fNotIn_none {x y : D} {e : List (D × D)} (h : entN y = some e) : fNotIn x y = none := by
  cases y <;> first | rfl | (cases h; done)
def callLA (n : Nat) (m : List D → Fo) (dcs : List D) (de : DEnv) : Option (List D) → Rs D
  | some ds => if ds.length + dcs.length = n then flatL de (m (ds ++ dcs)) else .bad
  | none => .bad
def dcA (de : DEnv) (vs : List Nat) : Option (List (D × D) × DEnv) → Rs D
  | some (xs, de2) => .ok (dnD xs) (restD de vs de2)
  | none => .bad
def tmA (l : List HdD) : Ot → Ot
  | .ex c fs de1 => hdsRun c fs de1 l
  | o => o
def hdB (o : Option Nat) (es : DEnv → Ot) (r : List HdD) (c : Nat) (fs : List (Str × D)) (de : DEnv) : Option Bool → Ot
  | some true => hdRun o es c fs de
  | some false => hdsRun c fs de r
  | none => .bad
def rng2A (d d' : D) (de : DEnv) : Rs (List D) := match d, d' with
  | .int i, .int j => if -(2 ^ 62) ≤ i ∧ i < 2 ^ 62 ∧ -(2 ^ 62) ≤ j ∧ j < 2 ^ 62 then .ok (rangeD i (j - i).toNat) de else .bad
  | _, _ => .bad
def enA (d : D) (de : DEnv) : Rs (List D) := match d with
  | .lst ds => .ok (enumD 0 ds) de
  | .scr ds => .ok (enumD 0 ds) de
  | _ => .bad
def zpA (d d' : D) (de : DEnv) : Rs (List D) := match d, d' with
  | .lst xs, .lst ys => .ok (zipD xs ys) de
  | .scr xs, .lst ys => .ok (zipD xs ys) de
  | .lst xs, .scr ys => .ok (zipD xs ys) de
  | .tup xs, .tup ys => .ok (zipD xs ys) de
  | _, _ => .bad
def asgA : Option DEnv → Ot
  | some de => .nx de
  | none => .bad
def augA (i : Nat) (g : Int → Int → Int) (ev : DEnv → Rs D) (de : DEnv) : Option Sl → Ot
  | some (.va a) => (ev de).out fun b de1 => augB i de1 (fAugI g a b)
  | _ => .bad
where augB (i : Nat) (de : DEnv) : Option D → Ot
  | some z => .nx (de.set i (.va z))
  | none => .bad
def mutB (i : Nat) (s : Sl) (de : DEnv) : Option (D × List D) → Rs D
  | some (r, ds) => .ok r (de.set i (s.same (.lst ds)))
  | none => .bad
def mutA (i : Nat) (g : List D → List D → Option (D × List D)) (as : List D) (de : DEnv) : Option (Sl × D) → Rs D
  | some (s, .lst ds) => mutB i s de (g ds as)
  | _ => .bad
def isNon : D → Bool
  | .non => true
  | _ => false
def callTA (n : Nat) (m : List D → Fo) (dcs : List D) (d : D) (de : DEnv) : Option (List D) → Rs D
  | some ds => if (d :: ds).length + dcs.length = n then callT de (m ((d :: ds) ++ dcs)) else .bad
  | none => .bad
def callBA (n : Nat) (m : List D → Fo) (dcs : List D) (de : DEnv) : Option (List D) → Rs D
  | some ds => if ds.length + dcs.length = n then flatO de (m (ds ++ dcs)) else .bad
  | none => .bad
def ownA : Fo → Option D
  | .ret d none => if scal d = true then some d else none
  | _ => none
def lc2A (de1 : DEnv) (vs : List Nat) : Option (List D × DEnv) → Rs D
  | some (xs, de2) => if xs.length ≤ 16777216 then .ok (.lst xs) (restD de1 vs de2) else .bad
  | none => .bad
def lcA (de1 : DEnv) (vs : List Nat) : Option (List D × DEnv) → Rs D
  | some (xs, de2) => .ok (.lst xs) (restD de1 vs de2)
  | none => .bad
section
variable {de : DEnv} {c k n i : Nat} {fs : List (Str × D)} {vs : List Nat} {v : Nat} {l r : List HdD} {eb es e1 : DEnv → Ot} {ev ev' : DEnv → Rs D} {d d' x y : D} {xs ys ds as : List D} {o : Option Nat} {mt : Nat → Option Bool} {g : D → DEnv → Option DEnv} {gs : List D → DEnv → Option DEnv} {z : Int} {s : Sl} {ea : DEnv → Rs (List D)} {gm : List D → List D → Option (D × List D)}
@[simp] theorem pt1 : vPre vs e1 de = e1 (wipeD de vs) := Eq.trans rfl rfl
@[simp] theorem pt2 : vPost vs e1 de = dropO vs (e1 de) := Eq.trans rfl rfl
@[simp] theorem pt3 {ei : DEnv → Rs (List D)} : vIdrop vs ei de = (ei de).bind fun ds de1 => .ok ds (wipeD de1 vs) := Eq.trans rfl rfl
@[simp] theorem pt4 : wipeD de [] = de := Eq.trans rfl rfl
@[simp] theorem pt5 : wipeD de (v :: vs) = (wipeD de vs).set v .no := Eq.trans rfl rfl
@[simp] theorem pt6 : dropO vs (.nx de) = .nx (wipeD de vs) := Eq.trans rfl rfl
@[simp] theorem pt7 : dropO vs (.ct de) = .ct (wipeD de vs) := Eq.trans rfl rfl
@[simp] theorem pt8 : dropO vs (.brk de) = .brk (wipeD de vs) := Eq.trans rfl rfl
@[simp] theorem pt9 : dropO vs (.ret d de) = .ret d de := Eq.trans rfl rfl
@[simp] theorem pt10 : dropO vs (.retF d de) = .retF d de := Eq.trans rfl rfl
@[simp] theorem pt11 : dropO vs (.ex c fs de) = .ex c fs de := Eq.trans rfl rfl
@[simp] theorem pt12 : vTryMany l eb de = tmA l (eb de) := by unfold vTryMany tmA <;> (cases eb de <;> rfl)
@[simp] theorem pt13 : tmA l (.nx de) = .nx de := Eq.trans rfl rfl
@[simp] theorem pt14 : tmA l (.ret d de) = .ret d de := Eq.trans rfl rfl
@[simp] theorem pt15 : tmA l (.retF d de) = .retF d de := Eq.trans rfl rfl
@[simp] theorem pt16 : tmA l (.brk de) = .brk de := Eq.trans rfl rfl
@[simp] theorem pt17 : tmA l (.ct de) = .ct de := Eq.trans rfl rfl
@[simp] theorem pt18 : tmA l (.ex c fs de) = hdsRun c fs de l := Eq.trans rfl rfl
@[simp] theorem pt19 : hdsRun c fs de [] = .ex c fs de := Eq.trans rfl rfl
@[simp] theorem pt20 : hdsRun c fs de ((mt, o, es) :: r) = hdB o es r c fs de (mt c) := by (show (match mt c with | some true => hdRun o es c fs de | some false => hdsRun c fs de r | none => .bad) = _) <;> (rcases mt c with _ | b <;> first | rfl | (cases b <;> rfl))
@[simp] theorem pt21 : hdB o es r c fs de (some true) = hdRun o es c fs de := Eq.trans rfl rfl
@[simp] theorem pt22 : hdB o es r c fs de (some false) = hdsRun c fs de r := Eq.trans rfl rfl
@[simp] theorem pt23 : hdRun none es c fs de = noOut (es de) := Eq.trans rfl rfl
@[simp] theorem pt24 : hdRun (some i) es c fs de = if calmD (de.set i .no) = true then offEx i (es (de.set i (.ex c fs))) else .bad := Eq.trans rfl rfl
@[simp] theorem pt25 : vRng2 ev ev' de = (ev de).bind fun d de1 => (ev' de1).bind fun d' de2 => rng2A d d' de2 := Eq.trans rfl rfl
@[simp] theorem pt26 : vRevI ev de = (ev de).bind fun d de1 => ofO ((itemsOf d).map List.reverse) de1 := Eq.trans rfl rfl
@[simp] theorem pt27 : vEnumS ev de = (ev de).bind fun d de1 => ofO ((itemsOf d).map (enumD 0)) de1 := Eq.trans rfl rfl
@[simp] theorem pt28 : vEnumI ev de = (ev de).bind enA := Eq.trans rfl rfl
@[simp] theorem pt29 : enA (.lst ds) de = .ok (enumD 0 ds) de := Eq.trans rfl rfl
@[simp] theorem pt30 : enA (.scr ds) de = .ok (enumD 0 ds) de := Eq.trans rfl rfl
@[simp] theorem pt31 : vZipI ev ev' de = (ev de).bind fun d de1 => (ev' de1).bind fun d' de2 => zpA d d' de2 := Eq.trans rfl rfl
@[simp] theorem pt32 : zpA (.lst xs) (.lst ys) de = .ok (zipD xs ys) de := Eq.trans rfl rfl
@[simp] theorem pt33 : zpA (.tup xs) (.tup ys) de = .ok (zipD xs ys) de := Eq.trans rfl rfl
@[simp] theorem pt34 : zpA (.scr xs) (.lst ys) de = .ok (zipD xs ys) de := Eq.trans rfl rfl
@[simp] theorem pt35 : enumD n [] = [] := Eq.trans rfl rfl
@[simp] theorem pt36 : enumD n (d :: ds) = .tup [.int n, d] :: enumD (n + 1) ds := Eq.trans rfl rfl
@[simp] theorem pt37 : tgNil [] de = some de := Eq.trans rfl rfl
@[simp] theorem pt38 : tgCons g gs (d :: ds) de = (g d de).bind fun de1 => gs ds de1 := Eq.trans rfl rfl
@[simp] theorem pt39 : tgTup n gs (.tup ds) de = if ds.length = n then gs ds de else none := Eq.trans rfl rfl
@[simp] theorem pt40 : vAsg ev g de = (ev de).out fun d de1 => asgA (g d de1) := by unfold vAsg <;> (congr 1 <;> (funext d de1 <;> (cases g d de1 <;> rfl)))
@[simp] theorem pt41 : asgA (some de) = .nx de := Eq.trans rfl rfl
@[simp] theorem pt42 {ga : Int → Int → Int} : vAug i ga ev de = augA i ga ev de de[i]? := by
  unfold vAug
  cases e : de[i]? with
  | none => rfl
  | some s => cases s with
    | va a => ((show (ev de).out _ = (ev de).out _) <;> (congr 1 <;> (funext b de1 <;> (cases fAugI ga a b <;> rfl))))
    | _ => rfl
@[simp] theorem pt43 {ga : Int → Int → Int} {a : D} : augA i ga ev de (some (.va a)) = (ev de).out fun b de1 => augA.augB i de1 (fAugI ga a b) := Eq.trans rfl rfl
@[simp] theorem pt44 : augA.augB i de (some d) = .nx (de.set i (.va d)) := Eq.trans rfl rfl
@[simp] theorem pt45 {ga : Int → Int → Int} {a b : Int} : fAugI ga (.int a) (.int b) = some (.int (ga a b)) := Eq.trans rfl rfl
@[simp] theorem pt46 : vMut i gm ea de = if ((slotAt i de).map isLst).getD false = true then (ea de).bind fun as de1 => mutA i gm as de1 (slotOw i de1) else .bad := by
  unfold vMut
  refine congrArg (fun f => if ((slotAt i de).map isLst).getD false = true then (ea de).bind f else Rs.bad) ?_
  funext as de1
  cases slotOw i de1 with
  | none => rfl
  | some p =>
    obtain ⟨s, x⟩ := p
    cases x with
    | lst ds => (show (match gm ds as with | some (r, ds') => Rs.ok r (de1.set i (s.same (.lst ds'))) | none => .bad) = mutB i s de1 (gm ds as)); cases gm ds as with | none => rfl | some q => cases q; rfl
    | _ => rfl
@[simp] theorem pt47 : mutA i gm as de (some (s, .lst ds)) = mutB i s de (gm ds as) := Eq.trans rfl rfl
@[simp] theorem pt48 : mutB i s de (some (d, ds)) = .ok d (de.set i (s.same (.lst ds))) := Eq.trans rfl rfl
@[simp] theorem pt49 (h : ds.length < 16777216) : gAppend ds [d] = some (.non, ds ++ [d]) := by unfold gAppend; dsimp only; rw [if_pos h]
@[simp] theorem pt50 : gClear ds [] = some (.non, []) := Eq.trans rfl rfl
@[simp] theorem pt51 (h : ds.length + as.length ≤ 16777216) : gExtend ds [.lst as] = some (.non, ds ++ as) := by unfold gExtend; dsimp only; rw [if_pos h]
@[simp] theorem pt52 : fIsN d .non = some (.bl (isNon d)) := by cases d <;> rfl
@[simp] theorem pt53 : fNotN d .non = some (.bl (!isNon d)) := by cases d <;> rfl
@[simp] theorem pt54 : isNon .non = true := Eq.trans rfl rfl
@[simp] theorem pt55 {b : Bool} : isNon (.bl b) = false := Eq.trans rfl rfl
@[simp] theorem pt56 : isNon (.int z) = false := Eq.trans rfl rfl
@[simp] theorem pt57 : isNon (.tup xs) = false := Eq.trans rfl rfl
@[simp] theorem pt58 : isNon (.lst xs) = false := Eq.trans rfl rfl
@[simp] theorem pt59 : isNon (.scr xs) = false := Eq.trans rfl rfl
@[simp] theorem pt60 {u : Str} : isNon (.str u) = false := Eq.trans rfl rfl
@[simp] theorem pt61 : isNon (.obj c fs) = false := Eq.trans rfl rfl
@[simp] theorem pt62 {kvs : List (Key × D)} : isNon (.dk kvs) = false := Eq.trans rfl rfl
@[simp] theorem pt63 {ei : DEnv → Rs (List D)} {tt : DEnv → Rs Bool} {te : DEnv → Rs D} : vLc vs ei g tt te de = (ei de).bind fun ds de1 => if plainAt de1 vs = true ∧ ds.length ≤ 16777216 then lcA de1 vs (lcGo vs g tt te ds (wipeD de1 vs)) else .bad := by unfold vLc <;> (congr 1 <;> (funext ds de1 <;> (congr 1 <;> (rcases lcGo vs g tt te ds (wipeD de1 vs) with _ | ⟨a, b⟩ <;> rfl))))
@[simp] theorem pt64 {e2 : DEnv} : lcA de vs (some (xs, e2)) = .ok (.lst xs) (restD de vs e2) := Eq.trans rfl rfl
@[simp] theorem pt65 {e0 : DEnv} : restD e0 [] de = de := Eq.trans rfl rfl
@[simp] theorem pt66 {e0 : DEnv} : restD e0 (v :: vs) de = (restD e0 vs de).set v (e0.getD v .no) := Eq.trans rfl rfl
@[simp] theorem pt67 : plainAt de [] = true := Eq.trans rfl rfl
@[simp] theorem pt68 : plainAt de (v :: vs) = (plainS de[v]? && plainAt de vs) := Eq.trans rfl rfl
@[simp] theorem pt69 : plainS none = true := Eq.trans rfl rfl
@[simp] theorem pt70 : plainS (some .no) = true := Eq.trans rfl rfl
@[simp] theorem pt71 : plainS (some (.va d)) = true := Eq.trans rfl rfl
@[simp] theorem pt72 : vYes de = .ok true de := Eq.trans rfl rfl
@[simp] theorem pt73 {m : List D → Fo} {dcs : List D} {ec : DEnv → Rs (List CA)} : wCallB n m dcs ec de = (ec de).bind fun cs de1 => callB n m dcs cs de1 := Eq.trans rfl rfl
@[simp] theorem pt74 {m : List D → Fo} {dcs : List D} {cs : List CA} : callB n m dcs cs de = callBA n m dcs de (argB de cs) := by unfold callB; cases argB de cs <;> rfl
@[simp] theorem pt75 {m : List D → Fo} {dcs : List D} : callBA n m dcs de (some ds) = if ds.length + dcs.length = n then flatO de (m (ds ++ dcs)) else .bad := Eq.trans rfl rfl
@[simp] theorem pt76 {cs : List CA} : argB de (.v d :: cs) = (argB de cs).map (d :: ·) := Eq.trans rfl rfl
@[simp] theorem pt77 {cs : List CA} : argB de (.s i :: cs) = (slotAt i de).bind fun d => (argB de cs).map (d :: ·) := Eq.trans rfl rfl
@[simp] theorem pt78 : argB de [] = some [] := Eq.trans rfl rfl
@[simp] theorem pt79 : flatO de (.ret d none) = if scal d = true then .ok d de else .bad := Eq.trans rfl rfl
@[simp] theorem pt80 : scal .non = true := Eq.trans rfl rfl
@[simp] theorem pt81 {b : Bool} : scal (.bl b) = true := Eq.trans rfl rfl
@[simp] theorem pt82 : scal (.int z) = true := Eq.trans rfl rfl
@[simp] theorem pt83 {u : Str} : scal (.str u) = true := Eq.trans rfl rfl
@[simp] theorem pt84 {er : DEnv → Rs (Int × Int)} : vListRg er de = (er de).bind fun p de1 => if -1000000 ≤ p.1 ∧ p.1 ≤ 1000000 ∧ -1000000 ≤ p.2 ∧ p.2 ≤ 1000000 then .ok (.lst (rangeD p.1 (p.2 - p.1).toNat)) de1 else .bad := Eq.trans rfl rfl
@[simp] theorem pt85 : vR1 ev de = (ev de).bind fun d de1 => ofO ((asI d).map fun n => (0, n)) de1 := Eq.trans rfl rfl
@[simp] theorem pt86 : vR2 ev ev' de = (ev de).bind fun d de1 => (ev' de1).bind fun d' de2 => ofO ((asI d).bind fun i => (asI d').map fun j => (i, j)) de2 := Eq.trans rfl rfl
@[simp] theorem pt87 : fSum [.lst ds] = (asIs ds).map fun ns => .int ns.sum := Eq.trans rfl rfl
@[simp] theorem pt88 (ns : List Int) : asIs (ns.map D.int) = some ns := by induction ns with | nil => rfl | cons i r ih => (show (asIs (r.map D.int)).map (i :: ·) = _); rw [ih]; rfl
@[simp] theorem pt89 : fRepr [d] = (reprD d).map .str := Eq.trans rfl rfl
@[simp] theorem pt90 : truD (.int z) = some (z != 0) := Eq.trans rfl rfl
@[simp] theorem pt91 : truD (.tup xs) = some (!xs.isEmpty) := Eq.trans rfl rfl
@[simp] theorem pt92 : truD (.lst xs) = some (!xs.isEmpty) := Eq.trans rfl rfl
@[simp] theorem pt93 : truD .non = some false := Eq.trans rfl rfl
@[simp] theorem pt94 {b : Bool} : fInt [.bl b] = some (.int (if b then 1 else 0)) := Eq.trans rfl rfl
@[simp] theorem pt95 (h : z.natAbs.log2 < 1920) : fStrI [.int z] = some (.str (toString z)) := by unfold fStrI; dsimp only; rw [if_pos h]
@[simp] theorem pt96 {b : Bool} : vOneV ev de = ev de := Eq.trans rfl rfl
end
/-! toPy and its kin, by what stands there -/
section
variable {z w : Int} {b a : Bool} {u v : Str} {d : D} {ds es : List D}
@[simp] theorem pt97 : toPy .non = .none := Eq.trans rfl rfl
@[simp] theorem pt98 : toPy (.bl b) = .bool b := Eq.trans rfl rfl
@[simp] theorem pt99 : toPy (.int z) = .int z := Eq.trans rfl rfl
@[simp] theorem pt100 : toPy (.str u) = .str u := Eq.trans rfl rfl
@[simp] theorem pt101 : toPy (.tup ds) = .tuple (toPys ds) := Eq.trans rfl rfl
@[simp] theorem pt102 : toPy (.lst ds) = .list (toPys ds) := Eq.trans rfl rfl
@[simp] theorem pt103 : toPys [] = [] := Eq.trans rfl rfl
@[simp] theorem pt104 : toPys (d :: ds) = toPy d :: toPys ds := Eq.trans rfl rfl
@[simp] theorem pt105 {c n : Nat} {mu : Option Nat} {ev : DEnv → Rs D} {de : DEnv} {nm : Str} {m : List D → Fo} {ar : List D → List D → List D} {ek : DEnv → Rs (List D)} : wMethK c nm n mu m ar ev ek de = (ev de).bind fun d de1 => if isOb c nm d = true then (ek de1).bind fun zs de2 => callC n mu m [] (.v d :: (ar [] zs).map CA.v) de2 else .bad := Eq.trans rfl rfl
@[simp] theorem pt106 {c n : Nat} {mu : Option Nat} {ev : DEnv → Rs D} {de : DEnv} {nm : Str} {m : List D → Fo} {dcs : List D} {ea : DEnv → Rs (List CA)} : wMeth c nm n mu m dcs ev ea de = (ev de).bind fun d de1 => if isOb c nm d = true then (ea de1).bind fun cs de2 => callC n mu m dcs (.v d :: cs) de2 else .bad := Eq.trans rfl rfl
@[simp] theorem pt107 {c n : Nat} {mu : Option Nat} {ev : DEnv → Rs D} {de : DEnv} {nm : Str} {m : List D → Fo} {dcs : List D} {ea : DEnv → Rs (List CA)} : wMethF c nm n mu m dcs ev ea de = (ev de).bind fun d de1 => if isOb c nm d = true then (ea de1).bind fun cs de2 => callCF n mu m dcs (.v d :: cs) de2 else .bad := Eq.trans rfl rfl
@[simp] theorem pt108 {c n i : Nat} {mu : Option Nat} {de : DEnv} {nm : Str} {m : List D → Fo} {dcs : List D} {ea : DEnv → Rs (List CA)} : wMethS c nm n mu m dcs i ea de = if ((slotAt i de).map (isOb c nm)).getD false = true then (ea de).bind fun cs de2 => callC n mu m dcs (.s i :: cs) de2 else .bad := Eq.trans rfl rfl
@[simp] theorem pt109 {c n i : Nat} {mu : Option Nat} {de : DEnv} {nm : Str} {m : List D → Fo} {dcs : List D} {ea : DEnv → Rs (List CA)} : wMethSF c nm n mu m dcs i ea de = if ((slotAt i de).map (isOb c nm)).getD false = true then (ea de).bind fun cs de2 => callCF n mu m dcs (.s i :: cs) de2 else .bad := Eq.trans rfl rfl
@[simp] theorem pt110 {g : Bool → Bool} {xs ys : List (D × D)} : fEqN g (.dn xs) (.dn ys) = (eqGo ys xs).map fun r => .bl (g (xs.length == ys.length && r)) := Eq.trans rfl rfl
@[simp] theorem pt111 {i : Nat} {cl : List Nat} {f : Str} {g : Int → Int → Int} {ev : DEnv → Rs D} {de : DEnv} : vAugFld i cl f g ev de = augFA i cl f g ev de (slotOw i de) := Eq.trans rfl rfl
@[simp] theorem pt112 {i c : Nat} {cl : List Nat} {f : Str} {g : Int → Int → Int} {ev : DEnv → Rs D} {de : DEnv} {s : Sl} {fs : List (Str × D)} : augFA i cl f g ev de (some (s, .obj c fs)) = if cl.contains c = true then augFL i c f g ev de (fs.lookup f) else .bad := Eq.trans rfl rfl
@[simp] theorem pt113 {i c : Nat} {f : Str} {g : Int → Int → Int} {ev : DEnv → Rs D} {de : DEnv} {a : Int} : augFL i c f g ev de (some (.int a)) = (ev de).out fun b de1 => augFI i c f g a de1 b := Eq.trans rfl rfl
@[simp] theorem pt114 {i c : Nat} {f : Str} {g : Int → Int → Int} {de : DEnv} {a j : Int} : augFI i c f g a de (.int j) = augFB i c f (g a j) de (slotOw i de) := Eq.trans rfl rfl
@[simp] theorem pt115 {i c c2 : Nat} {f : Str} {de : DEnv} {z : Int} {s : Sl} {fs : List (Str × D)} : augFB i c f z de (some (s, .obj c2 fs)) = if c2 = c ∧ fs.length < 1000 then .nx (de.set i (s.same (.obj c2 (putD f (.int z) fs)))) else .bad := Eq.trans rfl rfl
@[simp] theorem pt116 {i j : Int} (h : cDivG i j = true) : fFdivG (.int i) (.int j) = some (.int (i.fdiv j)) := by show (if cDivG i j = true then _ else _) = _; rw [if_pos h]
@[simp] theorem pt117 {cs : List Nat} {c c2 : Nat} {m : List D → Fo} {fs : List (Str × D)} {b : D} : fOwn cs c m (.obj c2 fs) b = if c2 = c then (tyOf b).bind fun s => if (tyIn cs s || tyN s) = true then ownA (m [.obj c2 fs, b]) else none else none := Eq.trans rfl rfl
@[simp] theorem pt118 {d : D} : ownA (.ret d none) = if scal d = true then some d else none := Eq.trans rfl rfl
@[simp] theorem pt119 {cs : List Nat} {c : Nat} {m : List D → Fo} {z : Int} {b : D} : fEqA cs c m (.int z) b = fEq (.int z) b := Eq.trans rfl rfl
@[simp] theorem pt120 {cs : List Nat} {c : Nat} {m : List D → Fo} {x : Bool} {b : D} : fEqA cs c m (.bl x) b = fEq (.bl x) b := Eq.trans rfl rfl
@[simp] theorem pt121 {cs : List Nat} {c : Nat} {m : List D → Fo} {x : Str} {b : D} : fEqA cs c m (.str x) b = fEq (.str x) b := Eq.trans rfl rfl
@[simp] theorem pt122 {cs : List Nat} {c : Nat} {m : List D → Fo} {xs : List D} {b : D} : fEqA cs c m (.tup xs) b = fEq (.tup xs) b := Eq.trans rfl rfl
@[simp] theorem pt123 {cs : List Nat} {c : Nat} {m : List D → Fo} {xs : List D} {b : D} : fEqA cs c m (.lst xs) b = fEq (.lst xs) b := Eq.trans rfl rfl
@[simp] theorem pt124 {cs : List Nat} {c : Nat} {m : List D → Fo}  {b : D} : fEqA cs c m (.non) b = fEq (.non) b := Eq.trans rfl rfl
@[simp] theorem pt125 {cs : List Nat} {c : Nat} {m : List D → Fo} {z : Int} {b : D} : fNeA cs c m (.int z) b = fNe (.int z) b := Eq.trans rfl rfl
@[simp] theorem pt126 {cs : List Nat} {c : Nat} {m : List D → Fo} {x : Bool} {b : D} : fNeA cs c m (.bl x) b = fNe (.bl x) b := Eq.trans rfl rfl
@[simp] theorem pt127 {cs : List Nat} {c : Nat} {m : List D → Fo} {x : Str} {b : D} : fNeA cs c m (.str x) b = fNe (.str x) b := Eq.trans rfl rfl
@[simp] theorem pt128 {cs : List Nat} {c : Nat} {m : List D → Fo} {xs : List D} {b : D} : fNeA cs c m (.tup xs) b = fNe (.tup xs) b := Eq.trans rfl rfl
@[simp] theorem pt129 {cs : List Nat} {c : Nat} {m : List D → Fo} {xs : List D} {b : D} : fNeA cs c m (.lst xs) b = fNe (.lst xs) b := Eq.trans rfl rfl
@[simp] theorem pt130 {cs : List Nat} {c : Nat} {m : List D → Fo}  {b : D} : fNeA cs c m (.non) b = fNe (.non) b := Eq.trans rfl rfl
@[simp] theorem pt131 {cs : List Nat} {c c2 : Nat} {m : List D → Fo} {fs : List (Str × D)} {b : D} : fEqA cs c m (.obj c2 fs) b = fOwn cs c m (.obj c2 fs) b := Eq.trans rfl rfl
@[simp] theorem pt132 {cs : List Nat} {c c2 : Nat} {m : List D → Fo} {fs : List (Str × D)} {b : D} : fNeA cs c m (.obj c2 fs) b = fNegB (fOwn cs c m (.obj c2 fs) b) := Eq.trans rfl rfl
@[simp] theorem pt133 {b : Bool} : fNegB (some (.bl b)) = some (.bl (!b)) := Eq.trans rfl rfl
@[simp] theorem pt134 {vs vs1 : List Nat} {ei ei1 : DEnv → Rs (List D)} {g g1 : D → DEnv → Option DEnv} {tt tt1 : DEnv → Rs Bool} {te : DEnv → Rs D} {de : DEnv} : vLc2 vs vs1 ei g tt ei1 g1 tt1 te de = (ei de).bind fun ds de1 => if plainAt de1 vs = true then lc2A de1 vs (lcGo2 vs vs1 g tt ei1 g1 tt1 te ds (wipeD de1 vs)) else .bad := Eq.trans rfl rfl
@[simp] theorem pt135 {vs : List Nat} {de e2 : DEnv} {xs : List D} : lc2A de vs (some (xs, e2)) = if xs.length ≤ 16777216 then .ok (.lst xs) (restD de vs e2) else .bad := Eq.trans rfl rfl
@[simp] theorem pt136 {n : Nat} {ev : DEnv → Rs D} {de : DEnv} {m : List D → Fo} {dcs : List D} {ec : DEnv → Rs (List CA)} : wCallT n m dcs ev ec de = (ev de).bind fun d de1 => (ec de1).bind fun cs de2 => callTA n m dcs d de2 (argD none cs de2) := by unfold wCallT callTA; congr 1 <;> (funext d de1; congr 1)
@[simp] theorem pt137 {n : Nat} {de : DEnv} {m : List D → Fo} {dcs ds : List D} {d : D} : callTA n m dcs d de (some ds) = if (d :: ds).length + dcs.length = n then callT de (m ((d :: ds) ++ dcs)) else .bad := Eq.trans rfl rfl
@[simp] theorem pt138 {d : D} {de : DEnv} {q : Option D} : callT de (.ret d q) = .ok d de := Eq.trans rfl rfl
@[simp] theorem pt139 {d : D} {de : DEnv} {q : Option D} : callT de (.retF d q) = .ok d de := Eq.trans rfl rfl
@[simp] theorem pt140 {c : Nat} {fs : List (Str × D)} {de : DEnv} {q : Option D} : callT de (.ex c fs q) = .ex c fs de := Eq.trans rfl rfl
@[simp] theorem pt141 {x y : D} : fIxN x y = orIx (fIx x y) x y := by unfold fIxN orIx; cases x <;> first | rfl | (cases fIx _ y <;> rfl)
@[simp] theorem pt142 {x y z : D} : orIx (some z) x y = some z := Eq.trans rfl rfl
@[simp] theorem pt143 {y : D} {kvs : List (D × D)} : orIx none (.dn kvs) y = (keyN y).bind fun k => valN kvs k := Eq.trans rfl rfl
@[simp] theorem pt144 {x y : D} : fInN x y = orIn (fun b => b) (fIn x y) x y := by unfold fInN orIn; cases h : entN y with | none => (dsimp only; cases fIn x y <;> simp [h]) | some e => (rw [fIn_none h]; simp [h])
@[simp] theorem pt145 {x y : D} : fNotInN x y = orIn not (fNotIn x y) x y := by unfold fNotInN orIn; cases h : entN y with | none => (dsimp only; cases fNotIn x y <;> simp [h]) | some e => (rw [fNotIn_none h]; simp [h])
@[simp] theorem pt146 {g : Bool → Bool} {x y z : D} : orIn g (some z) x y = some z := Eq.trans rfl rfl
@[simp] theorem pt147 {g : Bool → Bool} {x : D} {e : List (D × D)} : orIn g none x (.dn e) = (keyN x).map fun k => .bl (g (valN e k).isSome) := Eq.trans rfl rfl
@[simp] theorem pt148 {g : Bool → Bool} {x : D} : orIn g none x (.dk []) = (keyN x).map fun k => .bl (g false) := Eq.trans rfl rfl
@[simp] theorem pt149 {e : List (D × D)} : tyOf (.dn e) = some (.b "dict") := Eq.trans rfl rfl
@[simp] theorem pt150 {e : List (D × D)} : isNon (.dn e) = false := Eq.trans rfl rfl
@[simp] theorem pt151 {e : List (D × D)} : entN (.dn e) = some e := Eq.trans rfl rfl
@[simp] theorem pt152 : entN (.dk []) = some [] := Eq.trans rfl rfl
@[simp] theorem pt153 {ev : DEnv → Rs D} {de : DEnv} : vSeqN ev de = (ev de).bind fun x de1 => ofO (itemsN x) de1 := Eq.trans rfl rfl
@[simp] theorem pt154 {x : D} : itemsN x = orIt (itemsOf x) x := by unfold itemsN orIt; cases x <;> first | rfl | (cases itemsOf _ <;> rfl)
@[simp] theorem pt155 {x : D} {xs : List D} : orIt (some xs) x = some xs := Eq.trans rfl rfl
@[simp] theorem pt156 {e : List (D × D)} : orIt none (.dn e) = some (e.map (·.1)) := Eq.trans rfl rfl
@[simp] theorem pt157 {i : Nat} {e1 e2 : DEnv → Rs D} {de : DEnv} : vSetN i e1 e2 de = (e1 de).out fun v de1 => if (slotAt i de1).isSome = true then (e2 de1).out fun k de2 => putNA i v k de2 (slotOw i de2) else .bad := Eq.trans rfl rfl
@[simp] theorem pt158 {i : Nat} {v k : D} {s : Sl} {de : DEnv} {e : List (D × D)} : putNB i v k de s (some e) = putNC i v k de s e (keyN k) := Eq.trans rfl rfl
@[simp] theorem pt159 {i : Nat} {v k : D} {s : Sl} {de : DEnv} {e : List (D × D)} {kk : NestedKey} : putNC i v k de s e (some kk) = if e.length < 16777216 then .nx (de.set i (s.same (.dn (putN e kk k v)))) else .bad := Eq.trans rfl rfl
@[simp] theorem pt160 {c : Nat} {m : List D → Fo} {ev ev' : DEnv → Rs D} {de : DEnv} : vOwnIx c m ev ev' de = (ev de).bind fun x de1 => (ev' de1).bind fun y de2 => if isC c x = true then callC 2 none m [] [.v x, .v y] de2 else .bad := Eq.trans rfl rfl
@[simp] theorem pt161 {c c2 : Nat} {fs : List (Str × D)} : isC c (.obj c2 fs) = (c2 == c) := Eq.trans rfl rfl
@[simp] theorem pt162 {n : Nat} {m : List D → Fo} {dcs : List D} {ec : DEnv → Rs (List CA)} {de : DEnv} : wCallL n m dcs ec de = (ec de).bind fun cs de1 => callL n m dcs cs de1 := Eq.trans rfl rfl
@[simp] theorem pt163 {n : Nat} {m : List D → Fo} {dcs : List D} {cs : List CA} {de : DEnv} : callL n m dcs cs de = callLA n m dcs de (argB de cs) := by unfold callL; cases argB de cs <;> rfl
@[simp] theorem pt164 {n : Nat} {m : List D → Fo} {dcs ds : List D} {de : DEnv} : callLA n m dcs de (some ds) = if ds.length + dcs.length = n then flatL de (m (ds ++ dcs)) else .bad := Eq.trans rfl rfl
@[simp] theorem pt165 {ds : List D} {de : DEnv} : flatL de (.retF (.lst ds) none) = if flDs ds = true then .ok (.lst ds) de else .bad := Eq.trans rfl rfl
@[simp] theorem pt166 {vs : List Nat} {ei : DEnv → Rs (List D)} {g : D → DEnv → Option DEnv} {tt : DEnv → Rs Bool} {tk tv : DEnv → Rs D} {de : DEnv} : vDc vs ei g tt tk tv de = (ei de).bind fun ds de1 => if plainAt de1 vs = true ∧ ds.length ≤ 1000000 then dcA de1 vs (dcGo vs g tt tk tv ds [] (wipeD de1 vs)) else .bad := by unfold vDc <;> (congr 1 <;> (funext ds de1 <;> (congr 1 <;> (rcases dcGo vs g tt tk tv ds [] (wipeD de1 vs) with _ | ⟨a, b⟩ <;> rfl))))
@[simp] theorem pt167 {vs : List Nat} {de de2 : DEnv} {xs : List (D × D)} : dcA de vs (some (xs, de2)) = .ok (dnD xs) (restD de vs de2) := Eq.trans rfl rfl
@[simp] theorem pt168 {c : Nat} {m : List D → Fo} {fs : List (Str × D)} : fLenO c m [.obj c fs] = lenOk (m [.obj c fs]) := by show (if c = c then lenOk (m [.obj c fs]) else none) = _; rw [if_pos rfl]
@[simp] theorem pt169 {n : Int} : lenOk (.ret (.int n) none) = if 0 ≤ n ∧ n < 9223372036854775808 then some (.int n) else none := Eq.trans rfl rfl
end
theorem pt_tup {ds : List D} : toPy (.tup ds) = .tuple (toPys ds) := Eq.trans rfl rfl
@[simp] theorem shp_eq (d : PyData) : SeqAt.shaped d = (d.canLay0 && decide (d.depth ≤ 64)) := Eq.trans rfl rfl
section
variable {z w : Int} {b a : Bool} {u v : Str} {d e : PyData} {ds es : List PyData}
@[simp] theorem cl1 : PyData.none.canLay0 = true := Eq.trans rfl rfl
@[simp] theorem cl2 : (PyData.bool b).canLay0 = true := Eq.trans rfl rfl
@[simp] theorem cl3 : (PyData.int z).canLay0 = true := Eq.trans rfl rfl
@[simp] theorem cl4 : (PyData.list ds).canLay0 = PyData.canLayAll0 ds := by rw [PyData.canLay0]
@[simp] theorem cl5 : (PyData.tuple ds).canLay0 = PyData.canLayAll0 ds := by rw [PyData.canLay0]
@[simp] theorem cl6 : PyData.canLayAll0 [] = true := by rw [PyData.canLayAll0]
@[simp] theorem cl7 : PyData.canLayAll0 (d :: ds) = (d.canLay0 && PyData.canLayAll0 ds) := by rw [PyData.canLayAll0]
@[simp] theorem dp1 : PyData.none.depth = 0 := Eq.trans rfl rfl
@[simp] theorem dp2 : (PyData.bool b).depth = 0 := Eq.trans rfl rfl
@[simp] theorem dp3 : (PyData.int z).depth = 0 := Eq.trans rfl rfl
@[simp] theorem dp4 : (PyData.str u).depth = 0 := Eq.trans rfl rfl
@[simp] theorem dp5 : (PyData.list ds).depth = PyData.depthAll ds + 1 := by rw [PyData.depth]
@[simp] theorem dp6 : (PyData.tuple ds).depth = PyData.depthAll ds + 1 := by rw [PyData.depth]
@[simp] theorem dp7 : PyData.depthAll [] = 0 := by rw [PyData.depthAll]
@[simp] theorem dp8 : PyData.depthAll (d :: ds) = max d.depth (PyData.depthAll ds) := by rw [PyData.depthAll]
@[simp] theorem ev1 : PyData.eqv .none .none = true := by rw [PyData.eqv]
@[simp] theorem ev2 : PyData.eqv (.int z) (.int w) = decide (z = w) := by rw [PyData.eqv]; by_cases h : z = w <;> simp [h]
@[simp] theorem ev3 : PyData.eqv (.bool a) (.bool b) = (a == b) := by rw [PyData.eqv]
@[simp] theorem ev4 : PyData.eqv (.str u) (.str v) = decide (u = v) := by rw [PyData.eqv]; by_cases h : u = v <;> simp [h]
@[simp] theorem ev5 : PyData.eqv (.tuple ds) (.tuple es) = PyData.eqvAll ds es := by rw [PyData.eqv]
@[simp] theorem ev6 : PyData.eqv (.list ds) (.list es) = PyData.eqvAll ds es := by rw [PyData.eqv]
@[simp] theorem ev7 : PyData.eqvAll [] [] = true := by rw [PyData.eqvAll]
@[simp] theorem ev8 : PyData.eqvAll (d :: ds) (e :: es) = (PyData.eqv d e && PyData.eqvAll ds es) := by rw [PyData.eqvAll]
@[simp] theorem ev9 : PyData.eqvAll [] (e :: es) = false := by rw [PyData.eqvAll]
@[simp] theorem ev10 : PyData.eqvAll (d :: ds) [] = false := by rw [PyData.eqvAll]
@[simp] theorem ev11 : PyData.eqv .none (.int z) = false := by rw [PyData.eqv]
@[simp] theorem ev12 : PyData.eqv (.int z) .none = false := by rw [PyData.eqv]
end
theorem fEq_sh (x y : D) (h1 : SeqAt.shaped (toPy x) = true) (h2 : SeqAt.shaped (toPy y) = true) : fEq x y = some (.bl (PyData.eqv (toPy x) (toPy y))) := by unfold fEq; rw [h1, h2]; rfl
theorem fNe_sh (x y : D) (h1 : SeqAt.shaped (toPy x) = true) (h2 : SeqAt.shaped (toPy y) = true) : fNe x y = some (.bl (!PyData.eqv (toPy x) (toPy y))) := by unfold fNe; rw [h1, h2]; rfl
@[simp] theorem fEq_lit {a b : String} (h1 : PyData.canLay0 (.str (Str.ofString a)) = true) (h2 : PyData.canLay0 (.str (Str.ofString b)) = true) : fEq (.str (Str.ofString a)) (.str (Str.ofString b)) = some (.bl (decide (a = b))) := by
  rw [fEq_sh _ _ (by simp [h1]) (by simp [h2])]
  simp
@[simp] theorem fNe_lit {a b : String} (h1 : PyData.canLay0 (.str (Str.ofString a)) = true) (h2 : PyData.canLay0 (.str (Str.ofString b)) = true) : fNe (.str (Str.ofString a)) (.str (Str.ofString b)) = some (.bl (!decide (a = b))) := by
  rw [fNe_sh _ _ (by simp [h1]) (by simp [h2])]
  simp
@[simp] theorem fEq_tup {xs ys : List D} (h1 : SeqAt.shaped (.tuple (toPys xs)) = true) (h2 : SeqAt.shaped (.tuple (toPys ys)) = true) : fEq (.tup xs) (.tup ys) = some (.bl (PyData.eqvAll (toPys xs) (toPys ys))) := by
  rw [fEq_sh _ _ (by rw [pt_tup]; exact h1) (by rw [pt_tup]; exact h2)]
  simp
@[simp] theorem fNe_tup {xs ys : List D} (h1 : SeqAt.shaped (.tuple (toPys xs)) = true) (h2 : SeqAt.shaped (.tuple (toPys ys)) = true) : fNe (.tup xs) (.tup ys) = some (.bl (!PyData.eqvAll (toPys xs) (toPys ys))) := by
  rw [fNe_sh _ _ (by rw [pt_tup]; exact h1) (by rw [pt_tup]; exact h2)]
  simp
theorem rng2_ok {i j : Int} {de : DEnv} (h1 : -1000000 ≤ i) (h2 : i ≤ 1000000) (h3 : -1000000 ≤ j) (h4 : j ≤ 1000000) : rng2A (.int i) (.int j) de = .ok (rangeD i (j - i).toNat) de := by
  show (if _ then _ else _) = _
  rw [if_pos (by omega)]
theorem rng1_ok {j : Int} {de : DEnv} (h3 : -1000000 ≤ j) (h4 : j ≤ 1000000) : rngA (.int j) de = .ok (rangeD 0 j.toNat) de := by
  show (if _ then _ else _) = _
  rw [if_pos (by omega)]
theorem rngE {j : Int} {n : Nat} (h : j = n) (hn : n ≤ 100000000) (de : DEnv) : rngA (.int j) de = .ok (rangeD 0 n) de := by rw [h]; exact rngA_n n hn de
/-- a comprehension that takes what a function says -/
theorem lcGo_fm {vs : List Nat} {g : D → DEnv → Option DEnv} {tt : DEnv → Rs Bool} {te : DEnv → Rs D} {de : DEnv} {α : Type} (em : α → D) (f : α → Option D) : ∀ (l : List α),
    (∀ a ∈ l, ∃ de1 de2, g (em a) de = some de1 ∧ wipeD de2 vs = de ∧ match f a with
      | some y => ∃ de3, tt de1 = .ok true de3 ∧ te de3 = .ok y de2
      | none => tt de1 = .ok false de2) → lcGo vs g tt te (l.map em) de = some (l.filterMap f, de)
  | [], _ => rfl
  | a :: l, h => by
    obtain ⟨de1, de2, h1, h2, h3⟩ := h a List.mem_cons_self
    have ih := lcGo_fm (vs := vs) (g := g) (tt := tt) (te := te) (de := de) em f l fun x hx => h x (List.mem_cons_of_mem _ hx)
    rw [List.map_cons, lcGo, h1]
    cases e : f a with
    | some y =>
      rw [e] at h3
      obtain ⟨de3, h4, h5⟩ := h3
      simp [h4, h5, h2, ih, e]
    | none =>
      rw [e] at h3
      have h3 : tt de1 = .ok false de2 := h3
      simp [h3, h2, ih, e]
theorem lcGo_map {vs : List Nat} {g : D → DEnv → Option DEnv} {te : DEnv → Rs D} {de : DEnv} {α : Type} (em : α → D) (f : α → D) (l : List α)
    (h : ∀ a ∈ l, ∃ de1 de2, g (em a) de = some de1 ∧ te de1 = .ok (f a) de2 ∧ wipeD de2 vs = de) : lcGo vs g vYes te (l.map em) de = some (l.map f, de) := by
  have := lcGo_fm (vs := vs) (g := g) (tt := vYes) (te := te) (de := de) em (fun a => some (f a)) l fun a ha => by
    obtain ⟨de1, de2, h1, h2, h3⟩ := h a ha
    exact ⟨de1, de2, h1, h3, de1, rfl, h2⟩
  rw [this, List.filterMap_eq_map']
theorem vLoop_idx {g : D → DEnv → Option DEnv} {tb : DEnv → Ot} {I : Nat → DEnv → Prop} : ∀ (l : List D) (n : Nat) (de : DEnv), I n de → (∀ k d, l[k]? = some d → ∀ de, I (n + k) de → ∃ de1 de2, g d de = some de1 ∧ (tb de1 = .nx de2 ∨ tb de1 = .ct de2) ∧ I (n + k + 1) de2) → ∃ de', vLoop g tb l de = .nx de' ∧ I (n + l.length) de'
  | [], n, de, hi, _ => ⟨de, rfl, hi⟩
  | d :: r, n, de, hi, h => by
    obtain ⟨de1, de2, h1, h2, h3⟩ := h 0 d rfl de hi
    obtain ⟨de3, k1, k2⟩ := vLoop_idx r (n + 1) de2 h3 fun k d hd de hk => by
      have e : n + 1 + k = n + (k + 1) := by omega
      rw [e] at hk ⊢
      exact h (k + 1) d (by simpa using hd) de hk
    have e : n + 1 + r.length = n + (d :: r).length := by simp; omega
    rw [e] at k2
    rcases h2 with h2 | h2
    · exact ⟨de3, by rw [vLoop_nx h1 h2, k1], k2⟩
    · exact ⟨de3, by rw [vLoop_ct h1 h2, k1], k2⟩
theorem rangeD_get (lo : Int) (n k : Nat) (d : D) (h : (rangeD lo n)[k]? = some d) : k < n ∧ d = .int (lo + k) := by
  unfold rangeD at h
  rw [List.getElem?_map] at h
  by_cases il : k < n
  · rw [List.getElem?_range il] at h
    cases h
    exact ⟨il, rfl⟩
  · rw [List.getElem?_eq_none (by simpa using Nat.le_of_not_lt il)] at h
    cases h
theorem rangeD_length (lo : Int) (n : Nat) : (rangeD lo n).length = n := by simp [rangeD]
/-- a loop over range(n), with an invariant that knows its turn -/
theorem vLoop_range {g : D → DEnv → Option DEnv} {tb : DEnv → Ot} (I : Nat → DEnv → Prop) (n : Nat) (de : DEnv) (h0 : I 0 de) (h : ∀ k, k < n → ∀ de, I k de → ∃ de1 de2, g (.int (k : Int)) de = some de1 ∧ (tb de1 = .nx de2 ∨ tb de1 = .ct de2) ∧ I (k + 1) de2) : ∃ de', vLoop g tb (rangeD 0 n) de = .nx de' ∧ I n de' := by
  obtain ⟨de', e, i⟩ := vLoop_idx (g := g) (tb := tb) (I := I) (rangeD 0 n) 0 de h0 fun k d hd de hk => by
    obtain ⟨kl, rfl⟩ := rangeD_get 0 n k d hd
    rw [Nat.zero_add] at hk ⊢
    rw [Int.zero_add]
    exact h k kl de hk
  rw [Nat.zero_add, rangeD_length] at i
  exact ⟨de', e, i⟩
/-- range(1, 1 + n) -/
theorem vLoop_range1 {g : D → DEnv → Option DEnv} {tb : DEnv → Ot} (I : Nat → DEnv → Prop) (n : Nat) (de : DEnv) (h0 : I 0 de) (h : ∀ k, k < n → ∀ de, I k de → ∃ de1 de2, g (.int ((k + 1 : Nat) : Int)) de = some de1 ∧ (tb de1 = .nx de2 ∨ tb de1 = .ct de2) ∧ I (k + 1) de2) : ∃ de', vLoop g tb (rangeD 1 n) de = .nx de' ∧ I n de' := by
  obtain ⟨de', e, i⟩ := vLoop_idx (g := g) (tb := tb) (I := I) (rangeD 1 n) 0 de h0 fun k d hd de hk => by
    obtain ⟨kl, rfl⟩ := rangeD_get 1 n k d hd
    rw [Nat.zero_add] at hk ⊢
    have e : (1 : Int) + k = ((k + 1 : Nat) : Int) := by omega
    rw [e]
    exact h k kl de hk
  rw [Nat.zero_add, rangeD_length] at i
  exact ⟨de', e, i⟩
/-- a datum that == may look at, of depth n at most -/
def Shp (n : Nat) (d : D) : Prop := (toPy d).canLay0 = true ∧ (toPy d).depth ≤ n
theorem shp_int (i : Int) : Shp 0 (.int i) := ⟨rfl, Nat.le_refl _⟩
theorem shp_bl (i : Bool) : Shp 0 (.bl i) := ⟨rfl, Nat.le_refl _⟩
theorem shp_non : Shp 0 .non := ⟨rfl, Nat.le_refl _⟩
theorem shp_str (s : PySem.Str) (h : PySem.PyData.canLay0 (.str s) = true) : Shp 0 (.str s) := ⟨h, Nat.le_refl _⟩
theorem Shp.up {n m : Nat} {d : D} (h : Shp n d) (l : n ≤ m) : Shp m d := ⟨h.1, Nat.le_trans h.2 l⟩
theorem shps {n : Nat} : ∀ (ds : List D), (∀ d ∈ ds, Shp n d) → PySem.PyData.canLayAll0 (toPys ds) = true ∧ PySem.PyData.depthAll (toPys ds) ≤ n
  | [], _ => ⟨rfl, Nat.zero_le _⟩
  | d :: r, h => by
    obtain ⟨h1, h2⟩ := shps r fun d hd => h d (List.mem_cons_of_mem _ hd)
    obtain ⟨h3, h4⟩ := h d List.mem_cons_self
    exact ⟨by simp [toPys, PySem.PyData.canLayAll0, h1, h3], by simp only [toPys, PySem.PyData.depthAll]; omega⟩
theorem shp_tup {n : Nat} {ds : List D} (h : ∀ d ∈ ds, Shp n d) : Shp (n + 1) (.tup ds) := by
  obtain ⟨h1, h2⟩ := shps ds h
  exact ⟨by simpa [toPy, PySem.PyData.canLay0] using h1, by simp only [toPy, PySem.PyData.depth]; omega⟩
theorem shp_lst {n : Nat} {ds : List D} (h : ∀ d ∈ ds, Shp n d) : Shp (n + 1) (.lst ds) := by
  obtain ⟨h1, h2⟩ := shps ds h
  exact ⟨by simpa [toPy, PySem.PyData.canLay0] using h1, by simp only [toPy, PySem.PyData.depth]; omega⟩
theorem Shp.ok {n : Nat} {d : D} (h : Shp n d) (l : n ≤ 64) : PySem.SeqAt.shaped (toPy d) = true := by
  unfold PySem.SeqAt.shaped
  rw [h.1, decide_eq_true (Nat.le_trans h.2 l)]
  rfl
theorem shp_ints (xs : List Int) : ∀ d ∈ xs.map D.int, Shp 0 d := fun d hd => by
  obtain ⟨x, _, rfl⟩ := List.mem_map.mp hd
  exact shp_int x
theorem cut_to (xs : List D) (p : Nat) : cutD xs none (some (p : Int)) = xs.take p := by
  unfold cutD
  rw [HT.sIx_nat, HT.sIx_none, List.drop_zero, Nat.sub_zero]
  by_cases h : p ≤ xs.length
  · rw [Nat.min_eq_left h]
  · rw [Nat.min_eq_right (by omega), List.take_of_length_le (by omega), List.take_of_length_le (by omega)]
theorem cut_from (xs : List D) (p : Nat) : cutD xs (some (p : Int)) none = xs.drop p := by
  unfold cutD
  rw [HT.sIx_nat, HT.sIx_none]
  by_cases h : p ≤ xs.length
  · rw [Nat.min_eq_left h, List.take_of_length_le (by simp)]
  · rw [Nat.min_eq_right (by omega), List.drop_of_length_le (by omega), List.drop_of_length_le (i := p) (by omega), List.take_nil]
theorem cut_from1 (xs : List D) (p : Nat) : cutD xs (some ((p : Int) + 1)) none = xs.drop (p + 1) := cut_from xs (p + 1)

/-- a loop that does to its state what a function says -/
theorem vLoop_fold {g : D → DEnv → Option DEnv} {tb : DEnv → Ot} {α β : Type} (em : α → D) (E : β → DEnv) (f : β → α → β) : ∀ (l : List α) (b : β), (∀ a ∈ l, ∀ b, ∃ de1, g (em a) (E b) = some de1 ∧ (tb de1 = .nx (E (f b a)) ∨ tb de1 = .ct (E (f b a)))) → vLoop g tb (l.map em) (E b) = .nx (E (l.foldl f b))
  | [], b, _ => rfl
  | a :: l, b, h => by
    obtain ⟨de1, h1, h2⟩ := h a List.mem_cons_self b
    have ih := vLoop_fold (g := g) (tb := tb) em E f l (f b a) fun x hx => h x (List.mem_cons_of_mem _ hx)
    rw [List.map_cons, List.foldl_cons, ← ih]
    rcases h2 with h2 | h2
    · exact vLoop_nx h1 h2
    · exact vLoop_ct h1 h2
/-- a loop that stands as it is or ends -/
theorem vLoop_stop {g : D → DEnv → Option DEnv} {tb : DEnv → Ot} {α : Type} (em : α → D) (de : DEnv) (p : α → Bool) (z : Ot) (hz : ∀ d, z ≠ .nx d ∧ z ≠ .ct d ∧ z ≠ .brk d) : ∀ (l : List α), (∀ a ∈ l, ∃ de1, g (em a) de = some de1 ∧ if p a = true then tb de1 = .nx de ∨ tb de1 = .ct de else tb de1 = z) → vLoop g tb (l.map em) de = if l.all p = true then .nx de else z
  | [], _ => rfl
  | a :: l, h => by
    obtain ⟨de1, h1, h2⟩ := h a List.mem_cons_self
    have ih := vLoop_stop (g := g) (tb := tb) em de p z hz l fun x hx => h x (List.mem_cons_of_mem _ hx)
    rw [List.map_cons, List.all_cons]
    cases e : p a with
    | true =>
      rw [e, if_pos rfl] at h2
      rw [Bool.true_and, ← ih]
      rcases h2 with h2 | h2
      · exact vLoop_nx h1 h2
      · exact vLoop_ct h1 h2
    | false =>
      rw [e, if_neg (by simp)] at h2
      rw [Bool.false_and, if_neg (by simp), ps180, h1, ps181, h2]
      cases z with
      | nx d => exact absurd rfl (hz d).1
      | ct d => exact absurd rfl (hz d).2.1
      | brk d => exact absurd rfl (hz d).2.2
      | ret d de => rfl
      | retF d de => rfl
      | ex c fs de => rfl
      | bad => rfl

/-- a loop that only appends -/
theorem vLoop_app {g : D → DEnv → Option DEnv} {tb : DEnv → Ot} {α β : Type} (em : α → D) (E : List β → DEnv) (G : α → List β) (N c : Nat) (hG : ∀ a, (G a).length ≤ c) : ∀ (l : List α) (acc : List β), acc.length + l.length * c ≤ N →
    (∀ a ∈ l, ∀ acc, acc.length + c ≤ N → ∃ de1, g (em a) (E acc) = some de1 ∧ (tb de1 = .nx (E (acc ++ G a)) ∨ tb de1 = .ct (E (acc ++ G a)))) → vLoop g tb (l.map em) (E acc) = .nx (E (acc ++ l.flatMap G))
  | [], acc, _, _ => by simp
  | a :: l, acc, hN, h => by
    rw [List.length_cons, Nat.add_mul] at hN
    obtain ⟨de1, h1, h2⟩ := h a List.mem_cons_self acc (by omega)
    have hc := hG a
    have ih := vLoop_app (g := g) (tb := tb) em E G N c hG l (acc ++ G a) (by rw [List.length_append]; omega) fun x hx => h x (List.mem_cons_of_mem _ hx)
    rw [List.map_cons, List.flatMap_cons, ← List.append_assoc, ← ih]
    rcases h2 with h2 | h2
    · exact vLoop_nx h1 h2
    · exact vLoop_ct h1 h2
/-- a loop with an invariant over what is left, that does what a function says -/
theorem vLoop_foldI {g : D → DEnv → Option DEnv} {tb : DEnv → Ot} {α β : Type} (em : α → D) (E : β → DEnv) (f : β → α → β) (I : List α → β → Prop) : ∀ (l : List α) (b : β), I l b →
    (∀ a l b, I (a :: l) b → I l (f b a) ∧ ∃ de1, g (em a) (E b) = some de1 ∧ (tb de1 = .nx (E (f b a)) ∨ tb de1 = .ct (E (f b a)))) → vLoop g tb (l.map em) (E b) = .nx (E (l.foldl f b)) ∧ I [] (l.foldl f b)
  | [], b, hi, _ => ⟨rfl, hi⟩
  | a :: l, b, hi, h => by
    obtain ⟨h0, de1, h1, h2⟩ := h a l b hi
    obtain ⟨ih, i2⟩ := vLoop_foldI (g := g) (tb := tb) em E f I l (f b a) h0 h
    rw [List.map_cons, List.foldl_cons, ← ih]
    refine ⟨?_, i2⟩
    rcases h2 with h2 | h2
    · exact vLoop_nx h1 h2
    · exact vLoop_ct h1 h2
/-- a loop that runs to its end or gives its answer -/
theorem vLoop_all {g : D → DEnv → Option DEnv} {tb : DEnv → Ot} {α : Type} (em : α → D) (de : DEnv) (p : α → Bool) (z : Ot) (hz : ∀ d, z ≠ .nx d ∧ z ≠ .ct d ∧ z ≠ .brk d) : ∀ (l : List α), (∀ a ∈ l, ∃ de1, g (em a) de = some de1 ∧ (p a = true → tb de1 = .nx de ∨ tb de1 = .ct de) ∧ (p a = false → tb de1 = z)) → vLoop g tb (l.map em) de = if l.all p = true then .nx de else z
  | [], _ => rfl
  | a :: l, h => by
    obtain ⟨de1, h1, h2, h3⟩ := h a List.mem_cons_self
    have ih := vLoop_all (g := g) (tb := tb) em de p z hz l fun x hx => h x (List.mem_cons_of_mem _ hx)
    rw [List.map_cons, List.all_cons]
    cases e : p a with
    | true =>
      rw [Bool.true_and, ← ih]
      rcases h2 e with h2 | h2
      · exact vLoop_nx h1 h2
      · exact vLoop_ct h1 h2
    | false =>
      rw [Bool.false_and, if_neg (by simp), ps180, h1, ps181, h3 e]
      cases z with
      | nx d => exact absurd rfl (hz d).1
      | ct d => exact absurd rfl (hz d).2.1
      | brk d => exact absurd rfl (hz d).2.2
      | ret d de => rfl
      | retF d de => rfl
      | ex c fs de => rfl
      | bad => rfl
theorem ret_not (d : D) (de : DEnv) : ∀ e, (Ot.ret d de) ≠ .nx e ∧ (Ot.ret d de) ≠ .ct e ∧ (Ot.ret d de) ≠ .brk e := fun e => ⟨nofun, nofun, nofun⟩
theorem ex_not (c : Nat) (fs : List (Str × D)) (de : DEnv) : ∀ e, (Ot.ex c fs de) ≠ .nx e ∧ (Ot.ex c fs de) ≠ .ct e ∧ (Ot.ex c fs de) ≠ .brk e := fun e => ⟨nofun, nofun, nofun⟩
end DL

set_option maxRecDepth 100000
set_option maxHeartbeats 8000000
set_option autoImplicit false
namespace Lw
open PySem L2 DL
abbrev pgm : Program := PySem.Challenge.pw_labelgaps_k03_share_quotients
def top (i : Nat) : Stmt := pgm.main.body.getD i (.Pass ⟨0, 0, 0, 0⟩)
abbrev s__law_start : Stmt := (top 12)
abbrev s__law_draw : Stmt := (top 13)
abbrev s__law_number : Stmt := (top 14)
abbrev s_is_integer : Stmt := (top 6)
abbrev s_Share_init : Stmt := (inClass (top 10) 0)
abbrev s__law_int : Stmt := (top 15)
abbrev s__law_floor : Stmt := (top 19)
abbrev s__law_gcd : Stmt := (top 16)
abbrev s__law_is : Stmt := (top 17)
abbrev s_parts_of : Stmt := (top 8)
abbrev s_floor_of : Stmt := (top 9)
abbrev s_is_number : Stmt := (top 7)
abbrev s_Share___floordiv__ : Stmt := (inClass (top 10) 7)
abbrev s_Share___rfloordiv__ : Stmt := (inClass (top 10) 8)
abbrev s_Share_over : Stmt := (inClass (top 10) 11)
abbrev s__law_refused : Stmt := (top 18)
abbrev s_Share_floor : Stmt := (inClass (top 10) 12)
abbrev s_law : Stmt := (top 20)
abbrev s_BadShare_init : Stmt := (inClass (top 3) 0)
abbrev s_NoShare_init : Stmt := (inClass (top 4) 0)
def e__law_start : DEnv → Ot :=
 vSeq (vSet 2 (vC (.int 0)))
  (vSeq (vIf (vB (vO2 fLt (.s 1) (.e (vON fLen [(.s 0)])))) (vSet 2 (vON fAbs [(.e (vO2 fIx (.s 0) (.s 1)))])) (vSkip))
  (vRetF (vLst (vCons (vVar 2) (vCons (vO2 fMul (.e (vC (.int 1000))) (.s 1)) (vNil))))))
def m__law_start (ds : List D) : Fo := run none 1 e__law_start ds
def e__law_draw : DEnv → Ot :=
 vSeq (vSet 2 (vO2 fIx (.s 0) (.e (vC (.int 0)))))
  (vSeq (vSetIx 0 (vO2 fAdd (.e (vO2 fIx (.s 0) (.e (vC (.int 1))))) (.e (vC (.int 1)))) (vC (.int 1)))
  (vSeq (vIf (vB (vO2 fGe (.s 2) (.e (vO2 fPow (.e (vC (.int 10))) (.e (vC (.int 18))))))) (vSeq (vSetIx 0 (vO2 fFdiv (.s 2) (.s 1)) (vC (.int 0)))
   (vRet (vO2 fMod (.e (vON fInt [(.s 2)])) (.s 1)))) (vSkip))
  (vSeq (vSet 3 (vO2 fMod (.e (vON fInt [(.e (vO2 fMul (.e (vO2 fAdd (.e (vO2 fAdd (.s 2) (.e (vO2 fMul (.e (vC (.int 104729))) (.e (vO2 fIx (.s 0) (.e (vC (.int 1))))))))) (.e (vC (.int 1))))) (.e (vC (.int 48271)))))])) (.e (vC (.int 2147483647)))))
  (vSeq (vSet 3 (vO2 fMod (.e (vON fInt [(.e (vO2 fMul (.s 3) (.e (vO2 fAdd (.e (vO2 fFdiv (.s 3) (.e (vC (.int 1009))))) (.e (vC (.int 69621)))))))])) (.e (vC (.int 2147483647)))))
  (vSeq (vSet 3 (vO2 fMod (.e (vON fInt [(.e (vO2 fMul (.s 3) (.e (vO2 fAdd (.e (vO2 fFdiv (.s 3) (.e (vC (.int 2003))))) (.e (vC (.int 40692)))))))])) (.e (vC (.int 2147483399)))))
  (vRet (vO2 fMod (.e (vON fInt [(.e (vO2 fFdiv (.s 3) (.e (vC (.int 64)))))])) (.s 1))))))))
def m__law_draw (ds : List D) : Fo := run (some 0) 2 e__law_draw ds
def e__law_number : DEnv → Ot :=
 vSeq (vIf (vB (vO2 fGe (.e (vO2 fIx (.s 0) (.e (vC (.int 0))))) (.e (vO2 fPow (.e (vC (.int 10))) (.e (vC (.int 18))))))) (vRet (vO2 fSub (.e (wCall 2 (some 0) m__law_draw [] (cSlot 0 (cVal (vO2 fAdd (.e (vO2 fMul (.e (vC (.int 2))) (.s 1))) (.e (vC (.int 1)))) (cNil))))) (.s 1))) (vSkip))
  (vSeq (vSet 2 (wCall 2 (some 0) m__law_draw [] (cSlot 0 (cVal (vC (.int 4)) (cNil)))))
  (vSeq (vSet 3 (vO2 fSub (.e (wCall 2 (some 0) m__law_draw [] (cSlot 0 (cVal (vC (.int 25)) (cNil))))) (.e (vC (.int 12)))))
  (vSeq (vSet 4 (wCall 2 (some 0) m__law_draw [] (cSlot 0 (cVal (vO2 fPow (.e (vC (.int 10))) (.e (vC (.int 7)))) (cNil)))))
  (vSeq (vIf (vB (vO2 fEq (.s 2) (.e (vC (.int 0))))) (vRet (vVar 3)) (vSkip))
  (vSeq (vIf (vB (vO2 fEq (.s 2) (.e (vC (.int 1))))) (vRet (vO2 fSub (.e (vO2 fMod (.e (vON fInt [(.s 4)])) (.e (vC (.int 1000))))) (.e (vC (.int 500))))) (vSkip))
  (vSeq (vIf (vB (vO2 fEq (.s 2) (.e (vC (.int 2))))) (vRet (vO2 fMul (.s 3) (.e (vO2 fAdd (.s 4) (.e (vC (.int 1))))))) (vSkip))
  (vRet (vO2 fAdd (.e (vO2 fMul (.s 3) (.e (vO2 fPow (.e (vO2 fAdd (.s 4) (.e (vC (.int 1))))) (.e (vC (.int 5))))))) (.s 4)))))))))
def m__law_number (ds : List D) : Fo := run (some 0) 3 e__law_number ds
def e_is_integer : DEnv → Ot :=
 vRet (vAndV (vON (fIsi [24]) [(.s 0), (.e (vC (.cls (.b "int"))))]) (vNotV (vON (fIsi [24]) [(.s 0), (.e (vC (.cls (.b "bool"))))])))
def m_is_integer (ds : List D) : Fo := run none 0 e_is_integer ds
def e_Share_init : DEnv → Ot :=
 vSeq (vIf (vNot (vTru (.e (wCall 1 none m_is_integer [] (cVal (vVar 1) (cNil)))))) (vRaise2 1 ("part" : Str) isStr (vC (.str ("top" : Str)))) (vSkip))
  (vSeq (vIf (vOr (vNot (vTru (.e (wCall 1 none m_is_integer [] (cVal (vVar 2) (cNil)))))) (vB (vO2 fEq (.s 2) (.e (vC (.int 0)))))) (vRaise2 1 ("part" : Str) isStr (vC (.str ("bottom" : Str)))) (vSkip))
  (vSeq (vSet 3 (vON fGcd [(.s 1), (.s 2)]))
  (vSeq (vIf (vB (vO2 fLt (.s 2) (.e (vC (.int 0))))) (vSet 3 (vO1 fNeg (.s 3))) (vSkip))
  (vSeq (vSetFld 0 [24] ("top" : Str) (vO2 fFdivG (.s 1) (.s 3)))
  (vSetFld 0 [24] ("bottom" : Str) (vO2 fFdivG (.s 2) (.s 3)))))))
def m_Share_init (ds : List D) : Fo := run (some 0) 1 e_Share_init ds
def e__law_int : DEnv → Ot :=
 vRet (vAndV (vON (fIsi [24]) [(.s 0), (.e (vC (.cls (.b "int"))))]) (vNotV (vON (fIsi [24]) [(.s 0), (.e (vC (.cls (.b "bool"))))])))
def m__law_int (ds : List D) : Fo := run none 0 e__law_int ds
def e__law_floor : DEnv → Ot :=
 vSeq (vIf (vNot (vTru (.e (wCall 1 none m__law_int [] (cVal (vVar 0) (cNil)))))) (vRet (vC (.bl false))) (vSkip))
  (vSeq (vIf (vB (vO2 fLt (.s 2) (.e (vC (.int 0))))) (vSeq (vSet 1 (vO1 fNeg (.s 1)))
   (vSet 2 (vO1 fNeg (.s 2)))) (vSkip))
  (vRet (vAndV (vO2 fLe (.e (vO2 fMul (.s 0) (.s 2))) (.s 1)) (vO2 fLt (.s 1) (.e (vO2 fMul (.e (vO2 fAdd (.s 0) (.e (vC (.int 1))))) (.s 2)))))))
def m__law_floor (ds : List D) : Fo := run none 0 e__law_floor ds
def lb__law_gcd_1 : DEnv → Ot :=
 vPost [2, 3] (vSeq (vIf (vB (vO2 fEq (.s 1) (.e (vC (.int 0))))) (vBrk) (vSkip))
   (vSeq (vSet 3 (vO2 fMod (.e (vON fInt [(.s 0)])) (.s 1)))
   (vSeq (vSet 0 (vVar 1))
   (vSet 1 (vVar 3)))))
def e__law_gcd : DEnv → Ot :=
 vSeq (vSet 0 (vON fAbs [(.s 0)]))
  (vSeq (vSet 1 (vON fAbs [(.s 1)]))
  (vSeq (vFor (vRng1 (vC (.int 1000))) (tName 2) lb__law_gcd_1)
  (vRet (vVar 0))))
def m__law_gcd (ds : List D) : Fo := run none 2 e__law_gcd ds
def e__law_is : DEnv → Ot :=
 vSeq (vIf (vOr (vNot (vTru (.e (vON (fIsi [24]) [(.s 0), (.e (vC (.cls (.o 24))))])))) (vOr (vNot (vTru (.e (wCall 1 none m__law_int [] (cVal (vFld [24] ("top" : Str) (.s 0)) (cNil)))))) (vNot (vTru (.e (wCall 1 none m__law_int [] (cVal (vFld [24] ("bottom" : Str) (.s 0)) (cNil)))))))) (vRet (vC (.bl false))) (vSkip))
  (vSeq (vIf (vOr (vB (vO2 fLt (.e (vFld [24] ("bottom" : Str) (.s 0))) (.e (vC (.int 1))))) (vB (vO2 fNe (.e (wCall 2 none m__law_gcd [] (cVal (vFld [24] ("top" : Str) (.s 0)) (cVal (vFld [24] ("bottom" : Str) (.s 0)) (cNil))))) (.e (vC (.int 1)))))) (vRet (vC (.bl false))) (vSkip))
  (vRet (vO2 fEq (.e (vO2 fMul (.e (vFld [24] ("top" : Str) (.s 0))) (.s 2))) (.e (vO2 fMul (.s 1) (.e (vFld [24] ("bottom" : Str) (.s 0))))))))
def m__law_is (ds : List D) : Fo := run none 0 e__law_is ds
def e_parts_of : DEnv → Ot :=
 vSeq (vIf (vTru (.e (vON (fIsi [24]) [(.s 0), (.e (vC (.cls (.o 24))))]))) (vRet (vTup (vCons (vFld [24] ("top" : Str) (.s 0)) (vCons (vFld [24] ("bottom" : Str) (.s 0)) (vNil))))) (vSkip))
  (vRet (vTup (vCons (vVar 0) (vCons (vC (.int 1)) (vNil)))))
def m_parts_of (ds : List D) : Fo := run none 0 e_parts_of ds
def e_floor_of : DEnv → Ot :=
 vSeq (vAsg (wCall 1 none m_parts_of [] (cVal (vVar 0) (cNil))) (tgTup 2 (tgCons (tName 2) (tgCons (tName 3) (tgNil)))))
  (vSeq (vAsg (wCall 1 none m_parts_of [] (cVal (vVar 1) (cNil))) (tgTup 2 (tgCons (tName 4) (tgCons (tName 5) (tgNil)))))
  (vSeq (vIf (vB (vO2 fEq (.s 4) (.e (vC (.int 0))))) (vRaise1 2) (vSkip))
  (vRet (vO2 fFdivG (.e (vO2 fMul (.s 2) (.s 5))) (.e (vO2 fMul (.s 3) (.s 4)))))))
def m_floor_of (ds : List D) : Fo := run none 4 e_floor_of ds
def e_is_number : DEnv → Ot :=
 vRet (vOrV (wCall 1 none m_is_integer [] (cVal (vVar 0) (cNil))) (vON (fIsi [24]) [(.s 0), (.e (vC (.cls (.o 24))))]))
def m_is_number (ds : List D) : Fo := run none 0 e_is_number ds
def e_Share___floordiv__ : DEnv → Ot :=
 vSeq (vIf (vNot (vTru (.e (wCall 1 none m_is_number [] (cVal (vVar 1) (cNil)))))) (vBadS) (vSkip))
  (vRet (wCall 2 none m_floor_of [] (cVal (vVar 0) (cVal (vVar 1) (cNil)))))
def m_Share___floordiv__ (ds : List D) : Fo := run none 0 e_Share___floordiv__ ds
def e_Share___rfloordiv__ : DEnv → Ot :=
 vSeq (vIf (vNot (vTru (.e (wCall 1 none m_is_number [] (cVal (vVar 1) (cNil)))))) (vBadS) (vSkip))
  (vRet (wCall 2 none m_floor_of [] (cVal (vVar 1) (cVal (vVar 0) (cNil)))))
def m_Share___rfloordiv__ (ds : List D) : Fo := run none 0 e_Share___rfloordiv__ ds
def e_Share_over : DEnv → Ot :=
 vSeq (vIf (vNot (vTru (.e (wCall 1 none m_is_number [] (cVal (vVar 1) (cNil)))))) (vRaise1 2) (vSkip))
  (vSeq (vAsg (wCall 1 none m_parts_of [] (cVal (vVar 1) (cNil))) (tgTup 2 (tgCons (tName 2) (tgCons (tName 3) (tgNil)))))
  (vSeq (vIf (vB (vO2 fEq (.s 2) (.e (vC (.int 0))))) (vRaise1 2) (vSkip))
  (vRetF (wMake 24 3 m_Share_init [] (vCons (vO2 fMul (.e (vFld [24] ("top" : Str) (.s 0))) (.s 3)) (vCons (vO2 fMul (.e (vFld [24] ("bottom" : Str) (.s 0))) (.s 2)) (vNil)))))))
def m_Share_over (ds : List D) : Fo := run none 2 e_Share_over ds
def e__law_refused : DEnv → Ot :=
 vSeq (vSet 3 (vC (.str ("told" : Str))))
  (vSeq (vTryOnly (mtL [(1, false), (2, true)]) (vIf (vB (vO2 fEq (.s 2) (.e (vC (.int 0))))) (vSet 3 (vON fStrI [(.e (vOwnOp 24 m_Share___floordiv__ m_Share___rfloordiv__ fFdivG (vVar 0) (vVar 1)))])) (vSet 3 (vON fStrI [(.e (wMeth 24 ("over" : Str) 2 none m_Share_over [] (vVar 0) (cVal (vVar 1) (cNil))))]))) (vSet 3 (vC (.str ("refused" : Str)))))
  (vRet (vO2 fEq (.s 3) (.e (vC (.str ("refused" : Str)))))))
def m__law_refused (ds : List D) : Fo := run none 1 e__law_refused ds
def e_Share_floor : DEnv → Ot :=
 vRet (vO2 fFdivG (.e (vFld [24] ("top" : Str) (.s 0))) (.e (vFld [24] ("bottom" : Str) (.s 0))))
def m_Share_floor (ds : List D) : Fo := run none 0 e_Share_floor ds
def lb_law_1 : DEnv → Ot :=
 vPost [11] (vIf (vOr (vNot (vTru (.e (wCall 3 none m__law_refused [] (cVal (vVar 10) (cVal (vC (.int 0)) (cVal (vVar 11) (cNil)))))))) (vNot (vTru (.e (wCall 3 none m__law_refused [] (cVal (vVar 10) (cVal (wMake 24 3 m_Share_init [] (vCons (vC (.int 0)) (vCons (vVar 8) (vNil)))) (cVal (vVar 11) (cNil))))))))) (vRet (vC (.bl false))) (vSkip))
def tl_law_16 : DEnv → Ot :=
 vIf (vOr (vNot (vTru (.e (wCall 3 none m__law_is [] (cVal (wMeth 24 ("over" : Str) 2 none m_Share_over [] (vVar 10) (cVal (vVar 12) (cNil))) (cVal (vO2 fMul (.s 5) (.s 8)) (cVal (vO2 fMul (.s 6) (.s 7)) (cNil)))))))) (vNot (vTru (.e (wCall 3 none m__law_is [] (cVal (wMeth 24 ("over" : Str) 2 none m_Share_over [] (vVar 10) (cVal (vVar 9) (cNil))) (cVal (vVar 5) (cVal (vO2 fMul (.s 6) (.s 9)) (cNil))))))))) (vRet (vC (.bl false))) (vSkip)
def tl_law_15 : DEnv → Ot :=
 vSeq (vIf (vOr (vNot (vTru (.e (wCall 3 none m__law_floor [] (cVal (vOwnOp 24 m_Share___floordiv__ m_Share___rfloordiv__ fFdivG (vVar 9) (vVar 12)) (cVal (vO2 fMul (.s 9) (.s 8)) (cVal (vVar 7) (cNil)))))))) (vNot (vTru (.e (wCall 3 none m__law_floor [] (cVal (wMeth 24 ("floor" : Str) 1 none m_Share_floor [] (vVar 10) cNil) (cVal (vVar 5) (cVal (vVar 6) (cNil))))))))) (vRet (vC (.bl false))) (vSkip))
   (tl_law_16)
def tl_law_14 : DEnv → Ot :=
 vSeq (vIf (vOr (vNot (vTru (.e (wCall 3 none m__law_floor [] (cVal (vOwnOp 24 m_Share___floordiv__ m_Share___rfloordiv__ fFdivG (vVar 10) (vVar 12)) (cVal (vO2 fMul (.s 5) (.s 8)) (cVal (vO2 fMul (.s 6) (.s 7)) (cNil)))))))) (vNot (vTru (.e (wCall 3 none m__law_floor [] (cVal (vOwnOp 24 m_Share___floordiv__ m_Share___rfloordiv__ fFdivG (vVar 10) (vVar 9)) (cVal (vVar 5) (cVal (vO2 fMul (.s 6) (.s 9)) (cNil))))))))) (vRet (vC (.bl false))) (vSkip))
   (tl_law_15)
def tl_law_13 : DEnv → Ot :=
 vSeq (vSet 12 (wMake 24 3 m_Share_init [] (vCons (vVar 7) (vCons (vVar 8) (vNil)))))
   (tl_law_14)
def tl_law_12 : DEnv → Ot :=
 vSeq (vIf (vB (vO2 fEq (.s 9) (.e (vC (.int 0))))) (vSet 9 (vO1 fNeg (.e (vC (.int 1))))) (vSkip))
   (tl_law_13)
def tl_law_11 : DEnv → Ot :=
 vSeq (vIf (vB (vO2 fEq (.s 7) (.e (vC (.int 0))))) (vSet 7 (vC (.int 1))) (vSkip))
   (tl_law_12)
def tl_law_10 : DEnv → Ot :=
 vSeq (vPost [11] (vIf (vB (vO2 fEq (.s 3) (.e (vC (.int 0))))) (vSeq (vPre [1, 2, 3] (vFor (vRng1 (vC (.int 2))) (tName 11) lb_law_1))
    (vIf (vOr (vNot (vTru (.e (wCall 3 none m__law_refused [] (cVal (vVar 9) (cVal (wMake 24 3 m_Share_init [.int 1] (vCons (vC (.int 0)) (vNil))) (cVal (vC (.int 0)) (cNil)))))))) (vNot (vTru (.e (wCall 3 none m__law_refused [] (cVal (vVar 10) (cVal (vVar 4) (cVal (vC (.int 1)) (cNil))))))))) (vRet (vC (.bl false))) (vSkip))) (vSkip)))
   (tl_law_11)
def tl_law_9 : DEnv → Ot :=
 vSeq (vSet 10 (wMake 24 3 m_Share_init [] (vCons (vVar 5) (vCons (vVar 6) (vNil)))))
   (tl_law_10)
def tl_law_8 : DEnv → Ot :=
 vSeq (vSet 9 (wCall 2 (some 0) m__law_number [] (cSlot 2 (cVal (vO2 fPow (.e (vC (.int 10))) (.e (vC (.int 50)))) (cNil)))))
   (tl_law_9)
def tl_law_7 : DEnv → Ot :=
 vSeq (vSet 8 (vO2 fAdd (.e (vC (.int 1))) (.e (vON fAbs [(.e (wCall 2 (some 0) m__law_number [] (cSlot 2 (cVal (vO2 fPow (.e (vC (.int 10))) (.e (vC (.int 50)))) (cNil)))))]))))
   (tl_law_8)
def tl_law_6 : DEnv → Ot :=
 vSeq (vSet 7 (wCall 2 (some 0) m__law_number [] (cSlot 2 (cVal (vO2 fPow (.e (vC (.int 10))) (.e (vC (.int 50)))) (cNil)))))
   (tl_law_7)
def tl_law_5 : DEnv → Ot :=
 vSeq (vSet 6 (vO2 fAdd (.e (vC (.int 1))) (.e (vON fAbs [(.e (wCall 2 (some 0) m__law_number [] (cSlot 2 (cVal (vO2 fPow (.e (vC (.int 10))) (.e (vC (.int 50)))) (cNil)))))]))))
   (tl_law_6)
def tl_law_4 : DEnv → Ot :=
 vSeq (vSet 5 (wCall 2 (some 0) m__law_number [] (cSlot 2 (cVal (vO2 fPow (.e (vC (.int 10))) (.e (vC (.int 50)))) (cNil)))))
   (tl_law_5)
def tl_law_3 : DEnv → Ot :=
 vSeq (vSet 4 (vO2 fIx (.e (vLst (vCons (vC .non) (vCons (vC (.str ("1" : Str))) (vCons (vC (.bl true)) (vCons (vC (.bl false)) (vCons (vLst (vNil)) (vCons (vTup (vCons (vC (.int 1)) (vNil))) (vCons (vC (.dk [])) (vCons (vC (.str ("" : Str))) (vNil))))))))))) (.e (wCall 2 (some 0) m__law_draw [] (cSlot 2 (cVal (vC (.int 8)) (cNil)))))))
   (tl_law_4)
def tl_law_2 : DEnv → Ot :=
 vSeq (vSet 3 (wCall 2 (some 0) m__law_draw [] (cSlot 2 (cVal (vC (.int 5)) (cNil)))))
   (tl_law_3)
def lb_law_2 : DEnv → Ot :=
 vPost [1, 2, 3, 4, 5, 6, 7, 8, 9, 10, 11, 12] (vSeq (vSetF 2 (wCallF 2 none m__law_start [] (cVal (vVar 0) (cVal (vVar 1) (cNil)))))
   (tl_law_2))
def e_law : DEnv → Ot :=
 vSeq (vFor (vRng1 (vO2 fAdd (.e (vC (.int 1))) (.e (vON fLen [(.e (vSl fSlA (.s 0) vNoP (vPart (vC (.int 20)))))])))) (tName 1) lb_law_2)
  (vRet (vC (.bl true)))
def m_law (ds : List D) : Fo := run none 12 e_law ds
@[simp] theorem lit_0 : PySem.PyData.canLay0 (.str ("top" : Str)) = true := by decide +kernel
@[simp] theorem lis_0 : isStr (.str ("top" : Str)) = true := by decide +kernel
@[simp] theorem lit_1 : PySem.PyData.canLay0 (.str ("bottom" : Str)) = true := by decide +kernel
@[simp] theorem lis_1 : isStr (.str ("bottom" : Str)) = true := by decide +kernel
@[simp] theorem lit_2 : PySem.PyData.canLay0 (.str ("told" : Str)) = true := by decide +kernel
@[simp] theorem lis_2 : isStr (.str ("told" : Str)) = true := by decide +kernel
@[simp] theorem lit_3 : PySem.PyData.canLay0 (.str ("refused" : Str)) = true := by decide +kernel
@[simp] theorem lis_3 : isStr (.str ("refused" : Str)) = true := by decide +kernel
@[simp] theorem lit_4 : PySem.PyData.canLay0 (.str ("1" : Str)) = true := by decide +kernel
@[simp] theorem lis_4 : isStr (.str ("1" : Str)) = true := by decide +kernel
@[simp] theorem lit_5 : PySem.PyData.canLay0 (.str ("" : Str)) = true := by decide +kernel
@[simp] theorem lis_5 : isStr (.str ("" : Str)) = true := by decide +kernel
section
variable {P : Program} {w : World} {K : PySem.W.Frag} {mg : Str → Option Value} {base : Heap} {kap : Nat → Addr}
theorem sc__law_start : FnScope [("_law_script" : Str), ("_law_k" : Str), ("_law_cell" : Str)] [("_law_script" : Str), ("_law_k" : Str)] (defScope s__law_start) := ⟨rfl, rfl, rfl, by decide +kernel, rfl, by decide +kernel, by decide +kernel⟩
theorem ok__law_start {f : Addr} {fd : FuncData} (F : Fun K ("_law_start" : Str) ("_law_start" : Str) s__law_start f fd) (n_len : mg ("len" : Str) = none) (n_abs : mg ("abs" : Str) = none) :
  FnG P w K mg base (L2.CX P w) 1 f fd [("_law_script" : Str), ("_law_k" : Str)] (spD K kap 2 none m__law_start) :=
  DL.Fun.dl F (N := [("_law_script" : Str), ("_law_k" : Str), ("_law_cell" : Str)]) (n := 2) (nl := 1) (e := e__law_start) sc__law_start rfl rfl fun cdv A outer s H E hr tk po => ⟨_, (jssCons (jSet 2 sc__law_start.nd jInt)
  (jssCons (jIf (jBc op_lt (spI fun _ _ _ => .bl _) (jSlot 1) (JE.o (jCB call_lenA sp_len n_len bt_len (josCons (jSlot 0) josNil)))) (jssOne (jSet 2 sc__law_start.nd (jCB call_abs sp_abs n_abs bt_abs (josCons (JE.o (jItem (jSlot 0) (jSlot 1))) josNil)))) jssNil)
  (jssOne (jRetF (jLst (jaCons (jVar 2) (jaCons (jMul (JE.o jInt) (jSlot 1)) jaNil)))))))⟩
theorem sc__law_draw : FnScope [("_law_state" : Str), ("_law_many" : Str), ("_law_number_here" : Str), ("_law_mixed" : Str)] [("_law_state" : Str), ("_law_many" : Str)] (defScope s__law_draw) := ⟨rfl, rfl, rfl, by decide +kernel, rfl, by decide +kernel, by decide +kernel⟩
theorem ok__law_draw {f : Addr} {fd : FuncData} (F : Fun K ("_law_draw" : Str) ("_law_draw" : Str) s__law_draw f fd) (n_int : mg ("int" : Str) = none) :
  FnG P w K mg base (L2.CX P w) 1 f fd [("_law_state" : Str), ("_law_many" : Str)] (spD K kap 2 (some 0) m__law_draw) :=
  DL.Fun.dl F (N := [("_law_state" : Str), ("_law_many" : Str), ("_law_number_here" : Str), ("_law_mixed" : Str)]) (n := 2) (nl := 2) (e := e__law_draw) sc__law_draw rfl rfl fun cdv A outer s H E hr tk po => ⟨_, (jssCons (jSet 2 sc__law_draw.nd (jItem (jSlot 0) (JE.o jInt)))
  (jssCons (jSetIx 0 (jAdd (JE.o (jItem (jSlot 0) (JE.o jInt))) (JE.o jInt)) jInt)
  (jssCons (jIf (jBc op_ge (spI fun _ _ _ => .bl _) (jSlot 2) (JE.o (jPow (JE.o jInt) (JE.o jInt)))) (jssCons (jSetIx 0 (jFdiv (jSlot 2) (jSlot 1)) jInt)
   (jssOne (jRet (jMod (JE.o (jCT call_int1 sp_int n_int bt_int (josCons (jSlot 2) josNil))) (jSlot 1))))) jssNil)
  (jssCons (jSet 3 sc__law_draw.nd (jMod (JE.o (jCT call_int1 sp_int n_int bt_int (josCons (JE.o (jMul (JE.o (jAdd (JE.o (jAdd (jSlot 2) (JE.o (jMul (JE.o jInt) (JE.o (jItem (jSlot 0) (JE.o jInt))))))) (JE.o jInt))) (JE.o jInt))) josNil))) (JE.o jInt)))
  (jssCons (jSet 3 sc__law_draw.nd (jMod (JE.o (jCT call_int1 sp_int n_int bt_int (josCons (JE.o (jMul (jSlot 3) (JE.o (jAdd (JE.o (jFdiv (jSlot 3) (JE.o jInt))) (JE.o jInt))))) josNil))) (JE.o jInt)))
  (jssCons (jSet 3 sc__law_draw.nd (jMod (JE.o (jCT call_int1 sp_int n_int bt_int (josCons (JE.o (jMul (jSlot 3) (JE.o (jAdd (JE.o (jFdiv (jSlot 3) (JE.o jInt))) (JE.o jInt))))) josNil))) (JE.o jInt)))
  (jssOne (jRet (jMod (JE.o (jCT call_int1 sp_int n_int bt_int (josCons (JE.o (jFdiv (jSlot 3) (JE.o jInt))) josNil))) (jSlot 1))))))))))⟩
theorem sc__law_number : FnScope [("_law_state" : Str), ("_law_limit" : Str), ("_law_kind" : Str), ("_law_small" : Str), ("_law_large" : Str)] [("_law_state" : Str), ("_law_limit" : Str)] (defScope s__law_number) := ⟨rfl, rfl, rfl, by decide +kernel, rfl, by decide +kernel, by decide +kernel⟩
theorem ok__law_number {f : Addr} {fd : FuncData} (F : Fun K ("_law_number" : Str) ("_law_number" : Str) s__law_number f fd) (g__law_draw : GF P w K mg base kap ("_law_draw" : Str) 1 2 (some 0) m__law_draw []) (n_int : mg ("int" : Str) = none) :
  FnG P w K mg base (L2.CX P w) 2 f fd [("_law_state" : Str), ("_law_limit" : Str)] (spD K kap 2 (some 0) m__law_number) :=
  DL.Fun.dl F (N := [("_law_state" : Str), ("_law_limit" : Str), ("_law_kind" : Str), ("_law_small" : Str), ("_law_large" : Str)]) (n := 2) (nl := 3) (e := e__law_number) sc__law_number rfl rfl fun cdv A outer s H E hr tk po => ⟨_, (jssCons (jIf (jBc op_ge (spI fun _ _ _ => .bl _) (JE.o (jItem (jSlot 0) (JE.o jInt))) (JE.o (jPow (JE.o jInt) (JE.o jInt)))) (jssOne (jRet (jSub (JE.o (gCall g__law_draw (hr.mono (by decide)) tk (jcSlot 0 (jcVal (jAdd (JE.o (jMul (JE.o jInt) (jSlot 1))) (JE.o jInt)) jcNil)))) (jSlot 1)))) jssNil)
  (jssCons (jSet 2 sc__law_number.nd (gCall g__law_draw (hr.mono (by decide)) tk (jcSlot 0 (jcVal jInt jcNil))))
  (jssCons (jSet 3 sc__law_number.nd (jSub (JE.o (gCall g__law_draw (hr.mono (by decide)) tk (jcSlot 0 (jcVal jInt jcNil)))) (JE.o jInt)))
  (jssCons (jSet 4 sc__law_number.nd (gCall g__law_draw (hr.mono (by decide)) tk (jcSlot 0 (jcVal (jPow (JE.o jInt) (JE.o jInt)) jcNil))))
  (jssCons (jIf (jBc (op_eqD (uu hr)) sp_eq (jSlot 2) (JE.o jInt)) (jssOne (jRet (jVar 3))) jssNil)
  (jssCons (jIf (jBc (op_eqD (uu hr)) sp_eq (jSlot 2) (JE.o jInt)) (jssOne (jRet (jSub (JE.o (jMod (JE.o (jCT call_int1 sp_int n_int bt_int (josCons (jSlot 4) josNil))) (JE.o jInt))) (JE.o jInt)))) jssNil)
  (jssCons (jIf (jBc (op_eqD (uu hr)) sp_eq (jSlot 2) (JE.o jInt)) (jssOne (jRet (jMul (jSlot 3) (JE.o (jAdd (jSlot 4) (JE.o jInt)))))) jssNil)
  (jssOne (jRet (jAdd (JE.o (jMul (jSlot 3) (JE.o (jPow (JE.o (jAdd (jSlot 4) (JE.o jInt))) (JE.o jInt))))) (jSlot 4)))))))))))⟩
theorem sc_is_integer : FnScope [("thing" : Str)] [("thing" : Str)] (defScope s_is_integer) := ⟨rfl, rfl, rfl, by decide +kernel, rfl, by decide +kernel, by decide +kernel⟩
theorem ok_is_integer {f : Addr} {fd : FuncData} (F : Fun K ("is_integer" : Str) ("is_integer" : Str) s_is_integer f fd) (kk : KitK K kap [24]) (n_int : mg ("int" : Str) = none) (n_isinstance : mg ("isinstance" : Str) = none) (n_bool : mg ("bool" : Str) = none) :
  FnG P w K mg base (L2.CX P w) 1 f fd [("thing" : Str)] (spD K kap 1 none m_is_integer) :=
  DL.Fun.dl F (N := [("thing" : Str)]) (n := 1) (nl := 0) (e := e_is_integer) sc_is_integer rfl rfl fun cdv A outer s H E hr tk po => ⟨_, (jssOne (jRet (jAndV (jCB call_isiA (sp_isi kk) n_isinstance bt_isinstance (josCons (jSlot 0) (josCons (JE.o (jTy n_int bt_int)) josNil))) (jOneV (jNotV (jCB call_isiA (sp_isi kk) n_isinstance bt_isinstance (josCons (jSlot 0) (josCons (JE.o (jTy n_bool bt_bool)) josNil))))))))⟩
theorem sc_Share_init : FnScope [("self" : Str), ("top" : Str), ("bottom" : Str), ("common" : Str)] [("self" : Str), ("top" : Str), ("bottom" : Str)] (defScope s_Share_init) := ⟨rfl, rfl, rfl, by decide +kernel, rfl, by decide +kernel, by decide +kernel⟩
theorem ok_Share_init {f : Addr} {fd : FuncData} (F : FunD K ("__init__" : Str) ("Share.__init__" : Str) (defArgs s_Share_init) (defBody s_Share_init) (defScope s_Share_init) [.int 1] [] f fd) (g_is_integer : GF P w K mg base kap ("is_integer" : Str) 1 1 none m_is_integer []) (x_BadShare : GX2 P w K mg kap ("BadShare" : Str) 1 ("part" : Str) okStr) (b_gcd : mg ("gcd" : Str) = some (.builtin "math.gcd")) (a_Share_top : Cls K (kap 24) ∧ NoAttr K (kap 24) ("top" : Str)) (a_Share_bottom : Cls K (kap 24) ∧ NoAttr K (kap 24) ("bottom" : Str)) :
  FnG P w K mg base (L2.CX P w) 2 f fd [("self" : Str), ("top" : Str), ("bottom" : Str)] (spD K kap 3 (some 0) m_Share_init) :=
  DL.FunD.dl F (N := [("self" : Str), ("top" : Str), ("bottom" : Str), ("common" : Str)]) (n := 3) (nl := 1) (e := e_Share_init) sc_Share_init rfl rfl fun cdv A outer s H E hr tk po => ⟨_, (jssCons (jIf (jtNot (jTru (JE.o (gCall g_is_integer (hr.mono (by decide)) tk (jcVal (jVar 1) jcNil))))) (jssOne (gRaise2 x_BadShare ok_str (hr.mono (by decide)) tk jStr)) jssNil)
  (jssCons (jIf (JW.pt (jwOr (jtNot (jTru (JE.o (gCall g_is_integer (hr.mono (by decide)) tk (jcVal (jVar 2) jcNil))))) (jwOr1 (jBc (op_eqD (uu hr)) sp_eq (jSlot 2) (JE.o jInt))))) (jssOne (gRaise2 x_BadShare ok_str (hr.mono (by decide)) tk jStr)) jssNil)
  (jssCons (jSet 3 sc_Share_init.nd (jCBm cr_gcd sp_gcd b_gcd (josCons (jSlot 1) (josCons (jSlot 2) josNil))))
  (jssCons (jIf (jBc op_lt (spI fun _ _ _ => .bl _) (jSlot 2) (JE.o jInt)) (jssOne (jSet 3 sc_Share_init.nd (jNeg (jSlot 3)))) jssNil)
  (jssCons (jSetFld 0 [24] (more_in a_Share_top none_in) (jFdivG (jSlot 1) (jSlot 3)))
  (jssOne (jSetFld 0 [24] (more_in a_Share_bottom none_in) (jFdivG (jSlot 2) (jSlot 3)))))))))⟩
theorem sc__law_int : FnScope [("_law_thing" : Str)] [("_law_thing" : Str)] (defScope s__law_int) := ⟨rfl, rfl, rfl, by decide +kernel, rfl, by decide +kernel, by decide +kernel⟩
theorem ok__law_int {f : Addr} {fd : FuncData} (F : Fun K ("_law_int" : Str) ("_law_int" : Str) s__law_int f fd) (kk : KitK K kap [24]) (n_int : mg ("int" : Str) = none) (n_isinstance : mg ("isinstance" : Str) = none) (n_bool : mg ("bool" : Str) = none) :
  FnG P w K mg base (L2.CX P w) 1 f fd [("_law_thing" : Str)] (spD K kap 1 none m__law_int) :=
  DL.Fun.dl F (N := [("_law_thing" : Str)]) (n := 1) (nl := 0) (e := e__law_int) sc__law_int rfl rfl fun cdv A outer s H E hr tk po => ⟨_, (jssOne (jRet (jAndV (jCB call_isiA (sp_isi kk) n_isinstance bt_isinstance (josCons (jSlot 0) (josCons (JE.o (jTy n_int bt_int)) josNil))) (jOneV (jNotV (jCB call_isiA (sp_isi kk) n_isinstance bt_isinstance (josCons (jSlot 0) (josCons (JE.o (jTy n_bool bt_bool)) josNil))))))))⟩
theorem sc__law_floor : FnScope [("_law_told" : Str), ("_law_high" : Str), ("_law_low" : Str)] [("_law_told" : Str), ("_law_high" : Str), ("_law_low" : Str)] (defScope s__law_floor) := ⟨rfl, rfl, rfl, by decide +kernel, rfl, by decide +kernel, by decide +kernel⟩
theorem ok__law_floor {f : Addr} {fd : FuncData} (F : Fun K ("_law_floor" : Str) ("_law_floor" : Str) s__law_floor f fd) (g__law_int : GF P w K mg base kap ("_law_int" : Str) 1 1 none m__law_int []) :
  FnG P w K mg base (L2.CX P w) 2 f fd [("_law_told" : Str), ("_law_high" : Str), ("_law_low" : Str)] (spD K kap 3 none m__law_floor) :=
  DL.Fun.dl F (N := [("_law_told" : Str), ("_law_high" : Str), ("_law_low" : Str)]) (n := 3) (nl := 0) (e := e__law_floor) sc__law_floor rfl rfl fun cdv A outer s H E hr tk po => ⟨_, (jssCons (jIf (jtNot (jTru (JE.o (gCall g__law_int (hr.mono (by decide)) tk (jcVal (jVar 0) jcNil))))) (jssOne (jRet jBl)) jssNil)
  (jssCons (jIf (jBc op_lt (spI fun _ _ _ => .bl _) (jSlot 2) (JE.o jInt)) (jssCons (jSet 1 sc__law_floor.nd (jNeg (jSlot 1)))
   (jssOne (jSet 2 sc__law_floor.nd (jNeg (jSlot 2))))) jssNil)
  (jssOne (jRet (jAndV (jCmp op_le (spI fun _ _ _ => .bl _) (JE.o (jMul (jSlot 0) (jSlot 2))) (jSlot 1)) (jOneV (jCmp op_lt (spI fun _ _ _ => .bl _) (jSlot 1) (JE.o (jMul (JE.o (jAdd (jSlot 0) (JE.o jInt))) (jSlot 2))))))))))⟩
theorem sc__law_gcd : FnScope [("_law_one" : Str), ("_law_other" : Str), ("_law_k" : Str), ("_law_rest" : Str)] [("_law_one" : Str), ("_law_other" : Str)] (defScope s__law_gcd) := ⟨rfl, rfl, rfl, by decide +kernel, rfl, by decide +kernel, by decide +kernel⟩
theorem ok__law_gcd {f : Addr} {fd : FuncData} (F : Fun K ("_law_gcd" : Str) ("_law_gcd" : Str) s__law_gcd f fd) (n_abs : mg ("abs" : Str) = none) (n_range : mg ("range" : Str) = none) (n_int : mg ("int" : Str) = none) :
  FnG P w K mg base (L2.CX P w) 1 f fd [("_law_one" : Str), ("_law_other" : Str)] (spD K kap 2 none m__law_gcd) :=
  DL.Fun.dl F (N := [("_law_one" : Str), ("_law_other" : Str), ("_law_k" : Str), ("_law_rest" : Str)]) (n := 2) (nl := 2) (e := e__law_gcd) sc__law_gcd rfl rfl fun cdv A outer s H E hr tk po => ⟨_, (jssCons (jSet 0 sc__law_gcd.nd (jCB call_abs sp_abs n_abs bt_abs (josCons (jSlot 0) josNil)))
  (jssCons (jSet 1 sc__law_gcd.nd (jCB call_abs sp_abs n_abs bt_abs (josCons (jSlot 1) josNil)))
  (jssCons (jFor po (jiRng1 n_range jInt) (jgName 2 sc__law_gcd.nd) (jssPost [2, 3] (jssCons (jIf (jBc (op_eqD (uu hr)) sp_eq (jSlot 1) (JE.o jInt)) (jssOne jBrk) jssNil)
   (jssCons (jSet 3 sc__law_gcd.nd (jMod (JE.o (jCT call_int1 sp_int n_int bt_int (josCons (jSlot 0) josNil))) (jSlot 1)))
   (jssCons (jSet 0 sc__law_gcd.nd (jVar 1))
   (jssOne (jSet 1 sc__law_gcd.nd (jVar 3))))))))
  (jssOne (jRet (jVar 0))))))⟩
theorem sc__law_is : FnScope [("_law_told" : Str), ("_law_high" : Str), ("_law_low" : Str)] [("_law_told" : Str), ("_law_high" : Str), ("_law_low" : Str)] (defScope s__law_is) := ⟨rfl, rfl, rfl, by decide +kernel, rfl, by decide +kernel, by decide +kernel⟩
theorem ok__law_is {f : Addr} {fd : FuncData} (F : Fun K ("_law_is" : Str) ("_law_is" : Str) s__law_is f fd) {C_Share : Addr} (kk : KitK K kap [24]) (gc_Share : mg ("Share" : Str) = some (.ref C_Share)) (kc_Share : kap 24 = C_Share) (n_isinstance : mg ("isinstance" : Str) = none) (g__law_int : GF P w K mg base kap ("_law_int" : Str) 1 1 none m__law_int []) (a_Share_top : Cls K (kap 24) ∧ NoAttr K (kap 24) ("top" : Str)) (a_Share_bottom : Cls K (kap 24) ∧ NoAttr K (kap 24) ("bottom" : Str)) (g__law_gcd : GF P w K mg base kap ("_law_gcd" : Str) 1 2 none m__law_gcd []) :
  FnG P w K mg base (L2.CX P w) 2 f fd [("_law_told" : Str), ("_law_high" : Str), ("_law_low" : Str)] (spD K kap 3 none m__law_is) :=
  DL.Fun.dl F (N := [("_law_told" : Str), ("_law_high" : Str), ("_law_low" : Str)]) (n := 3) (nl := 0) (e := e__law_is) sc__law_is rfl rfl fun cdv A outer s H E hr tk po => ⟨_, (jssCons (jIf (JW.pt (jwOr (jtNot (jTru (JE.o (jCB call_isiA (sp_isi kk) n_isinstance bt_isinstance (josCons (jSlot 0) (josCons (JE.o (jCls 24 kc_Share gc_Share)) josNil)))))) (jwOr (jtNot (jTru (JE.o (gCall g__law_int (hr.mono (by decide)) tk (jcVal (jFld [24] (more_in a_Share_top none_in) (jSlot 0)) jcNil))))) (jwOr1 (jtNot (jTru (JE.o (gCall g__law_int (hr.mono (by decide)) tk (jcVal (jFld [24] (more_in a_Share_bottom none_in) (jSlot 0)) jcNil))))))))) (jssOne (jRet jBl)) jssNil)
  (jssCons (jIf (JW.pt (jwOr (jBc op_lt (spI fun _ _ _ => .bl _) (JE.o (jFld [24] (more_in a_Share_bottom none_in) (jSlot 0))) (JE.o jInt)) (jwOr1 (jBc (op_neD (uu hr)) sp_ne (JE.o (gCall g__law_gcd (hr.mono (by decide)) tk (jcVal (jFld [24] (more_in a_Share_top none_in) (jSlot 0)) (jcVal (jFld [24] (more_in a_Share_bottom none_in) (jSlot 0)) jcNil)))) (JE.o jInt))))) (jssOne (jRet jBl)) jssNil)
  (jssOne (jRet (jCmp (op_eqD (uu hr)) sp_eq (JE.o (jMul (JE.o (jFld [24] (more_in a_Share_top none_in) (jSlot 0))) (jSlot 2))) (JE.o (jMul (jSlot 1) (JE.o (jFld [24] (more_in a_Share_bottom none_in) (jSlot 0))))))))))⟩
theorem sc_parts_of : FnScope [("thing" : Str)] [("thing" : Str)] (defScope s_parts_of) := ⟨rfl, rfl, rfl, by decide +kernel, rfl, by decide +kernel, by decide +kernel⟩
theorem ok_parts_of {f : Addr} {fd : FuncData} (F : Fun K ("parts_of" : Str) ("parts_of" : Str) s_parts_of f fd) {C_Share : Addr} (kk : KitK K kap [24]) (gc_Share : mg ("Share" : Str) = some (.ref C_Share)) (kc_Share : kap 24 = C_Share) (n_isinstance : mg ("isinstance" : Str) = none) (a_Share_bottom : Cls K (kap 24) ∧ NoAttr K (kap 24) ("bottom" : Str)) (a_Share_top : Cls K (kap 24) ∧ NoAttr K (kap 24) ("top" : Str)) :
  FnG P w K mg base (L2.CX P w) 1 f fd [("thing" : Str)] (spD K kap 1 none m_parts_of) :=
  DL.Fun.dl F (N := [("thing" : Str)]) (n := 1) (nl := 0) (e := e_parts_of) sc_parts_of rfl rfl fun cdv A outer s H E hr tk po => ⟨_, (jssCons (jIf (jTru (JE.o (jCB call_isiA (sp_isi kk) n_isinstance bt_isinstance (josCons (jSlot 0) (josCons (JE.o (jCls 24 kc_Share gc_Share)) josNil))))) (jssOne (jRet (jTup (jaCons (jFld [24] (more_in a_Share_top none_in) (jSlot 0)) (jaCons (jFld [24] (more_in a_Share_bottom none_in) (jSlot 0)) jaNil))))) jssNil)
  (jssOne (jRet (jTup (jaCons (jVar 0) (jaCons jInt jaNil))))))⟩
theorem sc_floor_of : FnScope [("one" : Str), ("other" : Str), ("top" : Str), ("bottom" : Str), ("other_top" : Str), ("other_bottom" : Str)] [("one" : Str), ("other" : Str)] (defScope s_floor_of) := ⟨rfl, rfl, rfl, by decide +kernel, rfl, by decide +kernel, by decide +kernel⟩
theorem ok_floor_of {f : Addr} {fd : FuncData} (F : Fun K ("floor_of" : Str) ("floor_of" : Str) s_floor_of f fd) (g_parts_of : GF P w K mg base kap ("parts_of" : Str) 1 1 none m_parts_of []) (x_NoShare : GX1 P w K mg kap ("NoShare" : Str) 2) :
  FnG P w K mg base (L2.CX P w) 2 f fd [("one" : Str), ("other" : Str)] (spD K kap 2 none m_floor_of) :=
  DL.Fun.dl F (N := [("one" : Str), ("other" : Str), ("top" : Str), ("bottom" : Str), ("other_top" : Str), ("other_bottom" : Str)]) (n := 2) (nl := 4) (e := e_floor_of) sc_floor_of rfl rfl fun cdv A outer s H E hr tk po => ⟨_, (jssCons (jAsg (gCall g_parts_of (hr.mono (by decide)) tk (jcVal (jVar 0) jcNil)) (jgTup 2 (jgsCons (jgName 2 sc_floor_of.nd) (jgsCons (jgName 3 sc_floor_of.nd) jgsNil))))
  (jssCons (jAsg (gCall g_parts_of (hr.mono (by decide)) tk (jcVal (jVar 1) jcNil)) (jgTup 2 (jgsCons (jgName 4 sc_floor_of.nd) (jgsCons (jgName 5 sc_floor_of.nd) jgsNil))))
  (jssCons (jIf (jBc (op_eqD (uu hr)) sp_eq (jSlot 4) (JE.o jInt)) (jssOne (gRaise1 x_NoShare (hr.mono (by decide)) tk)) jssNil)
  (jssOne (jRet (jFdivG (JE.o (jMul (jSlot 2) (jSlot 5))) (JE.o (jMul (jSlot 3) (jSlot 4)))))))))⟩
theorem sc_is_number : FnScope [("thing" : Str)] [("thing" : Str)] (defScope s_is_number) := ⟨rfl, rfl, rfl, by decide +kernel, rfl, by decide +kernel, by decide +kernel⟩
theorem ok_is_number {f : Addr} {fd : FuncData} (F : Fun K ("is_number" : Str) ("is_number" : Str) s_is_number f fd) {C_Share : Addr} (g_is_integer : GF P w K mg base kap ("is_integer" : Str) 1 1 none m_is_integer []) (kk : KitK K kap [24]) (gc_Share : mg ("Share" : Str) = some (.ref C_Share)) (kc_Share : kap 24 = C_Share) (n_isinstance : mg ("isinstance" : Str) = none) :
  FnG P w K mg base (L2.CX P w) 2 f fd [("thing" : Str)] (spD K kap 1 none m_is_number) :=
  DL.Fun.dl F (N := [("thing" : Str)]) (n := 1) (nl := 0) (e := e_is_number) sc_is_number rfl rfl fun cdv A outer s H E hr tk po => ⟨_, (jssOne (jRet (jOrV (gCall g_is_integer (hr.mono (by decide)) tk (jcVal (jVar 0) jcNil)) (jOneV (jCB call_isiA (sp_isi kk) n_isinstance bt_isinstance (josCons (jSlot 0) (josCons (JE.o (jCls 24 kc_Share gc_Share)) josNil)))))))⟩
theorem sc_Share___floordiv__ : FnScope [("self" : Str), ("other" : Str)] [("self" : Str), ("other" : Str)] (defScope s_Share___floordiv__) := ⟨rfl, rfl, rfl, by decide +kernel, rfl, by decide +kernel, by decide +kernel⟩
theorem ok_Share___floordiv__ {f : Addr} {fd : FuncData} (F : Fun K ("__floordiv__" : Str) ("Share.__floordiv__" : Str) s_Share___floordiv__ f fd) (g_is_number : GF P w K mg base kap ("is_number" : Str) 2 1 none m_is_number []) (g_floor_of : GF P w K mg base kap ("floor_of" : Str) 2 2 none m_floor_of []) :
  FnG P w K mg base (L2.CX P w) 3 f fd [("self" : Str), ("other" : Str)] (spD K kap 2 none m_Share___floordiv__) :=
  DL.Fun.dl F (N := [("self" : Str), ("other" : Str)]) (n := 2) (nl := 0) (e := e_Share___floordiv__) sc_Share___floordiv__ rfl rfl fun cdv A outer s H E hr tk po => ⟨_, (jssCons (jIf (jtNot (jTru (JE.o (gCall g_is_number (hr.mono (by decide)) tk (jcVal (jVar 1) jcNil))))) (jssOne jBadS) jssNil)
  (jssOne (jRet (gCall g_floor_of (hr.mono (by decide)) tk (jcVal (jVar 0) (jcVal (jVar 1) jcNil))))))⟩
theorem sc_Share___rfloordiv__ : FnScope [("self" : Str), ("other" : Str)] [("self" : Str), ("other" : Str)] (defScope s_Share___rfloordiv__) := ⟨rfl, rfl, rfl, by decide +kernel, rfl, by decide +kernel, by decide +kernel⟩
theorem ok_Share___rfloordiv__ {f : Addr} {fd : FuncData} (F : Fun K ("__rfloordiv__" : Str) ("Share.__rfloordiv__" : Str) s_Share___rfloordiv__ f fd) (g_is_number : GF P w K mg base kap ("is_number" : Str) 2 1 none m_is_number []) (g_floor_of : GF P w K mg base kap ("floor_of" : Str) 2 2 none m_floor_of []) :
  FnG P w K mg base (L2.CX P w) 3 f fd [("self" : Str), ("other" : Str)] (spD K kap 2 none m_Share___rfloordiv__) :=
  DL.Fun.dl F (N := [("self" : Str), ("other" : Str)]) (n := 2) (nl := 0) (e := e_Share___rfloordiv__) sc_Share___rfloordiv__ rfl rfl fun cdv A outer s H E hr tk po => ⟨_, (jssCons (jIf (jtNot (jTru (JE.o (gCall g_is_number (hr.mono (by decide)) tk (jcVal (jVar 1) jcNil))))) (jssOne jBadS) jssNil)
  (jssOne (jRet (gCall g_floor_of (hr.mono (by decide)) tk (jcVal (jVar 1) (jcVal (jVar 0) jcNil))))))⟩
theorem sc_Share_over : FnScope [("self" : Str), ("other" : Str), ("top" : Str), ("bottom" : Str)] [("self" : Str), ("other" : Str)] (defScope s_Share_over) := ⟨rfl, rfl, rfl, by decide +kernel, rfl, by decide +kernel, by decide +kernel⟩
theorem ok_Share_over {f : Addr} {fd : FuncData} (F : Fun K ("over" : Str) ("Share.over" : Str) s_Share_over f fd) (g_is_number : GF P w K mg base kap ("is_number" : Str) 2 1 none m_is_number []) (x_NoShare : GX1 P w K mg kap ("NoShare" : Str) 2) (g_parts_of : GF P w K mg base kap ("parts_of" : Str) 1 1 none m_parts_of []) (mk_Share : GM P w K mg base kap ("Share" : Str) 24 2 3 m_Share_init []) (a_Share_bottom : Cls K (kap 24) ∧ NoAttr K (kap 24) ("bottom" : Str)) (a_Share_top : Cls K (kap 24) ∧ NoAttr K (kap 24) ("top" : Str)) :
  FnG P w K mg base (L2.CX P w) 4 f fd [("self" : Str), ("other" : Str)] (spD K kap 2 none m_Share_over) :=
  DL.Fun.dl F (N := [("self" : Str), ("other" : Str), ("top" : Str), ("bottom" : Str)]) (n := 2) (nl := 2) (e := e_Share_over) sc_Share_over rfl rfl fun cdv A outer s H E hr tk po => ⟨_, (jssCons (jIf (jtNot (jTru (JE.o (gCall g_is_number (hr.mono (by decide)) tk (jcVal (jVar 1) jcNil))))) (jssOne (gRaise1 x_NoShare (hr.mono (by decide)) tk)) jssNil)
  (jssCons (jAsg (gCall g_parts_of (hr.mono (by decide)) tk (jcVal (jVar 1) jcNil)) (jgTup 2 (jgsCons (jgName 2 sc_Share_over.nd) (jgsCons (jgName 3 sc_Share_over.nd) jgsNil))))
  (jssCons (jIf (jBc (op_eqD (uu hr)) sp_eq (jSlot 2) (JE.o jInt)) (jssOne (gRaise1 x_NoShare (hr.mono (by decide)) tk)) jssNil)
  (jssOne (jRetF (gMake mk_Share (hr.mono (by decide)) tk (jaCons (jMul (JE.o (jFld [24] (more_in a_Share_top none_in) (jSlot 0))) (jSlot 3)) (jaCons (jMul (JE.o (jFld [24] (more_in a_Share_bottom none_in) (jSlot 0))) (jSlot 2)) jaNil))))))))⟩
theorem sc__law_refused : FnScope [("_law_one" : Str), ("_law_divisor" : Str), ("_law_way" : Str), ("_law_told" : Str)] [("_law_one" : Str), ("_law_divisor" : Str), ("_law_way" : Str)] (defScope s__law_refused) := ⟨rfl, rfl, rfl, by decide +kernel, rfl, by decide +kernel, by decide +kernel⟩
theorem ok__law_refused {f : Addr} {fd : FuncData} (F : Fun K ("_law_refused" : Str) ("_law_refused" : Str) s__law_refused f fd) {C_NoShare : Addr} (ob_Share_FloorDiv : OwnB P w K mg base kap .FloorDiv 3 24 m_Share___floordiv__ m_Share___rfloordiv__) (n_str : mg ("str" : Str) = none) (gp_Share_over : GMp P w K mg base kap ("over" : Str) 24 4 2 none m_Share_over []) (gc_NoShare : mg ("NoShare" : Str) = some (.ref C_NoShare)) (mt_NoShare : ∀ c b, mtL [(1, false), (2, true)] c = some b → PySem.W.exmOne K (.ref (kap c)) (.ref C_NoShare) = some b) :
  FnG P w K mg base (L2.CX P w) 5 f fd [("_law_one" : Str), ("_law_divisor" : Str), ("_law_way" : Str)] (spD K kap 3 none m__law_refused) :=
  DL.Fun.dl F (N := [("_law_one" : Str), ("_law_divisor" : Str), ("_law_way" : Str), ("_law_told" : Str)]) (n := 3) (nl := 1) (e := e__law_refused) sc__law_refused rfl rfl fun cdv A outer s H E hr tk po => ⟨_, (jssCons (jSet 3 sc__law_refused.nd jStr)
  (jssCons (by (refine' jTryOnly rfl rfl ⟨by rfl, by decide, .inl gc_NoShare⟩ tk mt_NoShare (fun W pn xe tk po => ?b) (fun a oe cls d pn hz hf => ?s)); (case b => refine JSs.via ((jssOne (jIf (jBc (op_eqD (uu hr)) sp_eq (jSlot 2) (JE.o jInt)) (jssOne (jSet 3 sc__law_refused.nd (jCT call_str_int sp_strI n_str bt_str (josCons (JE.o (jOwnFdiv ob_Share_FloorDiv (hr.mono (by decide)) tk (jVar 0) (jVar 1))) josNil)))) (jssOne (jSet 3 sc__law_refused.nd (jCT call_str_int sp_strI n_str bt_str (josCons (JE.o (gMeth gp_Share_over (hr.mono (by decide)) tk (jVar 0) (jcVal (jVar 1) jcNil))) josNil))))))) ?_; ((try dsimp only [Cx.tr, Cx.suite]) <;> rfl)); (case s => refine JSs.via ((jssOne (jSet 3 sc__law_refused.nd jStr))) ?_; ((try dsimp only [Cx.tr, Cx.suite]) <;> rfl)))
  (jssOne (jRet (jCmp (op_eqD (uu hr)) sp_eq (jSlot 3) (JE.o jStr))))))⟩
theorem sc_Share_floor : FnScope [("self" : Str)] [("self" : Str)] (defScope s_Share_floor) := ⟨rfl, rfl, rfl, by decide +kernel, rfl, by decide +kernel, by decide +kernel⟩
theorem ok_Share_floor {f : Addr} {fd : FuncData} (F : Fun K ("floor" : Str) ("Share.floor" : Str) s_Share_floor f fd) (a_Share_top : Cls K (kap 24) ∧ NoAttr K (kap 24) ("top" : Str)) (a_Share_bottom : Cls K (kap 24) ∧ NoAttr K (kap 24) ("bottom" : Str)) :
  FnG P w K mg base (L2.CX P w) 1 f fd [("self" : Str)] (spD K kap 1 none m_Share_floor) :=
  DL.Fun.dl F (N := [("self" : Str)]) (n := 1) (nl := 0) (e := e_Share_floor) sc_Share_floor rfl rfl fun cdv A outer s H E hr tk po => ⟨_, (jssOne (jRet (jFdivG (JE.o (jFld [24] (more_in a_Share_top none_in) (jSlot 0))) (JE.o (jFld [24] (more_in a_Share_bottom none_in) (jSlot 0))))))⟩
theorem sc_law : FnScope [("_law_script" : Str), ("_law_k" : Str), ("_law_state" : Str), ("_law_nothing" : Str), ("_law_odd" : Str), ("_law_a" : Str), ("_law_b" : Str), ("_law_c" : Str), ("_law_d" : Str), ("_law_n" : Str), ("_law_one" : Str), ("_law_way" : Str), ("_law_other" : Str)] [("_law_script" : Str)] (defScope s_law) := ⟨rfl, rfl, rfl, by decide +kernel, rfl, by decide +kernel, by decide +kernel⟩
theorem ok_law {f : Addr} {fd : FuncData} (F : Fun K ("law" : Str) ("law" : Str) s_law f fd) (n_range : mg ("range" : Str) = none) (n_len : mg ("len" : Str) = none) (g__law_start : GF P w K mg base kap ("_law_start" : Str) 1 2 none m__law_start []) (g__law_draw : GF P w K mg base kap ("_law_draw" : Str) 1 2 (some 0) m__law_draw []) (g__law_number : GF P w K mg base kap ("_law_number" : Str) 2 2 (some 0) m__law_number []) (n_abs : mg ("abs" : Str) = none) (mk_Share : GM P w K mg base kap ("Share" : Str) 24 2 3 m_Share_init []) (g__law_refused : GF P w K mg base kap ("_law_refused" : Str) 5 3 none m__law_refused []) (mk_Share_1 : GM P w K mg base kap ("Share" : Str) 24 2 3 m_Share_init [.int 1]) (g__law_floor : GF P w K mg base kap ("_law_floor" : Str) 2 3 none m__law_floor []) (ob_Share_FloorDiv : OwnB P w K mg base kap .FloorDiv 3 24 m_Share___floordiv__ m_Share___rfloordiv__) (gp_Share_floor : GMp P w K mg base kap ("floor" : Str) 24 1 1 none m_Share_floor []) (g__law_is : GF P w K mg base kap ("_law_is" : Str) 2 3 none m__law_is []) (gp_Share_over : GMp P w K mg base kap ("over" : Str) 24 4 2 none m_Share_over []) :
  FnG P w K mg base (L2.CX P w) 6 f fd [("_law_script" : Str)] (spD K kap 1 none m_law) :=
  DL.Fun.dl F (N := [("_law_script" : Str), ("_law_k" : Str), ("_law_state" : Str), ("_law_nothing" : Str), ("_law_odd" : Str), ("_law_a" : Str), ("_law_b" : Str), ("_law_c" : Str), ("_law_d" : Str), ("_law_n" : Str), ("_law_one" : Str), ("_law_way" : Str), ("_law_other" : Str)]) (n := 1) (nl := 12) (e := e_law) sc_law rfl rfl fun cdv A outer s H E hr tk po => ⟨_, (jssCons (jFor po (jiRng1 n_range (jAdd (JE.o jInt) (JE.o (jCB call_lenA sp_len n_len bt_len (josCons (JE.o (jSlA (jSlot 0) jNoP (jPart jInt))) josNil))))) (jgName 1 sc_law.nd) (jssPost [1, 2, 3, 4, 5, 6, 7, 8, 9, 10, 11, 12] (jssCons (jSetF 2 sc_law.nd (gCallF g__law_start (hr.mono (by decide)) tk (jcVal (jVar 0) (jcVal (jVar 1) jcNil))))
   (jssCons (jSet 3 sc_law.nd (gCall g__law_draw (hr.mono (by decide)) tk (jcSlot 2 (jcVal jInt jcNil))))
   (jssCons (jSet 4 sc_law.nd (jItem (JE.o (JF.fz (jLst (jaCons jNon (jaCons jStr (jaCons jBl (jaCons jBl (jaCons (JF.fz (jLst jaNil)) (jaCons (jTup (jaCons jInt jaNil)) (jaCons (JF.fz (jDk0)) (jaCons jStr jaNil))))))))))) (JE.o (gCall g__law_draw (hr.mono (by decide)) tk (jcSlot 2 (jcVal jInt jcNil))))))
   (jssCons (jSet 5 sc_law.nd (gCall g__law_number (hr.mono (by decide)) tk (jcSlot 2 (jcVal (jPow (JE.o jInt) (JE.o jInt)) jcNil))))
   (jssCons (jSet 6 sc_law.nd (jAdd (JE.o jInt) (JE.o (jCB call_abs sp_abs n_abs bt_abs (josCons (JE.o (gCall g__law_number (hr.mono (by decide)) tk (jcSlot 2 (jcVal (jPow (JE.o jInt) (JE.o jInt)) jcNil)))) josNil)))))
   (jssCons (jSet 7 sc_law.nd (gCall g__law_number (hr.mono (by decide)) tk (jcSlot 2 (jcVal (jPow (JE.o jInt) (JE.o jInt)) jcNil))))
   (jssCons (jSet 8 sc_law.nd (jAdd (JE.o jInt) (JE.o (jCB call_abs sp_abs n_abs bt_abs (josCons (JE.o (gCall g__law_number (hr.mono (by decide)) tk (jcSlot 2 (jcVal (jPow (JE.o jInt) (JE.o jInt)) jcNil)))) josNil)))))
   (jssCons (jSet 9 sc_law.nd (gCall g__law_number (hr.mono (by decide)) tk (jcSlot 2 (jcVal (jPow (JE.o jInt) (JE.o jInt)) jcNil))))
   (jssCons (jSet 10 sc_law.nd (JF.fz (gMake mk_Share (hr.mono (by decide)) tk (jaCons (jVar 5) (jaCons (jVar 6) jaNil)))))
   (jssCons (jPost [11] (jIf (jBc (op_eqD (uu hr)) sp_eq (jSlot 3) (JE.o jInt)) (jssCons (jPre [1, 2, 3] (jFor po (jiRng1 n_range jInt) (jgName 11 sc_law.nd) (jssPost [11] (jssOne (jIf (JW.pt (jwOr (jtNot (jTru (JE.o (gCall g__law_refused (hr.mono (by decide)) tk (jcVal (jVar 10) (jcVal jInt (jcVal (jVar 11) jcNil))))))) (jwOr1 (jtNot (jTru (JE.o (gCall g__law_refused (hr.mono (by decide)) tk (jcVal (jVar 10) (jcVal (JF.fz (gMake mk_Share (hr.mono (by decide)) tk (jaCons jInt (jaCons (jVar 8) jaNil)))) (jcVal (jVar 11) jcNil)))))))))) (jssOne (jRet jBl)) jssNil)))))
    (jssOne (jIf (JW.pt (jwOr (jtNot (jTru (JE.o (gCall g__law_refused (hr.mono (by decide)) tk (jcVal (jVar 9) (jcVal (JF.fz (gMake mk_Share_1 (hr.mono (by decide)) tk (jaCons jInt jaNil))) (jcVal jInt jcNil))))))) (jwOr1 (jtNot (jTru (JE.o (gCall g__law_refused (hr.mono (by decide)) tk (jcVal (jVar 10) (jcVal (jVar 4) (jcVal jInt jcNil)))))))))) (jssOne (jRet jBl)) jssNil))) jssNil))
   (jssCons (jIf (jBc (op_eqD (uu hr)) sp_eq (jSlot 7) (JE.o jInt)) (jssOne (jSet 7 sc_law.nd jInt)) jssNil)
   (jssCons (jIf (jBc (op_eqD (uu hr)) sp_eq (jSlot 9) (JE.o jInt)) (jssOne (jSet 9 sc_law.nd (jNeg (JE.o jInt)))) jssNil)
   (jssCons (jSet 12 sc_law.nd (JF.fz (gMake mk_Share (hr.mono (by decide)) tk (jaCons (jVar 7) (jaCons (jVar 8) jaNil)))))
   (jssCons (jIf (JW.pt (jwOr (jtNot (jTru (JE.o (gCall g__law_floor (hr.mono (by decide)) tk (jcVal (jOwnFdiv ob_Share_FloorDiv (hr.mono (by decide)) tk (jVar 10) (jVar 12)) (jcVal (jMul (jSlot 5) (jSlot 8)) (jcVal (jMul (jSlot 6) (jSlot 7)) jcNil))))))) (jwOr1 (jtNot (jTru (JE.o (gCall g__law_floor (hr.mono (by decide)) tk (jcVal (jOwnFdiv ob_Share_FloorDiv (hr.mono (by decide)) tk (jVar 10) (jVar 9)) (jcVal (jVar 5) (jcVal (jMul (jSlot 6) (jSlot 9)) jcNil)))))))))) (jssOne (jRet jBl)) jssNil)
   (jssCons (jIf (JW.pt (jwOr (jtNot (jTru (JE.o (gCall g__law_floor (hr.mono (by decide)) tk (jcVal (jOwnFdiv ob_Share_FloorDiv (hr.mono (by decide)) tk (jVar 9) (jVar 12)) (jcVal (jMul (jSlot 9) (jSlot 8)) (jcVal (jVar 7) jcNil))))))) (jwOr1 (jtNot (jTru (JE.o (gCall g__law_floor (hr.mono (by decide)) tk (jcVal (gMeth0 gp_Share_floor (hr.mono (by decide)) tk (jVar 10)) (jcVal (jVar 5) (jcVal (jVar 6) jcNil)))))))))) (jssOne (jRet jBl)) jssNil)
   (jssOne (jIf (JW.pt (jwOr (jtNot (jTru (JE.o (gCall g__law_is (hr.mono (by decide)) tk (jcVal (gMeth gp_Share_over (hr.mono (by decide)) tk (jVar 10) (jcVal (jVar 12) jcNil)) (jcVal (jMul (jSlot 5) (jSlot 8)) (jcVal (jMul (jSlot 6) (jSlot 7)) jcNil))))))) (jwOr1 (jtNot (jTru (JE.o (gCall g__law_is (hr.mono (by decide)) tk (jcVal (gMeth gp_Share_over (hr.mono (by decide)) tk (jVar 10) (jcVal (jVar 9) jcNil)) (jcVal (jVar 5) (jcVal (jMul (jSlot 6) (jSlot 9)) jcNil)))))))))) (jssOne (jRet jBl)) jssNil)))))))))))))))))))
  (jssOne (jRet jBl)))⟩
end
theorem all_mk {w : World} {K : PySem.W.Frag} {h : Heap} {mg : Str → Option Value} {fa : Addr} (X : K.In h) (G : h.Ns mainGlobals mg) (hfa : mg "law" = some (.ref fa))
  {C_LabelError : Addr} {C_BadShare : Addr} {C_NoShare : Addr} {C_Share : Addr} {f__law_start : Addr} {od__law_start : Option Addr} {an__law_start : Option Addr} {sl__law_start : Array (Option Value)} {oc__law_start : Value} {kv__law_start : Value} {dc__law_start : Value} {pm__law_start : Value} {cd__law_start : Value} {ct__law_start : Value} {f__law_draw : Addr} {od__law_draw : Option Addr} {an__law_draw : Option Addr} {sl__law_draw : Array (Option Value)} {oc__law_draw : Value} {kv__law_draw : Value} {dc__law_draw : Value} {pm__law_draw : Value} {cd__law_draw : Value} {ct__law_draw : Value} {f__law_number : Addr} {od__law_number : Option Addr} {an__law_number : Option Addr} {sl__law_number : Array (Option Value)} {oc__law_number : Value} {kv__law_number : Value} {dc__law_number : Value} {pm__law_number : Value} {cd__law_number : Value} {ct__law_number : Value} {f_is_integer : Addr} {od_is_integer : Option Addr} {an_is_integer : Option Addr} {sl_is_integer : Array (Option Value)} {oc_is_integer : Value} {kv_is_integer : Value} {dc_is_integer : Value} {pm_is_integer : Value} {cd_is_integer : Value} {ct_is_integer : Value} {f_Share_init : Addr} {od_Share_init : Option Addr} {an_Share_init : Option Addr} {sl_Share_init : Array (Option Value)} {oc_Share_init : Value} {kv_Share_init : Value} {dc_Share_init : Value} {pm_Share_init : Value} {cd_Share_init : Value} {ct_Share_init : Value} {T_Share_init : Addr} {o_Share_init : Obj} {n_Share_init : Nat} {q_Share_init_0 : Tok} {f__law_int : Addr} {od__law_int : Option Addr} {an__law_int : Option Addr} {sl__law_int : Array (Option Value)} {oc__law_int : Value} {kv__law_int : Value} {dc__law_int : Value} {pm__law_int : Value} {cd__law_int : Value} {ct__law_int : Value} {f__law_floor : Addr} {od__law_floor : Option Addr} {an__law_floor : Option Addr} {sl__law_floor : Array (Option Value)} {oc__law_floor : Value} {kv__law_floor : Value} {dc__law_floor : Value} {pm__law_floor : Value} {cd__law_floor : Value} {ct__law_floor : Value} {f__law_gcd : Addr} {od__law_gcd : Option Addr} {an__law_gcd : Option Addr} {sl__law_gcd : Array (Option Value)} {oc__law_gcd : Value} {kv__law_gcd : Value} {dc__law_gcd : Value} {pm__law_gcd : Value} {cd__law_gcd : Value} {ct__law_gcd : Value} {f__law_is : Addr} {od__law_is : Option Addr} {an__law_is : Option Addr} {sl__law_is : Array (Option Value)} {oc__law_is : Value} {kv__law_is : Value} {dc__law_is : Value} {pm__law_is : Value} {cd__law_is : Value} {ct__law_is : Value} {f_parts_of : Addr} {od_parts_of : Option Addr} {an_parts_of : Option Addr} {sl_parts_of : Array (Option Value)} {oc_parts_of : Value} {kv_parts_of : Value} {dc_parts_of : Value} {pm_parts_of : Value} {cd_parts_of : Value} {ct_parts_of : Value} {f_floor_of : Addr} {od_floor_of : Option Addr} {an_floor_of : Option Addr} {sl_floor_of : Array (Option Value)} {oc_floor_of : Value} {kv_floor_of : Value} {dc_floor_of : Value} {pm_floor_of : Value} {cd_floor_of : Value} {ct_floor_of : Value} {f_is_number : Addr} {od_is_number : Option Addr} {an_is_number : Option Addr} {sl_is_number : Array (Option Value)} {oc_is_number : Value} {kv_is_number : Value} {dc_is_number : Value} {pm_is_number : Value} {cd_is_number : Value} {ct_is_number : Value} {f_Share___floordiv__ : Addr} {od_Share___floordiv__ : Option Addr} {an_Share___floordiv__ : Option Addr} {sl_Share___floordiv__ : Array (Option Value)} {oc_Share___floordiv__ : Value} {kv_Share___floordiv__ : Value} {dc_Share___floordiv__ : Value} {pm_Share___floordiv__ : Value} {cd_Share___floordiv__ : Value} {ct_Share___floordiv__ : Value} {f_Share___rfloordiv__ : Addr} {od_Share___rfloordiv__ : Option Addr} {an_Share___rfloordiv__ : Option Addr} {sl_Share___rfloordiv__ : Array (Option Value)} {oc_Share___rfloordiv__ : Value} {kv_Share___rfloordiv__ : Value} {dc_Share___rfloordiv__ : Value} {pm_Share___rfloordiv__ : Value} {cd_Share___rfloordiv__ : Value} {ct_Share___rfloordiv__ : Value} {f_Share_over : Addr} {od_Share_over : Option Addr} {an_Share_over : Option Addr} {sl_Share_over : Array (Option Value)} {oc_Share_over : Value} {kv_Share_over : Value} {dc_Share_over : Value} {pm_Share_over : Value} {cd_Share_over : Value} {ct_Share_over : Value} {f__law_refused : Addr} {od__law_refused : Option Addr} {an__law_refused : Option Addr} {sl__law_refused : Array (Option Value)} {oc__law_refused : Value} {kv__law_refused : Value} {dc__law_refused : Value} {pm__law_refused : Value} {cd__law_refused : Value} {ct__law_refused : Value} {f_Share_floor : Addr} {od_Share_floor : Option Addr} {an_Share_floor : Option Addr} {sl_Share_floor : Array (Option Value)} {oc_Share_floor : Value} {kv_Share_floor : Value} {dc_Share_floor : Value} {pm_Share_floor : Value} {cd_Share_floor : Value} {ct_Share_floor : Value} {f_law : Addr} {od_law : Option Addr} {an_law : Option Addr} {sl_law : Array (Option Value)} {oc_law : Value} {kv_law : Value} {dc_law : Value} {pm_law : Value} {cd_law : Value} {ct_law : Value} {f_BadShare_init : Addr} {da_BadShare_init : Addr} {cc_BadShare_init : Addr} {nm_BadShare_init : Str} {q_BadShare_init : Str} {N_BadShare_init : Addr} {bs_BadShare_init : List Value} {bm_BadShare_init : List Value} {sn_BadShare_init : List Str} {su_BadShare_init : List Value} {ab_BadShare_init : Bool} {co_BadShare_init : Option Bool} {dd_BadShare_init : Option Addr} {k0_BadShare_init : Option Value} {k1_BadShare_init : Option Value} {k2_BadShare_init : Option Value} {k3_BadShare_init : Option Value} {k5_BadShare_init : Option Value} {od_BadShare_init : Option Addr} {an_BadShare_init : Option Addr} {sl_BadShare_init : Array (Option Value)} {oc_BadShare_init : Value} {dc_BadShare_init : Value} {pm_BadShare_init : Value} {ct_BadShare_init : Value} {e1_BadShare_init : Value} {e2_BadShare_init : Option Addr} {e3_BadShare_init : Array (Option Value)} {vs_BadShare_init : Array Value} {fi_BadShare_init : Str} {tf_BadShare_init : Tok} {g1_BadShare_init : Value} {g2_BadShare_init : Option Addr} {g3_BadShare_init : Array (Option Value)} {f_NoShare_init : Addr} {da_NoShare_init : Addr} {cc_NoShare_init : Addr} {nm_NoShare_init : Str} {q_NoShare_init : Str} {N_NoShare_init : Addr} {bs_NoShare_init : List Value} {bm_NoShare_init : List Value} {sn_NoShare_init : List Str} {su_NoShare_init : List Value} {ab_NoShare_init : Bool} {co_NoShare_init : Option Bool} {dd_NoShare_init : Option Addr} {k0_NoShare_init : Option Value} {k1_NoShare_init : Option Value} {k2_NoShare_init : Option Value} {k3_NoShare_init : Option Value} {k5_NoShare_init : Option Value} {od_NoShare_init : Option Addr} {an_NoShare_init : Option Addr} {sl_NoShare_init : Array (Option Value)} {oc_NoShare_init : Value} {dc_NoShare_init : Value} {pm_NoShare_init : Value} {ct_NoShare_init : Value} {e1_NoShare_init : Value} {e2_NoShare_init : Option Addr} {e3_NoShare_init : Array (Option Value)} {vs_NoShare_init : Array Value} {fi_NoShare_init : Str} {tf_NoShare_init : Tok} {g1_NoShare_init : Value} {g2_NoShare_init : Option Addr} {g3_NoShare_init : Array (Option Value)}
  (ac_LabelError : PySem.W.nsIn K mainGlobals ("LabelError" : Str) = some (some (.ref C_LabelError)))
  (ac_BadShare : PySem.W.nsIn K mainGlobals ("BadShare" : Str) = some (some (.ref C_BadShare)))
  (ac_NoShare : PySem.W.nsIn K mainGlobals ("NoShare" : Str) = some (some (.ref C_NoShare)))
  (ac_Share : PySem.W.nsIn K mainGlobals ("Share" : Str) = some (some (.ref C_Share)))
  (a__law_start : PySem.W.nsIn K mainGlobals ("_law_start" : Str) = some (some (.ref f__law_start)))
  (l__law_start : K.lookup f__law_start = some ⟨oc__law_start, od__law_start, .func (PySem.W.fnOf ("_law_start" : Str) ("_law_start" : Str) (defArgs s__law_start) (defBody s__law_start) (defScope s__law_start) .none kv__law_start dc__law_start pm__law_start an__law_start cd__law_start ct__law_start), sl__law_start⟩)
  (c__law_start : PySem.W.codeIn K cd__law_start ("_law_start" : Str) = true)
  (k__law_start : PySem.W.keepIn K (.ref f__law_start) = true)
  (a__law_draw : PySem.W.nsIn K mainGlobals ("_law_draw" : Str) = some (some (.ref f__law_draw)))
  (l__law_draw : K.lookup f__law_draw = some ⟨oc__law_draw, od__law_draw, .func (PySem.W.fnOf ("_law_draw" : Str) ("_law_draw" : Str) (defArgs s__law_draw) (defBody s__law_draw) (defScope s__law_draw) .none kv__law_draw dc__law_draw pm__law_draw an__law_draw cd__law_draw ct__law_draw), sl__law_draw⟩)
  (c__law_draw : PySem.W.codeIn K cd__law_draw ("_law_draw" : Str) = true)
  (k__law_draw : PySem.W.keepIn K (.ref f__law_draw) = true)
  (a__law_number : PySem.W.nsIn K mainGlobals ("_law_number" : Str) = some (some (.ref f__law_number)))
  (l__law_number : K.lookup f__law_number = some ⟨oc__law_number, od__law_number, .func (PySem.W.fnOf ("_law_number" : Str) ("_law_number" : Str) (defArgs s__law_number) (defBody s__law_number) (defScope s__law_number) .none kv__law_number dc__law_number pm__law_number an__law_number cd__law_number ct__law_number), sl__law_number⟩)
  (c__law_number : PySem.W.codeIn K cd__law_number ("_law_number" : Str) = true)
  (k__law_number : PySem.W.keepIn K (.ref f__law_number) = true)
  (a_is_integer : PySem.W.nsIn K mainGlobals ("is_integer" : Str) = some (some (.ref f_is_integer)))
  (l_is_integer : K.lookup f_is_integer = some ⟨oc_is_integer, od_is_integer, .func (PySem.W.fnOf ("is_integer" : Str) ("is_integer" : Str) (defArgs s_is_integer) (defBody s_is_integer) (defScope s_is_integer) .none kv_is_integer dc_is_integer pm_is_integer an_is_integer cd_is_integer ct_is_integer), sl_is_integer⟩)
  (c_is_integer : PySem.W.codeIn K cd_is_integer ("is_integer" : Str) = true)
  (k_is_integer : PySem.W.keepIn K (.ref f_is_integer) = true)
  (a_Share_init : PySem.W.findIn K (.ref C_Share) ("__init__" : Str) = some (some (.ref f_Share_init)))
  (i_Share_init : PySem.W.isFn K (.ref f_Share_init) = true)
  (l_Share_init : K.lookup f_Share_init = some ⟨oc_Share_init, od_Share_init, .func (PySem.W.fnOf ("__init__" : Str) ("Share.__init__" : Str) (defArgs s_Share_init) (defBody s_Share_init) (defScope s_Share_init) (.ref T_Share_init) kv_Share_init dc_Share_init pm_Share_init an_Share_init cd_Share_init ct_Share_init), sl_Share_init⟩)
  (c_Share_init : PySem.W.codeIn K cd_Share_init ("Share.__init__" : Str) = true)
  (k_Share_init : PySem.W.keepIn K (.ref f_Share_init) = true)
  (lt_Share_init : K.lookup T_Share_init = some o_Share_init)
  (ld_Share_init : o_Share_init.data = .seq (([.int (1) q_Share_init_0] : List Value).toArray) n_Share_init)
  (a__law_int : PySem.W.nsIn K mainGlobals ("_law_int" : Str) = some (some (.ref f__law_int)))
  (l__law_int : K.lookup f__law_int = some ⟨oc__law_int, od__law_int, .func (PySem.W.fnOf ("_law_int" : Str) ("_law_int" : Str) (defArgs s__law_int) (defBody s__law_int) (defScope s__law_int) .none kv__law_int dc__law_int pm__law_int an__law_int cd__law_int ct__law_int), sl__law_int⟩)
  (c__law_int : PySem.W.codeIn K cd__law_int ("_law_int" : Str) = true)
  (k__law_int : PySem.W.keepIn K (.ref f__law_int) = true)
  (a__law_floor : PySem.W.nsIn K mainGlobals ("_law_floor" : Str) = some (some (.ref f__law_floor)))
  (l__law_floor : K.lookup f__law_floor = some ⟨oc__law_floor, od__law_floor, .func (PySem.W.fnOf ("_law_floor" : Str) ("_law_floor" : Str) (defArgs s__law_floor) (defBody s__law_floor) (defScope s__law_floor) .none kv__law_floor dc__law_floor pm__law_floor an__law_floor cd__law_floor ct__law_floor), sl__law_floor⟩)
  (c__law_floor : PySem.W.codeIn K cd__law_floor ("_law_floor" : Str) = true)
  (k__law_floor : PySem.W.keepIn K (.ref f__law_floor) = true)
  (a__law_gcd : PySem.W.nsIn K mainGlobals ("_law_gcd" : Str) = some (some (.ref f__law_gcd)))
  (l__law_gcd : K.lookup f__law_gcd = some ⟨oc__law_gcd, od__law_gcd, .func (PySem.W.fnOf ("_law_gcd" : Str) ("_law_gcd" : Str) (defArgs s__law_gcd) (defBody s__law_gcd) (defScope s__law_gcd) .none kv__law_gcd dc__law_gcd pm__law_gcd an__law_gcd cd__law_gcd ct__law_gcd), sl__law_gcd⟩)
  (c__law_gcd : PySem.W.codeIn K cd__law_gcd ("_law_gcd" : Str) = true)
  (k__law_gcd : PySem.W.keepIn K (.ref f__law_gcd) = true)
  (a__law_is : PySem.W.nsIn K mainGlobals ("_law_is" : Str) = some (some (.ref f__law_is)))
  (l__law_is : K.lookup f__law_is = some ⟨oc__law_is, od__law_is, .func (PySem.W.fnOf ("_law_is" : Str) ("_law_is" : Str) (defArgs s__law_is) (defBody s__law_is) (defScope s__law_is) .none kv__law_is dc__law_is pm__law_is an__law_is cd__law_is ct__law_is), sl__law_is⟩)
  (c__law_is : PySem.W.codeIn K cd__law_is ("_law_is" : Str) = true)
  (k__law_is : PySem.W.keepIn K (.ref f__law_is) = true)
  (a_parts_of : PySem.W.nsIn K mainGlobals ("parts_of" : Str) = some (some (.ref f_parts_of)))
  (l_parts_of : K.lookup f_parts_of = some ⟨oc_parts_of, od_parts_of, .func (PySem.W.fnOf ("parts_of" : Str) ("parts_of" : Str) (defArgs s_parts_of) (defBody s_parts_of) (defScope s_parts_of) .none kv_parts_of dc_parts_of pm_parts_of an_parts_of cd_parts_of ct_parts_of), sl_parts_of⟩)
  (c_parts_of : PySem.W.codeIn K cd_parts_of ("parts_of" : Str) = true)
  (k_parts_of : PySem.W.keepIn K (.ref f_parts_of) = true)
  (a_floor_of : PySem.W.nsIn K mainGlobals ("floor_of" : Str) = some (some (.ref f_floor_of)))
  (l_floor_of : K.lookup f_floor_of = some ⟨oc_floor_of, od_floor_of, .func (PySem.W.fnOf ("floor_of" : Str) ("floor_of" : Str) (defArgs s_floor_of) (defBody s_floor_of) (defScope s_floor_of) .none kv_floor_of dc_floor_of pm_floor_of an_floor_of cd_floor_of ct_floor_of), sl_floor_of⟩)
  (c_floor_of : PySem.W.codeIn K cd_floor_of ("floor_of" : Str) = true)
  (k_floor_of : PySem.W.keepIn K (.ref f_floor_of) = true)
  (a_is_number : PySem.W.nsIn K mainGlobals ("is_number" : Str) = some (some (.ref f_is_number)))
  (l_is_number : K.lookup f_is_number = some ⟨oc_is_number, od_is_number, .func (PySem.W.fnOf ("is_number" : Str) ("is_number" : Str) (defArgs s_is_number) (defBody s_is_number) (defScope s_is_number) .none kv_is_number dc_is_number pm_is_number an_is_number cd_is_number ct_is_number), sl_is_number⟩)
  (c_is_number : PySem.W.codeIn K cd_is_number ("is_number" : Str) = true)
  (k_is_number : PySem.W.keepIn K (.ref f_is_number) = true)
  (a_Share___floordiv__ : PySem.W.findIn K (.ref C_Share) ("__floordiv__" : Str) = some (some (.ref f_Share___floordiv__)))
  (i_Share___floordiv__ : PySem.W.isFn K (.ref f_Share___floordiv__) = true)
  (l_Share___floordiv__ : K.lookup f_Share___floordiv__ = some ⟨oc_Share___floordiv__, od_Share___floordiv__, .func (PySem.W.fnOf ("__floordiv__" : Str) ("Share.__floordiv__" : Str) (defArgs s_Share___floordiv__) (defBody s_Share___floordiv__) (defScope s_Share___floordiv__) .none kv_Share___floordiv__ dc_Share___floordiv__ pm_Share___floordiv__ an_Share___floordiv__ cd_Share___floordiv__ ct_Share___floordiv__), sl_Share___floordiv__⟩)
  (c_Share___floordiv__ : PySem.W.codeIn K cd_Share___floordiv__ ("Share.__floordiv__" : Str) = true)
  (k_Share___floordiv__ : PySem.W.keepIn K (.ref f_Share___floordiv__) = true)
  (a_Share___rfloordiv__ : PySem.W.findIn K (.ref C_Share) ("__rfloordiv__" : Str) = some (some (.ref f_Share___rfloordiv__)))
  (i_Share___rfloordiv__ : PySem.W.isFn K (.ref f_Share___rfloordiv__) = true)
  (l_Share___rfloordiv__ : K.lookup f_Share___rfloordiv__ = some ⟨oc_Share___rfloordiv__, od_Share___rfloordiv__, .func (PySem.W.fnOf ("__rfloordiv__" : Str) ("Share.__rfloordiv__" : Str) (defArgs s_Share___rfloordiv__) (defBody s_Share___rfloordiv__) (defScope s_Share___rfloordiv__) .none kv_Share___rfloordiv__ dc_Share___rfloordiv__ pm_Share___rfloordiv__ an_Share___rfloordiv__ cd_Share___rfloordiv__ ct_Share___rfloordiv__), sl_Share___rfloordiv__⟩)
  (c_Share___rfloordiv__ : PySem.W.codeIn K cd_Share___rfloordiv__ ("Share.__rfloordiv__" : Str) = true)
  (k_Share___rfloordiv__ : PySem.W.keepIn K (.ref f_Share___rfloordiv__) = true)
  (a_Share_over : PySem.W.findIn K (.ref C_Share) ("over" : Str) = some (some (.ref f_Share_over)))
  (i_Share_over : PySem.W.isFn K (.ref f_Share_over) = true)
  (l_Share_over : K.lookup f_Share_over = some ⟨oc_Share_over, od_Share_over, .func (PySem.W.fnOf ("over" : Str) ("Share.over" : Str) (defArgs s_Share_over) (defBody s_Share_over) (defScope s_Share_over) .none kv_Share_over dc_Share_over pm_Share_over an_Share_over cd_Share_over ct_Share_over), sl_Share_over⟩)
  (c_Share_over : PySem.W.codeIn K cd_Share_over ("Share.over" : Str) = true)
  (k_Share_over : PySem.W.keepIn K (.ref f_Share_over) = true)
  (a__law_refused : PySem.W.nsIn K mainGlobals ("_law_refused" : Str) = some (some (.ref f__law_refused)))
  (l__law_refused : K.lookup f__law_refused = some ⟨oc__law_refused, od__law_refused, .func (PySem.W.fnOf ("_law_refused" : Str) ("_law_refused" : Str) (defArgs s__law_refused) (defBody s__law_refused) (defScope s__law_refused) .none kv__law_refused dc__law_refused pm__law_refused an__law_refused cd__law_refused ct__law_refused), sl__law_refused⟩)
  (c__law_refused : PySem.W.codeIn K cd__law_refused ("_law_refused" : Str) = true)
  (k__law_refused : PySem.W.keepIn K (.ref f__law_refused) = true)
  (a_Share_floor : PySem.W.findIn K (.ref C_Share) ("floor" : Str) = some (some (.ref f_Share_floor)))
  (i_Share_floor : PySem.W.isFn K (.ref f_Share_floor) = true)
  (l_Share_floor : K.lookup f_Share_floor = some ⟨oc_Share_floor, od_Share_floor, .func (PySem.W.fnOf ("floor" : Str) ("Share.floor" : Str) (defArgs s_Share_floor) (defBody s_Share_floor) (defScope s_Share_floor) .none kv_Share_floor dc_Share_floor pm_Share_floor an_Share_floor cd_Share_floor ct_Share_floor), sl_Share_floor⟩)
  (c_Share_floor : PySem.W.codeIn K cd_Share_floor ("Share.floor" : Str) = true)
  (k_Share_floor : PySem.W.keepIn K (.ref f_Share_floor) = true)
  (a_law : PySem.W.nsIn K mainGlobals ("law" : Str) = some (some (.ref f_law)))
  (l_law : K.lookup f_law = some ⟨oc_law, od_law, .func (PySem.W.fnOf ("law" : Str) ("law" : Str) (defArgs s_law) (defBody s_law) (defScope s_law) .none kv_law dc_law pm_law an_law cd_law ct_law), sl_law⟩)
  (c_law : PySem.W.codeIn K cd_law ("law" : Str) = true)
  (k_law : PySem.W.keepIn K (.ref f_law) = true)
  (sf_Share : PySem.W.selfFirst K C_Share = true)
  (pg_Share : PySem.W.plainGet K C_Share Str.empty = true)
  (hd_Share : PySem.W.hasDictIn K C_Share = true)
  (po_Share : PySem.W.plainOver K C_Share = true)
  (sa_Share : PySem.W.findIn K (.ref C_Share) "__setattr__" = some (some (.builtin "object.__setattr__")))
  (mk_Share : PySem.W.makesIn K C_Share = true)
  (kk_Share : PySem.W.keepIn K (.ref C_Share) = true)
  (z_len : PySem.W.nsIn K mainGlobals ("len" : Str) = some none)
  (z_abs : PySem.W.nsIn K mainGlobals ("abs" : Str) = some none)
  (z_int : PySem.W.nsIn K mainGlobals ("int" : Str) = some none)
  (z_isinstance : PySem.W.nsIn K mainGlobals ("isinstance" : Str) = some none)
  (z_bool : PySem.W.nsIn K mainGlobals ("bool" : Str) = some none)
  (zb_gcd : PySem.W.nsIn K mainGlobals "gcd" = some (some (.builtin "math.gcd")))
  (na_Share_top : PySem.W.findIn K (.ref C_Share) ("top" : Str) = some none)
  (na_Share_bottom : PySem.W.findIn K (.ref C_Share) ("bottom" : Str) = some none)
  (z_range : PySem.W.nsIn K mainGlobals ("range" : Str) = some none)
  (z_str : PySem.W.nsIn K mainGlobals ("str" : Str) = some none)
  (ex_BadShare : PySem.W.subIn K (.ref C_BadShare) (.type "BaseException") = some true)
  (ty_BadShare : PySem.W.typeIn K (.ref C_BadShare) = some (.type "type"))
  (xh_BadShare : PySem.W.hasDictIn K C_BadShare = true)
  (ex_NoShare : PySem.W.subIn K (.ref C_NoShare) (.type "BaseException") = some true)
  (ty_NoShare : PySem.W.typeIn K (.ref C_NoShare) = some (.type "type"))
  (xh_NoShare : PySem.W.hasDictIn K C_NoShare = true)
  (xl_BadShare : K.lookup C_BadShare = some (excClassObj nm_BadShare_init q_BadShare_init C_BadShare N_BadShare_init bs_BadShare_init bm_BadShare_init true sn_BadShare_init su_BadShare_init ab_BadShare_init co_BadShare_init dd_BadShare_init k0_BadShare_init k1_BadShare_init k2_BadShare_init k3_BadShare_init k5_BadShare_init "ValueError.__new__"))
  (xr_BadShare : PySem.HandSPX.refsVE bm_BadShare_init = true)
  (xs_BadShare : PySem.W.findIn K (.ref C_BadShare) "__setattr__" = some (some (.builtin "object.__setattr__")))
  (xi_BadShare : PySem.W.findIn K (.ref C_BadShare) "__init__" = some (some (.ref f_BadShare_init)))
  (xt_BadShare : PySem.W.typeIn K (.ref f_BadShare_init) = some (.type "function"))
  (xk_BadShare : PySem.W.keepIn K (.ref C_BadShare) = true)
  (xe_BadShare : PySem.W.excInitIn K C_BadShare DX.veTail "ValueError.__new__" = true)
  (xu_BadShare : PySem.W.ks_superIn K C_BadShare C_BadShare "__init__" = some (some (.builtin "ValueError.__init__")))
  (xv_BadShare : PySem.W.subIn K (.ref C_BadShare) (.type "ValueError") = some true)
  (xm_BadShare : PySem.W.mroIn K C_BadShare (.ref C_BadShare) = some true)
  (xp_BadShare : PySem.W.findIn K (.ref C_BadShare) ("part" : Str) = some none)
  (xc_BadShare : K.lookup f_BadShare_init = some ⟨oc_BadShare_init, od_BadShare_init, .func (PySem.W.ksFn "__init__" ("BadShare.__init__" : Str) (defArgs s_BadShare_init) (defBody s_BadShare_init) (defScope s_BadShare_init) .none .none dc_BadShare_init pm_BadShare_init an_BadShare_init (.ref da_BadShare_init) ct_BadShare_init cc_BadShare_init), sl_BadShare_init⟩)
  (xd_BadShare : PySem.W.codeIn K (.ref da_BadShare_init) ("BadShare.__init__" : Str) = true)
  (xo_BadShare : K.lookup da_BadShare_init = some ⟨e1_BadShare_init, e2_BadShare_init, .fields vs_BadShare_init, e3_BadShare_init⟩)
  (xq_BadShare : vs_BadShare_init[2]? = some (.str fi_BadShare_init tf_BadShare_init))
  (xw_BadShare : ((pgm.main.file : Str) == fi_BadShare_init) = true)
  (xz_BadShare : K.lookup cc_BadShare_init = some ⟨g1_BadShare_init, g2_BadShare_init, .cell (some (.ref C_BadShare)), g3_BadShare_init⟩)
  (z_super : PySem.W.nsIn K mainGlobals "super" = some none)
  (zt_any : PySem.W.nsIn K cStatics "thirdparty.any" = some none)
  (xl_NoShare : K.lookup C_NoShare = some (excClassObj nm_NoShare_init q_NoShare_init C_NoShare N_NoShare_init bs_NoShare_init bm_NoShare_init true sn_NoShare_init su_NoShare_init ab_NoShare_init co_NoShare_init dd_NoShare_init k0_NoShare_init k1_NoShare_init k2_NoShare_init k3_NoShare_init k5_NoShare_init "ValueError.__new__"))
  (xr_NoShare : PySem.HandSPX.refsVE bm_NoShare_init = true)
  (xs_NoShare : PySem.W.findIn K (.ref C_NoShare) "__setattr__" = some (some (.builtin "object.__setattr__")))
  (xi_NoShare : PySem.W.findIn K (.ref C_NoShare) "__init__" = some (some (.ref f_NoShare_init)))
  (xt_NoShare : PySem.W.typeIn K (.ref f_NoShare_init) = some (.type "function"))
  (xk_NoShare : PySem.W.keepIn K (.ref C_NoShare) = true)
  (xe_NoShare : PySem.W.excInitIn K C_NoShare DX.veTail "ValueError.__new__" = true)
  (xu_NoShare : PySem.W.ks_superIn K C_NoShare C_NoShare "__init__" = some (some (.builtin "ValueError.__init__")))
  (xv_NoShare : PySem.W.subIn K (.ref C_NoShare) (.type "ValueError") = some true)
  (xm_NoShare : PySem.W.mroIn K C_NoShare (.ref C_NoShare) = some true)
  (xp_NoShare : PySem.W.findIn K (.ref C_NoShare) ("zz" : Str) = some none)
  (xc_NoShare : K.lookup f_NoShare_init = some ⟨oc_NoShare_init, od_NoShare_init, .func (PySem.W.ksFn "__init__" ("NoShare.__init__" : Str) (defArgs s_NoShare_init) (defBody s_NoShare_init) (defScope s_NoShare_init) .none .none dc_NoShare_init pm_NoShare_init an_NoShare_init (.ref da_NoShare_init) ct_NoShare_init cc_NoShare_init), sl_NoShare_init⟩)
  (xd_NoShare : PySem.W.codeIn K (.ref da_NoShare_init) ("NoShare.__init__" : Str) = true)
  (xo_NoShare : K.lookup da_NoShare_init = some ⟨e1_NoShare_init, e2_NoShare_init, .fields vs_NoShare_init, e3_NoShare_init⟩)
  (xq_NoShare : vs_NoShare_init[2]? = some (.str fi_NoShare_init tf_NoShare_init))
  (xw_NoShare : ((pgm.main.file : Str) == fi_NoShare_init) = true)
  (xz_NoShare : K.lookup cc_NoShare_init = some ⟨g1_NoShare_init, g2_NoShare_init, .cell (some (.ref C_NoShare)), g3_NoShare_init⟩)
  (sb_BadShare_NoShare : PySem.W.subIn K (.ref C_BadShare) (.ref C_NoShare) = some false)
  (sb_NoShare_NoShare : PySem.W.subIn K (.ref C_NoShare) (.ref C_NoShare) = some true)
  (qa_Share : PySem.W.findIn K (.ref C_Share) "__class__" = some (some (.builtin "object.__class__")))
  (qm_Share : PySem.W.mroIn K C_Share (.type "object") = some true)
  (qi_Share : PySem.W.isClsIn K C_Share = true)
  (qt_Share : PySem.W.typeIn K (.ref C_Share) = some (.type "type"))
  (qb_Share_bool : PySem.W.mroIn K C_Share (.type "bool") = some false)
  (qb_Share_int : PySem.W.mroIn K C_Share (.type "int") = some false)
  (qb_Share_str : PySem.W.mroIn K C_Share (.type "str") = some false)
  (qb_Share_tuple : PySem.W.mroIn K C_Share (.type "tuple") = some false)
  (qb_Share_list : PySem.W.mroIn K C_Share (.type "list") = some false)
  (qb_Share_dict : PySem.W.mroIn K C_Share (.type "dict") = some false)
  (qn : PySem.W.specialIn K (.builtin "object.__class__") "__get__" = some (some (.builtin "getset_descriptor.__get__")))
  (qk : PySem.W.takesIn K (.builtin "object.__class__") = some true) :
  ∃ (fd : FuncData), (∀ (s : Shared) (u : Value), BindsTo s fd ⟨[u], []⟩ [(("_law_script" : Str), u)]) ∧ ∀ base : Heap, K.In base → base.Ns mainGlobals mg → SmB base → ∃ kap, FnG pgm w K mg base (L2.CX pgm w) 6 fa fd [("_law_script" : Str)] (spD K kap 1 none m_law) := by
  have e := hfa.symm.trans (PySem.W.mg_of X G a_law)
  cases e
  refine ⟨PySem.W.fnOf "law" "law" (defArgs s_law) (defBody s_law) (defScope s_law) .none kv_law dc_law pm_law an_law cd_law ct_law, fun s v => .of_eq rfl, fun base _ _ hsmB => ⟨(kapL [C_LabelError, C_BadShare, C_NoShare, 0, 0, 0, 0, 0, 0, 0, 0, 0, 0, 0, 0, 0, 0, 0, 0, 0, 0, 0, 0, 0, C_Share, 0, 0, 0, 0, 0, 0, 0]), ?_⟩⟩
  have hkk : KitK K (kapL [C_LabelError, C_BadShare, C_NoShare, 0, 0, 0, 0, 0, 0, 0, 0, 0, 0, 0, 0, 0, 0, 0, 0, 0, 0, 0, 0, 0, C_Share, 0, 0, 0, 0, 0, 0, 0]) [24] := ⟨(more_in ⟨⟨pg_Share, hd_Share, po_Share, sa_Share⟩, qa_Share, qn, qk, qm_Share, qi_Share, qt_Share, (more_in qb_Share_bool (more_in qb_Share_int (more_in qb_Share_str (more_in qb_Share_tuple (more_in qb_Share_list (more_in qb_Share_dict none_in))))))⟩ none_in), (more_in (more_in (fun z => absurd rfl z) none_in) none_in)⟩
  have hmt_NoShare : ∀ c b, mtL [(1, false), (2, true)] c = some b → PySem.W.exmOne K (.ref ((kapL [C_LabelError, C_BadShare, C_NoShare, 0, 0, 0, 0, 0, 0, 0, 0, 0, 0, 0, 0, 0, 0, 0, 0, 0, 0, 0, 0, 0, C_Share, 0, 0, 0, 0, 0, 0, 0]) c)) (.ref C_NoShare) = some b := mt_of [(1, false), (2, true)] (more_in (PySem.W.exm_ref ex_NoShare xh_NoShare ty_NoShare sb_BadShare_NoShare) (more_in (PySem.W.exm_ref ex_NoShare xh_NoShare ty_NoShare sb_NoShare_NoShare) none_in))
  have T_BadShare : DX.XT pgm K C_BadShare f_BadShare_init da_BadShare_init cc_BadShare_init "__init__" ("BadShare.__init__" : Str) (defArgs s_BadShare_init) (defBody s_BadShare_init) (defScope s_BadShare_init) ("part" : Str) := { cls := ⟨_, _, _, _, _, _, _, _, _, _, _, _, _, _, _, xl_BadShare, xr_BadShare⟩, sa := xs_BadShare, iC := xi_BadShare, tC := xt_BadShare, kC := xk_BadShare, exC := ex_BadShare, tyC := ty_BadShare, ei := xe_BadShare, sI := xu_BadShare, ve := xv_BadShare, mC := xm_BadShare, any := zt_any, nos := z_super, noN := xp_BadShare, fn := ⟨_, _, _, _, _, _, _, xc_BadShare, xd_BadShare⟩, cdo := ⟨_, _, _, _, _, _, xo_BadShare, xq_BadShare, xw_BadShare⟩, cel := ⟨_, _, _, xz_BadShare⟩, top := rfl }
  have hx_BadShare : GX2 pgm w K mg (kapL [C_LabelError, C_BadShare, C_NoShare, 0, 0, 0, 0, 0, 0, 0, 0, 0, 0, 0, 0, 0, 0, 0, 0, 0, 0, 0, 0, 0, C_Share, 0, 0, 0, 0, 0, 0, 0]) ("BadShare" : Str) 1 ("part" : Str) okStr := ⟨C_BadShare, rfl, DX.x2_cat T_BadShare (by decide) rfl rfl rfl rfl rfl rfl rfl (by decide +kernel) (by decide) (by decide) rfl rfl (fun _ _ _ _ _ _ _ _ => .of_eq rfl) (fun _ => rfl) (fun _ => rfl) (fun _ => rfl) (fun _ => rfl), PySem.W.mg_of X G ac_BadShare⟩
  have T_NoShare : DX.XT pgm K C_NoShare f_NoShare_init da_NoShare_init cc_NoShare_init "__init__" ("NoShare.__init__" : Str) (defArgs s_NoShare_init) (defBody s_NoShare_init) (defScope s_NoShare_init) ("zz" : Str) := { cls := ⟨_, _, _, _, _, _, _, _, _, _, _, _, _, _, _, xl_NoShare, xr_NoShare⟩, sa := xs_NoShare, iC := xi_NoShare, tC := xt_NoShare, kC := xk_NoShare, exC := ex_NoShare, tyC := ty_NoShare, ei := xe_NoShare, sI := xu_NoShare, ve := xv_NoShare, mC := xm_NoShare, any := zt_any, nos := z_super, noN := xp_NoShare, fn := ⟨_, _, _, _, _, _, _, xc_NoShare, xd_NoShare⟩, cdo := ⟨_, _, _, _, _, _, xo_NoShare, xq_NoShare, xw_NoShare⟩, cel := ⟨_, _, _, xz_NoShare⟩, top := rfl }
  have hx_NoShare : GX1 pgm w K mg (kapL [C_LabelError, C_BadShare, C_NoShare, 0, 0, 0, 0, 0, 0, 0, 0, 0, 0, 0, 0, 0, 0, 0, 0, 0, 0, 0, 0, 0, C_Share, 0, 0, 0, 0, 0, 0, 0]) ("NoShare" : Str) 2 := ⟨C_NoShare, rfl, DX.x1_msg T_NoShare rfl rfl rfl rfl rfl rfl (by decide +kernel) rfl rfl (fun _ _ _ _ _ _ _ => .of_eq rfl) (fun _ => rfl) (fun _ => rfl) (fun _ => rfl), PySem.W.mg_of X G ac_NoShare⟩
  have F__law_start := fun_mk (st := s__law_start) l__law_start c__law_start k__law_start
  have O__law_start := ok__law_start (P := pgm) (w := w) (base := base) (mg := mg) (kap := (kapL [C_LabelError, C_BadShare, C_NoShare, 0, 0, 0, 0, 0, 0, 0, 0, 0, 0, 0, 0, 0, 0, 0, 0, 0, 0, 0, 0, 0, C_Share, 0, 0, 0, 0, 0, 0, 0])) F__law_start (n_len := (PySem.W.mg_none_of X G z_len)) (n_abs := (PySem.W.mg_none_of X G z_abs))
  have b__law_start := F__law_start.binds (ps := [("_law_script" : Str), ("_law_k" : Str)]) fun _ _ _ _ _ _ us hl => match us, hl with | [_, _], _ => rfl
  have hg__law_start : GF pgm w K mg base (kapL [C_LabelError, C_BadShare, C_NoShare, 0, 0, 0, 0, 0, 0, 0, 0, 0, 0, 0, 0, 0, 0, 0, 0, 0, 0, 0, 0, 0, C_Share, 0, 0, 0, 0, 0, 0, 0]) ("_law_start" : Str) 1 2 none m__law_start [] := ⟨.all O__law_start k__law_start b__law_start, PySem.W.mg_of X G a__law_start⟩
  have F__law_draw := fun_mk (st := s__law_draw) l__law_draw c__law_draw k__law_draw
  have O__law_draw := ok__law_draw (P := pgm) (w := w) (base := base) (mg := mg) (kap := (kapL [C_LabelError, C_BadShare, C_NoShare, 0, 0, 0, 0, 0, 0, 0, 0, 0, 0, 0, 0, 0, 0, 0, 0, 0, 0, 0, 0, 0, C_Share, 0, 0, 0, 0, 0, 0, 0])) F__law_draw (n_int := (PySem.W.mg_none_of X G z_int))
  have b__law_draw := F__law_draw.binds (ps := [("_law_state" : Str), ("_law_many" : Str)]) fun _ _ _ _ _ _ us hl => match us, hl with | [_, _], _ => rfl
  have hg__law_draw : GF pgm w K mg base (kapL [C_LabelError, C_BadShare, C_NoShare, 0, 0, 0, 0, 0, 0, 0, 0, 0, 0, 0, 0, 0, 0, 0, 0, 0, 0, 0, 0, 0, C_Share, 0, 0, 0, 0, 0, 0, 0]) ("_law_draw" : Str) 1 2 (some 0) m__law_draw [] := ⟨.all O__law_draw k__law_draw b__law_draw, PySem.W.mg_of X G a__law_draw⟩
  have F__law_number := fun_mk (st := s__law_number) l__law_number c__law_number k__law_number
  have O__law_number := ok__law_number (P := pgm) (w := w) (base := base) (mg := mg) (kap := (kapL [C_LabelError, C_BadShare, C_NoShare, 0, 0, 0, 0, 0, 0, 0, 0, 0, 0, 0, 0, 0, 0, 0, 0, 0, 0, 0, 0, 0, C_Share, 0, 0, 0, 0, 0, 0, 0])) F__law_number (g__law_draw := hg__law_draw) (n_int := (PySem.W.mg_none_of X G z_int))
  have b__law_number := F__law_number.binds (ps := [("_law_state" : Str), ("_law_limit" : Str)]) fun _ _ _ _ _ _ us hl => match us, hl with | [_, _], _ => rfl
  have hg__law_number : GF pgm w K mg base (kapL [C_LabelError, C_BadShare, C_NoShare, 0, 0, 0, 0, 0, 0, 0, 0, 0, 0, 0, 0, 0, 0, 0, 0, 0, 0, 0, 0, 0, C_Share, 0, 0, 0, 0, 0, 0, 0]) ("_law_number" : Str) 2 2 (some 0) m__law_number [] := ⟨.all O__law_number k__law_number b__law_number, PySem.W.mg_of X G a__law_number⟩
  have F_is_integer := fun_mk (st := s_is_integer) l_is_integer c_is_integer k_is_integer
  have O_is_integer := ok_is_integer (P := pgm) (w := w) (base := base) (mg := mg) (kap := (kapL [C_LabelError, C_BadShare, C_NoShare, 0, 0, 0, 0, 0, 0, 0, 0, 0, 0, 0, 0, 0, 0, 0, 0, 0, 0, 0, 0, 0, C_Share, 0, 0, 0, 0, 0, 0, 0])) F_is_integer (kk := hkk) (n_int := (PySem.W.mg_none_of X G z_int)) (n_isinstance := (PySem.W.mg_none_of X G z_isinstance)) (n_bool := (PySem.W.mg_none_of X G z_bool))
  have b_is_integer := F_is_integer.binds (ps := [("thing" : Str)]) fun _ _ _ _ _ _ us hl => match us, hl with | [_], _ => rfl
  have hg_is_integer : GF pgm w K mg base (kapL [C_LabelError, C_BadShare, C_NoShare, 0, 0, 0, 0, 0, 0, 0, 0, 0, 0, 0, 0, 0, 0, 0, 0, 0, 0, 0, 0, 0, C_Share, 0, 0, 0, 0, 0, 0, 0]) ("is_integer" : Str) 1 1 none m_is_integer [] := ⟨.all O_is_integer k_is_integer b_is_integer, PySem.W.mg_of X G a_is_integer⟩
  have F_Share_init : FunD K ("__init__" : Str) ("Share.__init__" : Str) (defArgs s_Share_init) (defBody s_Share_init) (defScope s_Share_init) [.int 1] [] f_Share_init _ := ⟨⟨_, _, _, _, _, _, _, _, _, _, rfl, l_Share_init, c_Share_init, .inr ⟨by simp, T_Share_init, o_Share_init, _, n_Share_init, rfl, lt_Share_init, ld_Share_init, (.cons ⟨_, rfl⟩ .nil)⟩, .inl rfl⟩, k_Share_init⟩
  have O_Share_init := ok_Share_init (P := pgm) (w := w) (base := base) (mg := mg) (kap := (kapL [C_LabelError, C_BadShare, C_NoShare, 0, 0, 0, 0, 0, 0, 0, 0, 0, 0, 0, 0, 0, 0, 0, 0, 0, 0, 0, 0, 0, C_Share, 0, 0, 0, 0, 0, 0, 0])) F_Share_init (g_is_integer := hg_is_integer) (x_BadShare := hx_BadShare) (b_gcd := (PySem.W.mg_of X G zb_gcd)) (a_Share_top := ⟨⟨pg_Share, hd_Share, po_Share, sa_Share⟩, na_Share_top⟩) (a_Share_bottom := ⟨⟨pg_Share, hd_Share, po_Share, sa_Share⟩, na_Share_bottom⟩)
  obtain ⟨ds_Share_init_0, hv_Share_init_0, hb_Share_init_0⟩ := FunD.binds1 (ps := [("self" : Str), ("top" : Str), ("bottom" : Str)]) F_Share_init 3 1 (by simp) (by rfl) (fun T kV doc pm an cdv ct us its h1 h2 => match us, h1, its, h2 with | [_, _, _], _, [_], _ => ⟨_, rfl, rfl⟩)
  have hmk_Share : GM pgm w K mg base (kapL [C_LabelError, C_BadShare, C_NoShare, 0, 0, 0, 0, 0, 0, 0, 0, 0, 0, 0, 0, 0, 0, 0, 0, 0, 0, 0, 0, 0, C_Share, 0, 0, 0, 0, 0, 0, 0]) ("Share" : Str) 24 2 3 m_Share_init [] := ⟨C_Share, rfl, ⟨f_Share_init, _, _, ds_Share_init_0, _, O_Share_init, k_Share_init, hb_Share_init_0, hv_Share_init_0, fun _ => .nil⟩, ⟨mk_Share, a_Share_init, i_Share_init, kk_Share⟩, PySem.W.mg_of X G ac_Share⟩
  obtain ⟨ds_Share_init_1, hv_Share_init_1, hb_Share_init_1⟩ := FunD.binds1 (ps := [("self" : Str), ("top" : Str), ("bottom" : Str)]) F_Share_init 2 0 (by simp) (by rfl) (fun T kV doc pm an cdv ct us its h1 h2 => match us, h1, its, h2 with | [_, _], _, [_], _ => ⟨_, rfl, rfl⟩)
  have hmk_Share_1 : GM pgm w K mg base (kapL [C_LabelError, C_BadShare, C_NoShare, 0, 0, 0, 0, 0, 0, 0, 0, 0, 0, 0, 0, 0, 0, 0, 0, 0, 0, 0, 0, 0, C_Share, 0, 0, 0, 0, 0, 0, 0]) ("Share" : Str) 24 2 3 m_Share_init [.int 1] := ⟨C_Share, rfl, ⟨f_Share_init, _, _, ds_Share_init_1, _, O_Share_init, k_Share_init, hb_Share_init_1, hv_Share_init_1, fun _ => (.cons (.int _) .nil)⟩, ⟨mk_Share, a_Share_init, i_Share_init, kk_Share⟩, PySem.W.mg_of X G ac_Share⟩
  have F__law_int := fun_mk (st := s__law_int) l__law_int c__law_int k__law_int
  have O__law_int := ok__law_int (P := pgm) (w := w) (base := base) (mg := mg) (kap := (kapL [C_LabelError, C_BadShare, C_NoShare, 0, 0, 0, 0, 0, 0, 0, 0, 0, 0, 0, 0, 0, 0, 0, 0, 0, 0, 0, 0, 0, C_Share, 0, 0, 0, 0, 0, 0, 0])) F__law_int (kk := hkk) (n_int := (PySem.W.mg_none_of X G z_int)) (n_isinstance := (PySem.W.mg_none_of X G z_isinstance)) (n_bool := (PySem.W.mg_none_of X G z_bool))
  have b__law_int := F__law_int.binds (ps := [("_law_thing" : Str)]) fun _ _ _ _ _ _ us hl => match us, hl with | [_], _ => rfl
  have hg__law_int : GF pgm w K mg base (kapL [C_LabelError, C_BadShare, C_NoShare, 0, 0, 0, 0, 0, 0, 0, 0, 0, 0, 0, 0, 0, 0, 0, 0, 0, 0, 0, 0, 0, C_Share, 0, 0, 0, 0, 0, 0, 0]) ("_law_int" : Str) 1 1 none m__law_int [] := ⟨.all O__law_int k__law_int b__law_int, PySem.W.mg_of X G a__law_int⟩
  have F__law_floor := fun_mk (st := s__law_floor) l__law_floor c__law_floor k__law_floor
  have O__law_floor := ok__law_floor (P := pgm) (w := w) (base := base) (mg := mg) (kap := (kapL [C_LabelError, C_BadShare, C_NoShare, 0, 0, 0, 0, 0, 0, 0, 0, 0, 0, 0, 0, 0, 0, 0, 0, 0, 0, 0, 0, 0, C_Share, 0, 0, 0, 0, 0, 0, 0])) F__law_floor (g__law_int := hg__law_int)
  have b__law_floor := F__law_floor.binds (ps := [("_law_told" : Str), ("_law_high" : Str), ("_law_low" : Str)]) fun _ _ _ _ _ _ us hl => match us, hl with | [_, _, _], _ => rfl
  have hg__law_floor : GF pgm w K mg base (kapL [C_LabelError, C_BadShare, C_NoShare, 0, 0, 0, 0, 0, 0, 0, 0, 0, 0, 0, 0, 0, 0, 0, 0, 0, 0, 0, 0, 0, C_Share, 0, 0, 0, 0, 0, 0, 0]) ("_law_floor" : Str) 2 3 none m__law_floor [] := ⟨.all O__law_floor k__law_floor b__law_floor, PySem.W.mg_of X G a__law_floor⟩
  have F__law_gcd := fun_mk (st := s__law_gcd) l__law_gcd c__law_gcd k__law_gcd
  have O__law_gcd := ok__law_gcd (P := pgm) (w := w) (base := base) (mg := mg) (kap := (kapL [C_LabelError, C_BadShare, C_NoShare, 0, 0, 0, 0, 0, 0, 0, 0, 0, 0, 0, 0, 0, 0, 0, 0, 0, 0, 0, 0, 0, C_Share, 0, 0, 0, 0, 0, 0, 0])) F__law_gcd (n_abs := (PySem.W.mg_none_of X G z_abs)) (n_range := (PySem.W.mg_none_of X G z_range)) (n_int := (PySem.W.mg_none_of X G z_int))
  have b__law_gcd := F__law_gcd.binds (ps := [("_law_one" : Str), ("_law_other" : Str)]) fun _ _ _ _ _ _ us hl => match us, hl with | [_, _], _ => rfl
  have hg__law_gcd : GF pgm w K mg base (kapL [C_LabelError, C_BadShare, C_NoShare, 0, 0, 0, 0, 0, 0, 0, 0, 0, 0, 0, 0, 0, 0, 0, 0, 0, 0, 0, 0, 0, C_Share, 0, 0, 0, 0, 0, 0, 0]) ("_law_gcd" : Str) 1 2 none m__law_gcd [] := ⟨.all O__law_gcd k__law_gcd b__law_gcd, PySem.W.mg_of X G a__law_gcd⟩
  have F__law_is := fun_mk (st := s__law_is) l__law_is c__law_is k__law_is
  have O__law_is := ok__law_is (P := pgm) (w := w) (base := base) (mg := mg) (kap := (kapL [C_LabelError, C_BadShare, C_NoShare, 0, 0, 0, 0, 0, 0, 0, 0, 0, 0, 0, 0, 0, 0, 0, 0, 0, 0, 0, 0, 0, C_Share, 0, 0, 0, 0, 0, 0, 0])) F__law_is (kk := hkk) (gc_Share := (PySem.W.mg_of X G ac_Share)) (kc_Share := rfl) (n_isinstance := (PySem.W.mg_none_of X G z_isinstance)) (g__law_int := hg__law_int) (a_Share_top := ⟨⟨pg_Share, hd_Share, po_Share, sa_Share⟩, na_Share_top⟩) (a_Share_bottom := ⟨⟨pg_Share, hd_Share, po_Share, sa_Share⟩, na_Share_bottom⟩) (g__law_gcd := hg__law_gcd)
  have b__law_is := F__law_is.binds (ps := [("_law_told" : Str), ("_law_high" : Str), ("_law_low" : Str)]) fun _ _ _ _ _ _ us hl => match us, hl with | [_, _, _], _ => rfl
  have hg__law_is : GF pgm w K mg base (kapL [C_LabelError, C_BadShare, C_NoShare, 0, 0, 0, 0, 0, 0, 0, 0, 0, 0, 0, 0, 0, 0, 0, 0, 0, 0, 0, 0, 0, C_Share, 0, 0, 0, 0, 0, 0, 0]) ("_law_is" : Str) 2 3 none m__law_is [] := ⟨.all O__law_is k__law_is b__law_is, PySem.W.mg_of X G a__law_is⟩
  have F_parts_of := fun_mk (st := s_parts_of) l_parts_of c_parts_of k_parts_of
  have O_parts_of := ok_parts_of (P := pgm) (w := w) (base := base) (mg := mg) (kap := (kapL [C_LabelError, C_BadShare, C_NoShare, 0, 0, 0, 0, 0, 0, 0, 0, 0, 0, 0, 0, 0, 0, 0, 0, 0, 0, 0, 0, 0, C_Share, 0, 0, 0, 0, 0, 0, 0])) F_parts_of (kk := hkk) (gc_Share := (PySem.W.mg_of X G ac_Share)) (kc_Share := rfl) (n_isinstance := (PySem.W.mg_none_of X G z_isinstance)) (a_Share_bottom := ⟨⟨pg_Share, hd_Share, po_Share, sa_Share⟩, na_Share_bottom⟩) (a_Share_top := ⟨⟨pg_Share, hd_Share, po_Share, sa_Share⟩, na_Share_top⟩)
  have b_parts_of := F_parts_of.binds (ps := [("thing" : Str)]) fun _ _ _ _ _ _ us hl => match us, hl with | [_], _ => rfl
  have hg_parts_of : GF pgm w K mg base (kapL [C_LabelError, C_BadShare, C_NoShare, 0, 0, 0, 0, 0, 0, 0, 0, 0, 0, 0, 0, 0, 0, 0, 0, 0, 0, 0, 0, 0, C_Share, 0, 0, 0, 0, 0, 0, 0]) ("parts_of" : Str) 1 1 none m_parts_of [] := ⟨.all O_parts_of k_parts_of b_parts_of, PySem.W.mg_of X G a_parts_of⟩
  have F_floor_of := fun_mk (st := s_floor_of) l_floor_of c_floor_of k_floor_of
  have O_floor_of := ok_floor_of (P := pgm) (w := w) (base := base) (mg := mg) (kap := (kapL [C_LabelError, C_BadShare, C_NoShare, 0, 0, 0, 0, 0, 0, 0, 0, 0, 0, 0, 0, 0, 0, 0, 0, 0, 0, 0, 0, 0, C_Share, 0, 0, 0, 0, 0, 0, 0])) F_floor_of (g_parts_of := hg_parts_of) (x_NoShare := hx_NoShare)
  have b_floor_of := F_floor_of.binds (ps := [("one" : Str), ("other" : Str)]) fun _ _ _ _ _ _ us hl => match us, hl with | [_, _], _ => rfl
  have hg_floor_of : GF pgm w K mg base (kapL [C_LabelError, C_BadShare, C_NoShare, 0, 0, 0, 0, 0, 0, 0, 0, 0, 0, 0, 0, 0, 0, 0, 0, 0, 0, 0, 0, 0, C_Share, 0, 0, 0, 0, 0, 0, 0]) ("floor_of" : Str) 2 2 none m_floor_of [] := ⟨.all O_floor_of k_floor_of b_floor_of, PySem.W.mg_of X G a_floor_of⟩
  have F_is_number := fun_mk (st := s_is_number) l_is_number c_is_number k_is_number
  have O_is_number := ok_is_number (P := pgm) (w := w) (base := base) (mg := mg) (kap := (kapL [C_LabelError, C_BadShare, C_NoShare, 0, 0, 0, 0, 0, 0, 0, 0, 0, 0, 0, 0, 0, 0, 0, 0, 0, 0, 0, 0, 0, C_Share, 0, 0, 0, 0, 0, 0, 0])) F_is_number (g_is_integer := hg_is_integer) (kk := hkk) (gc_Share := (PySem.W.mg_of X G ac_Share)) (kc_Share := rfl) (n_isinstance := (PySem.W.mg_none_of X G z_isinstance))
  have b_is_number := F_is_number.binds (ps := [("thing" : Str)]) fun _ _ _ _ _ _ us hl => match us, hl with | [_], _ => rfl
  have hg_is_number : GF pgm w K mg base (kapL [C_LabelError, C_BadShare, C_NoShare, 0, 0, 0, 0, 0, 0, 0, 0, 0, 0, 0, 0, 0, 0, 0, 0, 0, 0, 0, 0, 0, C_Share, 0, 0, 0, 0, 0, 0, 0]) ("is_number" : Str) 2 1 none m_is_number [] := ⟨.all O_is_number k_is_number b_is_number, PySem.W.mg_of X G a_is_number⟩
  have F_Share___floordiv__ := fun_mk (st := s_Share___floordiv__) l_Share___floordiv__ c_Share___floordiv__ k_Share___floordiv__
  have O_Share___floordiv__ := ok_Share___floordiv__ (P := pgm) (w := w) (base := base) (mg := mg) (kap := (kapL [C_LabelError, C_BadShare, C_NoShare, 0, 0, 0, 0, 0, 0, 0, 0, 0, 0, 0, 0, 0, 0, 0, 0, 0, 0, 0, 0, 0, C_Share, 0, 0, 0, 0, 0, 0, 0])) F_Share___floordiv__ (g_is_number := hg_is_number) (g_floor_of := hg_floor_of)
  have b_Share___floordiv__ := F_Share___floordiv__.binds (ps := [("self" : Str), ("other" : Str)]) fun _ _ _ _ _ _ us hl => match us, hl with | [_, _], _ => rfl
  have F_Share___rfloordiv__ := fun_mk (st := s_Share___rfloordiv__) l_Share___rfloordiv__ c_Share___rfloordiv__ k_Share___rfloordiv__
  have O_Share___rfloordiv__ := ok_Share___rfloordiv__ (P := pgm) (w := w) (base := base) (mg := mg) (kap := (kapL [C_LabelError, C_BadShare, C_NoShare, 0, 0, 0, 0, 0, 0, 0, 0, 0, 0, 0, 0, 0, 0, 0, 0, 0, 0, 0, 0, 0, C_Share, 0, 0, 0, 0, 0, 0, 0])) F_Share___rfloordiv__ (g_is_number := hg_is_number) (g_floor_of := hg_floor_of)
  have b_Share___rfloordiv__ := F_Share___rfloordiv__.binds (ps := [("self" : Str), ("other" : Str)]) fun _ _ _ _ _ _ us hl => match us, hl with | [_, _], _ => rfl
  have hob_Share_FloorDiv : OwnB pgm w K mg base (kapL [C_LabelError, C_BadShare, C_NoShare, 0, 0, 0, 0, 0, 0, 0, 0, 0, 0, 0, 0, 0, 0, 0, 0, 0, 0, 0, 0, 0, C_Share, 0, 0, 0, 0, 0, 0, 0]) .FloorDiv 3 24 m_Share___floordiv__ m_Share___rfloordiv__ := ⟨.all O_Share___floordiv__ k_Share___floordiv__ b_Share___floordiv__, .all O_Share___rfloordiv__ k_Share___rfloordiv__ b_Share___rfloordiv__, a_Share___floordiv__, i_Share___floordiv__, a_Share___rfloordiv__, i_Share___rfloordiv__, sf_Share, qb_Share_int⟩
  have F_Share_over := fun_mk (st := s_Share_over) l_Share_over c_Share_over k_Share_over
  have O_Share_over := ok_Share_over (P := pgm) (w := w) (base := base) (mg := mg) (kap := (kapL [C_LabelError, C_BadShare, C_NoShare, 0, 0, 0, 0, 0, 0, 0, 0, 0, 0, 0, 0, 0, 0, 0, 0, 0, 0, 0, 0, 0, C_Share, 0, 0, 0, 0, 0, 0, 0])) F_Share_over (g_is_number := hg_is_number) (x_NoShare := hx_NoShare) (g_parts_of := hg_parts_of) (mk_Share := hmk_Share) (a_Share_bottom := ⟨⟨pg_Share, hd_Share, po_Share, sa_Share⟩, na_Share_bottom⟩) (a_Share_top := ⟨⟨pg_Share, hd_Share, po_Share, sa_Share⟩, na_Share_top⟩)
  have b_Share_over := F_Share_over.binds (ps := [("self" : Str), ("other" : Str)]) fun _ _ _ _ _ _ us hl => match us, hl with | [_, _], _ => rfl
  have hgp_Share_over : GMp pgm w K mg base (kapL [C_LabelError, C_BadShare, C_NoShare, 0, 0, 0, 0, 0, 0, 0, 0, 0, 0, 0, 0, 0, 0, 0, 0, 0, 0, 0, 0, 0, C_Share, 0, 0, 0, 0, 0, 0, 0]) ("over" : Str) 24 4 2 none m_Share_over [] := ⟨.all O_Share_over k_Share_over b_Share_over, ⟨pg_Share, hd_Share, po_Share, sa_Share⟩, ⟨a_Share_over, i_Share_over, k_Share_over⟩⟩
  have F__law_refused := fun_mk (st := s__law_refused) l__law_refused c__law_refused k__law_refused
  have O__law_refused := ok__law_refused (P := pgm) (w := w) (base := base) (mg := mg) (kap := (kapL [C_LabelError, C_BadShare, C_NoShare, 0, 0, 0, 0, 0, 0, 0, 0, 0, 0, 0, 0, 0, 0, 0, 0, 0, 0, 0, 0, 0, C_Share, 0, 0, 0, 0, 0, 0, 0])) F__law_refused (ob_Share_FloorDiv := hob_Share_FloorDiv) (n_str := (PySem.W.mg_none_of X G z_str)) (gp_Share_over := hgp_Share_over) (gc_NoShare := (PySem.W.mg_of X G ac_NoShare)) (mt_NoShare := hmt_NoShare)
  have b__law_refused := F__law_refused.binds (ps := [("_law_one" : Str), ("_law_divisor" : Str), ("_law_way" : Str)]) fun _ _ _ _ _ _ us hl => match us, hl with | [_, _, _], _ => rfl
  have hg__law_refused : GF pgm w K mg base (kapL [C_LabelError, C_BadShare, C_NoShare, 0, 0, 0, 0, 0, 0, 0, 0, 0, 0, 0, 0, 0, 0, 0, 0, 0, 0, 0, 0, 0, C_Share, 0, 0, 0, 0, 0, 0, 0]) ("_law_refused" : Str) 5 3 none m__law_refused [] := ⟨.all O__law_refused k__law_refused b__law_refused, PySem.W.mg_of X G a__law_refused⟩
  have F_Share_floor := fun_mk (st := s_Share_floor) l_Share_floor c_Share_floor k_Share_floor
  have O_Share_floor := ok_Share_floor (P := pgm) (w := w) (base := base) (mg := mg) (kap := (kapL [C_LabelError, C_BadShare, C_NoShare, 0, 0, 0, 0, 0, 0, 0, 0, 0, 0, 0, 0, 0, 0, 0, 0, 0, 0, 0, 0, 0, C_Share, 0, 0, 0, 0, 0, 0, 0])) F_Share_floor (a_Share_top := ⟨⟨pg_Share, hd_Share, po_Share, sa_Share⟩, na_Share_top⟩) (a_Share_bottom := ⟨⟨pg_Share, hd_Share, po_Share, sa_Share⟩, na_Share_bottom⟩)
  have b_Share_floor := F_Share_floor.binds (ps := [("self" : Str)]) fun _ _ _ _ _ _ us hl => match us, hl with | [_], _ => rfl
  have hgp_Share_floor : GMp pgm w K mg base (kapL [C_LabelError, C_BadShare, C_NoShare, 0, 0, 0, 0, 0, 0, 0, 0, 0, 0, 0, 0, 0, 0, 0, 0, 0, 0, 0, 0, 0, C_Share, 0, 0, 0, 0, 0, 0, 0]) ("floor" : Str) 24 1 1 none m_Share_floor [] := ⟨.all O_Share_floor k_Share_floor b_Share_floor, ⟨pg_Share, hd_Share, po_Share, sa_Share⟩, ⟨a_Share_floor, i_Share_floor, k_Share_floor⟩⟩
  have F_law := fun_mk (st := s_law) l_law c_law k_law
  exact ok_law (P := pgm) (w := w) (base := base) (kap := (kapL [C_LabelError, C_BadShare, C_NoShare, 0, 0, 0, 0, 0, 0, 0, 0, 0, 0, 0, 0, 0, 0, 0, 0, 0, 0, 0, 0, 0, C_Share, 0, 0, 0, 0, 0, 0, 0])) F_law (n_range := (PySem.W.mg_none_of X G z_range)) (n_len := (PySem.W.mg_none_of X G z_len)) (g__law_start := hg__law_start) (g__law_draw := hg__law_draw) (g__law_number := hg__law_number) (n_abs := (PySem.W.mg_none_of X G z_abs)) (mk_Share := hmk_Share) (g__law_refused := hg__law_refused) (mk_Share_1 := hmk_Share_1) (g__law_floor := hg__law_floor) (ob_Share_FloorDiv := hob_Share_FloorDiv) (gp_Share_floor := hgp_Share_floor) (g__law_is := hg__law_is) (gp_Share_over := hgp_Share_over)
open PySem.Spec PyProof.Rows in
theorem walk {q : Program} {loose : List Str} {XP : (Str → Option Value) → Heap → Prop} {YP : World → Heap → Prop} {d : DefRec} {K : Params → PySem.W.Frag} (hp : ∀ ns : List Int, ns.length ≤ 63 → ∃ q, m_law [.scr (ns.map .int)] = .ret (.bl true) q) (hdf : d.params.defaults = []) (him : importsNone q = true)
    (hY : ∀ (w : World) (h : Heap), YP w h → (K w.params).In h)
    (F : ∀ (w : World) (mg : Str → Option Value) (fa : Addr) (h : Heap), (K w.params).In h → h.Ns mainGlobals mg → mg d.name = some (.ref fa) →
      ∃ fd : FuncData, (∀ (s : Shared) (u : Value), BindsTo s fd ⟨[u], []⟩ [(("_law_script" : Str), u)]) ∧ ∀ base : Heap, (K w.params).In base → base.Ns mainGlobals mg → SmB base → ∃ kap, FnG pgm w (K w.params) mg base (L2.CX pgm w) 6 fa fd [("_law_script" : Str)] (spD (K w.params) kap 1 none m_law)) :
    PySem.W.WalkO q loose XP YP (PySem.Challenge.rw_labelgaps_k03_share_quotients).row.toRowW d [] (fun f vs => PySem.call f vs) :=
  walkG_of (l := PySem.Challenge.rw_labelgaps_k03_share_quotients) (n := 63) (k := 6) (x := ("_law_script" : Str)) (CX := fun w => L2.CX pgm w) (sp := fun w => spLaw 63 (K w.params)) rfl (by decide) hdf ⟨⟨rfl, by decide, by decide⟩, rfl⟩ him hY
    (fun w mg fa h KX G hmg => by
      obtain ⟨fd, hb, hF⟩ := F w mg fa h KX G hmg
      refine ⟨fd, hb, fun base b1 b2 b3 => ?_⟩
      obtain ⟨kap, ok⟩ := hF base b1 b2 b3
      exact ok.imp (law_imp hp))
    (fun _ _ a ns hl _ hS => ⟨a, ns, rfl, hS, hl, fun _ => rfl⟩) fun w H s e s' z => cx_end H s e s' z
end Lw

set_option maxRecDepth 100000
set_option maxHeartbeats 4000000
set_option exponentiation.threshold 300
set_option autoImplicit false
namespace Lw
open DL L2
/-! ### draws -/
structure DS where
  a : Nat
  c : Nat
def stD (s : DS) : D := .lst [.int s.a, .int s.c]
def Ok (n : Nat) (s : DS) : Prop := s.c + n < 2 ^ 60
theorem Ok.mono {n m : Nat} {s : DS} (h : Ok n s) (l : m ≤ n) : Ok m s := by unfold Ok at *; omega
theorem h_drawL {n : Nat} (s : DS) (many : Int) (hs : Ok (n + 1) s) (hm : 0 < many) (hm2 : many < 2 ^ 190) :
    ∃ (r : Nat) (s' : DS), m__law_draw [stD s, .int many] = .ret (.int r) (some (stD s')) ∧ (r : Int) < many ∧ Ok n s' := by
  obtain ⟨a0, c0⟩ := s
  have h4 : cPow 10 18 = true := by decide
  have hc : c0 + (n + 1) < 2 ^ 60 := hs
  obtain ⟨a, ha⟩ : ∃ a : Int, (a0 : Int) = a := ⟨_, rfl⟩
  obtain ⟨c, hcc⟩ : ∃ c : Int, (c0 : Int) = c := ⟨_, rfl⟩
  have key : ∃ r a' : Int, m__law_draw [.lst [.int a, .int c], .int many] = .ret (.int r) (some (.lst [.int a', .int (c + 1)])) ∧ 0 ≤ r ∧ r < many ∧ 0 ≤ a' := by
    by_cases h : (1000000000000000000 : Int) ≤ a
    · have h1 : cDiv a many = true := cDiv_ok hm (by omega)
      have h2 : cMod a many = true := cMod_ok hm
      refine ⟨a % many, a / many, ?_, Int.emod_nonneg _ (by omega), Int.emod_lt_of_pos _ hm, Int.ediv_nonneg (by omega) (by omega)⟩
      simp [m__law_draw, DL.run, e__law_draw, h1, h2, h, h4]
    · obtain ⟨x1, e1⟩ : ∃ x, a + 104729 * (c + 1) + 1 = x := ⟨_, rfl⟩
      obtain ⟨x2, e2⟩ : ∃ x, x1 * 48271 % 2147483647 = x := ⟨_, rfl⟩
      obtain ⟨x3, e3⟩ : ∃ x, x2 * (x2 / 1009 + 69621) % 2147483647 = x := ⟨_, rfl⟩
      obtain ⟨x4, e4⟩ : ∃ x, x3 * (x3 / 2003 + 40692) % 2147483399 = x := ⟨_, rfl⟩
      have b1 : 0 ≤ x1 ∧ x1 < 2 ^ 100 := by omega
      have b2 : 0 ≤ x2 ∧ x2 < 2147483647 := by rw [← e2]; exact ⟨Int.emod_nonneg _ (by decide), Int.emod_lt_of_pos _ (by decide)⟩
      have b3 : 0 ≤ x3 ∧ x3 < 2147483647 := by rw [← e3]; exact ⟨Int.emod_nonneg _ (by decide), Int.emod_lt_of_pos _ (by decide)⟩
      have m1 : cMul 104729 (c + 1) = true := cMul_ok (by decide) (by omega)
      have m2 : cMul x1 48271 = true := cMul_ok (by omega) (by decide)
      have m3 : cMul x2 (x2 / 1009 + 69621) = true := cMul_ok (by omega) (by omega)
      have m4 : cMul x3 (x3 / 2003 + 40692) = true := cMul_ok (by omega) (by omega)
      have d1 : cMod (x1 * 48271) 2147483647 = true := cMod_ok (by decide)
      have d2 : cMod (x2 * (x2 / 1009 + 69621)) 2147483647 = true := cMod_ok (by decide)
      have d3 : cMod (x3 * (x3 / 2003 + 40692)) 2147483399 = true := cMod_ok (by decide)
      have d4 : cMod (x4 / 64) many = true := cMod_ok hm
      have f1 : cDiv x2 1009 = true := cDiv_ok (by decide) (by decide)
      have f2 : cDiv x3 2003 = true := cDiv_ok (by decide) (by decide)
      have f3 : cDiv x4 64 = true := cDiv_ok (by decide) (by decide)
      refine ⟨x4 / 64 % many, a, ?_, Int.emod_nonneg _ (by omega), Int.emod_lt_of_pos _ hm, by omega⟩
      simp [m__law_draw, DL.run, e__law_draw, h, h4, e1, e2, e3, e4, m1, m2, m3, m4, d1, d2, d3, d4, f1, f2, f3]
  obtain ⟨r, a', e, h0, h1, h2⟩ := key
  obtain ⟨r, rfl⟩ := Int.eq_ofNat_of_zero_le h0
  obtain ⟨a', rfl⟩ := Int.eq_ofNat_of_zero_le h2
  refine ⟨r, ⟨a', c0 + 1⟩, ?_, h1, by show c0 + 1 + n < 2 ^ 60; omega⟩
  have e5 : stD ⟨a0, c0⟩ = .lst [.int a, .int c] := by rw [← ha, ← hcc]; rfl
  have e6 : stD ⟨a', c0 + 1⟩ = .lst [.int a', .int (c + 1)] := by rw [← hcc]; rfl
  rw [e5, e6, e]
theorem h_draw {n : Nat} (s : DS) (many : Int) (hs : Ok (n + 1) s) (hm : 0 < many) (hm2 : many < 2 ^ 64) :
    ∃ (r : Nat) (s' : DS), m__law_draw [stD s, .int many] = .ret (.int r) (some (stD s')) ∧ (r : Int) < many ∧ Ok n s' := h_drawL s many hs hm (by omega)
theorem h_start (ns : List Int) (k : Nat) (j : Int) (hj : j = k) (hk : k < 2 ^ 30) : ∃ s, m__law_start [.scr (ns.map .int), .int j] = .retF (stD s) none ∧ Ok (2 ^ 50) s := by
  subst hj
  have m1 : cMul 1000 k = true := cMul_ok (by decide) (by omega)
  by_cases h : k < ns.length
  · have e1 : ((k : Int) < (ns.length : Int)) := by omega
    have e2 : atI (ns.map D.int) (k : Int) = some (.int ns[k]) := by rw [atI_n]; simp [h]
    refine ⟨⟨ns[k].natAbs, 1000 * k⟩, ?_, by show 1000 * k + 2 ^ 50 < 2 ^ 60; omega⟩
    have e3 : (if ns[k] < 0 then -ns[k] else ns[k]) = ((ns[k].natAbs : Nat) : Int) := by omega
    simp [m__law_start, DL.run, e__law_start, m1, e1, e2, stD, e3]
  · have e1 : ¬ ((k : Int) < (ns.length : Int)) := by omega
    refine ⟨⟨0, 1000 * k⟩, ?_, by show 1000 * k + 2 ^ 50 < 2 ^ 60; omega⟩
    simp [m__law_start, DL.run, e__law_start, m1, e1, stD]
/-! ### plain data -/
def Pl : D → Bool
  | .scr _ => false
  | .cls _ => false
  | .obj _ _ => false
  | _ => true
/-- plain, and the parts of a tuple, too -/
def Pl2 : D → Bool
  | .tup xs => xs.all Pl
  | d => Pl d
theorem Pl2.pl {d : D} (h : Pl2 d = true) : Pl d = true := by cases d <;> first | rfl | exact h
def isI : D → Bool
  | .int _ => true
  | _ => false
@[simp] theorem isI_int (i : Int) : isI (.int i) = true := rfl
@[simp] theorem Pl_int (i : Int) : Pl (.int i) = true := rfl
def rngD (d : D) (lo hi : Int) : Bool := match d with
  | .int i => decide (lo ≤ i) && decide (i ≤ hi)
  | _ => false
theorem rng_int {d : D} {lo hi : Int} (h : rngD d lo hi = true) : ∃ i, d = .int i ∧ lo ≤ i ∧ i ≤ hi := by
  cases d <;> first | (cases h; done) | skip
  rename_i i
  unfold rngD at h
  simp at h
  exact ⟨i, rfl, h.1, h.2⟩
@[simp] theorem rngD_int (i lo hi : Int) : rngD (.int i) lo hi = (decide (lo ≤ i) && decide (i ≤ hi)) := rfl
theorem isI_some {d : D} (h : isI d = true) : ∃ i, d = .int i := by cases d <;> first | (cases h; done) | exact ⟨_, rfl⟩
theorem h_int (d : D) (h : Pl d = true) : m__law_int [d] = .ret (.bl (isI d)) none := by
  cases d <;> first | (cases h; done) | simp [m__law_int, DL.run, e__law_int, isI]
@[simp] theorem h_intI (i : Int) : m__law_int [.int i] = .ret (.bl true) none := h_int (.int i) rfl
theorem p_integer (d : D) (h : Pl d = true) : m_is_integer [d] = .ret (.bl (isI d)) none := by
  cases d <;> first | (cases h; done) | simp [m_is_integer, DL.run, e_is_integer, isI]
theorem atI_some {α : Type} (l : List α) (r : Nat) (h1 : r < l.length) : atI l (r : Int) = some l[r] := by rw [atI_n]; simp [h1]
def oddL : List D := [.non, .bl true, .bl false, .str "0", .str "", .lst [], .lst [.int 0], .dk [], .dk [(Sum.inl 0, .int 1)], .tup [], .tup [.int 0], .tup [.int 0, .int 0], .tup [.int 1, .int 0], .tup [.bl true], .tup [.str "0"], .tup [.lst []], .tup [.tup []], .tup [.non, .int 0],
  .int (-1), .int (-2), .int 9, .int 1000000000000000000000000000000, .int (-1000000000000000000000000000000), .str "in", .tup [.str "in", .int 0], .tup [.str "out", .int 0], .lst [.tup [.str "in", .int 0]], .tup [.int 0, .int 1, .int 2, .int 3, .int 4, .int 5, .int 6, .int 7, .int 8]]
theorem odd_all {p : D → Bool} (h : oddL.all p = true) {d : D} (hd : d ∈ oddL) : p d = true := List.all_eq_true.mp h d hd
theorem odd_pl2 {d : D} (hd : d ∈ oddL) : Pl2 d = true := odd_all (by decide +kernel) hd
def okR (d : D) : Bool := match reprD d with
  | some t => PySem.SeqAt.shaped (.str t)
  | none => false
theorem okR_ne {d : D} (h : okR d = true) : ∃ t, reprD d = some t ∧ fNe (.str t) (.str t) = some (.bl false) ∧ fEq (.str t) (.str t) = some (.bl true) := by
  unfold okR at h
  cases e : reprD d with
  | none => rw [e] at h; cases h
  | some t => rw [e] at h; exact ⟨t, rfl, fNe_self _ h, fEq_self _ h⟩
theorem odd_okR {d : D} (hd : d ∈ oddL) : okR d = true := odd_all (by decide +kernel) hd
/-! ### rooms -/
structure Rm where
  L : Nat
  M : Nat
  C : Nat
  S : Nat
structure Rm.Ok (R : Rm) : Prop where
  l1 : 1 ≤ R.L
  l8 : R.L ≤ 8
  m1 : 1 ≤ R.M
  ml : R.M ≤ R.L
  c3 : R.C ≤ 3
  s3 : R.S ≤ 3
  cs : R.C + R.S ≠ 0
def roomD (R : Rm) : D := .obj 25 [("labels", .int R.L), ("most", .int R.M), ("change", .int R.C), ("step", .int R.S)]
def valsD (R : Rm) : D := .lst [.int R.L, .int R.M, .int R.C, .int R.S]
@[simp] theorem room_L (cl : List Nat) (R : Rm) (h : cl.contains 25 = true) : fFld cl "labels" (roomD R) = some (.int R.L) := by simp [roomD]; simpa using h
@[simp] theorem room_M (cl : List Nat) (R : Rm) (h : cl.contains 25 = true) : fFld cl "most" (roomD R) = some (.int R.M) := by simp [roomD]; simpa using h
@[simp] theorem room_C (cl : List Nat) (R : Rm) (h : cl.contains 25 = true) : fFld cl "change" (roomD R) = some (.int R.C) := by simp [roomD]; simpa using h
@[simp] theorem room_S (cl : List Nat) (R : Rm) (h : cl.contains 25 = true) : fFld cl "step" (roomD R) = some (.int R.S) := by simp [roomD]; simpa using h
@[simp] theorem room_T (R : Rm) : tyOf (roomD R) = some (.o 25) := rfl
@[simp] theorem vals_L (R : Rm) : fIx (valsD R) (.int 0) = some (.int R.L) := by simp [valsD]
@[simp] theorem vals_M (R : Rm) : fIx (valsD R) (.int 1) = some (.int R.M) := by simp [valsD]
@[simp] theorem vals_C (R : Rm) : fIx (valsD R) (.int 2) = some (.int R.C) := by simp [valsD]
@[simp] theorem vals_S (R : Rm) : fIx (valsD R) (.int 3) = some (.int R.S) := by simp [valsD]
end Lw

set_option maxRecDepth 100000
set_option maxHeartbeats 4000000
set_option exponentiation.threshold 300
set_option autoImplicit false
namespace Lw
open DL L2
theorem h_numberL {n : Nat} (s : DS) (L : Int) (hL : L = 10 ^ 50) (hs : Ok (n + 3) s) : ∃ (x : Int) (s' : DS), m__law_number [stD s, .int L] = .ret (.int x) (some (stD s')) ∧ x.natAbs < 2 ^ 170 ∧ Ok n s' := by
  have h18 : cPow 10 18 = true := by decide
  have h7 : cPow 10 7 = true := by decide
  have st0 : fIx (stD s) (.int 0) = some (.int s.a) := by simp [stD]
  by_cases hb : (1000000000000000000 : Int) ≤ s.a
  · obtain ⟨r, s1, e1, k1, o1⟩ := h_drawL (n := n + 2) s (2 * L + 1) hs (by rw [hL]; decide) (by rw [hL]; decide)
    have m1 : cMul 2 L = true := by rw [hL]; exact cMul_ok (by decide) (by decide)
    refine ⟨(r : Int) - L, s1, ?_, by omega, o1.mono (by omega)⟩
    simp [m__law_number, DL.run, e__law_number, st0, h18, hb, m1, e1]
  · obtain ⟨r1, s1, e1, k1, o1⟩ := h_draw (n := n + 2) s 4 hs (by decide) (by decide)
    obtain ⟨r2, s2, e2, k2, o2⟩ := h_draw (n := n + 1) s1 25 o1 (by decide) (by decide)
    obtain ⟨r3, s3, e3, k3, o3⟩ := h_draw (n := n) s2 10000000 o2 (by decide) (by decide)
    obtain ⟨q, hq⟩ : ∃ q : Nat, (r3 + 1) ^ 5 = q := ⟨_, rfl⟩
    have hq2 : q ≤ 10000000 ^ 5 := by rw [← hq]; exact Nat.pow_le_pow_left (by omega) 5
    have hqi : ((r3 : Int) + 1) ^ 5 = (q : Int) := by rw [← hq]; push_cast; rfl
    have c5 : cPow ((r3 : Int) + 1) 5 = true := by
      unfold cPow
      rw [decide_eq_true (by decide), decide_eq_true (by decide), decide_eq_true (by omega)]
      rfl
    have cm : cMod (r3 : Int) 1000 = true := cMod_ok (by decide)
    have m1 : cMul ((r2 : Int) - 12) ((r3 : Int) + 1) = true := cMul_ok (by omega) (by omega)
    have m2 : cMul ((r2 : Int) - 12) (q : Int) = true := cMul_ok (by omega) (by omega)
    by_cases c0 : r1 = 0
    · subst c0
      exact ⟨(r2 : Int) - 12, s3, by simp [m__law_number, DL.run, e__law_number, st0, h18, h7, hb, e1, e2, e3], by omega, o3⟩
    by_cases c1 : r1 = 1
    · subst c1
      exact ⟨(r3 : Int) % 1000 - 500, s3, by simp [m__law_number, DL.run, e__law_number, st0, h18, h7, hb, e1, e2, e3, cm], by omega, o3⟩
    have d0 : ¬ (r1 : Int) = 0 := by omega
    have d1 : ¬ (r1 : Int) = 1 := by omega
    by_cases c2 : r1 = 2
    · subst c2
      refine ⟨((r2 : Int) - 12) * ((r3 : Int) + 1), s3, by simp [m__law_number, DL.run, e__law_number, st0, h18, h7, hb, e1, e2, e3, m1], ?_, o3⟩
      rw [Int.natAbs_mul]
      have : ((r2 : Int) - 12).natAbs * ((r3 : Int) + 1).natAbs ≤ 12 * 10000000 := Nat.mul_le_mul (by omega) (by omega)
      omega
    · have d2 : ¬ (r1 : Int) = 2 := by omega
      refine ⟨((r2 : Int) - 12) * (q : Int) + r3, s3, by simp [m__law_number, DL.run, e__law_number, st0, h18, h7, hb, e1, e2, e3, c0, c1, c2, d0, d1, d2, c5, hqi, m2], ?_, o3⟩
      have h1 : (((r2 : Int) - 12) * (q : Int)).natAbs ≤ 12 * 10000000 ^ 5 := by
        rw [Int.natAbs_mul]
        exact Nat.mul_le_mul (by omega) (by omega)
      omega
theorem h_number {n : Nat} (s : DS) (hs : Ok (n + 3) s) : ∃ (x : Int) (s' : DS), m__law_number [stD s, .int 100000000000000000000000000000000000000000000000000] = .ret (.int x) (some (stD s')) ∧ x.natAbs < 2 ^ 170 ∧ Ok n s' := h_numberL s _ (by decide) hs
/-! ### gcd -/
theorem gcd_step (a b : Nat) : Nat.gcd a b = Nat.gcd b (a % b) := by rw [Nat.gcd_comm a b, Nat.gcd_rec b a, Nat.gcd_comm]
theorem mod_half {b r m : Nat} (hr : 0 < r) (hrb : r < b) (hb : b < 2 ^ (m + 1)) : b % r < 2 ^ m := by
  rw [Nat.pow_succ] at hb
  have h1 := Nat.mod_lt b hr
  by_cases h : r ≤ 2 ^ m
  · omega
  · have e : b % r = b - r := by
      rw [Nat.mod_eq_sub_mod (by omega), Nat.mod_eq_of_lt (by omega)]
    omega
theorem gl_b0 (a : Nat) (d : D) : lb__law_gcd_1 [.va (.int a), .va (.int 0), .va d, .no] = .brk [.va (.int a), .va (.int 0), .no, .no] := by simp [lb__law_gcd_1]
theorem gl_b1 (a b : Nat) (hb : 0 < b) (d : D) : lb__law_gcd_1 [.va (.int a), .va (.int b), .va d, .no] = .nx [.va (.int b), .va (.int ((a % b : Nat) : Int)), .no, .no] := by
  have h : ¬ (b : Int) = 0 := by omega
  have h' : ¬ b = 0 := by omega
  have c : cMod (a : Int) (b : Int) = true := cMod_ok (by omega)
  simp [lb__law_gcd_1, h, h', c]
theorem gl_loop : ∀ (m : Nat) (l : List D) (a b : Nat), b < 2 ^ m → 2 * m + 1 ≤ l.length → vLoop (tName 2) lb__law_gcd_1 l [.va (.int a), .va (.int b), .no, .no] = .nx [.va (.int (Nat.gcd a b : Nat)), .va (.int 0), .no, .no]
  | m, [], a, b, _, hl => by simp at hl
  | 0, d :: l, a, b, hb, hl => by
    have : b = 0 := by omega
    subst this
    have e := gl_b0 a d
    simp [e]
  | m + 1, d :: l, a, b, hb, hl => by
    by_cases h0 : b = 0
    · subst h0
      have e := gl_b0 a d
      simp [e]
    · have e := gl_b1 a b (by omega) d
      rw [vLoop_nx (de1 := [.va (.int a), .va (.int b), .va d, .no]) (by simp) e]
      cases l with
      | nil => simp at hl
      | cons d2 l =>
        by_cases h1 : a % b = 0
        · rw [h1]
          have e2 := gl_b0 b d2
          have : Nat.gcd a b = b := by rw [gcd_step, h1, Nat.gcd_zero_right]
          rw [this]
          simp at e2 ⊢
          simp [e2]
        · have e2 := gl_b1 b (a % b) (by omega) d2
          rw [vLoop_nx (de1 := [.va (.int b), .va (.int ((a % b : Nat) : Int)), .va d2, .no]) (by simp) e2]
          have ih := gl_loop m l (a % b) (b % (a % b)) (mod_half (by omega) (Nat.mod_lt _ (by omega)) hb) (by simp at hl; omega)
          rw [ih, gcd_step a b, gcd_step b (a % b)]
theorem h_gcdB (a b : Int) (hb : b.natAbs < 2 ^ 499) : m__law_gcd [.int a, .int b] = .ret (.int (Nat.gcd a.natAbs b.natAbs : Nat)) none := by
  have e := gl_loop 499 (rangeD 0 1000) a.natAbs b.natAbs hb (by rw [rangeD_length]; decide)
  have e1 : ∀ z : Int, (if z < 0 then -z else z) = ((z.natAbs : Nat) : Int) := fun z => by split <;> omega
  have er : ∀ de, rngA (.int 1000) de = .ok (rangeD 0 1000) de := fun de => rngE (n := 1000) rfl (by decide) de
  simp [m__law_gcd, DL.run, e__law_gcd, e1, er, e]
theorem share_math (high low : Int) (h0 : low ≠ 0) : ∃ g t b : Int, g = (if low < 0 then -((Nat.gcd high.natAbs low.natAbs : Nat) : Int) else ((Nat.gcd high.natAbs low.natAbs : Nat) : Int)) ∧ g ≠ 0 ∧ g.natAbs ≤ low.natAbs ∧ high.fdiv g = t ∧ low.fdiv g = b ∧ 0 < b ∧ Nat.gcd t.natAbs b.natAbs = 1 ∧ t * low = high * b ∧ t.natAbs ≤ high.natAbs ∧ b.natAbs ≤ low.natAbs := by
  obtain ⟨G, hG⟩ : ∃ G, Nat.gcd high.natAbs low.natAbs = G := ⟨_, rfl⟩
  have hl0 : 0 < low.natAbs := by omega
  have hGp : 0 < G := by rw [← hG]; exact Nat.gcd_pos_of_pos_right _ hl0
  have hGl : G ≤ low.natAbs := by rw [← hG]; exact Nat.gcd_le_right _ hl0
  rw [hG]
  obtain ⟨g, hg⟩ : ∃ g : Int, g = (if low < 0 then -(G : Int) else (G : Int)) := ⟨_, rfl⟩
  have hgn : g.natAbs = G := by rw [hg]; split <;> omega
  have hg0 : g ≠ 0 := by omega
  have d1 : g ∣ high := Int.natAbs_dvd_natAbs.mp (by rw [hgn, ← hG]; exact Nat.gcd_dvd_left _ _)
  have d2 : g ∣ low := Int.natAbs_dvd_natAbs.mp (by rw [hgn, ← hG]; exact Nat.gcd_dvd_right _ _)
  obtain ⟨t, ht⟩ := d1
  obtain ⟨b, hb⟩ := d2
  have e1 : high.fdiv g = t := by rw [ht]; exact Int.mul_fdiv_cancel_left t hg0
  have e2 : low.fdiv g = b := by rw [hb]; exact Int.mul_fdiv_cancel_left b hg0
  have n1 : high.natAbs = G * t.natAbs := by rw [ht, Int.natAbs_mul, hgn]
  have n2 : low.natAbs = G * b.natAbs := by rw [hb, Int.natAbs_mul, hgn]
  have hb0 : 0 < b := by
    by_cases hn : low < 0
    · rw [if_pos hn] at hg
      rcases Int.lt_trichotomy b 0 with c | c | c
      · have : 0 < g * b := Int.mul_pos_of_neg_of_neg (by omega) c
        omega
      · rw [c, Int.mul_zero] at hb; omega
      · exact c
    · rw [if_neg hn] at hg
      rcases Int.lt_trichotomy b 0 with c | c | c
      · have : g * b < 0 := Int.mul_neg_of_pos_of_neg (by omega) c
        omega
      · rw [c, Int.mul_zero] at hb; omega
      · exact c
  refine ⟨g, t, b, hg, hg0, by omega, e1, e2, hb0, ?_, ?_, ?_, ?_⟩
  · rw [n1, n2, Nat.gcd_mul_left] at hG
    exact Nat.eq_of_mul_eq_mul_left hGp (by rw [hG, Nat.mul_one])
  · rw [ht, hb, Int.mul_left_comm, Int.mul_assoc]
  · rw [n1]; exact Nat.le_mul_of_pos_left _ hGp
  · rw [n2]; exact Nat.le_mul_of_pos_left _ hGp
theorem pow_up {n a b : Nat} (h : n < 2 ^ a) (hk : a ≤ b) : n < 2 ^ b := Nat.lt_of_lt_of_le h (Nat.pow_le_pow_right (by decide) hk)
theorem cMul_B {i j : Int} (h1 : i.natAbs < 2 ^ 3000) (h2 : j.natAbs < 2 ^ 3000) : cMul i j = true := by
  unfold cMul
  rw [decide_eq_true (pow_up h1 (by decide)), decide_eq_true (pow_up h2 (by decide))]
  rfl
theorem mul_B {a b m n : Nat} (h1 : a < 2 ^ m) (h2 : b < 2 ^ n) : a * b < 2 ^ (m + n) := by
  rw [Nat.pow_add]
  exact Nat.mul_lt_mul'' h1 h2
theorem add_B {a b m : Nat} (h1 : a < 2 ^ m) (h2 : b < 2 ^ m) : a + b < 2 ^ (m + 1) := by
  rw [Nat.pow_succ]
  omega
/-- a number of the program: a share, or an int -/
def shQ (q : Rat) : D := .obj 24 [("top", .int q.num), ("bottom", .int q.den)]
def Bq (N : Nat) (q : Rat) : Prop := q.num.natAbs < 2 ^ N ∧ q.den < 2 ^ N
theorem Bq.up {m n : Nat} {q : Rat} (h : Bq m q) (hk : m ≤ n) : Bq n q := ⟨pow_up h.1 hk, pow_up h.2 hk⟩
@[simp] theorem sh_top (q : Rat) : fFld [24] "top" (shQ q) = some (.int q.num) := by simp [shQ]
@[simp] theorem sh_bot (q : Rat) : fFld [24] "bottom" (shQ q) = some (.int q.den) := by simp [shQ]
@[simp] theorem sh_ty (q : Rat) : tyOf (shQ q) = some (.o 24) := rfl
def Opd (d : D) (q : Rat) : Prop := d = shQ q ∨ ∃ n : Int, d = .int n ∧ q = (n : Rat)
theorem opd_s (q : Rat) : Opd (shQ q) q := .inl rfl
theorem opd_i (n : Int) : Opd (.int n) (n : Rat) := .inr ⟨n, rfl, rfl⟩
theorem divInt_parts (high low : Int) (h0 : low ≠ 0) : ∃ g : Int, g = (if low < 0 then -((Nat.gcd high.natAbs low.natAbs : Nat) : Int) else ((Nat.gcd high.natAbs low.natAbs : Nat) : Int)) ∧ g ≠ 0 ∧ g.natAbs ≤ low.natAbs ∧ high.fdiv g = (Rat.divInt high low).num ∧ low.fdiv g = ((Rat.divInt high low).den : Int) ∧
    (Rat.divInt high low).num.natAbs ≤ high.natAbs ∧ (Rat.divInt high low).den ≤ low.natAbs := by
  obtain ⟨g, t, b, hg, hg0, hgl, e1, e2, k1, k2, k3, k4, k5⟩ := share_math high low h0
  have hb : b = ((b.natAbs : Nat) : Int) := by omega
  have hq : Rat.divInt high low = ⟨t, b.natAbs, by omega, k2⟩ := by
    rw [Rat.mk_eq_divInt, ← hb]
    exact (Rat.divInt_eq_divInt_iff h0 (by omega)).mpr k3.symm
  refine ⟨g, hg, hg0, hgl, ?_, ?_, ?_, ?_⟩
  · rw [hq, e1]
  · rw [hq, e2]; exact hb
  · rw [hq]; exact k4
  · rw [hq]; exact k5
theorem bq_div {N : Nat} {high low : Int} (h0 : low ≠ 0) (h1 : high.natAbs < 2 ^ N) (h2 : low.natAbs < 2 ^ N) : Bq N (Rat.divInt high low) := by
  obtain ⟨g, _, _, _, _, _, k1, k2⟩ := divInt_parts high low h0
  exact ⟨Nat.lt_of_le_of_lt k1 h1, Nat.lt_of_le_of_lt k2 h2⟩
theorem bq_int {N : Nat} {n : Int} (h : n.natAbs < 2 ^ N) (hN : 0 < N) : Bq N (n : Rat) := ⟨h, Nat.one_lt_two_pow (by omega)⟩
theorem divInt_q (q : Rat) : Rat.divInt q.num q.den = q := Rat.num_divInt_den q
theorem add_div (p q : Rat) : Rat.divInt (p.num * q.den + q.num * p.den) (p.den * q.den) = p + q := by
  have h1 : (p.den : Int) ≠ 0 := by have := p.den_nz; omega
  have h2 : (q.den : Int) ≠ 0 := by have := q.den_nz; omega
  have e := Rat.divInt_add_divInt p.num q.num h1 h2
  rw [divInt_q, divInt_q] at e
  exact e.symm
theorem sub_div (p q : Rat) : Rat.divInt (p.num * q.den - q.num * p.den) (p.den * q.den) = p - q := by
  have h1 : (p.den : Int) ≠ 0 := by have := p.den_nz; omega
  have h2 : (q.den : Int) ≠ 0 := by have := q.den_nz; omega
  have e := Rat.divInt_sub_divInt p.num q.num h1 h2
  rw [divInt_q, divInt_q] at e
  exact e.symm
theorem mul_div (p q : Rat) : Rat.divInt (p.num * q.num) (p.den * q.den) = p * q := by
  have e := Rat.divInt_mul_divInt p.num q.num (d₁ := p.den) (d₂ := q.den)
  rw [divInt_q, divInt_q] at e
  exact e.symm
theorem den_mul_nz (p q : Rat) : (p.den : Int) * q.den ≠ 0 := by
  have h1 : (p.den : Int) ≠ 0 := by have := p.den_nz; omega
  have h2 : (q.den : Int) ≠ 0 := by have := q.den_nz; omega
  exact Int.mul_ne_zero h1 h2
theorem bq_add {M : Nat} {p q : Rat} (h1 : Bq M p) (h2 : Bq M q) : Bq (M + M + 1) (p + q) := by
  rw [← add_div]
  refine bq_div (den_mul_nz p q) ?_ ?_
  · refine Nat.lt_of_le_of_lt (Int.natAbs_add_le _ _) ?_
    rw [Int.natAbs_mul, Int.natAbs_mul]
    exact add_B (mul_B h1.1 h2.2) (mul_B h2.1 h1.2)
  · rw [Int.natAbs_mul]
    exact pow_up (mul_B h1.2 h2.2) (by omega)
theorem bq_mul {M : Nat} {p q : Rat} (h1 : Bq M p) (h2 : Bq M q) : Bq (M + M) (p * q) := by
  rw [← mul_div]
  refine bq_div (den_mul_nz p q) ?_ ?_
  · rw [Int.natAbs_mul]; exact mul_B h1.1 h2.1
  · rw [Int.natAbs_mul]; exact mul_B h1.2 h2.2
theorem p_shareQ (high low : Int) (h0 : low ≠ 0) (hl : low.natAbs < 2 ^ 8000) : m_Share_init [.obj 24 [], .int high, .int low] = .ret .non (some (shQ (Rat.divInt high low))) := by
  obtain ⟨g, hg, hg0, hgl, e1, e2, _, _⟩ := divInt_parts high low h0
  have cg : ∀ i, cDivG i g = true := fun i => by
    unfold cDivG
    rw [decide_eq_true hg0, decide_eq_true (Nat.lt_of_le_of_lt hgl hl)]
    rfl
  have ei : ∀ z : Int, m_is_integer [.int z] = .ret (.bl true) none := fun z => p_integer (.int z) rfl
  have eg : fGcd [.int high, .int low] = some (.int ((Nat.gcd high.natAbs low.natAbs : Nat) : Int)) := rfl
  generalize ((Nat.gcd high.natAbs low.natAbs : Nat) : Int) = G at *
  unfold shQ
  generalize Rat.divInt high low = Q at *
  by_cases hn : low < 0
  · rw [if_pos hn] at hg
    subst hg
    simp [m_Share_init, DL.run, e_Share_init, ei, h0, eg, hn, cg, e1, e2]
  · rw [if_neg hn] at hg
    subst hg
    simp [m_Share_init, DL.run, e_Share_init, ei, h0, eg, hn, cg, e1, e2]
theorem p_isnum {d : D} {q : Rat} (h : Opd d q) : m_is_number [d] = .ret (.bl true) none := by
  rcases h with rfl | ⟨n, rfl, rfl⟩
  · have e : m_is_integer [shQ q] = .ret (.bl false) none := by simp [m_is_integer, DL.run, e_is_integer]
    simp [m_is_number, DL.run, e_is_number, e]
  · have e : m_is_integer [.int n] = .ret (.bl true) none := p_integer (.int n) rfl
    simp [m_is_number, DL.run, e_is_number, e]
theorem p_parts {d : D} {q : Rat} (h : Opd d q) : m_parts_of [d] = .ret (.tup [.int q.num, .int q.den]) none := by
  rcases h with rfl | ⟨n, rfl, rfl⟩
  · simp [m_parts_of, DL.run, e_parts_of]
  · simp [m_parts_of, DL.run, e_parts_of]
@[simp] theorem vow_op (c : Nat) (m mr : List D → Fo) (f : D → D → Option D) (ev ev' : DEnv → Rs D) (de : DEnv) : vOwnOp c m mr f ev ev' de = (ev de).bind fun x de1 => (ev' de1).bind fun y de2 => ownOp c m mr f de2 x y := Eq.trans rfl rfl
@[simp] theorem vow_un (c : Nat) (m : List D → Fo) (f : D → Option D) (ev : DEnv → Rs D) (de : DEnv) : vOwnUn c m f ev de = (ev de).bind fun x de1 => ownUn c m f de1 x := Eq.trans rfl rfl
@[simp] theorem vow_abs (c : Nat) (m : List D → Fo) (ea : DEnv → Rs (List CA)) (de : DEnv) : vOwnAbs c m ea de = (ea de).bind fun cs de1 => absCs c m de1 cs := Eq.trans rfl rfl
@[simp] theorem ow_ss (m mr : List D → Fo) (f : D → D → Option D) (de : DEnv) (p q : Rat) : ownOp 24 m mr f de (shQ p) (shQ q) = callC 2 none m [] [.v (shQ p), .v (shQ q)] de := by
  show (if (24 : Nat) = 24 ∧ (24 : Nat) = 24 then callC 2 none m [] [.v (shQ p), .v (shQ q)] de else .bad) = _
  exact if_pos ⟨rfl, rfl⟩
@[simp] theorem ow_si (m mr : List D → Fo) (f : D → D → Option D) (de : DEnv) (p : Rat) (n : Int) : ownOp 24 m mr f de (shQ p) (.int n) = callC 2 none m [] [.v (shQ p), .v (.int n)] de := by
  show (if (24 : Nat) = 24 then callC 2 none m [] [.v (shQ p), .v (.int n)] de else .bad) = _
  exact if_pos rfl
@[simp] theorem ow_is (m mr : List D → Fo) (f : D → D → Option D) (de : DEnv) (p : Rat) (n : Int) : ownOp 24 m mr f de (.int n) (shQ p) = callC 2 none mr [] [.v (shQ p), .v (.int n)] de := by
  show (if (24 : Nat) = 24 then callC 2 none mr [] [.v (shQ p), .v (.int n)] de else .bad) = _
  exact if_pos rfl
@[simp] theorem ow_ii (m mr : List D → Fo) (f : D → D → Option D) (de : DEnv) (i n : Int) : ownOp 24 m mr f de (.int n) (.int i) = ofO (f (.int n) (.int i)) de := Eq.trans rfl rfl
@[simp] theorem ou_s (m : List D → Fo) (f : D → Option D) (de : DEnv) (p : Rat) : ownUn 24 m f de (shQ p) = callC 1 none m [] [.v (shQ p)] de := by
  show (if (24 : Nat) = 24 then callC 1 none m [] [.v (shQ p)] de else .bad) = _
  exact if_pos rfl
@[simp] theorem ou_i (m : List D → Fo) (f : D → Option D) (de : DEnv) (i : Int) : ownUn 24 m f de (.int i) = ofO (f (.int i)) de := Eq.trans rfl rfl
@[simp] theorem abs_1 (c : Nat) (m : List D → Fo) (de : DEnv) (d : D) : absCs c m de [.v d] = ownUn c m (fun x => fAbs [x]) de d := Eq.trans rfl rfl
theorem h_isQ (q : Rat) (high low : Int) (h0 : low ≠ 0) (hq : q = Rat.divInt high low) (b1 : Bq 400 q) (b2 : high.natAbs < 2 ^ 400) (b3 : low.natAbs < 2 ^ 400) : m__law_is [shQ q, .int high, .int low] = .ret (.bl true) none := by
  have eg := h_gcdB q.num q.den (pow_up b1.2 (by decide))
  have hr : Nat.gcd q.num.natAbs (q.den : Int).natAbs = 1 := q.reduced
  rw [hr] at eg
  have m1 : cMul q.num low = true := cMul_B (pow_up b1.1 (by decide)) (pow_up b3 (by decide))
  have m2 : cMul high q.den = true := cMul_B (pow_up b2 (by decide)) (pow_up b1.2 (by decide))
  have hb' : ¬ (q.den : Int) < 1 := by have := q.den_nz; omega
  have he : q.num * low = high * q.den := by
    refine (Rat.divInt_eq_divInt_iff (by have := q.den_nz; omega) h0).mp ?_
    rw [divInt_q]
    exact hq
  have hi : ∀ z : Int, m__law_int [.int z] = .ret (.bl true) none := fun z => h_int (.int z) rfl
  have f1 := sh_top q
  have f2 := sh_bot q
  have ty := sh_ty q
  generalize shQ q = Z at *
  simp [m__law_is, DL.run, e__law_is, ty, f1, f2, hi, hb', eg, m1, m2, he]
end Lw

set_option maxRecDepth 100000
set_option maxHeartbeats 4000000
set_option exponentiation.threshold 300
set_option autoImplicit false
namespace Lw
open DL L2
/-! ### quotients of shares -/
theorem fl_frac {n m high low : Int} (hm : m ≠ 0) (hl : 0 < low) (he : high * m = n * low) : n.fdiv m * low ≤ high ∧ high < (n.fdiv m + 1) * low := by
  have pos : ∀ n m : Int, 0 < m → high * m = n * low → n.fdiv m * low ≤ high ∧ high < (n.fdiv m + 1) * low := fun n m hm he => by
    have h1 : m * n.fdiv m ≤ n := Int.mul_fdiv_self_le hm
    have h2 : n < (n.fdiv m + 1) * m := Int.lt_fdiv_add_one_mul_self n hm
    generalize n.fdiv m = F at *
    constructor
    · refine Int.le_of_mul_le_mul_right (a := m) ?_ hm
      have h3 := Int.mul_le_mul_of_nonneg_right h1 (Int.le_of_lt hl)
      rw [he]
      have e : F * low * m = m * F * low := by grind
      rw [e]
      exact h3
    · refine Int.lt_of_mul_lt_mul_right (a := m) ?_ (Int.le_of_lt hm)
      have h3 := Int.mul_lt_mul_of_pos_right h2 hl
      rw [he]
      have e : (F + 1) * low * m = (F + 1) * m * low := by grind
      rw [e]
      exact h3
  by_cases h : 0 < m
  · exact pos n m h he
  · have := pos (-n) (-m) (by omega) (by rw [Int.mul_neg, Int.neg_mul, he])
    rwa [Int.neg_fdiv_neg] at this
theorem cDivG_B {i j : Int} (h0 : j ≠ 0) (h : j.natAbs < 2 ^ 8000) : cDivG i j = true := by
  unfold cDivG
  rw [decide_eq_true h0, decide_eq_true h]
  rfl
theorem den_num_nz {p q : Rat} (h : q.num ≠ 0) : (p.den : Int) * q.num ≠ 0 := Int.mul_ne_zero (by have := p.den_nz; omega) h
theorem den_num_B {p q : Rat} (hp : Bq 3000 p) (hq : Bq 3000 q) : ((p.den : Int) * q.num).natAbs < 2 ^ 8000 := by
  rw [Int.natAbs_mul]
  exact pow_up (mul_B hp.2 hq.1) (by decide)
/-- the floor of a quotient -/
def flQ (p q : Rat) : Int := (p.num * q.den).fdiv (p.den * q.num)
theorem p_floorof {d1 d2 : D} {p q : Rat} (h1 : Opd d1 p) (h2 : Opd d2 q) (hp : Bq 3000 p) (hq : Bq 3000 q) (h0 : q.num ≠ 0) : m_floor_of [d1, d2] = .ret (.int (flQ p q)) none := by
  have e1 := p_parts h1
  have e2 := p_parts h2
  have c1 : cMul p.num q.den = true := cMul_B hp.1 hq.2
  have c2 : cMul p.den q.num = true := cMul_B hp.2 hq.1
  have c3 := cDivG_B (i := p.num * q.den) (den_num_nz (p := p) h0) (den_num_B hp hq)
  simp [m_floor_of, DL.run, e_floor_of, e1, e2, h0, c1, c2, c3, flQ]
theorem p_floorof0 {d1 d2 : D} {p q : Rat} (h1 : Opd d1 p) (h2 : Opd d2 q) (h0 : q.num = 0) : m_floor_of [d1, d2] = .ex 2 [] none := by
  have e1 := p_parts h1
  have e2 := p_parts h2
  simp [m_floor_of, DL.run, e_floor_of, e1, e2, h0]
theorem p_shfloordiv (p : Rat) {d : D} {q : Rat} (h : Opd d q) (hp : Bq 3000 p) (hq : Bq 3000 q) (h0 : q.num ≠ 0) : m_Share___floordiv__ [shQ p, d] = .ret (.int (flQ p q)) none := by
  have e1 := p_isnum h
  have e2 := p_floorof (opd_s p) h hp hq h0
  simp [m_Share___floordiv__, DL.run, e_Share___floordiv__, e1, e2]
theorem p_shfloordiv0 (p : Rat) {d : D} {q : Rat} (h : Opd d q) (h0 : q.num = 0) : m_Share___floordiv__ [shQ p, d] = .ex 2 [] none := by
  have e1 := p_isnum h
  have e2 := p_floorof0 (opd_s p) h h0
  simp [m_Share___floordiv__, DL.run, e_Share___floordiv__, e1, e2]
theorem p_shrfloordiv (p : Rat) {d : D} {q : Rat} (h : Opd d q) (hp : Bq 3000 p) (hq : Bq 3000 q) (h0 : p.num ≠ 0) : m_Share___rfloordiv__ [shQ p, d] = .ret (.int (flQ q p)) none := by
  have e1 := p_isnum h
  have e2 := p_floorof h (opd_s p) hq hp h0
  simp [m_Share___rfloordiv__, DL.run, e_Share___rfloordiv__, e1, e2]
theorem p_shrfloordiv0 (p : Rat) {d : D} {q : Rat} (h : Opd d q) (h0 : p.num = 0) : m_Share___rfloordiv__ [shQ p, d] = .ex 2 [] none := by
  have e1 := p_isnum h
  have e2 := p_floorof0 h (opd_s p) h0
  simp [m_Share___rfloordiv__, DL.run, e_Share___rfloordiv__, e1, e2]
theorem p_shover (p : Rat) {d : D} {q : Rat} (h : Opd d q) (hp : Bq 3000 p) (hq : Bq 3000 q) (h0 : q.num ≠ 0) : m_Share_over [shQ p, d] = .retF (shQ (Rat.divInt (p.num * q.den) (p.den * q.num))) none := by
  have e1 := p_isnum h
  have e2 := p_parts h
  have c1 : cMul p.num q.den = true := cMul_B hp.1 hq.2
  have c2 : cMul p.den q.num = true := cMul_B hp.2 hq.1
  have e3 := p_shareQ (p.num * q.den) (p.den * q.num) (den_num_nz h0) (den_num_B hp hq)
  simp [m_Share_over, DL.run, e_Share_over, e1, e2, h0, c1, c2, e3]
theorem p_shover0 (p : Rat) {d : D} {q : Rat} (h : Opd d q) (h0 : q.num = 0) : m_Share_over [shQ p, d] = .ex 2 [] none := by
  have e1 := p_isnum h
  have e2 := p_parts h
  simp [m_Share_over, DL.run, e_Share_over, e1, e2, h0]
theorem p_shover_odd (p : Rat) {d : D} (hp : Pl d = true) (hi : isI d = false) : m_Share_over [shQ p, d] = .ex 2 [] none := by
  have e0 := p_integer d hp
  rw [hi] at e0
  have e1 : m_is_number [d] = .ret (.bl false) none := by
    cases d <;> first | (cases hp; done) | (cases hi; done) | simp [m_is_number, DL.run, e_is_number, e0]
  simp [m_Share_over, DL.run, e_Share_over, e1]
theorem p_shfloor (p : Rat) (hp : Bq 3000 p) : m_Share_floor [shQ p] = .ret (.int (p.num.fdiv p.den)) none := by
  have c3 := cDivG_B (i := p.num) (j := p.den) (by have := p.den_nz; omega) (pow_up hp.2 (by decide))
  simp [m_Share_floor, DL.run, e_Share_floor, c3]
theorem sh_ob (nm : String) (hn : ([PySem.Str.ofString "top", PySem.Str.ofString "bottom"].all fun x => !(PySem.Str.ofString nm == x)) = true) (q : Rat) : isOb 24 (PySem.Str.ofString nm) (shQ q) = true := by
  simp only [List.all_cons, List.all_nil, Bool.and_eq_true, Bool.not_eq_true'] at hn
  obtain ⟨h1, h2, _⟩ := hn
  simp [shQ, isOb, List.lookup, h1, h2]
@[simp] theorem sh_ob_over (q : Rat) : isOb 24 "over" (shQ q) = true := sh_ob "over" (by decide +kernel) q
@[simp] theorem sh_ob_floor (q : Rat) : isOb 24 "floor" (shQ q) = true := sh_ob "floor" (by decide +kernel) q
@[simp] theorem co_ss (m mr : List D → Fo) (f : D → D → Option D) (p q : Rat) : fCmpO 24 m mr f (shQ p) (shQ q) = scR (m [shQ p, shQ q]) := by
  show (if (24 : Nat) = 24 ∧ (24 : Nat) = 24 then scR (m [shQ p, shQ q]) else none) = _
  exact if_pos ⟨rfl, rfl⟩
@[simp] theorem co_si (m mr : List D → Fo) (f : D → D → Option D) (p : Rat) (n : Int) : fCmpO 24 m mr f (shQ p) (.int n) = scR (m [shQ p, .int n]) := by
  show (if (24 : Nat) = 24 then scR (m [shQ p, .int n]) else none) = _
  exact if_pos rfl
@[simp] theorem co_is (m mr : List D → Fo) (f : D → D → Option D) (p : Rat) (n : Int) : fCmpO 24 m mr f (.int n) (shQ p) = scR (mr [shQ p, .int n]) := by
  show (if (24 : Nat) = 24 then scR (mr [shQ p, .int n]) else none) = _
  exact if_pos rfl
@[simp] theorem co_ii (m mr : List D → Fo) (f : D → D → Option D) (i n : Int) : fCmpO 24 m mr f (.int n) (.int i) = f (.int n) (.int i) := Eq.trans rfl rfl
@[simp] theorem ne_ss (m mr : List D → Fo) (f : D → D → Option D) (p q : Rat) : fNeO 24 m mr f (shQ p) (shQ q) = fNegB (scR (m [shQ p, shQ q])) := by
  show (if (24 : Nat) = 24 ∧ (24 : Nat) = 24 then fNegB (scR (m [shQ p, shQ q])) else none) = _
  exact if_pos ⟨rfl, rfl⟩
@[simp] theorem ne_si (m mr : List D → Fo) (f : D → D → Option D) (p : Rat) (n : Int) : fNeO 24 m mr f (shQ p) (.int n) = fNegB (scR (m [shQ p, .int n])) := by
  show (if (24 : Nat) = 24 then fNegB (scR (m [shQ p, .int n])) else none) = _
  exact if_pos rfl
@[simp] theorem ne_is (m mr : List D → Fo) (f : D → D → Option D) (p : Rat) (n : Int) : fNeO 24 m mr f (.int n) (shQ p) = fNegB (scR (mr [shQ p, .int n])) := by
  show (if (24 : Nat) = 24 then fNegB (scR (mr [shQ p, .int n])) else none) = _
  exact if_pos rfl
@[simp] theorem sc_bl (b : Bool) : scR (.ret (.bl b) none) = some (.bl b) := Eq.trans rfl rfl
end Lw

set_option maxRecDepth 100000
set_option maxHeartbeats 4000000
set_option exponentiation.threshold 300
set_option autoImplicit false
namespace Lw
open DL L2
theorem ref_eq : fEq (.str "refused") (.str "refused") = some (.bl true) := fEq_self _ (by decide +kernel)
theorem h_ref0 (p : Rat) {d : D} {q : Rat} (h : Opd d q) (h0 : q.num = 0) : m__law_refused [shQ p, d, .int 0] = .ret (.bl true) none := by
  have e1 := p_shfloordiv0 p h h0
  have re := ref_eq
  rcases h with rfl | ⟨n, rfl, rfl⟩
  · simp [m__law_refused, DL.run, e__law_refused, e1, mtL, re]
  · simp [m__law_refused, DL.run, e__law_refused, e1, mtL, re]
theorem h_refR (n : Int) (p : Rat) (h0 : p.num = 0) : m__law_refused [.int n, shQ p, .int 0] = .ret (.bl true) none := by
  have e1 := p_shrfloordiv0 p (opd_i n) h0
  have re := ref_eq
  simp [m__law_refused, DL.run, e__law_refused, e1, mtL, re]
theorem h_ref1 (p : Rat) {d : D} (e1 : m_Share_over [shQ p, d] = .ex 2 [] none) : m__law_refused [shQ p, d, .int 1] = .ret (.bl true) none := by
  have re := ref_eq
  simp [m__law_refused, DL.run, e__law_refused, e1, mtL, re]
theorem h_floor (F n m high low : Int) (hF : F = n.fdiv m) (hm : m ≠ 0) (hl : low ≠ 0) (he : high * m = n * low) (b1 : n.natAbs < 2 ^ 1000) (b3 : low.natAbs < 2 ^ 1000) : m__law_floor [.int F, .int high, .int low] = .ret (.bl true) none := by
  have bF : F.natAbs < 2 ^ 1000 := by rw [hF]; exact Nat.lt_of_le_of_lt (Int.natAbs_fdiv_le_natAbs n m) b1
  have bF1 : (F + 1).natAbs < 2 ^ 1001 := Nat.lt_of_le_of_lt (Int.natAbs_add_le _ _) (add_B bF (by decide))
  have hi : ∀ z : Int, m__law_int [.int z] = .ret (.bl true) none := fun z => h_int (.int z) rfl
  by_cases hn : low < 0
  · obtain ⟨f1, f2⟩ := fl_frac (n := n) (m := m) (high := -high) (low := -low) hm (by omega) (by rw [Int.neg_mul, Int.mul_neg, he])
    rw [← hF] at f1 f2
    have c1 : cMul F (-low) = true := cMul_B (pow_up bF (by decide)) (by rw [Int.natAbs_neg]; exact pow_up b3 (by decide))
    have c2 : cMul (F + 1) (-low) = true := cMul_B (pow_up bF1 (by decide)) (by rw [Int.natAbs_neg]; exact pow_up b3 (by decide))
    simp [m__law_floor, DL.run, e__law_floor, hi, hn, c1, c2, f1, f2]
  · obtain ⟨f1, f2⟩ := fl_frac (n := n) (m := m) (high := high) (low := low) hm (by omega) he
    rw [← hF] at f1 f2
    have c1 : cMul F low = true := cMul_B (pow_up bF (by decide)) (pow_up b3 (by decide))
    have c2 : cMul (F + 1) low = true := cMul_B (pow_up bF1 (by decide)) (pow_up b3 (by decide))
    simp [m__law_floor, DL.run, e__law_floor, hi, hn, c1, c2, f1, f2]
theorem cross {a b : Int} (hb : b ≠ 0) : (Rat.divInt a b).num * b = a * (Rat.divInt a b).den :=
  (Rat.divInt_eq_divInt_iff (by have := (Rat.divInt a b).den_nz; omega) hb).mp (divInt_q _)
theorem t_13 (a b c d n : Int) (ha : a.natAbs < 2 ^ 170) (hb : 0 < b) (hb2 : b.natAbs < 2 ^ 171) (hc : c.natAbs < 2 ^ 170) (hc0 : c ≠ 0) (hd : 0 < d) (hd2 : d.natAbs < 2 ^ 171) (hn : n.natAbs < 2 ^ 170) (hn0 : n ≠ 0) (a0 a1 a2 a3 a4 a11 : Sl) :
    tl_law_13 [a0, a1, a2, a3, a4, .va (.int a), .va (.int b), .va (.int c), .va (.int d), .va (.int n), .va (shQ (Rat.divInt a b)), a11, .no] = .nx [a0, a1, a2, a3, a4, .va (.int a), .va (.int b), .va (.int c), .va (.int d), .va (.int n), .va (shQ (Rat.divInt a b)), a11, .va (shQ (Rat.divInt c d))] := by
  have b0 : b ≠ 0 := by omega
  have d0 : d ≠ 0 := by omega
  have e9 := p_shareQ c d d0 (pow_up hd2 (by decide))
  have x1 := cross (a := a) b0
  have x2 := cross (a := c) d0
  have Bp := bq_div (N := 171) b0 (pow_up ha (by decide)) hb2
  have Bqq := bq_div (N := 171) d0 (pow_up hc (by decide)) hd2
  have q0 : (Rat.divInt c d).num ≠ 0 := fun z => by
    rw [z, Int.zero_mul] at x2
    rcases Int.mul_eq_zero.mp x2.symm with h | h
    · exact hc0 h
    · have := (Rat.divInt c d).den_nz; omega
  generalize Rat.divInt a b = p at *
  generalize Rat.divInt c d = q at *
  have Bn : Bq 171 (n : Rat) := bq_int (pow_up hn (by decide)) (by decide)
  have Bp' := Bp.up (show 171 ≤ 3000 by decide)
  have Bq' := Bqq.up (show 171 ≤ 3000 by decide)
  have Bn' := Bn.up (show 171 ≤ 3000 by decide)
  have n0 : (n : Rat).num ≠ 0 := hn0
  have pd : (p.den : Int) ≠ 0 := by have := p.den_nz; omega
  have u1 := p_shfloordiv p (opd_s q) Bp' Bq' q0
  have u2 := p_shfloordiv p (opd_i n) Bp' Bn' n0
  have u3 := p_shrfloordiv q (opd_i n) Bq' Bn' q0
  have u4 := p_shfloor p Bp'
  have u5 := p_shover p (opd_s q) Bp' Bq' q0
  have u6 := p_shover p (opd_i n) Bp' Bn' n0
  have c1 : cMul a d = true := cMul_B (pow_up ha (by decide)) (pow_up hd2 (by decide))
  have c2 : cMul b c = true := cMul_B (pow_up hb2 (by decide)) (pow_up hc (by decide))
  have c3 : cMul b n = true := cMul_B (pow_up hb2 (by decide)) (pow_up hn (by decide))
  have c4 : cMul n d = true := cMul_B (pow_up hn (by decide)) (pow_up hd2 (by decide))
  have bc0 : b * c ≠ 0 := Int.mul_ne_zero b0 hc0
  have bn0 : b * n ≠ 0 := Int.mul_ne_zero b0 hn0
  have bcB : (b * c).natAbs < 2 ^ 400 := by rw [Int.natAbs_mul]; exact pow_up (mul_B hb2 hc) (by decide)
  have bnB : (b * n).natAbs < 2 ^ 400 := by rw [Int.natAbs_mul]; exact pow_up (mul_B hb2 hn) (by decide)
  have adB : (a * d).natAbs < 2 ^ 400 := by rw [Int.natAbs_mul]; exact pow_up (mul_B ha hd2) (by decide)
  have i1 : a * d * (p.den * q.num) = p.num * q.den * (b * c) := by grind
  have i2 : a * (p.den * n) = p.num * 1 * (b * n) := by grind
  have i3 : n * d * (1 * q.num) = n * q.den * c := by grind
  have f1 := h_floor (flQ p q) (p.num * q.den) (p.den * q.num) (a * d) (b * c) rfl (den_num_nz q0) bc0 i1 (by rw [Int.natAbs_mul]; exact pow_up (mul_B Bp.1 Bqq.2) (by decide)) (pow_up bcB (by decide))
  have f2 := h_floor (flQ p n) (p.num * (1 : Int)) (p.den * n) a (b * n) rfl (Int.mul_ne_zero pd hn0) bn0 i2 (by rw [Int.mul_one]; exact pow_up Bp.1 (by decide)) (pow_up bnB (by decide))
  have f3 := h_floor (flQ n q) (n * q.den) (1 * q.num) (n * d) c rfl (by rw [Int.one_mul]; exact q0) hc0 i3 (by rw [Int.natAbs_mul]; exact pow_up (mul_B hn Bqq.2) (by decide)) (pow_up hc (by decide))
  have f4 := h_floor (p.num.fdiv p.den) p.num p.den a b rfl pd b0 x1.symm (pow_up Bp.1 (by decide)) (pow_up hb2 (by decide))
  have v1 : Rat.divInt (p.num * q.den) (p.den * q.num) = Rat.divInt (a * d) (b * c) := (Rat.divInt_eq_divInt_iff (den_num_nz q0) bc0).mpr i1.symm
  have v2 : Rat.divInt (p.num * (n : Rat).den) (p.den * (n : Rat).num) = Rat.divInt a (b * n) := (Rat.divInt_eq_divInt_iff (Int.mul_ne_zero pd hn0) bn0).mpr i2.symm
  have w1 := h_isQ _ _ _ bc0 v1 (by rw [v1]; exact bq_div bc0 adB bcB) adB bcB
  have w2 := h_isQ _ _ _ bn0 v2 (by rw [v2]; exact bq_div bn0 (pow_up ha (by decide)) bnB) (pow_up ha (by decide)) bnB
  generalize Rat.divInt (p.num * q.den) (p.den * q.num) = r1 at *
  generalize Rat.divInt (p.num * (n : Rat).den) (p.den * (n : Rat).num) = r2 at *
  generalize flQ p q = F1 at *
  generalize flQ p n = F2 at *
  generalize flQ n q = F3 at *
  generalize p.num.fdiv p.den = F4 at *
  clear v1 v2 i1 i2 i3 x1 x2
  simp [tl_law_13, tl_law_14, tl_law_15, tl_law_16, e9, u1, u2, u3, u4, u5, u6, f1, f2, f3, f4, w1, w2, c1, c2, c3, c4]
theorem t_11 (a b c d n : Int) (ha : a.natAbs < 2 ^ 170) (hb : 0 < b) (hb2 : b.natAbs < 2 ^ 171) (hc : c.natAbs < 2 ^ 170) (hd : 0 < d) (hd2 : d.natAbs < 2 ^ 171) (hn : n.natAbs < 2 ^ 170) (a0 a1 a2 a3 a4 a11 : Sl) :
    ∃ de, tl_law_11 [a0, a1, a2, a3, a4, .va (.int a), .va (.int b), .va (.int c), .va (.int d), .va (.int n), .va (shQ (Rat.divInt a b)), a11, .no] = .nx de ∧ wipeD de [1, 2, 3, 4, 5, 6, 7, 8, 9, 10, 11, 12] = [a0, .no, .no, .no, .no, .no, .no, .no, .no, .no, .no, .no, .no] := by
  obtain ⟨c', hc'⟩ : ∃ c', (if c = 0 then 1 else c) = c' := ⟨_, rfl⟩
  obtain ⟨n', hn'⟩ : ∃ n', (if n = 0 then -1 else n) = n' := ⟨_, rfl⟩
  have hc0 : c' ≠ 0 := by rw [← hc']; split <;> first | decide | assumption
  have hn0 : n' ≠ 0 := by rw [← hn']; split <;> first | decide | assumption
  have hc2 : c'.natAbs < 2 ^ 170 := by rw [← hc']; split <;> first | decide | assumption
  have hn2 : n'.natAbs < 2 ^ 170 := by rw [← hn']; split <;> first | decide | assumption
  have t := t_13 a b c' d n' ha hb hb2 hc2 hc0 hd hd2 hn2 hn0 a0 a1 a2 a3 a4 a11
  refine ⟨[a0, a1, a2, a3, a4, .va (.int a), .va (.int b), .va (.int c'), .va (.int d), .va (.int n'), .va (shQ (Rat.divInt a b)), a11, .va (shQ (Rat.divInt c' d))], ?_, rfl⟩
  generalize shQ (Rat.divInt a b) = P at *
  generalize shQ (Rat.divInt c' d) = P2 at *
  by_cases h1 : c = 0
  · rw [if_pos h1] at hc'
    subst hc'
    by_cases h2 : n = 0
    · rw [if_pos h2] at hn'
      subst hn'
      simp [tl_law_11, tl_law_12, h1, h2, t]
    · rw [if_neg h2] at hn'
      subst hn'
      simp [tl_law_11, tl_law_12, h1, h2, t]
  · rw [if_neg h1] at hc'
    subst hc'
    by_cases h2 : n = 0
    · rw [if_pos h2] at hn'
      subst hn'
      simp [tl_law_11, tl_law_12, h1, h2, t]
    · rw [if_neg h2] at hn'
      subst hn'
      simp [tl_law_11, tl_law_12, h1, h2, t]
def oddM : List D := [.non, .str "1", .bl true, .bl false, .lst [], .tup [.int 1], .dk [], .str ""]
theorem oddM_ok {d : D} (h : d ∈ oddM) : Pl d = true ∧ isI d = false := by
  have key : (oddM.all fun d => Pl d && !isI d) = true := by decide +kernel
  have := List.all_eq_true.mp key d h
  simpa using this
theorem t_10 (a b c d n : Int) (ha : a.natAbs < 2 ^ 170) (hb : 0 < b) (hb2 : b.natAbs < 2 ^ 171) (hc : c.natAbs < 2 ^ 170) (hd : 0 < d) (hd2 : d.natAbs < 2 ^ 171) (hn : n.natAbs < 2 ^ 170) (r : Nat) (odd : D) (ho : odd ∈ oddM) (a0 a1 a2 : Sl) :
    ∃ de, tl_law_10 [a0, a1, a2, .va (.int r), .va odd, .va (.int a), .va (.int b), .va (.int c), .va (.int d), .va (.int n), .va (shQ (Rat.divInt a b)), .no, .no] = .nx de ∧ wipeD de [1, 2, 3, 4, 5, 6, 7, 8, 9, 10, 11, 12] = [a0, .no, .no, .no, .no, .no, .no, .no, .no, .no, .no, .no, .no] := by
  obtain ⟨o1, o2⟩ := oddM_ok ho
  have d0 : d ≠ 0 := by omega
  by_cases h : r = 0
  · subst h
    obtain ⟨de, t, w⟩ := t_11 a b c d n ha hb hb2 hc hd hd2 hn a0 .no .no .no (.va odd) .no
    have z0 : Rat.divInt 0 d = 0 := Rat.zero_divInt d
    have z1 : Rat.divInt 0 1 = 0 := rfl
    have e1 := p_shareQ 0 d d0 (pow_up hd2 (by decide))
    have e2 := p_shareQ 0 1 (by decide) (by decide)
    rw [z0] at e1
    rw [z1] at e2
    have r1 := h_ref0 (Rat.divInt a b) (opd_i 0) rfl
    have r2 := h_ref0 (Rat.divInt a b) (opd_s 0) rfl
    have r3 := h_ref1 (Rat.divInt a b) (p_shover0 (Rat.divInt a b) (opd_i 0) rfl)
    have r4 := h_ref1 (Rat.divInt a b) (p_shover0 (Rat.divInt a b) (opd_s 0) rfl)
    have r5 := h_refR n 0 rfl
    have r6 := h_ref1 (Rat.divInt a b) (p_shover_odd (Rat.divInt a b) o1 o2)
    generalize shQ (Rat.divInt a b) = P at *
    generalize shQ 0 = Z at *
    have lp : vLoop (tName 11) lb_law_1 (rangeD 0 2) [a0, .no, .no, .no, .va odd, .va (.int a), .va (.int b), .va (.int c), .va (.int d), .va (.int n), .va P, .no, .no] = .nx [a0, .no, .no, .no, .va odd, .va (.int a), .va (.int b), .va (.int c), .va (.int d), .va (.int n), .va P, .no, .no] := by
      have x1 : rangeD 0 2 = [.int 0, .int 1] := rfl
      rw [x1]
      refine (vLoop_nx (de1 := [a0, .no, .no, .no, .va odd, .va (.int a), .va (.int b), .va (.int c), .va (.int d), .va (.int n), .va P, .va (.int 0), .no]) (by simp) (by simp [lb_law_1, r1, r2, e1]; rfl)).trans ?_
      refine (vLoop_nx (de1 := [a0, .no, .no, .no, .va odd, .va (.int a), .va (.int b), .va (.int c), .va (.int d), .va (.int n), .va P, .va (.int 1), .no]) (by simp) (by simp [lb_law_1, r3, r4, e1]; rfl)).trans ?_
      rfl
    have er : ∀ de, rngA (.int 2) de = .ok (rangeD 0 2) de := fun de => rngE (n := 2) rfl (by decide) de
    exact ⟨de, by simp [tl_law_10, er, lp, e2, r5, r6, t], w⟩
  · have h' : ¬ (r : Int) = 0 := by omega
    obtain ⟨de, t, w⟩ := t_11 a b c d n ha hb hb2 hc hd hd2 hn a0 a1 a2 (.va (.int r)) (.va odd) .no
    generalize shQ (Rat.divInt a b) = P at *
    exact ⟨de, by simp [tl_law_10, h, h', t], w⟩
theorem t_turn (ns : List Int) (k : Nat) (hk : k < 100) : lb_law_2 [.va (.scr (ns.map .int)), .va (.int k), .no, .no, .no, .no, .no, .no, .no, .no, .no, .no, .no] = .nx [.va (.scr (ns.map .int)), .no, .no, .no, .no, .no, .no, .no, .no, .no, .no, .no, .no] := by
  obtain ⟨t0, x0, oo⟩ := h_start ns k k rfl (by omega)
  obtain ⟨r, t1, x1, kr, oa⟩ := h_draw (n := 700) t0 5 (oo.mono (by decide)) (by decide) (by decide)
  obtain ⟨r2, s0, x2, kr2, o0⟩ := h_draw (n := 600) t1 8 (oa.mono (by decide)) (by decide) (by decide)
  obtain ⟨a, s1, e1, k1, o1⟩ := h_number (n := 500) s0 (o0.mono (by decide))
  obtain ⟨y, s2, e2, k2, o2⟩ := h_number (n := 400) s1 (o1.mono (by decide))
  obtain ⟨c, s3, e3, k3, o3⟩ := h_number (n := 300) s2 (o2.mono (by decide))
  obtain ⟨w, s4, e4, k4, o4⟩ := h_number (n := 200) s3 (o3.mono (by decide))
  obtain ⟨n, s5, e5, k5, o5⟩ := h_number (n := 100) s4 (o4.mono (by decide))
  have p50 : cPow 10 50 = true := by decide
  obtain ⟨b, hb⟩ : ∃ b : Int, 1 + (if y < 0 then -y else y) = b := ⟨_, rfl⟩
  obtain ⟨d, hd⟩ : ∃ d : Int, 1 + (if w < 0 then -w else w) = d := ⟨_, rfl⟩
  have b1 : b = 1 + (y.natAbs : Int) := by rw [← hb]; split <;> omega
  have d1 : d = 1 + (w.natAbs : Int) := by rw [← hd]; split <;> omega
  have b2 : b.natAbs < 2 ^ 171 := by
    have : b.natAbs = 1 + y.natAbs := by omega
    rw [this, Nat.pow_succ]
    omega
  have d2 : d.natAbs < 2 ^ 171 := by
    have : d.natAbs = 1 + w.natAbs := by omega
    rw [this, Nat.pow_succ]
    omega
  have h5 : r2 < oddM.length := by have : oddM.length = 8 := rfl; omega
  obtain ⟨o, ho, hom⟩ : ∃ o, oddM[r2] = o ∧ o ∈ oddM := ⟨_, rfl, List.getElem_mem h5⟩
  have h6 := atI_some oddM r2 h5
  rw [ho] at h6
  unfold oddM at h6
  have es := p_shareQ a b (by omega) (pow_up b2 (by decide))
  obtain ⟨de, t, wi⟩ := t_10 a b c d n k1 (by omega) b2 k3 (by omega) d2 k5 r o hom (.va (.scr (ns.map .int))) (.va (.int k)) (.ow (stD s5))
  have fin : dropO [1, 2, 3, 4, 5, 6, 7, 8, 9, 10, 11, 12] (.nx de) = .nx [.va (.scr (ns.map .int)), .no, .no, .no, .no, .no, .no, .no, .no, .no, .no, .no, .no] := congrArg Ot.nx wi
  refine Eq.trans ?_ fin
  simp [lb_law_2, tl_law_2, tl_law_3, tl_law_4, tl_law_5, tl_law_6, tl_law_7, tl_law_8, tl_law_9, x0, x1, x2, h6, e1, e2, e3, e4, e5, p50, hb, hd, es, t]
theorem p_law (ns : List Int) (hl : ns.length ≤ 63) : ∃ q, m_law [.scr (ns.map .int)] = .ret (.bl true) q := by
  have hlen : (cutD (ns.map D.int) none (some 20)).length ≤ 63 := Nat.le_trans (cutD_len _ _ _) (by simpa using hl)
  obtain ⟨n, hn⟩ : ∃ n, (cutD (ns.map D.int) none (some 20)).length = n := ⟨_, rfl⟩
  rw [hn] at hlen
  have lp := vLoop_range (g := tName 1) (tb := lb_law_2) (fun k de => de = [.va (.scr (ns.map .int)), .no, .no, .no, .no, .no, .no, .no, .no, .no, .no, .no, .no]) (1 + n) [.va (.scr (ns.map .int)), .no, .no, .no, .no, .no, .no, .no, .no, .no, .no, .no, .no] rfl (fun k hk de hde => by
    subst hde
    exact ⟨_, _, rfl, .inl (t_turn ns k (by omega)), rfl⟩)
  obtain ⟨de, e, rfl⟩ := lp
  have er := rngE (j := 1 + (n : Int)) (n := 1 + n) (by omega) (by omega)
  exact ⟨none, by simp [m_law, DL.run, e_law, hn, er, e]⟩
end Lw

open PySem PySem.W PyProof.Rows
set_option maxRecDepth 100000 in
set_option maxHeartbeats 0 in
theorem PySem.Challenge.cw_labelgaps_k03_share_quotients_holds : PySem.Challenge.rw_labelgaps_k03_share_quotients.Holds := by
  w_on; o_law; k_head; (case hw => w_witness2)
  k_fill
  refine Lw.walk Lw.p_law rfl (by decide +kernel) (fun w h Y => PySem.W.kIn_of Y) ?F
  case F =>
    intro w mg fa h KX G hmg
    refine' Lw.all_mk KX G hmg ?ac_LabelError ?ac_BadShare ?ac_NoShare ?ac_Share ?a__law_start ?l__law_start ?c__law_start ?k__law_start ?a__law_draw ?l__law_draw ?c__law_draw ?k__law_draw ?a__law_number ?l__law_number ?c__law_number ?k__law_number ?a_is_integer ?l_is_integer ?c_is_integer ?k_is_integer ?a_Share_init ?i_Share_init ?l_Share_init ?c_Share_init ?k_Share_init ?lt_Share_init ?ld_Share_init ?a__law_int ?l__law_int ?c__law_int ?k__law_int ?a__law_floor ?l__law_floor ?c__law_floor ?k__law_floor ?a__law_gcd ?l__law_gcd ?c__law_gcd ?k__law_gcd ?a__law_is ?l__law_is ?c__law_is ?k__law_is ?a_parts_of ?l_parts_of ?c_parts_of ?k_parts_of ?a_floor_of ?l_floor_of ?c_floor_of ?k_floor_of ?a_is_number ?l_is_number ?c_is_number ?k_is_number ?a_Share___floordiv__ ?i_Share___floordiv__ ?l_Share___floordiv__ ?c_Share___floordiv__ ?k_Share___floordiv__ ?a_Share___rfloordiv__ ?i_Share___rfloordiv__ ?l_Share___rfloordiv__ ?c_Share___rfloordiv__ ?k_Share___rfloordiv__ ?a_Share_over ?i_Share_over ?l_Share_over ?c_Share_over ?k_Share_over ?a__law_refused ?l__law_refused ?c__law_refused ?k__law_refused ?a_Share_floor ?i_Share_floor ?l_Share_floor ?c_Share_floor ?k_Share_floor ?a_law ?l_law ?c_law ?k_law ?sf_Share ?pg_Share ?hd_Share ?po_Share ?sa_Share ?mk_Share ?kk_Share ?z_len ?z_abs ?z_int ?z_isinstance ?z_bool ?zb_gcd ?na_Share_top ?na_Share_bottom ?z_range ?z_str ?ex_BadShare ?ty_BadShare ?xh_BadShare ?ex_NoShare ?ty_NoShare ?xh_NoShare ?xl_BadShare ?xr_BadShare ?xs_BadShare ?xi_BadShare ?xt_BadShare ?xk_BadShare ?xe_BadShare ?xu_BadShare ?xv_BadShare ?xm_BadShare ?xp_BadShare ?xc_BadShare ?xd_BadShare ?xo_BadShare ?xq_BadShare ?xw_BadShare ?xz_BadShare ?z_super ?zt_any ?xl_NoShare ?xr_NoShare ?xs_NoShare ?xi_NoShare ?xt_NoShare ?xk_NoShare ?xe_NoShare ?xu_NoShare ?xv_NoShare ?xm_NoShare ?xp_NoShare ?xc_NoShare ?xd_NoShare ?xo_NoShare ?xq_NoShare ?xw_NoShare ?xz_NoShare ?sb_BadShare_NoShare ?sb_NoShare_NoShare ?qa_Share ?qm_Share ?qi_Share ?qt_Share ?qb_Share_bool ?qb_Share_int ?qb_Share_str ?qb_Share_tuple ?qb_Share_list ?qb_Share_dict ?qn ?qk
    (case ac_LabelError => k_is)
    (case ac_BadShare => k_is)
    (case ac_NoShare => k_is)
    (case ac_Share => k_is)
    (case a__law_start => k_is)
    (case l__law_start => k_is)
    (case c__law_start => k_is)
    (case k__law_start => k_is)
    (case a__law_draw => k_is)
    (case l__law_draw => k_is)
    (case c__law_draw => k_is)
    (case k__law_draw => k_is)
    (case a__law_number => k_is)
    (case l__law_number => k_is)
    (case c__law_number => k_is)
    (case k__law_number => k_is)
    (case a_is_integer => k_is)
    (case l_is_integer => k_is)
    (case c_is_integer => k_is)
    (case k_is_integer => k_is)
    (case a_Share_init => k_is)
    (case i_Share_init => k_is)
    (case l_Share_init => k_is)
    (case c_Share_init => k_is)
    (case k_Share_init => k_is)
    (case lt_Share_init => k_is)
    (case ld_Share_init => first | rfl | k_is)
    (case a__law_int => k_is)
    (case l__law_int => k_is)
    (case c__law_int => k_is)
    (case k__law_int => k_is)
    (case a__law_floor => k_is)
    (case l__law_floor => k_is)
    (case c__law_floor => k_is)
    (case k__law_floor => k_is)
    (case a__law_gcd => k_is)
    (case l__law_gcd => k_is)
    (case c__law_gcd => k_is)
    (case k__law_gcd => k_is)
    (case a__law_is => k_is)
    (case l__law_is => k_is)
    (case c__law_is => k_is)
    (case k__law_is => k_is)
    (case a_parts_of => k_is)
    (case l_parts_of => k_is)
    (case c_parts_of => k_is)
    (case k_parts_of => k_is)
    (case a_floor_of => k_is)
    (case l_floor_of => k_is)
    (case c_floor_of => k_is)
    (case k_floor_of => k_is)
    (case a_is_number => k_is)
    (case l_is_number => k_is)
    (case c_is_number => k_is)
    (case k_is_number => k_is)
    (case a_Share___floordiv__ => k_is)
    (case i_Share___floordiv__ => k_is)
    (case l_Share___floordiv__ => k_is)
    (case c_Share___floordiv__ => k_is)
    (case k_Share___floordiv__ => k_is)
    (case a_Share___rfloordiv__ => k_is)
    (case i_Share___rfloordiv__ => k_is)
    (case l_Share___rfloordiv__ => k_is)
    (case c_Share___rfloordiv__ => k_is)
    (case k_Share___rfloordiv__ => k_is)
    (case a_Share_over => k_is)
    (case i_Share_over => k_is)
    (case l_Share_over => k_is)
    (case c_Share_over => k_is)
    (case k_Share_over => k_is)
    (case a__law_refused => k_is)
    (case l__law_refused => k_is)
    (case c__law_refused => k_is)
    (case k__law_refused => k_is)
    (case a_Share_floor => k_is)
    (case i_Share_floor => k_is)
    (case l_Share_floor => k_is)
    (case c_Share_floor => k_is)
    (case k_Share_floor => k_is)
    (case a_law => k_is)
    (case l_law => k_is)
    (case c_law => k_is)
    (case k_law => k_is)
    (case sf_Share => k_is)
    (case pg_Share => k_is)
    (case hd_Share => k_is)
    (case po_Share => k_is)
    (case sa_Share => k_is)
    (case mk_Share => k_is)
    (case kk_Share => k_is)
    (case z_len => k_is)
    (case z_abs => k_is)
    (case z_int => k_is)
    (case z_isinstance => k_is)
    (case z_bool => k_is)
    (case zb_gcd => k_is)
    (case na_Share_top => k_is)
    (case na_Share_bottom => k_is)
    (case z_range => k_is)
    (case z_str => k_is)
    (case ex_BadShare => k_is)
    (case ty_BadShare => k_is)
    (case xh_BadShare => k_is)
    (case ex_NoShare => k_is)
    (case ty_NoShare => k_is)
    (case xh_NoShare => k_is)
    (case xl_BadShare => k_is)
    (case xr_BadShare => first | rfl | k_is)
    (case xs_BadShare => k_is)
    (case xi_BadShare => k_is)
    (case xt_BadShare => k_is)
    (case xk_BadShare => k_is)
    (case xe_BadShare => kx_is)
    (case xu_BadShare => ks_is)
    (case xv_BadShare => k_is)
    (case xm_BadShare => k_is)
    (case xp_BadShare => k_is)
    (case xc_BadShare => k_is)
    (case xd_BadShare => k_is)
    (case xo_BadShare => k_is)
    (case xq_BadShare => first | rfl | k_is)
    (case xw_BadShare => first | rfl | k_is)
    (case xz_BadShare => k_is)
    (case z_super => k_is)
    (case zt_any => k_is)
    (case xl_NoShare => k_is)
    (case xr_NoShare => first | rfl | k_is)
    (case xs_NoShare => k_is)
    (case xi_NoShare => k_is)
    (case xt_NoShare => k_is)
    (case xk_NoShare => k_is)
    (case xe_NoShare => kx_is)
    (case xu_NoShare => ks_is)
    (case xv_NoShare => k_is)
    (case xm_NoShare => k_is)
    (case xp_NoShare => k_is)
    (case xc_NoShare => k_is)
    (case xd_NoShare => k_is)
    (case xo_NoShare => k_is)
    (case xq_NoShare => first | rfl | k_is)
    (case xw_NoShare => first | rfl | k_is)
    (case xz_NoShare => k_is)
    (case sb_BadShare_NoShare => k_is)
    (case sb_NoShare_NoShare => k_is)
    (case qa_Share => k_is)
    (case qm_Share => k_is)
    (case qi_Share => k_is)
    (case qt_Share => k_is)
    (case qb_Share_bool => k_is)
    (case qb_Share_int => k_is)
    (case qb_Share_str => k_is)
    (case qb_Share_tuple => k_is)
    (case qb_Share_list => k_is)
    (case qb_Share_dict => k_is)
    (case qn => k_is)
    (case qk => k_is)
