import PyProof.Rows.All
import Wide.All
import OpenK.AllK
import Wide.FinOn
import KE.KStateDown
import KE.KDictKeyed
import KE.DatumOrd
import KE.KDictSum
import Lean
import HandS.ForMost
import HandS.ForExc
import HandS.More
import HandS.Defaults
import HandS.IsInst
import HandS.Codes
import HandS.OwnEq
import HandS.SortInts
import HandS.CallLocal
import HandS.TupMul
import HandS.Wide
import HandS.StrMore
import HandS.Flow
import HandS.ExcInit
import HandS.Head0
import HandS.Head1
import HandS.Head2
import HandS.HeadEnd
import HandS.HeadHook1
import HandS.HeadHook2
import HandS.SortKw
import KE.KExcInit
import HandS.ExcField
import PySem.Challenge.RW_toldpast_k59_long_chains_of_terms
set_option Elab.async false
set_option linter.all false
set_option maxRecDepth 100000
set_option maxHeartbeats 4000000
/-! Dicts whose keys are tuples of any depth, over the hand layer. -/
namespace NX
open PySem PySem.Spec PyProof.Rows L2

/-! ### keys -/
mutual
/-- a value that is a key, by tracked tuples -/
inductive NK (H : Hp) : V → NestedKey → Prop
  | non : NK H .non .none
  | int (i : Int) : NK H (.int i) (.num i)
  | str (x : Str) : NK H (.str x) (.text x)
  | tup {a : Addr} {xs : List V} {ks : List NestedKey} : H a = some (.tup xs) → NKs H xs ks → NK H (.ref a) (.tup ks)
inductive NKs (H : Hp) : List V → List NestedKey → Prop
  | nil : NKs H [] []
  | cons {v : V} {vs : List V} {k : NestedKey} {ks : List NestedKey} : NK H v k → NKs H vs ks → NKs H (v :: vs) (k :: ks)
end
mutual
theorem NK.keep {H H' : Hp} (ht : ∀ b xs, H b = some (.tup xs) → H' b = some (.tup xs)) : ∀ (k : NestedKey) (v : V), NK H v k → NK H' v k
  | .none, _, h => by cases h; exact .non
  | .num i, _, h => by cases h; exact .int i
  | .text x, _, h => by cases h; exact .str x
  | .tup ks, _, h => by
    cases h with
    | tup e a => exact .tup (ht _ _ e) (NKs.keep ht ks _ a)
theorem NKs.keep {H H' : Hp} (ht : ∀ b xs, H b = some (.tup xs) → H' b = some (.tup xs)) : ∀ (ks : List NestedKey) (vs : List V), NKs H vs ks → NKs H' vs ks
  | [], _, h => by cases h; exact .nil
  | k :: ks, _, h => by
    cases h with
    | cons a b => exact .cons (NK.keep ht k _ a) (NKs.keep ht ks _ b)
end
section
variable {P : Program} {w : World} {H : Hp} {h : Heap}
mutual
theorem NK.is (ok : HOk P w H h) : ∀ (k : NestedKey) (v : V) (u : Value), NK H v k → RelV v u → NestedIs h k u
  | .none, _, _, x, r => by cases x; cases r; exact .none
  | .num i, _, _, x, r => by cases x; obtain ⟨t, rfl⟩ := r; exact .int i t
  | .text y, _, _, x, r => by cases x; obtain ⟨t, rfl⟩ := r; exact .text y t
  | .tup ks, _, _, x, r => by
    cases x with
    | tup e a =>
      cases r
      obtain ⟨_, its, rv, o, h1, h2, n, h3⟩ := (show ObjOk P w H h _ (.tup _) from ok _ _ e)
      exact .tup h1 h2 h3 (by simpa using NKs.is ok ks _ its a rv)
theorem NKs.is (ok : HOk P w H h) : ∀ (ks : List NestedKey) (vs : List V) (us : List Value), NKs H vs ks → Vals vs us → NestedAll h ks us
  | [], _, _, x, r => by cases x; cases r; exact .nil
  | k :: ks, _, _, x, r => by
    cases x with
    | cons a b =>
      cases r with
      | cons r1 r2 => exact .cons (NK.is ok k _ _ a r1) (NKs.is ok ks _ _ b r2)
end
end

/-! ### the dict -/
abbrev NE : Type := NestedKey × Addr × V
abbrev NPair : List NE → List (NestedKey × Addr × Value) → Prop := Paired fun p q => p.1 = q.1 ∧ p.2.1 = q.2.1 ∧ RelV p.2.2 q.2.2
def dNP (P : Program) (w : World) (a : Addr) (xs : List NE) (h : Heap) : Prop :=
  (a == sysModules) = false ∧ xs.length ≤ sizeLine ∧ ∃ ys, NPair xs ys ∧ ∃ o es ep, h.get? a = some o ∧ o.ExactDict ∧ o.data = .dict es ep ∧ es.toList = ys.map (entryOfKey (nestedKind P w)) ∧ (ys.map (·.1)).Nodup
/-- at a: a dict with nested keys, each at its address -/
def dN (P : Program) (w : World) (a : Addr) (xs : List NE) : HO := .ext (dNP P w a xs)
/-- the keys stand where they are said to stand -/
def NKeys (H : Hp) (xs : List NE) : Prop := ∀ x ∈ xs, NK H (.ref x.2.1) x.1 ∧ x.1.depth ≤ 8
theorem NKeys.keep {H H' : Hp} {xs : List NE} (ht : ∀ b ys, H b = some (.tup ys) → H' b = some (.tup ys)) (k : NKeys H xs) : NKeys H' xs := fun x hx => ⟨NK.keep ht _ _ (k x hx).1, (k x hx).2⟩
def valN (xs : List NE) (k : NestedKey) : Option V := (xs.find? fun x => decide (x.1 = k)).map (·.2.2)
/-- in its place, or at the end -/
def putN (xs : List NE) (k : NestedKey) (a : Addr) (v : V) : List NE :=
  if (valN xs k).isSome = true then xs.map (fun x => if x.1 = k then (x.1, x.2.1, v) else x) else xs ++ [(k, a, v)]
theorem putN_new {xs : List NE} {k : NestedKey} {a : Addr} {v : V} (h : valN xs k = none) : putN xs k a v = xs ++ [(k, a, v)] := by
  unfold putN
  rw [h]
  exact if_neg (by decide)
theorem length_putN (xs : List NE) (k : NestedKey) (a : Addr) (v : V) : (putN xs k a v).length ≤ xs.length + 1 := by
  unfold putN
  split
  · rw [List.length_map]; omega
  · rw [List.length_append, List.length_cons, List.length_nil]; omega
theorem NPair.val {xs : List NE} {ys : List (NestedKey × Addr × Value)} (r : NPair xs ys) (k : NestedKey) : RelO (valN xs k) ((atKey ys k).map (·.2)) := by
  unfold NPair at r
  induction r with
  | nil => exact True.intro
  | @cons p q ps qs h t ih =>
    obtain ⟨h1, h2, h3⟩ := h
    by_cases e : p.1 = k
    · have e' : q.1 = k := h1.symm.trans e
      have b1 : valN (p :: ps) k = some p.2.2 := by simp [valN, List.find?_cons, e]
      have b2 : (atKey (q :: qs) k).map (·.2) = some q.2.2 := by simp [atKey, List.find?_cons, e']
      rw [b1, b2]; exact h3
    · have e' : ¬ q.1 = k := fun z => e (h1.trans z)
      have b1 : valN (p :: ps) k = valN ps k := by simp [valN, List.find?_cons, e]
      have b2 : atKey (q :: qs) k = atKey qs k := by simp [atKey, List.find?_cons, e']
      rw [b1, b2]; exact ih
theorem NPair.repl {xs : List NE} {ys : List (NestedKey × Addr × Value)} (r : NPair xs ys) (k : NestedKey) {v : V} {u : Value} (rv : RelV v u) :
    NPair (xs.map fun x => if x.1 = k then (x.1, x.2.1, v) else x) (ys.map (putAt k u)) := by
  unfold NPair at r ⊢
  induction r with
  | nil => exact .nil
  | @cons p q ps qs h t ih =>
    rw [List.map_cons, List.map_cons]
    refine .cons ?_ ih
    obtain ⟨h1, h2, h3⟩ := h
    unfold putAt
    by_cases e : p.1 = k
    · rw [if_pos e, if_pos (h1.symm.trans e)]; exact ⟨h1, h2, rv⟩
    · rw [if_neg e, if_neg (fun z => e (h1.trans z))]; exact ⟨h1, h2, h3⟩
theorem NPair.put {xs : List NE} {ys : List (NestedKey × Addr × Value)} (r : NPair xs ys) (k : NestedKey) (a : Addr) {v : V} {u : Value} (rv : RelV v u) :
    NPair (putN xs k a v) (storedH ys k a u) := by
  have e : (valN xs k).isSome = (atKey ys k).isSome := by rw [(r.val k).isSome_eq, Option.isSome_map]
  unfold putN storedH
  rw [e]
  by_cases q : (atKey ys k).isSome = true
  · rw [if_pos q, if_pos q]; exact r.repl k rv
  · rw [if_neg q, if_neg q]; exact Paired.snoc r ⟨rfl, rfl, rv⟩
section
variable {P : Program} {w : World} {H : Hp} {h : Heap} {a : Addr} {xs : List NE}
theorem dN_of (ok : HOk P w H h) (e : H a = some (dN P w a xs)) (kk : NKeys H xs) : (a == sysModules) = false ∧ xs.length ≤ sizeLine ∧ ∃ ys, NPair xs ys ∧ h.DictOfH (nestedKind P w) a ys := by
  obtain ⟨⟨y, z, ys, r, o, es, ep, h1, h2, h3, h4, h5⟩, _, _⟩ := (show ObjOk P w H h a (.ext (dNP P w a xs)) from ok a _ e)
  refine ⟨y, z, ys, r, o, es, ep, h1, h2, h3, h4, fun x hx => ?_, h5⟩
  have all : ∀ {l : List NE} {m : List (NestedKey × Addr × Value)}, NPair l m → NKeys H l → ∀ x ∈ m, (nestedKind P w).is h x.1 x.2.1 := by
    intro l m q
    unfold NPair at q
    induction q with
    | nil => intro _ x hx; exact nomatch hx
    | @cons p q ps qs hq t ih =>
      intro kk x hx
      rcases List.mem_cons.mp hx with e | hx
      · subst e
        obtain ⟨k1, k2⟩ := kk p (List.mem_cons_self ..)
        have k3 : NestedIs h p.1 (.ref p.2.1) := NK.is ok _ _ _ k1 rfl
        rw [hq.1, hq.2.1] at k3
        rw [hq.1] at k2
        exact ⟨k3, k2⟩
      · exact ih (fun y hy => kk y (List.mem_cons_of_mem _ hy)) x hx
  exact all r kk x hx
theorem dN_ok {H' : Hp} {ys : List (NestedKey × Addr × Value)} (y : (a == sysModules) = false) (z : xs.length ≤ sizeLine) (r : NPair xs ys) (d : h.DictOfH (nestedKind P w) a ys) : ObjOk P w H' h a (dN P w a xs) := by
  obtain ⟨o, es, ep, h1, h2, h3, h4, _, h5⟩ := d
  refine ⟨⟨y, z, ys, r, o, es, ep, h1, h2, h3, h4, h5⟩, ⟨o, h1⟩, fun h1' h2' ph k => ?_⟩
  obtain ⟨y, z, ys, r, o, es, ep, g1, g2, g3, g4, g5⟩ := ph
  exact ⟨y, z, ys, r, o, es, ep, k _ g1, g2, g3, g4, g5⟩
theorem key_is {k : NestedKey} {v : V} {u : Value} (ok : HOk P w H h) (e : NK H v k) (hd : k.depth ≤ 8) {b : Addr} (r : v = .ref b) : (nestedKind P w).is h k b := by
  subst r
  exact ⟨NK.is ok _ _ _ e rfl, hd⟩
end
theorem dN_ne_tup {P : Program} {w : World} {a : Addr} {xs : List NE} {ys : List V} : dN P w a xs ≠ .tup ys := fun z => by
  have z' : HO.ext _ = HO.tup ys := z
  cases z'

/-! ### readings and rules -/
def tNNew (P : Program) (w : World) : TE := fun _ H Q => ∀ p, H p = none → Q (.ref p) (upd H p (dN P w p []))
/-- d[y], there -/
def tNGet (P : Program) (w : World) (td ty : TE) : TE := fun σ H Q => td σ H fun x H1 => ty σ H1 fun y H2 => ∃ (a b : Addr) (xs : List NE) (k : NestedKey) (v : V), x = .ref a ∧ y = .ref b ∧ H2 a = some (dN P w a xs) ∧ NKeys H2 xs ∧ NK H2 (.ref b) k ∧ k.depth ≤ 8 ∧ valN xs k = some v ∧ Q v H2
/-- y in d -/
def tNIn (P : Program) (w : World) (neg : Bool) (ty td : TE) : TE := fun σ H Q => ty σ H fun y H1 => td σ H1 fun x H2 => ∃ (a b : Addr) (xs : List NE) (k : NestedKey), x = .ref a ∧ y = .ref b ∧ H2 a = some (dN P w a xs) ∧ NKeys H2 xs ∧ NK H2 (.ref b) k ∧ k.depth ≤ 8 ∧ Q (.bl (if neg = true then !(valN xs k).isSome else (valN xs k).isSome)) H2
/-- d[y] = v -/
def sNPut (P : Program) (w : World) (td ty tv : TE) : TS := fun D σ H => tv σ H fun v H1 => td σ H1 fun x H2 => ty σ H2 fun y H3 => ∃ (a b : Addr) (xs : List NE) (k : NestedKey), x = .ref a ∧ y = .ref b ∧ H3 a = some (dN P w a xs) ∧ NKeys H3 xs ∧ NK H3 (.ref b) k ∧ k.depth ≤ 8 ∧ xs.length < sizeLine ∧ D.nx σ (upd H3 a (dN P w a (putN xs k b v)))
section
variable {X : Cx} {o i e value : Expr} {pos pos' tpos : Pos} {td ty tv : TE}
theorem pe_nnew : PE X (.Dict [] [] pos) (tNNew X.prog X.w) := ⟨fun pins s σ H Q I h =>
  wpAny_Dict_empty ⟨.ref s.heap.objs.size, _, I.laid (a := s.heap.objs.size) (o := dN X.prog X.w s.heap.objs.size []) (t' := s.toks) (fun _ _ q => Heap.get?_push_of_some _ q) (Nat.le_refl _)
    (dN_ok (beq_eq_false_iff_ne.mpr (Ne.symm (Nat.ne_of_lt I.big))) (Nat.zero_le _) .nil (Heap.DictOfH.new s.heap)), rfl, h _ (I.hok.fresh (Nat.le_refl _))⟩⟩
theorem pe_nget (hu : X.A.units + 64 < cLine) (ho : PE X o td) (hi : PE X i ty) (hs : NoSl i) : PE X (.Subscript o i pos) (tNGet X.prog X.w td ty) := by
  refine ⟨fun pins s σ H Q I h => ?_⟩
  refine subD_of PySem.F.slot_dict_getitem.lookup hs (thn (ho.run pins s σ H _ I h) fun u s1 ⟨x, H1, I1, rx, q1⟩ => thn (hi.run pins s1 σ H1 _ I1 q1) fun iv s2 ⟨y, H2, I2, ry, a, b, xs, k, v, ex, ey, e, kk, nk, hd, hv, q2⟩ => ?_)
  subst ex ey
  obtain rfl : u = Value.ref a := rx
  obtain rfl : iv = Value.ref b := ry
  obtain ⟨hm, z, ys, r, dd⟩ := dN_of I2.hok e kk
  refine ⟨dd.typeIs, ?_⟩
  obtain ⟨w', hw, rw'⟩ := RelO.some_of (v := v) (o := (atKey ys k).map (·.2)) (by rw [← hv]; exact r.val k)
  obtain ⟨p, hp, hp2⟩ := Option.map_eq_some_iff.mp hw
  refine wpAny_getItem_heap (knd := nestedKind X.prog X.w) (show X.A.in1.units + 8 < cLine from by show X.A.units + 1 + 8 < cLine; omega) (key_is (u := .none) I2.hok nk hd rfl) dd hp ?_
  rw [hp2]
  exact ⟨v, H2, I2.tok _, rw', q2⟩
theorem pc_nin (hu : X.A.units + 64 < cLine) (hi : PE X i ty) (ho : PE X o td) : PC X .In i o (tNIn X.prog X.w false ty td) := by
  refine ⟨fun pins s σ H Q I h => ?_⟩
  refine thn (hi.run pins s σ H _ I h) fun iv s1 ⟨y, H1, I1, ry, q1⟩ => thn (ho.run pins s1 σ H1 _ I1 q1) fun u s2 ⟨x, H2, I2, rx, a, b, xs, k, ex, ey, e, kk, nk, hd, q2⟩ => ?_
  subst ex ey
  obtain rfl : u = Value.ref a := rx
  obtain rfl : iv = Value.ref b := ry
  obtain ⟨hm, z, ys, r, dd⟩ := dN_of I2.hok e kk
  refine wpAny_in_heap (knd := nestedKind X.prog X.w) (show X.A.in1.units + 8 < cLine from by show X.A.units + 1 + 8 < cLine; omega) (key_is (u := .none) I2.hok nk hd rfl) hm dd ?_
  have q := (r.val k).isSome_eq
  rw [Option.isSome_map] at q
  rw [← q]
  exact ⟨.bl (valN xs k).isSome, H2, I2.tok _, rfl, q2⟩
theorem pc_nnotin (hu : X.A.units + 64 < cLine) (hi : PE X i ty) (ho : PE X o td) : PC X .NotIn i o (tNIn X.prog X.w true ty td) := by
  refine ⟨fun pins s σ H Q I h => ?_⟩
  refine thn (hi.run pins s σ H _ I h) fun iv s1 ⟨y, H1, I1, ry, q1⟩ => thn (ho.run pins s1 σ H1 _ I1 q1) fun u s2 ⟨x, H2, I2, rx, a, b, xs, k, ex, ey, e, kk, nk, hd, q2⟩ => ?_
  subst ex ey
  obtain rfl : u = Value.ref a := rx
  obtain rfl : iv = Value.ref b := ry
  obtain ⟨hm, z, ys, r, dd⟩ := dN_of I2.hok e kk
  refine wpAny_notIn_heap (knd := nestedKind X.prog X.w) (show X.A.in1.units + 8 < cLine from by show X.A.units + 1 + 8 < cLine; omega) (key_is (u := .none) I2.hok nk hd rfl) hm dd ?_
  have q := (r.val k).isSome_eq
  rw [Option.isSome_map] at q
  rw [← q]
  exact ⟨.bl (!(valN xs k).isSome), H2, I2.tok _, rfl, q2⟩
theorem ps_nput (hu : X.A.units + 64 < cLine) (ho : PE X o td) (hi : PE X i ty) (hv : PE X value tv) (hs : swapsWith value (some (.Subscript o i pos')) pos.line X.env = pure false) :
    PS X (.Assign [.Subscript o i pos'] value pos) (sNPut X.prog X.w td ty tv) := by
  refine ⟨fun pins s σ H D I h => ?_⟩
  refine wpAny_Assign_Subscript (thn (hv.run pins s σ H _ I h) fun r s1 ⟨v, H1, I1, rv, q1⟩ => thn (ho.run pins s1 σ H1 _ I1 q1) fun u s2 ⟨x, H2, I2, rx, q2⟩ => thn (hi.run pins s2 σ H2 _ I2 q2) fun iv s3 ⟨y, H3, I3, ry, a, b, xs, k, ex, ey, e, kk, nk, hd, hl, q3⟩ => ?_) hs
  subst ex ey
  obtain rfl : u = Value.ref a := rx
  obtain rfl : iv = Value.ref b := ry
  obtain ⟨hm, z, ys, rr, dd⟩ := dN_of I3.hok e kk
  have hz : ys.length ≤ sizeLine := by rw [← Paired.length rr]; exact z
  have hl2 : (putN xs k b v).length ≤ sizeLine := by have := length_putN xs k b v; omega
  refine wpAny_setItem_heap (knd := nestedKind X.prog X.w) (hsz := hz) (show X.A.in1.units + 8 < cLine from by show X.A.units + 1 + 8 < cLine; omega) (key_is (u := .none) I3.hok nk hd rfl) dd fun h' dd' hs' => ?_
  have he : ∃ q, h'.get? a = some q := let ⟨q, _, _, hq, _⟩ := dd'; ⟨q, hq⟩
  refine ⟨σ, _, d_write I3 (by rw [e]; exact True.intro) hs' he (dN_ok hm hl2 (rr.put k b rv) dd'), q3⟩
end
end NX
/-! Own __len__, __getitem__, __eq__ with !=, sorted(d.keys()), max(.., default=). -/
namespace NX
open PySem PySem.Spec PyProof.Rows L2

section
variable {X : Cx}
/-- a call of an own def, somewhere below the running body -/
theorem own_call {n : Nat} {A : Around} {CX : CXT} {f : Addr} {fd : FuncData} {ps : List Str} {sp : Sp} {E : XK} {pins : List (Addr × Obj)} {s : Shared} {σ : L2.St} {H : Hp} {Q : VK} {vs : List V} {us : List Value}
    (F : FnOk X.prog X.w X.K X.mg X.base CX n f fd ps sp) (sb : Sub X n A) (hb : Binds X.K fd ps []) (hx : Passes CX X E) (I : Inv X pins σ H s) (r : Vals vs us) (h : sp vs H Q E) :
    wpAny (model X.prog X.w) A (call (.ref f) us) (EP X pins σ Q) X.xe s := by
  have e0 : Env0 X.prog X.w X.K X.mg X.base A X.stack s H := by
    have e := I.env0
    exact ⟨by rw [sb.fr]; exact e.frames, e.mod, e.bs, e.bsz, e.funs, e.frf, e.hok, e.bare⟩
  have hl := F.len _ _ _ _ h
  refine wpAny_call (codeAny_mono (F.run A X.stack s H ⟨us, []⟩ us vs Q E sb.room e0 (by
    have := hb s us I.kIn (by rw [List.append_nil, ← r.length]; exact hl)
    simpa using this) r h) fun r s' hq => ?_)
  cases r with
  | error e => exact hx pins σ H s e s' I hq
  | ok fl =>
    cases fl with
    | ret u => exact I.after hq
    | next => exact False.elim hq
    | brk => exact False.elim hq
    | cont => exact False.elim hq
/-- len(o) by an own __len__ -/
def rLenO (C : Addr) (sp : Sp) (E : XK) : List V → Hp → VK → Prop := fun xs H Q => ∃ (a dx : Addr) (fs : List (Str × V)), xs = [.ref a] ∧ H a = some (.ins C dx fs) ∧ sp [.ref a] H (fun v H2 => ∃ n : Int, v = .int n ∧ (0 ≤ n ∧ n < 2 ^ 63) ∧ Q (.int n) H2) E
theorem call_lenO {n : Nat} {CX : CXT} {C f : Addr} {fd : FuncData} {ps : List Str} {sp : Sp} {E : XK} (F : FnOk X.prog X.w X.K X.mg X.base CX n f fd ps sp) (hr : Room (n + 1) X.A)
    (hs : PySem.W.findIn X.K (.ref C) "__len__" = some (some (.ref f))) (hf : PySem.W.isFn X.K (.ref f) = true) (hb : Binds X.K fd ps []) (hx : Passes CX X E) : CallR X (.builtin "len") (rLenO C sp E) := by
  intro pins s σ H xs us Q I r h
  obtain ⟨a, dx, fs, rfl, ha, h⟩ := h
  obtain ⟨u, rfl, rx⟩ := vals1 r
  cases rx
  obtain ⟨mA, J, _⟩ := ins_get I.hok ha
  obtain ⟨od, J, _⟩ := J.look
  obtain ⟨m, hF⟩ := I.fr
  refine PySem.W.len_K hF I.ok.mod.kin J hs hf (thn (own_call F ⟨hr.in1, rfl⟩ hb hx I r h) fun v s' z => ?_)
  obtain ⟨x, H2, I2, r2, k, rfl, hk, q⟩ := z
  obtain ⟨t, rfl⟩ := r2
  exact ⟨hk, .int k, H2, I2.tok _, ⟨_, rfl⟩, q⟩
/-- o[i] by an own __getitem__ -/
def tGetO (C : Addr) (sp : Sp) (E : XK) (to ti : TE) : TE := fun σ H Q => to σ H fun x H1 => ti σ H1 fun y H2 => ∃ (a dx : Addr) (fs : List (Str × V)), x = .ref a ∧ H2 a = some (.ins C dx fs) ∧ sp [.ref a, y] H2 Q E
theorem pe_getO {n : Nat} {CX : CXT} {C f : Addr} {fd : FuncData} {ps : List Str} {sp : Sp} {E : XK} {o i : Expr} {pos : Pos} {to ti : TE} (F : FnOk X.prog X.w X.K X.mg X.base CX n f fd ps sp) (hr : Room (n + 1) X.A)
    (hs : PySem.W.findIn X.K (.ref C) "__getitem__" = some (some (.ref f))) (hk : PySem.W.fnIn X.K f = true) (hf : PySem.W.isFn X.K (.ref f) = true) (hb : Binds X.K fd ps []) (hx : Passes CX X E) (ho : PE X o to) (hi : PE X i ti)
    (hsl : ∀ ov iv, subscripted i true ov iv = runValue (.builtin "lifetime.subscript" ⟨[ov, iv], []⟩) := by intro _ _; with_unfolding_all rfl) : PE X (.Subscript o i pos) (tGetO C sp E to ti) := by
  refine ⟨fun pins s σ H Q I h => ?_⟩
  refine Subscript_ (thn (ho.run pins s σ H _ I h) fun u s1 ⟨x, H1, I1, rx, q1⟩ => thn (hi.run pins s1 σ H1 _ I1 q1) fun iv s2 ⟨y, H2, I2, ry, a, dx, fs, ex, ha, q2⟩ => ?_)
  subst ex
  obtain rfl : u = Value.ref a := rx
  obtain ⟨mA, J, _⟩ := ins_get I2.hok ha
  obtain ⟨od, J, _⟩ := J.look
  obtain ⟨m, hF⟩ := I2.fr
  exact PySem.W.sub_K hF I2.ok.mod.kin J hs hk hf (own_call F ⟨hr.in1, rfl⟩ hb hx I2 (.cons (show RelV (V.ref a) (Value.ref a) from rfl) (.cons ry .nil)) q2) (hsl _ _)
end
end NX

namespace PySem.W
open PySem PySem.Calls PyProof.Rows Builtin
section
variable {prog : Program} {w : World} {A : Around} {E : Value → Shared → Prop} {s : Shared} {K : Frag} {x C L f : Addr} {h₀ : Heap} {m : Str → Option Value} {ox : Obj} {od : Option Obj} {b : Value}
/-- a != b by an own __eq__ (object's __ne__) -/
theorem nx_ne_K {Q : Value → Shared → Prop} (hu : A.units + 1 < cLine) (F : Fr h₀ L s.heap m) (X₀ : K.In h₀) (I : InstAt s.heap x ox C od) (hb : Looks (model prog w) s.heap (typeOf b) (.ref C))
    (hn : findIn K (.ref C) "__ne__" = some (some (.builtin "object.__ne__"))) (hs : findIn K (.ref C) "__eq__" = some (some (.ref f))) (hf : isFn K (.ref f) = true) (ho : mroIn K C (.type "object") = some true)
    (h : wpAny (model prog w) A.in1 (call (.ref f) [.ref x, b]) (fun v s' => ∃ c, v = .bool c ∧ Q (.bool (!c)) s') E s) : wpAny (model prog w) A (richCompare .NotEq (.ref x) b) Q E s := by
  have X := X₀.keeps F.keep
  have S := PySem.F.cmp_object.ne
  have body : ∀ {R : Fin → Shared → Prop}, wpAny (model prog w) A.in1 (call (.ref f) [.ref x, b]) (fun v s' => ∃ c, v = .bool c ∧ R (.done (.ret (.bool (!c)))) s') E s → wpAny (model prog w) A.in1 (Builtin.«object.__ne__» ⟨[.ref x, b], []⟩) R E s := by
    intro R h
    unfold Builtin.«object.__ne__»
    repeat (first
      | with_reducible refine wpAny_cRoomFor hu ?_
      | (refine wpAny_bind (m := callSpecialIfBound? (.ref x) (Str.ofString "__eq__") [b]) (ifBound_K X I hs hf (wpAny_mono h (fun r s' hr => ?_) fun _ _ e => e)); obtain ⟨c, rfl, hq⟩ := hr)
      | exact hq | exact wpAny_pure hq | exact wpAny_truthy_bool hq
      | (refine wpAny_bind (m := truthy (.bool _)) (wpAny_truthy_bool ?_))
      | wp_step)
  have sub : Looks (model prog w) s.heap (isInstance (.ref x) (.type "object")) true := I.type.andThen (looks_mroIn X ho)
  have one : wpAny (model prog w) A (tryCompare (.ref x) "__ne__" b) (fun r s' => ∃ v, r = some v ∧ Q v s') E s := by
    unfold tryCompare
    refine wpAny_bind ?_
    simp only [callSpecialIfBound?, bindSpecialIfBound?]
    have fin : ∀ {R : Option Value → Shared → Prop}, (∀ c s', Q (.bool c) s' → R (some (.bool c)) s') → wpAny (model prog w) A (call (.builtin "object.__ne__") ([.ref x] ++ [b]) >>= fun v => pure (some v)) R E s := by
      intro R hR
      refine wpAny_bind (wpAny_call (codeAny_call_builtin S.plain PySem.F.cmpEntry_ne (@check_slot (model prog w) _ _ s "object.__ne__" "object" "__ne__" (.ref x) [b] [] _ PySem.F.cmpKind_ne PySem.F.cmpSplit_ne sub (PySem.F.cmpArgs_ne _ _)
        (body (wpAny_mono h (fun v s' hv => ?_) fun _ _ e => e)))))
      obtain ⟨c, rfl, hq⟩ := hv
      first
        | exact ⟨c, rfl, wpAny_pure (hR _ _ hq)⟩
        | exact ⟨c, rfl, _, rfl, wpAny_pure (hR _ _ hq)⟩
    refine wpAny_holding (wpAny_bind (wpAny_bind (wpAny_bind (I.type.here ((looks_findIn X hn).here ?_)))))
    refine wpAny_bind (wpAny_askSetting (wpAny_ite ?_))
    split
    · refine wpAny_bind (wpAny_of_eq (S.bind _) (wpAny_pure ?_))
      refine fin fun c s' hq => ?_
      exact wpAny_pure ⟨_, rfl, hq⟩
    · refine wpAny_tryCatch (wpAny_bind (wpAny_of_eq (S.bind _) (wpAny_pure ?_)))
      refine fin fun c s' hq => ?_
      exact wpAny_pure ⟨_, rfl, hq⟩
  unfold richCompare
  simp only [oneThing_ref]
  refine wpAny_holding (wpAny_bind (wpAny_cRoomFor (Nat.lt_of_succ_lt hu) ?_))
  refine wpAny_bind (I.type.here (wpAny_bind (hb.here ?_)))
  rw [show (Value.ref C != Value.ref C) = false from by simp]
  simp only [Bool.false_eq_true, if_false]
  refine wpAny_bind (wpAny_pure ?_)
  simp only [Bool.false_eq_true, if_false]
  refine wpAny_bind (wpAny_mono one (fun r s' z => ?_) fun _ _ e => e)
  obtain ⟨v, rfl, hq⟩ := z
  exact wpAny_pure hq
end
end PySem.W
namespace NX
open PySem PySem.Spec PyProof.Rows L2

/-! ### a != b, a == b by an own __eq__ -/
def rNeO (C : Addr) (sp : Sp) (E : XK) (neg : Bool) : R2 := fun x y H Q => ∃ (a b dx dy : Addr) (fs gs : List (Str × V)), x = .ref a ∧ y = .ref b ∧ H a = some (.ins C dx fs) ∧ H b = some (.ins C dy gs) ∧
  sp [.ref a, .ref b] H (fun v H2 => ∃ c : Bool, v = .bl c ∧ Q (.bl (if neg = true then !c else c)) H2) E
section
variable {X : Cx}
theorem op_neO {n : Nat} {CX : CXT} {C f : Addr} {fd : FuncData} {ps : List Str} {sp : Sp} {E : XK} (F : FnOk X.prog X.w X.K X.mg X.base CX n f fd ps sp) (hr : Room (n + 1) X.A)
    (hn : PySem.W.findIn X.K (.ref C) "__ne__" = some (some (.builtin "object.__ne__"))) (hs : PySem.W.findIn X.K (.ref C) "__eq__" = some (some (.ref f))) (hf : PySem.W.isFn X.K (.ref f) = true)
    (ho : PySem.W.mroIn X.K C (.type "object") = some true) (hb : Binds X.K fd ps []) (hx : Passes CX X E) : OpR X (compareOp .NotEq) (rNeO C sp E true) := by
  intro pins s σ H x y v u Q I rx ry h
  obtain ⟨a, b, dx, dy, fs, gs, rfl, rfl, ha, hb2, h⟩ := h
  cases rx
  cases ry
  obtain ⟨mA, J, _⟩ := ins_get I.hok ha
  obtain ⟨mB, J', _⟩ := ins_get I.hok hb2
  obtain ⟨od, J, _⟩ := J.look
  obtain ⟨od', J', _⟩ := J'.look
  obtain ⟨m, hF⟩ := I.fr
  unfold compareOp
  refine PySem.W.nx_ne_K (by have := hr.units; omega) hF I.ok.mod.kin J J'.type hn hs hf ho (thn (own_call F ⟨hr.in1, rfl⟩ hb hx I (.cons (show RelV (V.ref a) (Value.ref a) from rfl) (.cons (show RelV (V.ref b) (Value.ref b) from rfl) .nil)) h) fun w' s' z => ?_)
  obtain ⟨x, H2, I2, r2, c, rfl, q⟩ := z
  cases r2
  exact ⟨c, rfl, .bl (!c), H2, I2, rfl, q⟩
theorem op_eqO {n : Nat} {CX : CXT} {C f : Addr} {fd : FuncData} {ps : List Str} {sp : Sp} {E : XK} (F : FnOk X.prog X.w X.K X.mg X.base CX n f fd ps sp) (hr : Room n X.A)
    (hs : PySem.W.findIn X.K (.ref C) "__eq__" = some (some (.ref f))) (hf : PySem.W.isFn X.K (.ref f) = true) (hb : Binds X.K fd ps []) (hx : Passes CX X E) : OpR X (compareOp .Eq) (rNeO C sp E false) := by
  intro pins s σ H x y v u Q I rx ry h
  obtain ⟨a, b, dx, dy, fs, gs, rfl, rfl, ha, hb2, h⟩ := h
  cases rx
  cases ry
  obtain ⟨mA, J, _⟩ := ins_get I.hok ha
  obtain ⟨mB, J', _⟩ := ins_get I.hok hb2
  obtain ⟨od, J, _⟩ := J.look
  obtain ⟨od', J', _⟩ := J'.look
  obtain ⟨m, hF⟩ := I.fr
  show wpAny (model X.prog X.w) X.A (richCompare .Eq _ _) _ _ _
  refine PySem.W.cmp_K (op := .Eq) (tb := .ref C) hr.units0 hF I.ok.mod.kin J J'.type (by simp [PySem.W.notFirst]) hs hf (thn (own_call F ⟨hr, rfl⟩ hb hx I (.cons (show RelV (V.ref a) (Value.ref a) from rfl) (.cons (show RelV (V.ref b) (Value.ref b) from rfl) .nil)) h) fun w' s' z => ?_)
  obtain ⟨x, H2, I2, r2, c, rfl, q⟩ := z
  cases r2
  exact ⟨.bl c, H2, I2, rfl, q⟩
end

/-! ### d.keys() as a value, sorted of it -/
def keysO (p d : Addr) : HO := .ext fun h => PySem.W.KdlKeysView h p d
theorem keysO_ok {P : Program} {w : World} {H : Hp} {h : Heap} {p d : Addr} (e : h.get? p = some { cls := .type "dict_keys", data := .fields #[.ref d] }) : ObjOk P w H h p (keysO p d) :=
  ⟨⟨_, e, rfl, rfl⟩, ⟨_, e⟩, fun h1 h2 x k => let ⟨o, ho, r⟩ := x; ⟨o, k o ho, r⟩⟩
def rKeysK : V → List V → Hp → VK → Prop := fun x xs H Q => ∃ (a : Addr) (kvs : List (L2.Key × V)), x = .ref a ∧ xs = [] ∧ H a = some (.dK kvs) ∧ ∀ p, H p = none → Q (.ref p) (upd H p (keysO p a))
def rSortedKeys : List V → Hp → VK → Prop := fun vs H Q => ∃ (p a : Addr) (kvs : List (L2.Key × V)) (ks : List Int), vs = [.ref p] ∧ H p = some (keysO p a) ∧ H a = some (.dK kvs) ∧ kvs.map (·.1) = ks.map Sum.inl ∧
  ∀ (ys : List Int) (q : Addr), ys.Perm ks → ys.Pairwise (· ≤ ·) → H q = none → Q (.ref q) (upd H q (.lst (ys.map V.int)))
section
variable {X : Cx}
theorem mt_keysK : MtR X "dict.keys" rKeysK := by
  intro pins s σ H x xs v us Q I rx rxs h
  obtain ⟨a, kvs, rfl, rfl, ha, q⟩ := h
  cases rx
  cases rxs
  obtain ⟨z, hd, vs, rel, dd⟩ := dk_of I.hok ha
  have hf : H s.heap.objs.size = none := I.hok.fresh (Nat.le_refl _)
  refine call_meetsIn PySem.F.slot_dict_keys dd.typeIs PySem.F.entry_dict_keys (PySem.F.args_dict_keys_1 _) (PySem.W.kdl_meets_keys (mixKind X.prog X.w) a hd) ⟨⟨vs, dd⟩, ?_⟩
  exact ⟨.ref s.heap.objs.size, upd H s.heap.objs.size (keysO s.heap.objs.size a), I.laid (t' := s.toks) (fun b u e => Heap.get?_push_of_some _ e) (Nat.le_refl _) (keysO_ok (Heap.get?_push_size _ rfl)), rfl, q _ hf⟩
theorem cr_sortedKeys (hc : X.calm = true) : CallR X (.builtin "sorted") rSortedKeys := by
  intro pins s σ H xs us Q I r q
  obtain ⟨p, a, kvs, ks, rfl, hp, hd, hks, q⟩ := q
  obtain ⟨u, rfl, rx⟩ := vals1 r
  cases rx
  obtain ⟨z, lo, vs, rel, dd⟩ := dk_of I.hok hd
  obtain ⟨ep, hat⟩ := dd.dictAt
  have view : PySem.W.KdlKeysView s.heap p a := (show ObjOk X.prog X.w H s.heap p (keysO p a) from I.hok p _ hp).1
  have hkeys : vs.map (·.1) = ks.map Sum.inl := rel.keys.symm.trans hks
  have hl : vs.length = ks.length := by
    have e := congrArg List.length hkeys
    rw [List.length_map, List.length_map] at e
    exact e
  have h16 : vs.length ≤ sizeLine := by rw [← rel.length]; exact z
  refine Calls.call_function_entry PyProof.Rows.kind_sorted PyProof.Rows.plain_sorted PyProof.Rows.entry_sorted (PyProof.Rows.args_sorted1 _) ?_
  unfold Builtin.«sorted»
  refine wpAny_bind (m := checkCount "sorted" 1 1 _) (wpAny_pure ?_)
  refine wpAny_bind (PySem.W.kdu_collect (A := X.A.in1) (PySem.W.kdl_keys (knd := mixKind X.prog X.w) (kvs := vs) (ep := ep)) (I.ok.hd hc) ⟨view, hat⟩ h16 fun h' tk acc hk hacc => ?_)
  have hal : acc.toList.length = ks.length := by rw [Array.length_toList, hacc.1, hl]
  have hS : IntsAre acc.toList ks := ints_each hal fun j v e => by
    obtain ⟨k, x, e1, e2⟩ := hacc.2 j v (by rw [← Array.getElem?_toList]; exact e)
    have e3 : (vs.map (·.1))[j]? = some k := by rw [List.getElem?_map, e1]; rfl
    rw [hkeys, List.getElem?_map] at e3
    cases e4 : ks[j]? with
    | none => rw [e4] at e3; cases e3
    | some y =>
      rw [e4] at e3
      have e5 : Sum.inl y = k := Option.some.inj e3
      subst e5
      rcases keyIs_shape (show keyIs (Sum.inl y) v = true from e2) with ⟨i, t, ek, ev⟩ | ⟨z, t, ek, ev⟩
      · cases ek
        exact ⟨y, t, rfl, ev⟩
      · cases ek
  have I1 : Inv X pins σ H { s with heap := h', toks := tk } := I.kept hk
  have hz2 : acc.toList.length ≤ sizeLine := by rw [hal, ← hl]; exact h16
  refine wpAny_bind (wpAny_newList ?_ hz2)
  have hob : (h'.push (seqObj "list" acc.toList.toArray 0)).get? h'.objs.size = some (seqObj "list" acc.toList.toArray 0) := Heap.get?_push_size _ rfl
  show wpAny _ _ _ _ _ { s with heap := h'.push (seqObj "list" acc.toList.toArray 0), toks := tk }
  refine wpAny_bind (wpAny_holding (wpAny_call_entry PyProof.Rows.slot_list_sort ⟨_, hob, rfl⟩ PyProof.Rows.entry_list_sort
    (SrtO.list_sort_ord SrtO.swo_int (s := { s with heap := h'.push (seqObj "list" acc.toList.toArray 0), toks := tk }) hob hz2 (fun h2 => SrtO.ints_sortable hS h2) fun out h1 h2 => ⟨.none, rfl, ?_⟩) (PyProof.Rows.args_list_sort _)))
  obtain ⟨k1, k2, k3⟩ := SrtO.ints_out hS h1 h2
  obtain ⟨ep', he'⟩ := PyProof.Rows.sortedHeap_at (vs := acc.toList) (out := out.toArray) hob
  have hlen : ((out.map SrtO.iv).map V.int).length ≤ sizeLine := by
    rw [List.length_map, k2.length_eq, ← hal]
    exact hz2
  refine wpAny_pure ⟨_, rfl, .ref h'.objs.size, upd H h'.objs.size (.lst ((out.map SrtO.iv).map V.int)), I1.laid (t' := tk) (fun b u e => ?_) (Nat.le_refl _) ⟨hlen, out, ep', vals_of_ints k1, he'⟩, rfl, q _ _ k2 k3 (I1.hok.fresh (Nat.le_refl _))⟩
  have hb : b < h'.objs.size := Heap.lt_size e
  rw [PyProof.Rows.sortedHeap_old (Nat.ne_of_lt hb) (by rw [size_push']; exact Nat.lt_succ_of_lt hb)]
  exact Heap.get?_push_of_some _ e
end

/-! ### max(xs, default=d) of ints -/
theorem reads_int {h : Heap} {v : Value} {n : Int} {as : List Addr} (r : Reads h v (.int n) as) : ∃ t, v = .int n t := by
  cases r
  exact ⟨_, rfl⟩
theorem readsAll_ints {h : Heap} : ∀ {vs : List Value} {ns : List Int}, Vals (ns.map V.int) vs → ∃ as, ReadsAll h vs (ns.map PyData.int) as
  | _, [], r => by cases r; exact ⟨_, .nil⟩
  | _, n :: ns, r => by
    cases r with
    | cons r1 r2 =>
      obtain ⟨t, rfl⟩ := r1
      obtain ⟨as, h2⟩ := readsAll_ints (ns := ns) r2
      exact ⟨_, .cons (.int _ _) h2⟩
def maxI (x : Int) (xs : List Int) : Int := xs.foldl (fun a y => if a < y then y else a) x
def maxDf (d : Int) : List Int → Int
  | [] => d
  | x :: xs => maxI x xs
def rMaxDf (K : PySem.W.Frag) : List V → List V → Hp → VK → Prop := fun xs zs H Q => ∃ (a : Addr) (ns : List Int) (d : Int), xs = [.ref a] ∧ zs = [.int d] ∧ SqL K H a (ns.map V.int) ∧ Q (.int (maxDf d ns)) H
section
variable {X : Cx}
theorem crk_maxDf (hc : X.calm = true) (hu : X.A.units + 64 < cLine) : CallRK X (.builtin "max") [("default" : Str)] (rMaxDf X.K) := by
  intro pins s σ H xs zs us ws Q I r rz h
  obtain ⟨a, ns, d, rfl, rfl, hs, q⟩ := h
  obtain ⟨u, rfl, rx⟩ := vals1 r
  obtain ⟨u2, rfl, rd⟩ := vals1 rz
  cases rx
  obtain ⟨td, rfl⟩ := rd
  obtain ⟨its, rv, hl, hz⟩ := I.list hs
  have hH : PySem.W.HoldAll s.heap its.toArray.toList ns := by
    show ∃ as, ReadsAll s.heap its.toArray.toList (ns.map PyData.int) as
    exact readsAll_ints rv
  refine PySem.W.max_list_datum_default (α := Int) (I.ok.hd hc) hl.isList hH (show X.A.units + 1 + 0 < cLine by omega) (fun e h' tk k => ?_) fun y ys i v h' tk e hi hv k => ?_
  · subst e
    exact ⟨.int d, H, I.kept k, ⟨_, rfl⟩, q⟩
  · subst e
    obtain ⟨as, hv⟩ := hv
    obtain ⟨t, rfl⟩ := reads_int (n := PySem.W.maxOf y ys) hv
    refine ⟨.int (PySem.W.maxOf y ys), H, I.kept k, ⟨_, rfl⟩, ?_⟩
    have e : PySem.W.maxOf y ys = maxI y ys := by
      unfold PySem.W.maxOf maxI
      congr 1
      funext a b
      show (if decide (a < b) = true then b else a) = _
      by_cases hab : a < b
      · rw [if_pos hab, if_pos (decide_eq_true hab)]
      · rw [if_neg hab, if_neg (by rw [decide_eq_false hab]; exact Bool.false_ne_true)]
    rw [e]
    exact q
end
end NX
namespace NX
open PySem PySem.Spec PyProof.Rows L2
/-! ### t * 1: the tuple itself -/
theorem tuple_mul1 (l : Addr) (items : Array Value) (n : Nat) (dd : Option Addr) (sl : Array (Option Value)) (u : Tok) :
    Meets (Builtin.«tuple.__mul__» ⟨[.ref l, .int 1 u], []⟩) (fun _ R s => s.heap.get? l = some { cls := .type "tuple", dict := dd, data := .seq items n, slots := sl } ∧ R (.ok (.ret (Value.ref l))) s) :=
  .of_wp fun prog w A R s h => by
    obtain ⟨hp, g, d, tk, os⟩ := s
    obtain ⟨hl, h⟩ := h
    have f1 := AutoSeq1.idx_int
    have c1 : (items.isEmpty || (1 : Int) == 1) = true := by simp
    wp_walk using wpAny_loadPart' hl
    all_goals first
      | exact ⟨_, rfl, h⟩
      | trace_state
def rRepT1 (K : PySem.W.Frag) : R2 := fun x y H Q => ∃ l xs, x = .ref l ∧ y = .int 1 ∧ SqT K H l xs ∧ Q (.ref l) H
section
variable {X : Cx}
theorem op_repT1 : OpR X (binaryOp .Mult) (rRepT1 X.K) := by
  intro pins s σ H x y v u Q I rx ry h
  obtain ⟨l, xs, rfl, rfl, hT, q⟩ := h
  cases rx
  obtain ⟨t, rfl⟩ := ry
  obtain ⟨its, r, ⟨⟨cls, dd, data, sl⟩, ho, hc, n, hd⟩, hs⟩ := I.tuple hT
  simp only at hc hd
  subst hc hd
  refine wpAny_binaryOp_repeat_ref (T := "tuple") (U := "int") (by decide) ⟨_, ho, rfl⟩ (fun s' => typeIs_int s' 1 t) noFill_tuple_mul F.fills_int_mul F.slot_int_rmul repeat_tuple F.slot_int_index.lookup
    (call_meets F.slot_int_rmul (typeIs_int s 1 t) F.entry_int_rmul (F.args_int_rmul_2 _ _) (int_rmul_tuple 1 t l its.toArray n dd sl)
      ⟨ho, rfl, ⟨_, ho, rfl⟩, call_meets F.slot_tuple_mul ⟨_, ho, rfl⟩ F.entry_tuple_mul (F.args_tuple_mul_2 _ _) (tuple_mul1 l its.toArray n dd sl t) ⟨ho, ?_⟩⟩)
  exact ⟨.ref l, H, I.tok _, rfl, q⟩
/-- repr of a list or a tuple of data, where no repr runs around it -/
def rReprD (K : PySem.W.Frag) : List V → Hp → VK → Prop := fun vs H Q => ∃ (a : Addr) (d : PyData), vs = [.ref a] ∧ Dp K H (.ref a) d ∧ d.showable = true ∧ d.hasDict = false ∧ d.depth ≤ 40 ∧ d.shown.length ≤ sizeLine ∧ Q (.str d.shown) H
theorem call_reprD (hG : X.A.guards = some []) (hu : X.A.units + 64 < cLine) : CallR X (.builtin "repr") (rReprD X.K) := by
  intro pins s σ H xs us Q I r h
  obtain ⟨a, d, rfl, hd, h1, h2, h3, h4, q⟩ := h
  obtain ⟨u, rfl, rx⟩ := vals1 r
  cases rx
  obtain ⟨as, rd⟩ := Dp.reads I d (.ref a) (.ref a) hd rfl
  exact repr_of_reads' (h₀ := s.heap) rd h1 (fun z => by rw [h2] at z; cases z) hG (by omega) (fun _ _ e => e) (fun h' t tk k => ⟨.str d.shown, H, I.kept k, ⟨_, rfl⟩, q⟩) h4
end
end NX
/-! Own exception classes over any built-in base, whose __init__ says Base.__init__(self, text) and stores fields. -/
namespace NX
open PySem PySem.Spec PyProof.Rows L2
open Builtin Builtin.ObjectAttr
/-! ### the class -/
structure XBase (B newId initId : String) (tl : List Value) : Prop where
  F : ExcBaseFacts B newId initId tl
  pass : ∀ self, refuseLoop self "__setattr__" tl = pure ()
  obj : tl.contains (.type "object") = true
  ne : tl.isEmpty = false
  hand : PySem.W.handedIn (.builtin initId) = true
theorem xbase_Lookup : XBase "LookupError" "LookupError.__new__" "LookupError.__init__" [.type "LookupError", .type "Exception", .type "BaseException", .type "object"] :=
  ⟨PySem.F.excBase_LookupError, PySem.F.store_LookupError.passes, by decide +kernel, rfl, by decide +kernel⟩
theorem xbase_Value : XBase "ValueError" "ValueError.__new__" "ValueError.__init__" [.type "ValueError", .type "Exception", .type "BaseException", .type "object"] :=
  ⟨PySem.F.excBase_ValueError, PySem.F.store_ValueError.passes, by decide +kernel, rfl, by decide +kernel⟩
/-- own classes, then the base's mro -/
def refsTl (tl : List Value) : List Value → Bool
  | .ref _ :: r => refsTl tl r
  | l => l == tl
theorem refsTl_cases (tl : List Value) : ∀ l : List Value, refsTl tl l = true → (∃ c r, l = .ref c :: r ∧ refsTl tl r = true) ∨ l = tl := by
  intro l
  match l with
  | .ref c :: r => exact fun e => .inl ⟨c, r, rfl, e⟩
  | [] => exact fun e => .inr (beq_iff_eq.mp e)
  | .none :: _ => exact fun e => .inr (beq_iff_eq.mp e)
  | .ellipsis :: _ => exact fun e => .inr (beq_iff_eq.mp e)
  | .notImplemented :: _ => exact fun e => .inr (beq_iff_eq.mp e)
  | .bool _ :: _ => exact fun e => .inr (beq_iff_eq.mp e)
  | .int _ _ :: _ => exact fun e => .inr (beq_iff_eq.mp e)
  | .float _ _ :: _ => exact fun e => .inr (beq_iff_eq.mp e)
  | .str _ _ :: _ => exact fun e => .inr (beq_iff_eq.mp e)
  | .bytes _ _ :: _ => exact fun e => .inr (beq_iff_eq.mp e)
  | .type _ :: _ => exact fun e => .inr (beq_iff_eq.mp e)
  | .builtin _ :: _ => exact fun e => .inr (beq_iff_eq.mp e)
section
variable {B newId initId : String} {tl : List Value}
theorem refsTl_pass (T : XBase B newId initId tl) (self : Value) : ∀ l : List Value, refsTl tl l = true → refuseLoop self "__setattr__" l = pure ()
  | [], e => by
    rcases refsTl_cases tl [] e with ⟨c, r, q, _⟩ | q
    · cases q
    · rw [q]; exact T.pass self
  | a :: l, e => by
    rcases refsTl_cases tl (a :: l) e with ⟨c, r, q, h⟩ | q
    · obtain ⟨rfl, rfl⟩ := List.cons.inj q
      rw [refuseLoop_ref]
      exact refsTl_pass T self l h
    · rw [q]; exact T.pass self
theorem refsTl_contains (X : String) : ∀ l : List Value, refsTl tl l = true → l.contains (.type X) = tl.contains (.type X)
  | [], e => by
    rcases refsTl_cases tl [] e with ⟨c, r, q, _⟩ | q
    · cases q
    · rw [q]
  | a :: l, e => by
    rcases refsTl_cases tl (a :: l) e with ⟨c, r, q, h⟩ | q
    · obtain ⟨rfl, rfl⟩ := List.cons.inj q
      rw [List.contains_cons, refsTl_contains X l h]; rfl
    · rw [q]
theorem refsTl_ne (hn : tl.isEmpty = false) : ∀ l : List Value, refsTl tl l = true → l.isEmpty = false
  | [], e => by
    rcases refsTl_cases tl [] e with ⟨c, r, q, _⟩ | q
    · cases q
    · rw [q]; exact hn
  | _ :: _, _ => rfl
end
/-- what the written part says of such a class -/
structure XC (K : PySem.W.Frag) (C : Addr) (newId : String) (tl : List Value) : Prop where
  cls : ∃ nm q N bs bm sn sub ab col dd k0 k1 k2 k3 k5, K.lookup C = some (excClassObj nm q C N bs bm true sn sub ab col dd k0 k1 k2 k3 k5 newId) ∧ refsTl tl bm = true
  sa : PySem.W.findIn K (.ref C) "__setattr__" = some (some (.builtin "object.__setattr__"))
  exC : PySem.W.subIn K (.ref C) (.type "BaseException") = some true
  tyC : PySem.W.typeIn K (.ref C) = some (.type "type")
  kC : PySem.W.keepIn K (.ref C) = true
def clsB (K : PySem.W.Frag) (C : Addr) (newId : String) (tl : List Value) : Bool := match K.lookup C with
  | some ⟨.type c, _, .cls ⟨_, _, .ref C' :: bm, _, _, true, _, _, _, _, false⟩, sl⟩ => decide (c = "type") && (decide (C' = C) && (refsTl tl bm && (match sl.toList with
      | [_, _, _, _, some (.builtin i), _] => decide (i = newId)
      | _ => false)))
  | _ => false
theorem clsB_ok {K : PySem.W.Frag} {C : Addr} {newId : String} {tl : List Value} (h : clsB K C newId tl = true) :
    ∃ nm q N bs bm sn sub ab col dd k0 k1 k2 k3 k5, K.lookup C = some (excClassObj nm q C N bs bm true sn sub ab col dd k0 k1 k2 k3 k5 newId) ∧ refsTl tl bm = true := by
  unfold clsB at h
  split at h
  · rename_i c dd nm bs C' bm ns qn sn sub ab col sl e
    obtain ⟨h1, h⟩ := Bool.and_eq_true_iff.mp h
    obtain ⟨h2, h⟩ := Bool.and_eq_true_iff.mp h
    obtain ⟨h3, h⟩ := Bool.and_eq_true_iff.mp h
    split at h
    · rename_i k0 k1 k2 k3 i k5 e2
      have e3 := of_decide_eq_true h1
      have e4 := of_decide_eq_true h2
      have e5 := of_decide_eq_true h
      subst e3 e4 e5
      refine ⟨nm, qn, ns, bs, bm, sn, sub, ab, col, dd, k0, k1, k2, k3, k5, ?_, h3⟩
      rw [e]
      have e6 : sl = #[k0, k1, k2, k3, some (.builtin i), k5] := by
        cases sl with
        | mk l => exact congrArg Array.mk e2
      rw [e6]
    · cases h
  · cases h
def xcB (K : PySem.W.Frag) (C : Addr) (newId : String) (tl : List Value) : Bool := clsB K C newId tl && (decide (PySem.W.findIn K (.ref C) "__setattr__" = some (some (.builtin "object.__setattr__"))) &&
  (decide (PySem.W.subIn K (.ref C) (.type "BaseException") = some true) && (decide (PySem.W.typeIn K (.ref C) = some (.type "type")) && PySem.W.keepIn K (.ref C))))
theorem xcB_ok {K : PySem.W.Frag} {C : Addr} {newId : String} {tl : List Value} (h : xcB K C newId tl = true) : XC K C newId tl := by
  obtain ⟨h1, h⟩ := Bool.and_eq_true_iff.mp h
  obtain ⟨h2, h⟩ := Bool.and_eq_true_iff.mp h
  obtain ⟨h3, h⟩ := Bool.and_eq_true_iff.mp h
  obtain ⟨h4, h5⟩ := Bool.and_eq_true_iff.mp h
  exact ⟨clsB_ok h1, of_decide_eq_true h2, of_decide_eq_true h3, of_decide_eq_true h4, h5⟩

/-! ### self.f = v on such an exception -/
section
variable {prog : Program} {w : World} {A : Around} {R : Result → Shared → Prop} {hp : Heap} {g : Array GenState} {d : Drawn} {t : Nat} {os : OsState} {B newId initId : String} {tl : List Value}
theorem x_osa {K : W.Frag} {name : Str} {tk : Tok} {v : Value} {x C : Addr} {fv : Array Value} {cd : ClassData} (T : XBase B newId initId tl)
    (X : K.In hp) (hx : hp.get? x = some { cls := .ref C, data := .fields fv }) (hcd : W.clsIn K C = some cd) (hm : refsTl tl cd.mro = true) (hh : cd.hasDict = true) (ha : W.findIn K (.ref C) name = some none)
    (hq : ∀ h' tk' dx, (∀ b o, b ≠ x → hp.get? b = some o → h'.get? b = some o) → hp.objs.size ≤ dx → dx ≠ x → h'.get? x = some { cls := .ref C, dict := some dx, data := .fields fv } →
      h'.Ns1 dx (fun y => if y = name then some v else none) → R (.ok (.ret .none)) ⟨h', g, d, tk', os⟩) :
    codeAny (model prog w) A (.call (.builtin "object.__setattr__") ⟨[.ref x, .str name tk, v], []⟩) R ⟨hp, g, d, t, os⟩ := by
  have I : W.InstAt hp x { cls := .ref C, data := .fields fv } C none := ⟨hx, rfl, rfl, trivial⟩
  have SF := PySem.F.store_object
  have em := refsTl_ne T.ne _ hm
  have hob : cd.mro.contains (.type "object") = true := (refsTl_contains "object" _ hm).trans T.obj
  have hxs : x ≠ hp.objs.size := Nat.ne_of_lt (Heap.lt_size hx)
  have sub : W.Looks (model prog w) hp (isInstance (.ref x) (.type "object")) true := I.type.andThen (W.looks_mroIn X (by
    unfold W.mroIn
    rw [hcd, Option.bind_some, em, hob]
    rfl))
  refine codeAny_call_builtin SF.slot.plain SF.entry (@W.check_slot (model prog w) _ _ ⟨hp, g, d, t, os⟩ "object.__setattr__" "object" "__setattr__" (.ref x) [.str name tk, v] [] _ SF.kind SF.split sub (SF.args (.ref x) (.str name tk) v) ?_)
  have mr : W.Looks (model prog w) hp (mroOf (.ref C)) cd.mro := (W.looks_clsIn X hcd).andThen .now
  have noTaker : W.Looks (model prog w) hp (storeTaker? none) none := .now
  have cl : W.Looks (model prog w) hp (classData C) cd := W.looks_clsIn X hcd
  rw [W.osa_eq, refuse_eq]
  refine wpAny_bind (wpAny_bind (I.type.at (wpAny_bind (mr.at ?_))))
  rw [refsTl_pass T _ _ hm]
  refine wpAny_pure (wpAny_bind (I.type.at (wpAny_bind ((W.looks_findIn X ha).at (wpAny_bind (noTaker.at ?_))))))
  show wpAny _ _ (storeInOwnDict (.ref x) (.ref C) (.str name tk) name v false) _ _ _
  obtain ⟨nm, bs, mro, ns, qn, hd, sn, sb, ab, col, del⟩ := cd
  dsimp only at hh
  subst hh
  unfold storeInOwnDict ownDictForStores
  repeat (first | with_reducible refine HandSPX.store_in_new ?_ ?_ | with_reducible refine wpAny_loadPart_at hx ?_ | with_reducible refine cl.at ?_ | wp_step)
  · exact ⟨_, #[], _, (Heap.get?_update_ne _ _ _ _ hxs.symm).trans (Heap.get?_push_at rfl rfl), rfl, fun e he => absurd he (by simp), fun _ => rfl⟩
  · intro h' tk' hn' hs
    have old : (hp.push { cls := .type "dict", data := .dict #[] }).get? x = some { cls := .ref C, data := .fields fv } := Heap.get?_push_of_some _ hx
    refine hq h' tk' hp.objs.size (fun b o hb ho => ?_) (Nat.le_refl _) hxs.symm ?_ hn'
    · exact (hs.2 b (Nat.ne_of_lt (Heap.lt_size ho))).trans ((Heap.get?_update_ne _ _ _ _ hb).trans (Heap.get?_push_of_some _ ho))
    · exact (hs.2 x hxs).trans (Heap.get?_update_self _ old rfl)
theorem x_osa_old {K : W.Frag} {name : Str} {tk : Tok} {v : Value} {x C dx : Addr} {fv : Array Value} {cd : ClassData} {m0 : Str → Option Value} {nl : List Str} (T : XBase B newId initId tl)
    (X : K.In hp) (hx : hp.get? x = some { cls := .ref C, dict := some dx, data := .fields fv }) (hns : hp.Ns1 dx m0) (hw : PySem.Within m0 nl) (hz : nl.length ≤ 1000) (hcd : W.clsIn K C = some cd) (hm : refsTl tl cd.mro = true) (hh : cd.hasDict = true)
    (ha : W.findIn K (.ref C) name = some none)
    (hq : ∀ h' tk', (∀ b o, b ≠ dx → hp.get? b = some o → h'.get? b = some o) → h'.Ns1 dx (fun y => if y = name then some v else m0 y) → R (.ok (.ret .none)) ⟨h', g, d, tk', os⟩) :
    codeAny (model prog w) A (.call (.builtin "object.__setattr__") ⟨[.ref x, .str name tk, v], []⟩) R ⟨hp, g, d, t, os⟩ := by
  obtain ⟨oD, esD, epD, hoD, hdD, _⟩ := hns.count hw
  have I : W.InstAt hp x { cls := .ref C, dict := some dx, data := .fields fv } C (some oD) := ⟨hx, rfl, rfl, hoD⟩
  have SF := PySem.F.store_object
  have em := refsTl_ne T.ne _ hm
  have hob : cd.mro.contains (.type "object") = true := (refsTl_contains "object" _ hm).trans T.obj
  have sub : W.Looks (model prog w) hp (isInstance (.ref x) (.type "object")) true := I.type.andThen (W.looks_mroIn X (by
    unfold W.mroIn
    rw [hcd, Option.bind_some, em, hob]
    rfl))
  refine codeAny_call_builtin SF.slot.plain SF.entry (@W.check_slot (model prog w) _ _ ⟨hp, g, d, t, os⟩ "object.__setattr__" "object" "__setattr__" (.ref x) [.str name tk, v] [] _ SF.kind SF.split sub (SF.args (.ref x) (.str name tk) v) ?_)
  have mr : W.Looks (model prog w) hp (mroOf (.ref C)) cd.mro := (W.looks_clsIn X hcd).andThen .now
  have noTaker : W.Looks (model prog w) hp (storeTaker? none) none := .now
  have cl : W.Looks (model prog w) hp (classData C) cd := W.looks_clsIn X hcd
  rw [W.osa_eq, refuse_eq]
  refine wpAny_bind (wpAny_bind (I.type.at (wpAny_bind (mr.at ?_))))
  rw [refsTl_pass T _ _ hm]
  refine wpAny_pure (wpAny_bind (I.type.at (wpAny_bind ((W.looks_findIn X ha).at (wpAny_bind (noTaker.at ?_))))))
  show wpAny _ _ (storeInOwnDict (.ref x) (.ref C) (.str name tk) name v false) _ _ _
  obtain ⟨nm, bs, mro, ns, qn, hd, sn, sb, ab, col, del⟩ := cd
  dsimp only at hh
  subst hh
  unfold storeInOwnDict ownDictForStores
  repeat (first | with_reducible refine OEX.store_in_old hns hw hz ?_ | with_reducible refine wpAny_loadPart_at hx ?_ | with_reducible refine cl.at ?_ | wp_step)
  intro h' tk' hn' hs
  exact hq h' tk' (fun b o hb ho => (hs.2 b hb).trans ho) hn'
end
section
variable {X : Cx} {pins : List (Addr × Obj)} {σ : L2.St} {H : Hp} {s : Shared} {a C dx : Addr} {f : Str} {y : V} {u : Value} {fs : List (Str × V)} {Q : Unit → Shared → Prop} {E : Value → Shared → Prop} {A : Around} {B newId initId : String} {tl : List Value}
theorem xc_cls {K : PySem.W.Frag} {C : Addr} {newId : String} {tl : List Value} (T : XC K C newId tl) (hne : tl.isEmpty = false) : ∃ cd, PySem.W.clsIn K C = some cd ∧ refsTl tl cd.mro = true ∧ cd.hasDict = true := by
  obtain ⟨nm, q, N, bs, bm, sn, sub, ab, col, dd, k0, k1, k2, k3, k5, hC, hbm⟩ := T.cls
  refine ⟨{ name := nm, bases := bs, mro := .ref C :: bm, ns := N, qualname := q, hasDict := true, slotNames := sn, subclasses := sub, abstract := ab, collection := col, hasDel := false }, ?_, hbm, rfl⟩
  unfold PySem.W.clsIn
  rw [hC]
/-- the first field -/
theorem xst_new (T0 : XBase B newId initId tl) (T : XC X.K C newId tl) (I : Inv X pins σ H s) (e : H a = some (exo a C none)) (hno : PySem.W.findIn X.K (.ref C) f = some none) (ry : RelV y u)
    (h : ∀ dx s', H dx = none → dx ≠ a → Inv X pins σ (upd (upd H dx (exd dx [(f, y)])) a (exo a C (some dx))) s' → Q () s') : wpAny (model X.prog X.w) A (setAttr (.ref a) f u) Q E s := by
  obtain ⟨cd, hcl, hm, hh⟩ := xc_cls T T0.ne
  obtain ⟨t1, ho⟩ := exo_at I.hok e
  obtain ⟨hp, g, d, t, os⟩ := s
  refine PySem.W.set_plain I.kIn (ox := { cls := .ref C, dict := none, data := .fields #[.ref t1, .none, .none, .none, .bool false, .none] }) (od := none) ⟨ho, rfl, rfl, trivial⟩ T.sa ?_
  refine x_osa T0 I.kIn ho hcl hm hh hno (fun h' tk' dx k dn dne hx hn => ?_)
  have hnd : H dx = none := I.hok.fresh dn
  have nd : ∀ {b : Addr} {o : Obj}, hp.get? b = some o → b ≠ dx := fun {b o} q => Nat.ne_of_lt (Nat.lt_of_lt_of_le (Heap.lt_size q) dn)
  have na : ∀ {b : Addr}, H b = none → b ≠ a := fun {b} n z => by
    rw [z, e] at n
    cases n
  have U : Un X.fs [] H (upd (upd H dx (exd dx [(f, y)])) a (exo a C (some dx))) hp h' := {
    keep := fun b o q n _ _ => k b o (na n) q
    slot := fun b o q n _ _ => ⟨o.slots, k b o (na n) q⟩
    free := fun b o q n _ => by rw [upd_ne (na n), upd_ne (nd q)]; exact n
    there := fun b o q _ => by
      by_cases hb : b = a
      · exact ⟨_, by rw [hb]; exact hx⟩
      · exact ⟨o, k b o hb q⟩
    tups := fun b xs q => by rw [upd_ne (at_ne e q exo_tup), upd_ne (ne_of_none q hnd)]; exact q
    frzs := fun b o v q => by rw [upd_ne (at_ne e q exo_frz), upd_ne (ne_of_none q hnd)]; exact q
    tbls := fun b ps q => ⟨#[], by rw [upd_ne (at_ne e q exo_tbl), upd_ne (ne_of_none q hnd), q]; simp⟩ }
  refine h dx _ hnd dne (I.un (t' := tk') U fun b o q => ?_)
  by_cases hb : b = a
  · subst hb
    rw [upd_same] at q
    cases q
    exact exo_ok hx
  · rw [upd_ne hb] at q
    by_cases hd : b = dx
    · subst hd
      rw [upd_same] at q
      cases q
      exact exd_ok hn (relO_put (fs := []) ry fun g => True.intro)
    · rw [upd_ne hd] at q
      exact (I.hok b o q).stay (fun c v hc z => k c v (by
          rcases hc with hc | hc
          · rw [hc]
            exact hb
          · exact at_ne e hc exo_own) z)
        (fun c hc => by rw [upd_ne (at_ne e hc exo_own), upd_ne (ne_of_none hc hnd)]; exact hc) (fun c xs hc => by rw [upd_ne (at_ne e hc exo_tup), upd_ne (ne_of_none hc hnd)]; exact hc)
/-- a further one -/
theorem xst_old (T0 : XBase B newId initId tl) (T : XC X.K C newId tl) (I : Inv X pins σ H s) (e : H a = some (exo a C (some dx))) (ed : H dx = some (exd dx fs)) (hl : fs.length ≤ 900) (hno : PySem.W.findIn X.K (.ref C) f = some none) (ry : RelV y u)
    (h : ∀ s', Inv X pins σ (upd H dx (exd dx ((f, y) :: fs))) s' → Q () s') : wpAny (model X.prog X.w) A (setAttr (.ref a) f u) Q E s := by
  obtain ⟨cd, hcl, hm, hh⟩ := xc_cls T T0.ne
  obtain ⟨t1, ho⟩ := exo_at I.hok e
  obtain ⟨mA, hns, rel⟩ := exd_at I.hok ed
  have hw := within_of rel
  obtain ⟨hp, g, d, t, os⟩ := s
  obtain ⟨oD, _, _, hoD, _, _⟩ := hns.count hw
  refine PySem.W.set_plain I.kIn (ox := { cls := .ref C, dict := some dx, data := .fields #[.ref t1, .none, .none, .none, .bool false, .none] }) (od := some oD) ⟨ho, rfl, rfl, hoD⟩ T.sa ?_
  refine x_osa_old T0 I.kIn ho hns hw (by rw [List.length_map]; omega) hcl hm hh hno (fun h' tk' k hn => ?_)
  have hd : ∃ o, h'.get? dx = some o := by
    obtain ⟨o, _, _, e', _⟩ := hn
    exact ⟨o, e'⟩
  exact h _ (I.write (t' := tk') (x := dx) (e := dx) (o := exd dx ((f, y) :: fs)) (by rw [ed]; exact True.intro) (.inl rfl) k hd (exd_ok hn (relO_put ry rel)))
/-- Base.__init__(self, ..): nothing of it is told -/
theorem xinit_ok {us : List Value} {Q : Value → Shared → Prop} (T0 : XBase B newId initId tl) (T : XC X.K C newId tl) (I : Inv X pins σ H s) (e : H a = some (exo a C none)) (hl : us.length ≤ sizeLine) (h : ∀ s', Inv X pins σ H s' → Q .none s') :
    wpAny (model X.prog X.w) A (call (.builtin initId) (.ref a :: us)) Q E s := by
  obtain ⟨nm, q, N, bs, bm, sn, sub, ab, col, dd, k0, k1, k2, k3, k5, hC, hbm⟩ := T.cls
  obtain ⟨t1, ho⟩ := exo_at I.hok e
  obtain ⟨hp, g, d, t, os⟩ := s
  refine wpAny_call (PySem.HandSPX.init_base T0.F (fun Y => refsTl_contains Y bm hbm) (I.kIn _ _ hC) ho hl fun h' t2 k hx => ?_)
  have J := I.write (t' := t) (x := a) (e := a) (o := exo a C none) (by rw [e]; exact True.intro) (.inl rfl) k ⟨_, hx⟩ (exo_ok hx)
  have eu : upd H a (exo a C none) = H := by
    funext b
    by_cases hb : b = a
    · rw [hb, upd_same, e]
    · rw [upd_ne hb]
  rw [eu] at J
  exact h _ J
end

/-! ### readings and rules -/
/-- what the class D, as a value, must have for D.__init__ -/
def initB (K : PySem.W.Frag) (D : Addr) (initId : String) : Bool := PySem.W.readsIn K D (.type "type") && (decide (PySem.W.specialIn K (.ref D) "__getattribute__" = some (some (.builtin "type.__getattribute__"))) &&
  (match PySem.W.findCls K (.ref D) (.type "type") "__init__" with
    | some (.val (.builtin i)) => decide (i = initId)
    | _ => false))
theorem initB_ok {K : PySem.W.Frag} {D : Addr} {initId : String} (h : initB K D initId = true) : PySem.W.readsIn K D (.type "type") = true ∧ PySem.W.specialIn K (.ref D) "__getattribute__" = some (some (.builtin "type.__getattribute__")) ∧
    PySem.W.findCls K (.ref D) (.type "type") "__init__" = some (.val (.builtin initId)) := by
  obtain ⟨h1, h⟩ := Bool.and_eq_true_iff.mp h
  obtain ⟨h2, h⟩ := Bool.and_eq_true_iff.mp h
  refine ⟨h1, of_decide_eq_true h2, ?_⟩
  split at h
  · rename_i i e
    rw [e, of_decide_eq_true h]
  · cases h
/-- D.__init__(self, ..) -/
def tXI (K : PySem.W.Frag) (newId : String) (tl : List Value) (ta : TA) : TE := fun σ H Q => ta σ H fun vs H1 => ∃ (a C : Addr) (ws : List V), vs = .ref a :: ws ∧ ws.length ≤ 1000 ∧ XC K C newId tl ∧ H1 a = some (exo a C none) ∧ Q .non H1
/-- self.f = e -/
def tXS (K : PySem.W.Frag) (newId : String) (tl : List Value) (f : Str) (to te : TE) : TS := fun D σ H => te σ H fun y H1 => to σ H1 fun x H2 => ∃ a C : Addr, x = .ref a ∧ XC K C newId tl ∧ PySem.W.findIn K (.ref C) f = some none ∧
  ((H2 a = some (exo a C none) ∧ ∀ dx, H2 dx = none → dx ≠ a → D.nx σ (upd (upd H2 dx (exd dx [(f, y)])) a (exo a C (some dx)))) ∨
    ∃ (dx : Addr) (fs : List (Str × V)), H2 a = some (exo a C (some dx)) ∧ H2 dx = some (exd dx fs) ∧ fs.length ≤ 900 ∧ D.nx σ (upd H2 dx (exd dx ((f, y) :: fs))))
section
variable {X : Cx} {o e : Expr} {es : List Expr} {to te : TE} {ta : TA} {f : Str} {p p' p1 p2 pos : Pos} {B newId initId : String} {tl : List Value}
theorem pe_xinit {pl : Sem Bool} {x : Str} {D : Addr} (T0 : XBase B newId initId tl) (hg : Gl X x) (hm : X.mg x = some (.ref D)) (iD : initB X.K D initId = true) (ha : PA X (e :: es) ta) (hdb : (x == ("__debug__" : Str)) = false := by decide)
    (hc : eval (.Call (.Attribute (.Name x p1) "__init__" p2) (e :: es) [] pos) X.env = (do
      let ov ← eval (.Name x p1) X.env
      standAt p2.atName
      let (f, first) ← holding [ov] (getMethod ov "__init__" pl)
      callWith pos f first (backTo pos (starEach (e :: es) X.env)) (backToKw pos (keywordEach [] X.env))) := by rfl)
    (he : starEach (e :: es) X.env = (false, eval e X.env) :: starEach es X.env := by rfl) (hpl : (backTo pos (starEach es X.env)).any (·.1) = false := by rfl) :
    PE X (.Call (.Attribute (.Name x p1) "__init__" p2) (e :: es) [] pos) (tXI X.K newId tl ta) := by
  refine ⟨fun pins s σ H Q I h => ?_⟩
  obtain ⟨r1, r2, r3⟩ := initB_ok iD
  refine PySem.W.methodCall_KW (ld_glob I hg hm ?_ hdb) hc
  refine PySem.W.method_cls I.kIn r2 (PySem.W.cls_value I.kIn r1 r3 T0.hand ?_)
  show wpAny _ _ (callWith pos (Value.builtin initId) [] (backTo pos (starEach (e :: es) X.env)) []) _ _ _
  refine PyProof.Rows.callWith_method1 (thn (ha.run pos pins _ σ H _ (I.tok _) h) fun us s1 ⟨vs, H1, I1, r1, a, C, ws, ev, hl, T, ea, q⟩ => ?_) he hpl
  subst ev
  cases r1 with
  | @cons _ u0 _ ur ra rw' =>
    obtain rfl : u0 = Value.ref a := ra
    have hlen : ur.length ≤ sizeLine := by
      rw [← Paired.length rw', sizeLine_eq]
      omega
    exact xinit_ok T0 T I1 ea hlen fun s' J => ⟨.non, H1, J, rfl, q⟩
theorem ps_xst (T0 : XBase B newId initId tl) (ho : PE X o to) (he : PE X e te) (hs : swapsWith e (some (.Attribute o f p')) pos.line X.env = pure false := by rfl) : PS X (.Assign [.Attribute o f p'] e pos) (tXS X.K newId tl f to te) := by
  refine ⟨fun pins s σ H D I h => ?_⟩
  refine plainObj_wpAny_Assign_Attribute (thn (he.run pins s σ H _ I h) fun v s1 ⟨y, H1, I1, r1, q1⟩ => thn (ho.run pins s1 σ H1 _ I1 q1) fun u s2 ⟨x, H2, I2, r2, a, C, ex, T, hno, q⟩ => ?_) hs
  subst ex
  obtain rfl : u = Value.ref a := r2
  rcases q with ⟨ea, q⟩ | ⟨dx, fs, ea, ed, hl, q⟩
  · exact xst_new T0 T I2 ea hno r1 fun dx s' n ne J => ⟨σ, _, J, q dx n ne⟩
  · exact xst_old T0 T I2 ea ed hl hno r1 fun s' J => ⟨σ, _, J, q⟩
/-- C(e, ..), C's own __init__ keeping sp -/
theorem pmk_x {CX : CXT} {x : Str} {C fI : Addr} {k : Nat} {fd : FuncData} {ps : List Str} {sp : Sp} {ds : List Value} {dvs : List V} (T0 : XBase B newId initId tl) (T : XC X.K C newId tl) (iC : PySem.W.findIn X.K (.ref C) "__init__" = some (some (.ref fI))) (tI : PySem.W.typeIn X.K (.ref fI) = some (.type "function"))
    (F1 : FnOk X.prog X.w X.K X.mg X.base CX k fI fd ps sp) (hr : Room (k + 1) X.A) (hb : Binds X.K fd ps ds) (hd : Vals dvs ds) (hx : Passes CX X (fun _ _ _ => False)) (hg : Gl X x) (hm : X.mg x = some (.ref C)) (ha : PA X (e :: es) ta)
    (hdb : (x == ("__debug__" : Str)) = false := by decide) (he : starEach (e :: es) X.env = (false, eval e X.env) :: starEach es X.env := by rfl) (hpl : (backTo pos (starEach es X.env)).any (·.1) = false := by rfl) :
    PMk X (.Call (.Name x p) (e :: es) [] pos) (tMkO C sp dvs ta) := by
  intro pins s σ H Q I h
  obtain ⟨nm, q, N, bs, bm, sn, sub, ab, col, dd, k0, k1, k2, k3, k5, hC, hbm⟩ := T.cls
  refine wpAny_Call_Name_kw (ld_glob I hg hm ?_ hdb)
  refine PySem.W.callWith_K (h₀ := X.base) I.ok.mod.kin T.kC (thn (ha.run pos pins s σ H _ I h) fun us s1 ⟨vs, H1, I1, r1, hz, q1⟩ => ⟨I1.kIn, ?_⟩) he hpl
  show wpAny _ _ (call (.ref C) us) _ _ _
  obtain ⟨hp, g, dr, tk, os⟩ := s1
  have hsz : hp.objs.size ≤ hp.objs.size + 1 := Nat.le_succ _
  have hn : H1 (hp.objs.size + 1) = none := I1.hok.fresh hsz
  have hq := q1 (hp.objs.size + 1) hn
  have kk : ∀ b o, hp.get? b = some o → ((hp.push (PySem.W.kdv_tup us)).push (PySem.HandSPX.excO C hp.objs.size)).get? b = some o := fun b o e => Heap.get?_push_of_some _ (Heap.get?_push_of_some _ e)
  have laid : ((hp.push (PySem.W.kdv_tup us)).push (PySem.HandSPX.excO C hp.objs.size)).get? (hp.objs.size + 1) = some (PySem.HandSPX.excO C hp.objs.size) := by heap_get
  have I2 : Inv X pins σ (upd H1 (hp.objs.size + 1) (exo (hp.objs.size + 1) C none)) ⟨(hp.push (PySem.W.kdv_tup us)).push (PySem.HandSPX.excO C hp.objs.size), g, dr, tk, os⟩ :=
    I1.laid (t' := tk) (a := hp.objs.size + 1) (o := exo (hp.objs.size + 1) C none) (h' := (hp.push (PySem.W.kdv_tup us)).push (PySem.HandSPX.excO C hp.objs.size)) kk hsz (exo_ok laid)
  have r2 : Vals (V.ref (hp.objs.size + 1) :: (vs ++ dvs)) (Value.ref (hp.objs.size + 1) :: (us ++ ds)) := .cons rfl (r1.append hd)
  have hl : (Value.ref (hp.objs.size + 1) :: us ++ ds).length = ps.length := by
    have e := r2.length
    rw [F1.len _ _ _ _ hq] at e
    exact e.symm
  have hus : us.length ≤ sizeLine := by
    rw [← Paired.length r1, sizeLine_eq]
    omega
  refine wpAny_call (PySem.HandSPX.call_own T0.F (fun Y => refsTl_contains Y bm hbm) (I1.kIn _ _ hC) (PySem.W.looks_findIn I1.kIn iC) (fun self => PySem.W.bind_fn I1.kIn self tI) hus
    (codeAny_mono (F1.run _ X.stack _ _ ⟨Value.ref (hp.objs.size + 1) :: us, []⟩ (Value.ref (hp.objs.size + 1) :: (us ++ ds)) _ _ (fun _ _ _ => False) (hr.make C us []) (I2.env0.make C us []) (hb _ (Value.ref (hp.objs.size + 1) :: us) I2.kIn hl) r2 hq) fun r s' hq' => ?_))
  cases r with
  | error er => exact hx pins σ _ _ er s' I2 hq'
  | ok fl =>
    cases fl with
    | ret u =>
      obtain ⟨v, H2, os2, bare2, un2, hok2, rv, ev, d, fs, ea, ed, hd1, q2⟩ := hq'
      subst ev
      obtain ⟨h2, g2, d2, t2, os'⟩ := s'
      exact ⟨rv, mk_end (raises_own T.exC T.tyC) I1 hsz kk un2 hok2 os2 bare2 ea ed hd1 q2⟩
    | next => exact False.elim hq'
    | brk => exact False.elim hq'
    | cont => exact False.elim hq'
end
/-- the promise of an __init__ that says Base.__init__(self, text) and stores its one argument -/
def spXI1 (C : Addr) (f : Str) : Sp := fun vs H Q _ => ∃ (a : Addr) (v : V), vs = [.ref a, v] ∧ H a = some (exo a C none) ∧ ∀ dx, H dx = none → dx ≠ a → Q .non (upd (upd H dx (exd dx [(f, v)])) a (exo a C (some dx)))
/-- .. its two arguments -/
def spXI2 (C : Addr) (f g : Str) : Sp := fun vs H Q _ => ∃ (a : Addr) (v u : V), vs = [.ref a, v, u] ∧ H a = some (exo a C none) ∧ ∀ dx, H dx = none → dx ≠ a → Q .non (upd (upd (upd H dx (exd dx [(f, v)])) a (exo a C (some dx))) dx (exd dx [(g, u), (f, v)]))
end NX
/-! Defs run where no repr runs around them; the law's end for such. -/
namespace NX
open PySem PySem.Spec PyProof.Rows L2
/-- as FnOk, wherever no guard is held -/
structure FnG (P : Program) (w : World) (K : PySem.W.Frag) (mg : Str → Option Value) (base : Heap) (CX : CXT) (k : Nat) (f : Addr) (fd : FuncData) (ps : List Str) (sp : Sp) : Prop where
  len : ∀ vs H Q E, sp vs H Q E → vs.length = ps.length
  run : ∀ (A : Around) (outer : List Env) (s : Shared) (H : Hp) (args : Args) (us : List Value) (vs : List V) (Q : VK) (E : XK), A.guards = some [] → Room k A → Env0 P w K mg base A outer s H → BindsTo s fd args (ps.zip us) → Vals vs us → sp vs H Q E →
    codeAny (model P w) A (.call (.ref f) args) (CR CX outer P w H s Q E) s
/-- a def by its body, where no guard is held -/
theorem fnG_of {CX : CXT} {P : Program} {w : World} {K : PySem.W.Frag} {mg : Str → Option Value} {base : Heap} {k : Nat} {f : Addr} {name qual : Str} {params : Arguments} {body : List Stmt} {scope : Scope} {dvs : List V} {kws : List (Str × V)} {fd : FuncData}
    {N ps : List Str} {sp : Sp} (F : FunD K name qual params body scope dvs kws f fd) (S : FnScope N ps scope) (len : ∀ vs H Q E, sp vs H Q E → vs.length = ps.length)
    (hbody : ∀ (cdv : Value) (A : Around) (outer : List Env) (s : Shared) (H : Hp) (vs : List V) (Q : VK) (E : XK), A.guards = some [] → Room k (A.deeper (envOfC qual scope s.heap.objs.size f cdv)) → sp vs H Q E →
      ∃ t, PSs (cxOf CX P w K mg base N qual scope f cdv A outer s H E) body t ∧ t { nx := fun _ H' => Q .non H', rt := Q } (start N vs) H) :
    FnG P w K mg base CX (k + 1) f fd ps sp := by
  obtain ⟨oc, od, dV, kV, doc, pm, an, cdv, ct, osl, rfl, lk, hcd, _, _⟩ := F.ex
  refine ⟨len, fun A outer s H args us vs Q E hg hr e0 hb r hsp => ?_⟩
  have there : ∀ b o, base.get? b = some o → s.heap.get? b = some o := fun b o e => (e0.bs b o e).1
  refine codeAny_call_function hr.depth (e0.mod.kin.keeps there _ _ lk) rfl S.co S.gen rfl (PySem.W.codeRec_of (e0.mod.kin.keeps there) hcd) (hb _ _ _ _ ?_)
  have named : ∀ y ∈ ps.zip us, scope.names.lookup y.1 = some .local ∨ (scope.names.lookup y.1 = some .cell ∧ ((cellsFrom (s.heap.objs.size + 1) scope.names []).lookup y.1).isSome = true) := by
    rintro ⟨n, v⟩ hy
    cases S.par n (List.of_mem_zip hy).1 with
    | inl q => exact .inl q
    | inr q => exact .inr ⟨q, PySem.W.cellsFrom_some _ _ _ (.inl q)⟩
  refine wpAny_newFunctionEnv_cells S.kind named fun env he s1 x => ?_
  subst he
  refine ⟨(e0.mod.nolimit.keeps there).keeps x.toInCall.keep, codeAny_func ?_⟩
  obtain ⟨t, ht, hq⟩ := hbody cdv A outer s H vs Q E hg (hr.deeper _) hsp
  have I : Inv (cxOf CX P w K mg base N qual scope f cdv A outer s H E) [] (start N vs) H s1 := inv_start S hr.hd e0 (len _ _ _ _ hsp) r x
  refine wpAny_mono (ht.run [] s1 (start N vs) H _ I hq) (fun fl s' hs => ?_) fun e s' hs => hs
  match fl, hs with
  | .ret u, ⟨v, σ', H', J, rv, q⟩ => exact ⟨v, H', J.os, J.bare, J.base, J.hok, rv, q⟩
  | .next, ⟨σ', H', J, q⟩ => exact ⟨V.non, H', J.os, J.bare, J.base, J.hok, rfl, q⟩
  | .brk, ⟨_, _, _, q⟩ => exact False.elim q
  | .cont, ⟨_, _, _, q⟩ => exact False.elim q
/-- a def that runs anywhere runs there -/
theorem fnG_any {P : Program} {w : World} {K : PySem.W.Frag} {mg : Str → Option Value} {base : Heap} {CX : CXT} {k : Nat} {f : Addr} {fd : FuncData} {ps : List Str} {sp : Sp} (F : FnOk P w K mg base CX k f fd ps sp) : FnG P w K mg base CX k f fd ps sp :=
  ⟨F.len, fun A outer s H args us vs Q E _ hr e0 hb r h => F.run A outer s H args us vs Q E hr e0 hb r h⟩
/-- the law's end: its def runs where no guard is held -/
theorem law_callG {P : Program} {w : World} {K : PySem.W.Frag} {mg mb : Str → Option Value} {k : Nat} {fa a : Addr} {fd : FuncData} {x : Str} {sp : Sp} {s₁ : Shared} {vs : List Value} {ns : List Int}
    (KX : K.In s₁.heap) (hns : s₁.heap.Ns mainGlobals mg) (hb : s₁.heap.Ns builtinsNs mb) (hbb : ∀ x : Str, x ≠ "__name__" → mb x = bootBuiltins x) (hlim : s₁.heap.NoLimit) (hg : s₁.gens = #[])
    (ha : s₁.heap.get? a = some { cls := .type "list", data := .seq vs.toArray }) (hi : IntsAre vs ns) (hl : ns.length ≤ sizeLine) (hr : Room k callerA)
    (F : ∀ base : Heap, K.In base → base.Ns mainGlobals mg → FnG P w K mg base CX0 k fa fd [x] sp) (hbind : ∀ (s : Shared) (u : Value), BindsTo s fd ⟨[u], []⟩ [(x, u)])
    (hsp : ∀ H : Hp, Only H → SqL K H a (ns.map V.int) → sp [.ref a] H (fun v _ => v = .bl true) fun _ _ _ => False) :
    codeAny (model P w) callerA (.call (.ref fa) ⟨[.ref a], []⟩) (fun r s' => r = .ok (.ret (.bool true)) ∧ OldK s₁.heap s'.heap ∧ s'.os = s₁.os ∧ AllBare s'.gens) s₁ := by
  -- the script alone may be tracked at the entry
  suffices go : ∀ H : Hp, Only H → SqL K H a (ns.map V.int) → HOk P w H s₁.heap → (∀ b, H b ≠ none → b = a ∧ K.lookup a = none) →
      codeAny (model P w) callerA (.call (.ref fa) ⟨[.ref a], []⟩) (fun r s' => r = .ok (.ret (.bool true)) ∧ OldK s₁.heap s'.heap ∧ s'.os = s₁.os ∧ AllBare s'.gens) s₁ by
    have rv := vals_ints hi
    cases hk : K.lookup a with
    | some o =>
      have e := (ha.symm.trans (KX a o hk))
      cases e
      exact go (fun _ => none) (fun _ => .inl rfl) (.inr ⟨_, vs.toArray, _, hk, rfl, rfl, rfl, by rw [List.size_toArray, hi.length]; exact hl, by simpa using rv⟩) (fun b u z => nomatch (show (none : Option HO) = some u from z)) fun b z => absurd rfl z
    | none =>
      have at_a : ∀ {b : Addr} {u : HO}, (if b = a then some (HO.frz { cls := .type "list", data := .seq vs.toArray } (.lst (ns.map V.int))) else none) = some u → b = a ∧ u = .frz { cls := .type "list", data := .seq vs.toArray } (.lst (ns.map V.int)) := by
        intro b u z
        by_cases q : b = a
        · rw [if_pos q] at z
          exact ⟨q, (Option.some.inj z).symm⟩
        · rw [if_neg q] at z
          cases z
      refine go (fun b => if b = a then some (.frz { cls := .type "list", data := .seq vs.toArray } (.lst (ns.map V.int))) else none) (fun b => ?_) (.inl (.inr ⟨_, if_pos rfl⟩)) (fun b u z => ?_) fun b z => ⟨?_, hk⟩
      · by_cases q : b = a
        · exact .inr ⟨_, _, if_pos q⟩
        · exact .inl (if_neg q)
      · obtain ⟨rfl, rfl⟩ := at_a z
        exact ⟨ha, by rw [List.length_map]; exact hl, vs, _, rv, ha⟩
      · by_cases q : b = a
        · exact q
        · exact absurd (if_neg q) z
  intro H hO hS hok hA
  have un : ∀ {b : Addr} {o : Obj}, s₁.heap.get? b = some o → b ≠ a → H b = none := fun {b o} _ n => by
    cases q : H b with
    | none => rfl
    | some u => exact absurd (hA b (by rw [q]; exact Option.some_ne_none u)).1 n
  have dictNe : ∀ {b : Addr} {o : Obj} {es : Array DictEntry} {ep : Nat}, s₁.heap.get? b = some o → o.data = .dict es ep → b ≠ a := fun {b o es ep} e d q => by
    rw [q, ha] at e
    cases e
    cases (show Data.seq vs.toArray _ = Data.dict es ep from d)
  have nsB : ∀ {b : Addr} {m : Str → Option Value}, s₁.heap.Ns b m → (hidT s₁.heap H).Ns b m := fun {b m} z => by
    obtain ⟨o, es, ep, e, d, r⟩ := z
    exact ⟨o, es, ep, hidT_get e (un e (dictNe e d)), d, r⟩
  have KB : K.In (hidT s₁.heap H) := fun b o e => by
    have e2 := KX b o e
    refine hidT_get e2 ?_
    cases q : H b with
    | none => rfl
    | some u =>
      obtain ⟨q1, q2⟩ := hA b (by rw [q]; exact Option.some_ne_none u)
      rw [q1, q2] at e
      cases e
  obtain ⟨mc, l1, l2⟩ := hlim
  have e0 : Env0 P w K mg (hidT s₁.heap H) callerA [] s₁ H := {
    frames := rfl
    mod := ⟨KB, nsB hns, ⟨mb, nsB hb, hbb⟩, ⟨mc, nsB l1, l2⟩⟩
    bs := fun b o e => of_hidT e
    bsz := Nat.le_of_eq (hidT_size _ _)
    funs := trivial
    frf := fun b z => absurd (show b ∈ ([] : List Addr) from z) (by simp)
    hok := hok
    bare := .of_eq hg }
  refine codeAny_mono ((F _ KB (nsB hns)).run callerA [] s₁ H ⟨[.ref a], []⟩ [.ref a] [.ref a] _ _ rfl hr e0 (hbind s₁ (.ref a)) (.cons rfl .nil) (hsp H hO hS)) fun r s' h => ?_
  match r, h with
  | .error e, h => exact h.elim
  | .ok .next, h => exact False.elim h
  | .ok .brk, h => exact False.elim h
  | .ok .cont, h => exact False.elim h
  | .ok (.ret u), ⟨v, H', os, bare, un', hok', r', q⟩ =>
    obtain rfl : v = .bl true := q
    obtain rfl : u = Value.bool true := r'
    refine ⟨rfl, OldK.of_keep fun b o e => ?_, os, bare⟩
    cases q : H b with
    | none => exact un'.keep b o e q (fun z => absurd (show b ∈ ([] : List Addr) from z) (by simp)) (by simp)
    | some u =>
      rcases hO b with z | ⟨ob, xs, z⟩
      · rw [q] at z
        cases z
      · obtain ⟨e1, _⟩ := hok b _ z
        obtain ⟨e2, _⟩ := hok' b _ (un'.frzs b ob _ z)
        rw [e] at e1
        cases e1
        exact e2
/-- the law's end over a head by facts -/
theorem walk_ofG {l : PySem.W.OpenLaw} {n k : Nat} {q : Program} {loose : List Str} {XP : (Str → Option Value) → Heap → Prop} {YP : World → Heap → Prop} {d : DefRec} {x : Str}
    (hn : l.most = some n) (hn2 : n ≤ sizeLine) (hdf : d.params.defaults = []) (hr : Room k callerA)
    (F : ∀ (w : World) (mg : Str → Option Value) (fa : Addr) (h : Heap), YP w h → h.Ns mainGlobals mg → mg d.name = some (.ref fa) →
      ∃ (K : PySem.W.Frag) (fd : FuncData) (sp : Sp), K.In h ∧ (∀ (s : Shared) (u : Value), BindsTo s fd ⟨[u], []⟩ [(x, u)]) ∧
        (∀ (H : Hp) (a : Addr) (ns : List Int), ns.length ≤ n → Only H → SqL K H a (ns.map V.int) → sp [.ref a] H (fun v _ => v = .bl true) fun _ _ _ => False) ∧
        ∀ base : Heap, K.In base → base.Ns mainGlobals mg → FnG l.prog w K mg base CX0 k fa fd [x] sp) :
    PySem.W.WalkO q loose XP YP l.row.toRowW d [] (fun f vs => PySem.call f vs) := by
  refine Att.attach_call hn hdf fun w s₀ s₁ mg mb fa o pm cd doc a vs ns G Y ho hd hcd hmg hobj hints hlen hg => ?_
  obtain ⟨K, fd, sp, KX, hb, hsp, hF⟩ := F w mg fa _ Y G.T.g hmg
  exact law_callG KX G.T.g G.T.b G.T.builtins G.T.nolimit hg hobj hints (Nat.le_trans hlen hn2) hr hF hb (fun H hO hS => hsp H a ns hlen hO hS)

/-! ### facts of a head: names, defs, further Bools -/
def fdOf (K : PySem.W.Frag) (p : Str × Option Str) : FuncData := match K.lookup (He.fAd K p) with
  | some ⟨_, _, .func fd, _⟩ => fd
  | _ => default
def insB (K : PySem.W.Frag) (C : Addr) : Bool := He.eqO (PySem.W.findIn K (.ref C) "__class__") (some (some (.builtin "object.__class__"))) && (He.eqO (PySem.W.specialIn K (.builtin "object.__class__") "__get__") (some (some (.builtin "getset_descriptor.__get__"))) &&
  (decide (PySem.W.takesIn K (.builtin "object.__class__") = some true) && (decide (PySem.W.mroIn K C (.type "object") = some true) && decide (PySem.W.kitOne K (.ref C) (.ref C) = some true))))
theorem insB_ok {K : PySem.W.Frag} {C : Addr} (cl : Cls K C) (h : insB K C = true) : C8.InsC K C := by
  obtain ⟨h1, h⟩ := Bool.and_eq_true_iff.mp h
  obtain ⟨h2, h⟩ := Bool.and_eq_true_iff.mp h
  obtain ⟨h3, h⟩ := Bool.and_eq_true_iff.mp h
  obtain ⟨h4, h5⟩ := Bool.and_eq_true_iff.mp h
  exact ⟨cl, He.eqO_ok h1, He.eqO_ok h2, of_decide_eq_true h3, of_decide_eq_true h4, of_decide_eq_true h5⟩
def neB (K : PySem.W.Frag) (C : Addr) : Bool := He.eqO (PySem.W.findIn K (.ref C) "__ne__") (some (some (.builtin "object.__ne__"))) && decide (PySem.W.mroIn K C (.type "object") = some true)
theorem neB_ok {K : PySem.W.Frag} {C : Addr} (h : neB K C = true) : PySem.W.findIn K (.ref C) "__ne__" = some (some (.builtin "object.__ne__")) ∧ PySem.W.mroIn K C (.type "object") = some true := by
  obtain ⟨h1, h2⟩ := Bool.and_eq_true_iff.mp h
  exact ⟨He.eqO_ok h1, of_decide_eq_true h2⟩
def obsM (fa : List He.Fa) (fn : List He.DefD) (fx : List (PySem.W.Frag → Bool)) (K : PySem.W.Frag) : He.AlD × Bool := (He.obsD fa fn K, fx.all fun e => e K)
def SaysM (fa : List He.Fa) (fn : List He.DefD) (fx : List (PySem.W.Frag → Bool)) (K : PySem.W.Frag) : Prop := obsM fa fn fx K = (He.valD fn, true)
def hookM (n : Nat) (fa : List He.Fa) (fn : List He.DefD) (fx : List (PySem.W.Frag → Bool)) : PySem.W.Hook where
  α := He.AlD × Bool
  obs := fun s => obsM fa fn fx (He.frG s.heap.get? (cStatics :: He.asD s.heap.get? n))
  val := fun _ => (He.valD fn, true)
  says := fun _ h => ∃ K : PySem.W.Frag, K.In h ∧ SaysM fa fn fx K
  of := fun _ _ e => ⟨_, He.frG_in, e⟩
  keeps := fun _ _ _ ⟨K, hK, c⟩ k => ⟨K, PySem.W.Frag.In.keeps hK k, c⟩
def obsMG (n : Nat) (fa : List He.Fa) (fn : List He.DefD) (fx : List (PySem.W.Frag → Bool)) (g : Addr → Option Obj) : He.AlD × Bool := obsM fa fn fx (He.frG g (cStatics :: He.asD g n))
theorem obsMG_eq {n : Nat} {fa : List He.Fa} {fn : List He.DefD} {fx : List (PySem.W.Frag → Bool)} {g : Addr → Option Obj} {s : Shared} (h : ∀ a, g a = s.heap.get? a) : obsMG n fa fn fx g = (hookM n fa fn fx).obs s := by
  have e : g = s.heap.get? := funext h
  rw [e]
  rfl
section
variable {fa : List He.Fa} {fn : List He.DefD} {fx : List (PySem.W.Frag → Bool)} {K : PySem.W.Frag}
theorem SaysM.d (c : SaysM fa fn fx K) : He.SaysD fa fn K := congrArg (fun z : He.AlD × Bool => z.1) c
theorem SaysM.x (c : SaysM fa fn fx K) (i : Nat) {e : PySem.W.Frag → Bool} (h : fx[i]? = some e := by rfl) : e K = true := by
  have c2 : (fx.all fun e => e K) = true := congrArg (fun z : He.AlD × Bool => z.2) c
  exact List.all_eq_true.mp c2 e (List.mem_of_getElem? h)
theorem SaysM.df (c : SaysM fa fn fx K) (i : Nat) {d : He.DefD} (h : fn[i]? = some d := by rfl) : FunD K d.name d.qual d.params d.body d.scope (d.dvs K) (d.kws K) (He.fAd K d.at_) (fdOf K d.at_) := by
  obtain ⟨fd, F⟩ := c.d.def_ i h
  have e : fdOf K d.at_ = fd := by
    obtain ⟨oc, od, dV, kV, doc, pm, an, cdv, ct, osl, _, lk, _⟩ := F.ex
    unfold fdOf
    rw [lk]
  rw [e]
  exact F
end
theorem fnIn_of {K : PySem.W.Frag} {x qual : Str} {params : Arguments} {body : List Stmt} {scope : Scope} {dvs : List V} {kws : List (Str × V)} {f : Addr} {fd : FuncData} (F : FunD K x qual params body scope dvs kws f fd) : PySem.W.fnIn K f = true := by
  obtain ⟨oc, od, dV, kV, doc, pm, an, cdv, ct, osl, _, lk, _⟩ := F.ex
  unfold PySem.W.fnIn
  rw [lk]
abbrev tlLookup : List Value := [.type "LookupError", .type "Exception", .type "BaseException", .type "object"]
end NX
namespace T59
open PySem PySem.Spec PyProof.Rows L2
abbrev R : PySem.W.OpenRow := PySem.W.OpenLaw.row PySem.Challenge.rw_toldpast_k59_long_chains_of_terms
def top (i : Nat) : Stmt := PySem.Challenge.pw_toldpast_k59_long_chains_of_terms.main.body.getD i (.Pass ⟨0, 0, 0, 0⟩)
abbrev s_is_integer : Stmt := top 23
abbrev s_is_name : Stmt := top 24
abbrev s_is_list : Stmt := top 25
abbrev s_is_pair : Stmt := top 26
abbrev s_is_turn : Stmt := top 30
abbrev s_is_sample_row : Stmt := top 31
abbrev s_arguments_of : Stmt := top 32
abbrev s_written : Stmt := top 33
abbrev s_need_known : Stmt := top 36
abbrev s_same_term : Stmt := top 38
abbrev s__law_cell : Stmt := top 40
abbrev s__law_box : Stmt := top 41
abbrev s__law_take : Stmt := top 42
abbrev s__law_count : Stmt := top 43
abbrev s__law_none : Stmt := top 44
abbrev s__law_is_long : Stmt := top 45
abbrev s__law_chains : Stmt := top 46
abbrev s_law : Stmt := top 47
abbrev s_Book_init : Stmt := inClass (top 34) 0
abbrev s_Book_add_item : Stmt := inClass (top 34) 1
abbrev s_Book_has_number : Stmt := inClass (top 34) 2
abbrev s_Book_need_number : Stmt := inClass (top 34) 3
abbrev s_Book_number_of : Stmt := inClass (top 34) 4
abbrev s_Book_rows : Stmt := inClass (top 34) 8
abbrev s_Book_len : Stmt := inClass (top 34) 9
abbrev s_Book_getitem : Stmt := inClass (top 34) 10
abbrev s_Book_eq : Stmt := inClass (top 34) 13
abbrev s_Book_copied : Stmt := inClass (top 34) 14
abbrev s_Book_parts : Stmt := inClass (top 34) 15
abbrev s_Book_size : Stmt := inClass (top 34) 16
abbrev s_Book_depth : Stmt := inClass (top 34) 17
abbrev s_Book_length : Stmt := inClass (top 34) 18
abbrev s_Book_text : Stmt := inClass (top 34) 19
abbrev s_Book_evaluate : Stmt := inClass (top 34) 21
abbrev s_Book_carry : Stmt := inClass (top 34) 22
abbrev s_Book_differ : Stmt := inClass (top 34) 23
abbrev s_TooLong_init : Stmt := inClass (top 16) 0
def d_is_integer : He.DefD := ⟨("is_integer", none), "is_integer", "is_integer", defArgs s_is_integer, defBody s_is_integer, defScope s_is_integer, [], []⟩
def d_is_name : He.DefD := ⟨("is_name", none), "is_name", "is_name", defArgs s_is_name, defBody s_is_name, defScope s_is_name, [], []⟩
def d_is_list : He.DefD := ⟨("is_list", none), "is_list", "is_list", defArgs s_is_list, defBody s_is_list, defScope s_is_list, [], []⟩
def d_is_pair : He.DefD := ⟨("is_pair", none), "is_pair", "is_pair", defArgs s_is_pair, defBody s_is_pair, defScope s_is_pair, [], []⟩
def d_is_turn : He.DefD := ⟨("is_turn", none), "is_turn", "is_turn", defArgs s_is_turn, defBody s_is_turn, defScope s_is_turn, [], []⟩
def d_is_sample_row : He.DefD := ⟨("is_sample_row", none), "is_sample_row", "is_sample_row", defArgs s_is_sample_row, defBody s_is_sample_row, defScope s_is_sample_row, [], []⟩
def d_arguments_of : He.DefD := ⟨("arguments_of", none), "arguments_of", "arguments_of", defArgs s_arguments_of, defBody s_arguments_of, defScope s_arguments_of, [], []⟩
def d_written : He.DefD := ⟨("written", none), "written", "written", defArgs s_written, defBody s_written, defScope s_written, [], []⟩
def d_need_known : He.DefD := ⟨("need_known", none), "need_known", "need_known", defArgs s_need_known, defBody s_need_known, defScope s_need_known, [], []⟩
def d_same_term : He.DefD := ⟨("same_term", none), "same_term", "same_term", defArgs s_same_term, defBody s_same_term, defScope s_same_term, [], []⟩
def d__law_cell : He.DefD := ⟨("_law_cell", none), "_law_cell", "_law_cell", defArgs s__law_cell, defBody s__law_cell, defScope s__law_cell, [], []⟩
def d__law_box : He.DefD := ⟨("_law_box", none), "_law_box", "_law_box", defArgs s__law_box, defBody s__law_box, defScope s__law_box, [], []⟩
def d__law_take : He.DefD := ⟨("_law_take", none), "_law_take", "_law_take", defArgs s__law_take, defBody s__law_take, defScope s__law_take, [], []⟩
def d__law_count : He.DefD := ⟨("_law_count", none), "_law_count", "_law_count", defArgs s__law_count, defBody s__law_count, defScope s__law_count, [], []⟩
def d__law_none : He.DefD := ⟨("_law_none", none), "_law_none", "_law_none", defArgs s__law_none, defBody s__law_none, defScope s__law_none, [], []⟩
def d__law_is_long : He.DefD := ⟨("_law_is_long", none), "_law_is_long", "_law_is_long", defArgs s__law_is_long, defBody s__law_is_long, defScope s__law_is_long, [], []⟩
def d__law_chains : He.DefD := ⟨("_law_chains", none), "_law_chains", "_law_chains", defArgs s__law_chains, defBody s__law_chains, defScope s__law_chains, [], []⟩
def d_law : He.DefD := ⟨("law", none), "law", "law", defArgs s_law, defBody s_law, defScope s_law, [], []⟩
def d_Book_init : He.DefD := ⟨("Book", some "__init__"), "__init__", "Book.__init__", defArgs s_Book_init, defBody s_Book_init, defScope s_Book_init, [.adr (He.dflAt ("Book", some "__init__") 0)], []⟩
def d_Book_add_item : He.DefD := ⟨("Book", some "add_item"), "add_item", "Book.add_item", defArgs s_Book_add_item, defBody s_Book_add_item, defScope s_Book_add_item, [], []⟩
def d_Book_has_number : He.DefD := ⟨("Book", some "has_number"), "has_number", "Book.has_number", defArgs s_Book_has_number, defBody s_Book_has_number, defScope s_Book_has_number, [], []⟩
def d_Book_need_number : He.DefD := ⟨("Book", some "need_number"), "need_number", "Book.need_number", defArgs s_Book_need_number, defBody s_Book_need_number, defScope s_Book_need_number, [], []⟩
def d_Book_number_of : He.DefD := ⟨("Book", some "number_of"), "number_of", "Book.number_of", defArgs s_Book_number_of, defBody s_Book_number_of, defScope s_Book_number_of, [], []⟩
def d_Book_rows : He.DefD := ⟨("Book", some "rows"), "rows", "Book.rows", defArgs s_Book_rows, defBody s_Book_rows, defScope s_Book_rows, [], []⟩
def d_Book_len : He.DefD := ⟨("Book", some "__len__"), "__len__", "Book.__len__", defArgs s_Book_len, defBody s_Book_len, defScope s_Book_len, [], []⟩
def d_Book_getitem : He.DefD := ⟨("Book", some "__getitem__"), "__getitem__", "Book.__getitem__", defArgs s_Book_getitem, defBody s_Book_getitem, defScope s_Book_getitem, [], []⟩
def d_Book_eq : He.DefD := ⟨("Book", some "__eq__"), "__eq__", "Book.__eq__", defArgs s_Book_eq, defBody s_Book_eq, defScope s_Book_eq, [], []⟩
def d_Book_copied : He.DefD := ⟨("Book", some "copied"), "copied", "Book.copied", defArgs s_Book_copied, defBody s_Book_copied, defScope s_Book_copied, [], []⟩
def d_Book_parts : He.DefD := ⟨("Book", some "parts"), "parts", "Book.parts", defArgs s_Book_parts, defBody s_Book_parts, defScope s_Book_parts, [], []⟩
def d_Book_size : He.DefD := ⟨("Book", some "size"), "size", "Book.size", defArgs s_Book_size, defBody s_Book_size, defScope s_Book_size, [], []⟩
def d_Book_depth : He.DefD := ⟨("Book", some "depth"), "depth", "Book.depth", defArgs s_Book_depth, defBody s_Book_depth, defScope s_Book_depth, [], []⟩
def d_Book_length : He.DefD := ⟨("Book", some "length"), "length", "Book.length", defArgs s_Book_length, defBody s_Book_length, defScope s_Book_length, [], []⟩
def d_Book_text : He.DefD := ⟨("Book", some "text"), "text", "Book.text", defArgs s_Book_text, defBody s_Book_text, defScope s_Book_text, [], []⟩
def d_Book_evaluate : He.DefD := ⟨("Book", some "evaluate"), "evaluate", "Book.evaluate", defArgs s_Book_evaluate, defBody s_Book_evaluate, defScope s_Book_evaluate, [], [("samples", .non)]⟩
def d_Book_carry : He.DefD := ⟨("Book", some "carry"), "carry", "Book.carry", defArgs s_Book_carry, defBody s_Book_carry, defScope s_Book_carry, [], []⟩
def d_Book_differ : He.DefD := ⟨("Book", some "differ"), "differ", "Book.differ", defArgs s_Book_differ, defBody s_Book_differ, defScope s_Book_differ, [], []⟩
def d_TooLong_init : He.DefD := ⟨("TooLong", some "__init__"), "__init__", "TooLong.__init__", defArgs s_TooLong_init, defBody s_TooLong_init, defScope s_TooLong_init, [], []⟩
def fn : List He.DefD := [d_is_integer, d_is_name, d_is_list, d_is_pair, d_is_turn, d_is_sample_row, d_arguments_of, d_written, d_need_known, d_same_term, d__law_cell, d__law_box, d__law_take, d__law_count, d__law_none, d__law_is_long, d__law_chains, d_law, d_Book_init, d_Book_add_item, d_Book_has_number, d_Book_need_number, d_Book_number_of, d_Book_rows, d_Book_len, d_Book_getitem, d_Book_eq, d_Book_copied, d_Book_parts, d_Book_size, d_Book_depth, d_Book_length, d_Book_text, d_Book_evaluate, d_Book_carry, d_Book_differ, d_TooLong_init]
def fa : List He.Fa := [.glo "is_integer",
  .glo "is_name",
  .glo "is_list",
  .glo "is_pair",
  .glo "is_turn",
  .glo "is_sample_row",
  .glo "arguments_of",
  .glo "written",
  .glo "need_known",
  .glo "same_term",
  .glo "_law_cell",
  .glo "_law_box",
  .glo "_law_take",
  .glo "_law_count",
  .glo "_law_none",
  .glo "_law_is_long",
  .glo "_law_chains",
  .glo "law",
  .glo "StateError",
  .glo "Book",
  .cls "Book",
  .mkr "Book",
  .meth "Book" "add_item",
  .meth "Book" "has_number",
  .meth "Book" "need_number",
  .meth "Book" "number_of",
  .meth "Book" "rows",
  .meth "Book" "__len__",
  .meth "Book" "__getitem__",
  .meth "Book" "__eq__",
  .meth "Book" "copied",
  .meth "Book" "parts",
  .meth "Book" "size",
  .meth "Book" "depth",
  .meth "Book" "length",
  .meth "Book" "text",
  .meth "Book" "evaluate",
  .meth "Book" "carry",
  .meth "Book" "differ",
  .noat "Book" "held",
  .noat "Book" "numbers",
  .glo "TooLong",
  .meth "TooLong" "__init__",
  .noat "TooLong" "number",
  .int "LONGEST_NAME" 8,
  .int "MOST_ARGUMENTS" 3,
  .int "LONGEST_TEXT" 400,
  .str "LETTERS" "abcdefghijklmnopqrstuvwxyz",
  .str "DIGITS" "0123456789",
  .free "isinstance",
  .free "int",
  .free "bool",
  .free "str",
  .free "list",
  .free "tuple",
  .free "dict",
  .free "len",
  .free "all",
  .free "range",
  .free "sorted",
  .free "sum",
  .free "max",
  .free "min",
  .free "repr",
  .exm "TooLong" "TooLong" true]
def fx : List (PySem.W.Frag → Bool) := [fun K => NX.xcB K (He.ga K "TooLong") "LookupError.__new__" NX.tlLookup,
  fun K => NX.initB K (He.ga K "StateError") "LookupError.__init__",
  fun K => xfB K (He.ga K "TooLong"),
  fun K => NX.insB K (He.ga K "Book"),
  fun K => NX.neB K (He.ga K "Book"),
  fun K => (match K.lookup (He.dflAt ("Book", some "__init__") 0 K) with | some ⟨.type "tuple", _, .seq its _, _⟩ => its.isEmpty | _ => false)]
def loose0 : List PySem.Str := ["_wall", "__name__", "NetError", "MissingError", "StateError", "InvalidPart", "InvalidName", "InvalidRow", "InvalidBook", "InvalidTurn", "InvalidMeaning", "InvalidValues", "InvalidString", "UnknownSymbol", "UnknownSample", "UnknownTerm", "TooLong", "LETTERS", "DIGITS", "LONGEST_NAME", "MOST_DIGITS", "MOST_ARGUMENTS", "is_integer", "is_name", "is_list", "is_pair", "parse_integer", "LONGEST_TEXT", "is_turn", "is_sample_row"]
def loose1 : List PySem.Str := ["arguments_of", "written", "Book", "are_samples", "need_known", "Reader", "same_term", "_law_cell", "_law_box", "_law_take", "_law_count", "_law_none", "_law_is_long", "_law_chains"]
def loose : List PySem.Str := loose0 ++ loose1
def lawPlace : Nat := 47
/-- what the top has left -/
structure Tx (K : PySem.W.Frag) (mg : Str → Option Value) : Prop where
  g_is_integer : mg "is_integer" = some (.ref (He.ga K "is_integer"))
  g_is_name : mg "is_name" = some (.ref (He.ga K "is_name"))
  g_is_list : mg "is_list" = some (.ref (He.ga K "is_list"))
  g_is_pair : mg "is_pair" = some (.ref (He.ga K "is_pair"))
  g_is_turn : mg "is_turn" = some (.ref (He.ga K "is_turn"))
  g_is_sample_row : mg "is_sample_row" = some (.ref (He.ga K "is_sample_row"))
  g_arguments_of : mg "arguments_of" = some (.ref (He.ga K "arguments_of"))
  g_written : mg "written" = some (.ref (He.ga K "written"))
  g_need_known : mg "need_known" = some (.ref (He.ga K "need_known"))
  g_same_term : mg "same_term" = some (.ref (He.ga K "same_term"))
  g__law_cell : mg "_law_cell" = some (.ref (He.ga K "_law_cell"))
  g__law_box : mg "_law_box" = some (.ref (He.ga K "_law_box"))
  g__law_take : mg "_law_take" = some (.ref (He.ga K "_law_take"))
  g__law_count : mg "_law_count" = some (.ref (He.ga K "_law_count"))
  g__law_none : mg "_law_none" = some (.ref (He.ga K "_law_none"))
  g__law_is_long : mg "_law_is_long" = some (.ref (He.ga K "_law_is_long"))
  g__law_chains : mg "_law_chains" = some (.ref (He.ga K "_law_chains"))
  g_law : mg "law" = some (.ref (He.ga K "law"))
  g_StateError : mg "StateError" = some (.ref (He.ga K "StateError"))
  g_Book : mg "Book" = some (.ref (He.ga K "Book"))
  c_Book : Cls K (He.ga K "Book")
  k_Book : Mk K (He.ga K "Book") (He.ma K (He.ga K "Book") "__init__")
  m_Book_add_item : Meth K (He.ga K "Book") "add_item" (He.ma K (He.ga K "Book") "add_item")
  m_Book_has_number : Meth K (He.ga K "Book") "has_number" (He.ma K (He.ga K "Book") "has_number")
  m_Book_need_number : Meth K (He.ga K "Book") "need_number" (He.ma K (He.ga K "Book") "need_number")
  m_Book_number_of : Meth K (He.ga K "Book") "number_of" (He.ma K (He.ga K "Book") "number_of")
  m_Book_rows : Meth K (He.ga K "Book") "rows" (He.ma K (He.ga K "Book") "rows")
  m_Book_len : Meth K (He.ga K "Book") "__len__" (He.ma K (He.ga K "Book") "__len__")
  m_Book_getitem : Meth K (He.ga K "Book") "__getitem__" (He.ma K (He.ga K "Book") "__getitem__")
  m_Book_eq : Meth K (He.ga K "Book") "__eq__" (He.ma K (He.ga K "Book") "__eq__")
  m_Book_copied : Meth K (He.ga K "Book") "copied" (He.ma K (He.ga K "Book") "copied")
  m_Book_parts : Meth K (He.ga K "Book") "parts" (He.ma K (He.ga K "Book") "parts")
  m_Book_size : Meth K (He.ga K "Book") "size" (He.ma K (He.ga K "Book") "size")
  m_Book_depth : Meth K (He.ga K "Book") "depth" (He.ma K (He.ga K "Book") "depth")
  m_Book_length : Meth K (He.ga K "Book") "length" (He.ma K (He.ga K "Book") "length")
  m_Book_text : Meth K (He.ga K "Book") "text" (He.ma K (He.ga K "Book") "text")
  m_Book_evaluate : Meth K (He.ga K "Book") "evaluate" (He.ma K (He.ga K "Book") "evaluate")
  m_Book_carry : Meth K (He.ga K "Book") "carry" (He.ma K (He.ga K "Book") "carry")
  m_Book_differ : Meth K (He.ga K "Book") "differ" (He.ma K (He.ga K "Book") "differ")
  a_Book_held : NoAttr K (He.ga K "Book") "held"
  a_Book_numbers : NoAttr K (He.ga K "Book") "numbers"
  g_TooLong : mg "TooLong" = some (.ref (He.ga K "TooLong"))
  m_TooLong_init : Meth K (He.ga K "TooLong") "__init__" (He.ma K (He.ga K "TooLong") "__init__")
  a_TooLong_number : NoAttr K (He.ga K "TooLong") "number"
  i_LONGEST_NAME : ∃ t, mg "LONGEST_NAME" = some (.int 8 t)
  i_MOST_ARGUMENTS : ∃ t, mg "MOST_ARGUMENTS" = some (.int 3 t)
  i_LONGEST_TEXT : ∃ t, mg "LONGEST_TEXT" = some (.int 400 t)
  i_LETTERS : ∃ t, mg "LETTERS" = some (.str "abcdefghijklmnopqrstuvwxyz" t)
  i_DIGITS : ∃ t, mg "DIGITS" = some (.str "0123456789" t)
  n_isinstance : mg "isinstance" = none
  n_int : mg "int" = none
  n_bool : mg "bool" = none
  n_str : mg "str" = none
  n_list : mg "list" = none
  n_tuple : mg "tuple" = none
  n_dict : mg "dict" = none
  n_len : mg "len" = none
  n_all : mg "all" = none
  n_range : mg "range" = none
  n_sorted : mg "sorted" = none
  n_sum : mg "sum" = none
  n_max : mg "max" = none
  n_min : mg "min" = none
  n_repr : mg "repr" = none
  e_TooLong : PySem.W.exmOne K (.ref (He.ga K "TooLong")) (.ref (He.ga K "TooLong")) = some true
  f_is_integer : FunD K "is_integer" "is_integer" (defArgs s_is_integer) (defBody s_is_integer) (defScope s_is_integer) (He.DefD.dvs K d_is_integer) (He.DefD.kws K d_is_integer) (He.ga K "is_integer") (NX.fdOf K ("is_integer", none))
  f_is_name : FunD K "is_name" "is_name" (defArgs s_is_name) (defBody s_is_name) (defScope s_is_name) (He.DefD.dvs K d_is_name) (He.DefD.kws K d_is_name) (He.ga K "is_name") (NX.fdOf K ("is_name", none))
  f_is_list : FunD K "is_list" "is_list" (defArgs s_is_list) (defBody s_is_list) (defScope s_is_list) (He.DefD.dvs K d_is_list) (He.DefD.kws K d_is_list) (He.ga K "is_list") (NX.fdOf K ("is_list", none))
  f_is_pair : FunD K "is_pair" "is_pair" (defArgs s_is_pair) (defBody s_is_pair) (defScope s_is_pair) (He.DefD.dvs K d_is_pair) (He.DefD.kws K d_is_pair) (He.ga K "is_pair") (NX.fdOf K ("is_pair", none))
  f_is_turn : FunD K "is_turn" "is_turn" (defArgs s_is_turn) (defBody s_is_turn) (defScope s_is_turn) (He.DefD.dvs K d_is_turn) (He.DefD.kws K d_is_turn) (He.ga K "is_turn") (NX.fdOf K ("is_turn", none))
  f_is_sample_row : FunD K "is_sample_row" "is_sample_row" (defArgs s_is_sample_row) (defBody s_is_sample_row) (defScope s_is_sample_row) (He.DefD.dvs K d_is_sample_row) (He.DefD.kws K d_is_sample_row) (He.ga K "is_sample_row") (NX.fdOf K ("is_sample_row", none))
  f_arguments_of : FunD K "arguments_of" "arguments_of" (defArgs s_arguments_of) (defBody s_arguments_of) (defScope s_arguments_of) (He.DefD.dvs K d_arguments_of) (He.DefD.kws K d_arguments_of) (He.ga K "arguments_of") (NX.fdOf K ("arguments_of", none))
  f_written : FunD K "written" "written" (defArgs s_written) (defBody s_written) (defScope s_written) (He.DefD.dvs K d_written) (He.DefD.kws K d_written) (He.ga K "written") (NX.fdOf K ("written", none))
  f_need_known : FunD K "need_known" "need_known" (defArgs s_need_known) (defBody s_need_known) (defScope s_need_known) (He.DefD.dvs K d_need_known) (He.DefD.kws K d_need_known) (He.ga K "need_known") (NX.fdOf K ("need_known", none))
  f_same_term : FunD K "same_term" "same_term" (defArgs s_same_term) (defBody s_same_term) (defScope s_same_term) (He.DefD.dvs K d_same_term) (He.DefD.kws K d_same_term) (He.ga K "same_term") (NX.fdOf K ("same_term", none))
  f__law_cell : FunD K "_law_cell" "_law_cell" (defArgs s__law_cell) (defBody s__law_cell) (defScope s__law_cell) (He.DefD.dvs K d__law_cell) (He.DefD.kws K d__law_cell) (He.ga K "_law_cell") (NX.fdOf K ("_law_cell", none))
  f__law_box : FunD K "_law_box" "_law_box" (defArgs s__law_box) (defBody s__law_box) (defScope s__law_box) (He.DefD.dvs K d__law_box) (He.DefD.kws K d__law_box) (He.ga K "_law_box") (NX.fdOf K ("_law_box", none))
  f__law_take : FunD K "_law_take" "_law_take" (defArgs s__law_take) (defBody s__law_take) (defScope s__law_take) (He.DefD.dvs K d__law_take) (He.DefD.kws K d__law_take) (He.ga K "_law_take") (NX.fdOf K ("_law_take", none))
  f__law_count : FunD K "_law_count" "_law_count" (defArgs s__law_count) (defBody s__law_count) (defScope s__law_count) (He.DefD.dvs K d__law_count) (He.DefD.kws K d__law_count) (He.ga K "_law_count") (NX.fdOf K ("_law_count", none))
  f__law_none : FunD K "_law_none" "_law_none" (defArgs s__law_none) (defBody s__law_none) (defScope s__law_none) (He.DefD.dvs K d__law_none) (He.DefD.kws K d__law_none) (He.ga K "_law_none") (NX.fdOf K ("_law_none", none))
  f__law_is_long : FunD K "_law_is_long" "_law_is_long" (defArgs s__law_is_long) (defBody s__law_is_long) (defScope s__law_is_long) (He.DefD.dvs K d__law_is_long) (He.DefD.kws K d__law_is_long) (He.ga K "_law_is_long") (NX.fdOf K ("_law_is_long", none))
  f__law_chains : FunD K "_law_chains" "_law_chains" (defArgs s__law_chains) (defBody s__law_chains) (defScope s__law_chains) (He.DefD.dvs K d__law_chains) (He.DefD.kws K d__law_chains) (He.ga K "_law_chains") (NX.fdOf K ("_law_chains", none))
  f_law : FunD K "law" "law" (defArgs s_law) (defBody s_law) (defScope s_law) (He.DefD.dvs K d_law) (He.DefD.kws K d_law) (He.ga K "law") (NX.fdOf K ("law", none))
  f_Book_init : FunD K "__init__" "Book.__init__" (defArgs s_Book_init) (defBody s_Book_init) (defScope s_Book_init) (He.DefD.dvs K d_Book_init) (He.DefD.kws K d_Book_init) (He.ma K (He.ga K "Book") "__init__") (NX.fdOf K ("Book", some "__init__"))
  f_Book_add_item : FunD K "add_item" "Book.add_item" (defArgs s_Book_add_item) (defBody s_Book_add_item) (defScope s_Book_add_item) (He.DefD.dvs K d_Book_add_item) (He.DefD.kws K d_Book_add_item) (He.ma K (He.ga K "Book") "add_item") (NX.fdOf K ("Book", some "add_item"))
  f_Book_has_number : FunD K "has_number" "Book.has_number" (defArgs s_Book_has_number) (defBody s_Book_has_number) (defScope s_Book_has_number) (He.DefD.dvs K d_Book_has_number) (He.DefD.kws K d_Book_has_number) (He.ma K (He.ga K "Book") "has_number") (NX.fdOf K ("Book", some "has_number"))
  f_Book_need_number : FunD K "need_number" "Book.need_number" (defArgs s_Book_need_number) (defBody s_Book_need_number) (defScope s_Book_need_number) (He.DefD.dvs K d_Book_need_number) (He.DefD.kws K d_Book_need_number) (He.ma K (He.ga K "Book") "need_number") (NX.fdOf K ("Book", some "need_number"))
  f_Book_number_of : FunD K "number_of" "Book.number_of" (defArgs s_Book_number_of) (defBody s_Book_number_of) (defScope s_Book_number_of) (He.DefD.dvs K d_Book_number_of) (He.DefD.kws K d_Book_number_of) (He.ma K (He.ga K "Book") "number_of") (NX.fdOf K ("Book", some "number_of"))
  f_Book_rows : FunD K "rows" "Book.rows" (defArgs s_Book_rows) (defBody s_Book_rows) (defScope s_Book_rows) (He.DefD.dvs K d_Book_rows) (He.DefD.kws K d_Book_rows) (He.ma K (He.ga K "Book") "rows") (NX.fdOf K ("Book", some "rows"))
  f_Book_len : FunD K "__len__" "Book.__len__" (defArgs s_Book_len) (defBody s_Book_len) (defScope s_Book_len) (He.DefD.dvs K d_Book_len) (He.DefD.kws K d_Book_len) (He.ma K (He.ga K "Book") "__len__") (NX.fdOf K ("Book", some "__len__"))
  f_Book_getitem : FunD K "__getitem__" "Book.__getitem__" (defArgs s_Book_getitem) (defBody s_Book_getitem) (defScope s_Book_getitem) (He.DefD.dvs K d_Book_getitem) (He.DefD.kws K d_Book_getitem) (He.ma K (He.ga K "Book") "__getitem__") (NX.fdOf K ("Book", some "__getitem__"))
  f_Book_eq : FunD K "__eq__" "Book.__eq__" (defArgs s_Book_eq) (defBody s_Book_eq) (defScope s_Book_eq) (He.DefD.dvs K d_Book_eq) (He.DefD.kws K d_Book_eq) (He.ma K (He.ga K "Book") "__eq__") (NX.fdOf K ("Book", some "__eq__"))
  f_Book_copied : FunD K "copied" "Book.copied" (defArgs s_Book_copied) (defBody s_Book_copied) (defScope s_Book_copied) (He.DefD.dvs K d_Book_copied) (He.DefD.kws K d_Book_copied) (He.ma K (He.ga K "Book") "copied") (NX.fdOf K ("Book", some "copied"))
  f_Book_parts : FunD K "parts" "Book.parts" (defArgs s_Book_parts) (defBody s_Book_parts) (defScope s_Book_parts) (He.DefD.dvs K d_Book_parts) (He.DefD.kws K d_Book_parts) (He.ma K (He.ga K "Book") "parts") (NX.fdOf K ("Book", some "parts"))
  f_Book_size : FunD K "size" "Book.size" (defArgs s_Book_size) (defBody s_Book_size) (defScope s_Book_size) (He.DefD.dvs K d_Book_size) (He.DefD.kws K d_Book_size) (He.ma K (He.ga K "Book") "size") (NX.fdOf K ("Book", some "size"))
  f_Book_depth : FunD K "depth" "Book.depth" (defArgs s_Book_depth) (defBody s_Book_depth) (defScope s_Book_depth) (He.DefD.dvs K d_Book_depth) (He.DefD.kws K d_Book_depth) (He.ma K (He.ga K "Book") "depth") (NX.fdOf K ("Book", some "depth"))
  f_Book_length : FunD K "length" "Book.length" (defArgs s_Book_length) (defBody s_Book_length) (defScope s_Book_length) (He.DefD.dvs K d_Book_length) (He.DefD.kws K d_Book_length) (He.ma K (He.ga K "Book") "length") (NX.fdOf K ("Book", some "length"))
  f_Book_text : FunD K "text" "Book.text" (defArgs s_Book_text) (defBody s_Book_text) (defScope s_Book_text) (He.DefD.dvs K d_Book_text) (He.DefD.kws K d_Book_text) (He.ma K (He.ga K "Book") "text") (NX.fdOf K ("Book", some "text"))
  f_Book_evaluate : FunD K "evaluate" "Book.evaluate" (defArgs s_Book_evaluate) (defBody s_Book_evaluate) (defScope s_Book_evaluate) (He.DefD.dvs K d_Book_evaluate) (He.DefD.kws K d_Book_evaluate) (He.ma K (He.ga K "Book") "evaluate") (NX.fdOf K ("Book", some "evaluate"))
  f_Book_carry : FunD K "carry" "Book.carry" (defArgs s_Book_carry) (defBody s_Book_carry) (defScope s_Book_carry) (He.DefD.dvs K d_Book_carry) (He.DefD.kws K d_Book_carry) (He.ma K (He.ga K "Book") "carry") (NX.fdOf K ("Book", some "carry"))
  f_Book_differ : FunD K "differ" "Book.differ" (defArgs s_Book_differ) (defBody s_Book_differ) (defScope s_Book_differ) (He.DefD.dvs K d_Book_differ) (He.DefD.kws K d_Book_differ) (He.ma K (He.ga K "Book") "differ") (NX.fdOf K ("Book", some "differ"))
  f_TooLong_init : FunD K "__init__" "TooLong.__init__" (defArgs s_TooLong_init) (defBody s_TooLong_init) (defScope s_TooLong_init) (He.DefD.dvs K d_TooLong_init) (He.DefD.kws K d_TooLong_init) (He.ma K (He.ga K "TooLong") "__init__") (NX.fdOf K ("TooLong", some "__init__"))
  x_TooLong : NX.XC K (He.ga K "TooLong") "LookupError.__new__" NX.tlLookup
  b_StateError : NX.initB K (He.ga K "StateError") "LookupError.__init__" = true
  xf_TooLong : XfC K (He.ga K "TooLong")
  is_Book : NX.insB K (He.ga K "Book") = true
  ne_Book : NX.neB K (He.ga K "Book") = true
  t_empty : (match K.lookup (He.dflAt ("Book", some "__init__") 0 K) with | some ⟨.type "tuple", _, .seq its _, _⟩ => its.isEmpty | _ => false) = true
theorem tx {K : PySem.W.Frag} {h : Heap} {mg : Str → Option Value} (X : K.In h) (G : h.Ns mainGlobals mg) (c : NX.SaysM fa fn fx K) : Tx K mg := ⟨He.glo_ok X G (c.d.fact 0),
  He.glo_ok X G (c.d.fact 1),
  He.glo_ok X G (c.d.fact 2),
  He.glo_ok X G (c.d.fact 3),
  He.glo_ok X G (c.d.fact 4),
  He.glo_ok X G (c.d.fact 5),
  He.glo_ok X G (c.d.fact 6),
  He.glo_ok X G (c.d.fact 7),
  He.glo_ok X G (c.d.fact 8),
  He.glo_ok X G (c.d.fact 9),
  He.glo_ok X G (c.d.fact 10),
  He.glo_ok X G (c.d.fact 11),
  He.glo_ok X G (c.d.fact 12),
  He.glo_ok X G (c.d.fact 13),
  He.glo_ok X G (c.d.fact 14),
  He.glo_ok X G (c.d.fact 15),
  He.glo_ok X G (c.d.fact 16),
  He.glo_ok X G (c.d.fact 17),
  He.glo_ok X G (c.d.fact 18),
  He.glo_ok X G (c.d.fact 19),
  He.cls_ok (c.d.fact 20),
  He.mkr_ok (c.d.fact 21),
  He.meth_ok (c.d.fact 22),
  He.meth_ok (c.d.fact 23),
  He.meth_ok (c.d.fact 24),
  He.meth_ok (c.d.fact 25),
  He.meth_ok (c.d.fact 26),
  He.meth_ok (c.d.fact 27),
  He.meth_ok (c.d.fact 28),
  He.meth_ok (c.d.fact 29),
  He.meth_ok (c.d.fact 30),
  He.meth_ok (c.d.fact 31),
  He.meth_ok (c.d.fact 32),
  He.meth_ok (c.d.fact 33),
  He.meth_ok (c.d.fact 34),
  He.meth_ok (c.d.fact 35),
  He.meth_ok (c.d.fact 36),
  He.meth_ok (c.d.fact 37),
  He.meth_ok (c.d.fact 38),
  He.noat_ok (c.d.fact 39),
  He.noat_ok (c.d.fact 40),
  He.glo_ok X G (c.d.fact 41),
  He.meth_ok (c.d.fact 42),
  He.noat_ok (c.d.fact 43),
  He.int_ok X G (c.d.fact 44),
  He.int_ok X G (c.d.fact 45),
  He.int_ok X G (c.d.fact 46),
  He.str_ok X G (c.d.fact 47),
  He.str_ok X G (c.d.fact 48),
  He.free_ok X G (c.d.fact 49),
  He.free_ok X G (c.d.fact 50),
  He.free_ok X G (c.d.fact 51),
  He.free_ok X G (c.d.fact 52),
  He.free_ok X G (c.d.fact 53),
  He.free_ok X G (c.d.fact 54),
  He.free_ok X G (c.d.fact 55),
  He.free_ok X G (c.d.fact 56),
  He.free_ok X G (c.d.fact 57),
  He.free_ok X G (c.d.fact 58),
  He.free_ok X G (c.d.fact 59),
  He.free_ok X G (c.d.fact 60),
  He.free_ok X G (c.d.fact 61),
  He.free_ok X G (c.d.fact 62),
  He.free_ok X G (c.d.fact 63),
  He.exm_ok (c.d.fact 64),
  c.df 0,
  c.df 1,
  c.df 2,
  c.df 3,
  c.df 4,
  c.df 5,
  c.df 6,
  c.df 7,
  c.df 8,
  c.df 9,
  c.df 10,
  c.df 11,
  c.df 12,
  c.df 13,
  c.df 14,
  c.df 15,
  c.df 16,
  c.df 17,
  c.df 18,
  c.df 19,
  c.df 20,
  c.df 21,
  c.df 22,
  c.df 23,
  c.df 24,
  c.df 25,
  c.df 26,
  c.df 27,
  c.df 28,
  c.df 29,
  c.df 30,
  c.df 31,
  c.df 32,
  c.df 33,
  c.df 34,
  c.df 35,
  c.df 36,
  NX.xcB_ok (c.x 0),
  (c.x 1),
  xfB_ok (c.x 2),
  (c.x 3),
  (c.x 4),
  (c.x 5)⟩
abbrev hk : PySem.W.Hook := NX.hookM 5 fa fn fx
def ob (s : PySem.W.SharedT) : He.AlD × Bool := NX.obsMG 5 fa fn fx (HandSHeadRun.getT s)
theorem ob_eq (s : PySem.W.SharedT) : ob s = hk.obs s.abs := NX.obsMG_eq (HandSHeadRun.getT_eq s)
set_option maxHeartbeats 0 in
theorem run (w : World) : HandSHeadRun.RunEq R (PySem.W.view R.prog [lawPlace]) hk ob 6000 loose w := by
  intro os
  kernel_rfl
end T59
namespace T59
open PySem PySem.Spec PyProof.Rows L2 NX
/-! k59: words for this program's proofs, and its small defs. -/
section
variable {P : Program} {w : World} {K : PySem.W.Frag} {mg : Str → Option Value} {base : Heap}
theorem pe_gK {X : Cx} {x : Str} {v : V} {pos : Pos} (hg : Gl X x) (h : ∃ u, X.mg x = some u ∧ RelV v u) (hd : (x == ("__debug__" : Str)) = false := by decide) : PE X (.Name x pos) (tC v) := by
  obtain ⟨u, e, r⟩ := h
  exact pe_glob hg e r hd
theorem gI {x : Str} {i : Int} (h : ∃ t, mg x = some (.int i t)) : ∃ u, mg x = some u ∧ RelV (.int i) u := let ⟨t, e⟩ := h; ⟨_, e, t, rfl⟩
theorem gS {x y : Str} (h : ∃ t, mg x = some (.str y t)) : ∃ u, mg x = some u ∧ RelV (.str y) u := let ⟨t, e⟩ := h; ⟨_, e, t, rfl⟩

/-! is_integer -/
theorem sc_is_integer : FnScope ["value", "low", "high"] ["value", "low", "high"] (defScope s_is_integer) := ⟨rfl, rfl, rfl, by decide +kernel, rfl, by decide +kernel, by decide +kernel⟩
theorem b_is_integer (T : Tx K mg) : Binds K (NX.fdOf K ("is_integer", none)) ["value", "low", "high"] [] := T.f_is_integer.bindsN fun _ _ _ _ _ _ us hl => match us, hl with | [_, _, _], _ => rfl
def spIsInt : Sp := fun vs H Q _ => ∃ v lo hi : Int, vs = [.int v, .int lo, .int hi] ∧ Q (.bl (decide (lo ≤ v ∧ v ≤ hi))) H
theorem ok_is_integer (T : Tx K mg) : FnOk P w K mg base CX0 1 (He.ga K "is_integer") (NX.fdOf K ("is_integer", none)) ["value", "low", "high"] spIsInt := by
  refine T.f_is_integer.ok sc_is_integer (fun vs H Q E h => ?_) fun cdv A outer s H vs Q E hr h => ⟨_, PSs.nox (pss_one (ps_ret (pe_and (pe_callB call_isi rfl T.n_isinstance (by decide +kernel) (pa_cons (pv 0) (pa_cons (pe_bltn (v := .ty "int") (u := .type "int") rfl T.n_int (by decide +kernel) rfl) pa_nil))) (pe_and (pe_not (pe_callB call_isi rfl T.n_isinstance (by decide +kernel) (pa_cons (pv 0) (pa_cons (pe_bltn (v := .ty "bool") (u := .type "bool") rfl T.n_bool (by decide +kernel) rfl) pa_nil)))) (pe_one (pe_chain op_le op_le (pv 1) (pv 0) (pv 2))))))), ?_⟩
  · obtain ⟨v, lo, hi, rfl, _⟩ := h; rfl
  · obtain ⟨v, lo, hi, rfl, q⟩ := h
    refine ⟨_, rfl, _, _, _, _, _, rfl, ClsV.ty _, .base (.int _), kit_ty (r := true) (by decide +kernel), true, rfl, ?_⟩
    refine ⟨_, rfl, _, _, _, _, _, rfl, ClsV.ty _, .base (.int _), kit_ty (r := false) (by decide +kernel), false, rfl, true, rfl, ?_⟩
    refine ⟨_, rfl, _, rfl, _, _, rfl, rfl, _, rfl, ?_⟩
    by_cases h1 : lo ≤ v
    · rw [decide_eq_true h1]
      refine iteT ⟨_, rfl, _, _, rfl, rfl, ?_⟩
      have e : decide (v ≤ hi) = decide (lo ≤ v ∧ v ≤ hi) := by simp [h1]
      show Q (.bl (decide (v ≤ hi))) H
      rw [e]; exact q
    · rw [decide_eq_false h1]
      refine iteF ?_
      have e : decide (lo ≤ v ∧ v ≤ hi) = false := by simp [h1]
      rw [e] at q; exact q
/-! is_list -/
theorem sc_is_list : FnScope ["value"] ["value"] (defScope s_is_list) := ⟨rfl, rfl, rfl, by decide +kernel, rfl, by decide +kernel, by decide +kernel⟩
theorem b_is_list (T : Tx K mg) : Binds K (NX.fdOf K ("is_list", none)) ["value"] [] := T.f_is_list.bindsN fun _ _ _ _ _ _ us hl => match us, hl with | [_], _ => rfl
def spIsList (K : PySem.W.Frag) : Sp := fun vs H Q _ => ∃ a : Addr, vs = [.ref a] ∧ (TyX K H (.ref a) (.type "list") ∨ TyX K H (.ref a) (.type "tuple")) ∧ ∀ H', Same H H' → Q (.bl true) H'
theorem upd_same_new {H : Hp} {p : Addr} {o : HO} (n : H p = none) : Same H (upd H p o) := fun b u e => by rw [upd_ne (ne_of_none e n)]; exact e
theorem TyX.up {H H' : Hp} (s : Same H H') {a : Addr} {t : Value} (h : TyX K H (.ref a) t) : TyX K H' (.ref a) t := by
  cases h with
  | base b =>
    refine .base ?_
    cases b with
    | lst e => exact .lst (s _ _ e)
    | frz e => exact .frz (s _ _ e)
    | tup e => exact .tup (s _ _ e)
    | dK e => exact .dK (s _ _ e)
    | dT e => exact .dT (s _ _ e)
    | ins e cl ha hn htk hm => exact .ins (s _ _ e) cl ha hn htk hm
  | set e => exact .set (s _ _ e)
  | kList e c => exact .kList e c
  | kTuple e c => exact .kTuple e c
  | kDict e c => exact .kDict e c
  | fTuple e => exact .fTuple (s _ _ e)
  | fDict e => exact .fDict (s _ _ e)
theorem ok_is_list (T : Tx K mg) : FnOk P w K mg base CX0 1 (He.ga K "is_list") (NX.fdOf K ("is_list", none)) ["value"] (spIsList K) := by
  refine T.f_is_list.ok sc_is_list (fun vs H Q E h => ?_) fun cdv A outer s H vs Q E hr h => ⟨_, PSs.nox (pss_one (ps_ret (pe_callB call_isiT rfl T.n_isinstance (by decide +kernel) (pa_cons (pv 0) (pa_cons (pe_tup (pa_cons (pe_bltn (v := .ty "list") (u := .type "list") rfl T.n_list (by decide +kernel) rfl) (pa_cons (pe_bltn (v := .ty "tuple") (u := .type "tuple") rfl T.n_tuple (by decide +kernel) rfl) pa_nil))) pa_nil))))), ?_⟩
  · obtain ⟨a, rfl, _⟩ := h; rfl
  · obtain ⟨a, rfl, ty, q⟩ := h
    refine ⟨_, rfl, by show 2 ≤ sizeLine; decide, fun p np => ?_⟩
    have sm := upd_same_new (o := .tup [.ty "list", .ty "tuple"]) np
    rcases ty with ty | ty
    · exact ⟨_, _, _, _, _, _, rfl, upd_same, .cons (ClsV.ty _) (.cons (ClsV.ty _) .nil), TyX.up sm ty, kitAny_cons (b := true) (kit_ty (by decide +kernel)) (fun z => by cases z) (fun _ => rfl), q _ sm⟩
    · exact ⟨_, _, _, _, _, _, rfl, upd_same, .cons (ClsV.ty _) (.cons (ClsV.ty _) .nil), TyX.up sm ty, kitAny_cons (b := false) (r := true) (kit_ty (by decide +kernel)) (fun _ => kitAny_cons (b := true) (kit_ty (by decide +kernel)) (fun z => by cases z) (fun _ => rfl)) (fun z => by cases z), q _ sm⟩
/-! is_pair -/
theorem sc_is_pair : FnScope ["value"] ["value"] (defScope s_is_pair) := ⟨rfl, rfl, rfl, by decide +kernel, rfl, by decide +kernel, by decide +kernel⟩
theorem b_is_pair (T : Tx K mg) : Binds K (NX.fdOf K ("is_pair", none)) ["value"] [] := T.f_is_pair.bindsN fun _ _ _ _ _ _ us hl => match us, hl with | [_], _ => rfl
def spIsPair : Sp := fun vs H Q _ => ∃ (a : Addr) (x y : V), vs = [.ref a] ∧ H a = some (.tup [x, y]) ∧ ∀ H', Same H H' → Q (.bl true) H'
theorem ok_is_pair (T : Tx K mg) : FnOk P w K mg base CX0 2 (He.ga K "is_pair") (NX.fdOf K ("is_pair", none)) ["value"] spIsPair := by
  refine T.f_is_pair.ok sc_is_pair (fun vs H Q E h => ?_) fun cdv A outer s H vs Q E hr h => ⟨_, PSs.nox (pss_one (ps_ret (pe_and (pe_call (ok_is_list T) (hr.mono (by decide)) rfl T.g_is_list T.f_is_list.kp (b_is_list T) .nil pass0 (pa_cons (pv 0) pa_nil)) (pe_one (pe_cmpR op_eq (pe_callB call_len rfl T.n_len (by decide +kernel) (pa_cons (pv 0) pa_nil)) pe_int (nomark _)))))), ?_⟩
  · obtain ⟨a, x, y, rfl, _⟩ := h; rfl
  · obtain ⟨a, x, y, rfl, ha, q⟩ := h
    refine ⟨_, rfl, _, rfl, .inr (.base (.tup ha)), fun H1 s1 => ⟨true, rfl, ?_⟩⟩
    refine ⟨_, rfl, _, 2, rfl, .inr ⟨[x, y], SqT.of (s1 _ _ ha), rfl⟩, rfl, ?_⟩
    exact q _ s1
/-! is_turn: of a tuple -/
theorem sc_is_turn : FnScope ["value"] ["value"] (defScope s_is_turn) := ⟨rfl, rfl, rfl, by decide +kernel, rfl, by decide +kernel, by decide +kernel⟩
theorem b_is_turn (T : Tx K mg) : Binds K (NX.fdOf K ("is_turn", none)) ["value"] [] := T.f_is_turn.bindsN fun _ _ _ _ _ _ us hl => match us, hl with | [_], _ => rfl
def spIsTurn : Sp := fun vs H Q _ => ∃ (a : Addr) (xs : List V), vs = [.ref a] ∧ H a = some (.tup xs) ∧ Q (.bl false) H
theorem ok_is_turn (T : Tx K mg) : FnOk P w K mg base CX0 1 (He.ga K "is_turn") (NX.fdOf K ("is_turn", none)) ["value"] spIsTurn := by
  refine T.f_is_turn.ok sc_is_turn (fun vs H Q E h => ?_) fun cdv A outer s H vs Q E hr h => ⟨_, PSs.nox (pss_one (ps_ret (pe_and (pe_callB call_isi rfl T.n_isinstance (by decide +kernel) (pa_cons (pv 0) (pa_cons (pe_bltn (v := .ty "int") (u := .type "int") rfl T.n_int (by decide +kernel) rfl) pa_nil))) (pe_and (pe_not (pe_callB call_isi rfl T.n_isinstance (by decide +kernel) (pa_cons (pv 0) (pa_cons (pe_bltn (v := .ty "bool") (u := .type "bool") rfl T.n_bool (by decide +kernel) rfl) pa_nil)))) (pe_one (pe_cmpR op_ge (pv 0) pe_int (nomark _))))))), ?_⟩
  · obtain ⟨a, x, rfl, _⟩ := h; rfl
  · obtain ⟨a, x, rfl, ha, q⟩ := h
    exact ⟨_, rfl, _, _, _, _, _, rfl, ClsV.ty _, .base (.tup ha), kit_ty (r := false) (by decide +kernel), false, rfl, q⟩
/-! is_sample_row, arguments_of: of a row with arguments -/
theorem sc_is_sample_row : FnScope ["row"] ["row"] (defScope s_is_sample_row) := ⟨rfl, rfl, rfl, by decide +kernel, rfl, by decide +kernel, by decide +kernel⟩
theorem b_is_sample_row (T : Tx K mg) : Binds K (NX.fdOf K ("is_sample_row", none)) ["row"] [] := T.f_is_sample_row.bindsN fun _ _ _ _ _ _ us hl => match us, hl with | [_], _ => rfl
def spIsSample : Sp := fun vs H Q _ => ∃ (a b : Addr) (x : V) (xs : List V), vs = [.ref a] ∧ H a = some (.tup [x, .ref b]) ∧ H b = some (.tup xs) ∧ Q (.bl false) H
theorem ok_is_sample_row (T : Tx K mg) : FnOk P w K mg base CX0 1 (He.ga K "is_sample_row") (NX.fdOf K ("is_sample_row", none)) ["row"] spIsSample := by
  refine T.f_is_sample_row.ok sc_is_sample_row (fun vs H Q E h => ?_) fun cdv A outer s H vs Q E hr h => ⟨_, PSs.nox (pss_one (ps_ret (pe_callB call_isi rfl T.n_isinstance (by decide +kernel) (pa_cons (pe_ix ix_tup (pv 0) pe_int (fun _ _ => rfl)) (pa_cons (pe_bltn (v := .ty "int") (u := .type "int") rfl T.n_int (by decide +kernel) rfl) pa_nil))))), ?_⟩
  · obtain ⟨a, b, x, xs, rfl, _⟩ := h; rfl
  · obtain ⟨a, b, x, xs, rfl, ha, hb, q⟩ := h
    exact ⟨_, rfl, _, _, _, _, rfl, rfl, SqT.of ha, atI_nat (j := 1) rfl, _, _, _, _, _, rfl, ClsV.ty _, .base (.tup hb), kit_ty (r := false) (by decide +kernel), q⟩
theorem sc_arguments_of : FnScope ["row"] ["row"] (defScope s_arguments_of) := ⟨rfl, rfl, rfl, by decide +kernel, rfl, by decide +kernel, by decide +kernel⟩
theorem b_arguments_of (T : Tx K mg) : Binds K (NX.fdOf K ("arguments_of", none)) ["row"] [] := T.f_arguments_of.bindsN fun _ _ _ _ _ _ us hl => match us, hl with | [_], _ => rfl
def spArgs : Sp := fun vs H Q _ => ∃ (a b : Addr) (x : V) (xs : List V), vs = [.ref a] ∧ H a = some (.tup [x, .ref b]) ∧ H b = some (.tup xs) ∧ Q (.ref b) H
theorem ok_arguments_of (T : Tx K mg) : FnOk P w K mg base CX0 2 (He.ga K "arguments_of") (NX.fdOf K ("arguments_of", none)) ["row"] spArgs := by
  refine T.f_arguments_of.ok sc_arguments_of (fun vs H Q E h => ?_) fun cdv A outer s H vs Q E hr h => ⟨_, PSs.nox (pss_one (ps_ret (pe_ifExp (pt_val (pe_call (ok_is_sample_row T) (hr.mono (by decide)) rfl T.g_is_sample_row T.f_is_sample_row.kp (b_is_sample_row T) .nil pass0 (pa_cons (pv 0) pa_nil))) (pe_tup pa_nil) (pe_ix ix_tup (pv 0) pe_int (fun _ _ => rfl))))), ?_⟩
  · obtain ⟨a, b, x, xs, rfl, _⟩ := h; rfl
  · obtain ⟨a, b, x, xs, rfl, ha, hb, q⟩ := h
    exact ⟨_, rfl, _, _, _, _, rfl, ha, hb, _, rfl, iteF ⟨_, rfl, _, _, _, _, rfl, rfl, SqT.of ha, atI_nat (j := 1) rfl, q⟩⟩
/-! is_name: of the law's names -/
theorem sc_is_name : FnScope ["value"] ["value"] (defScope s_is_name) := ⟨rfl, rfl, rfl, by decide +kernel, rfl, by decide +kernel, by decide +kernel⟩
theorem b_is_name (T : Tx K mg) : Binds K (NX.fdOf K ("is_name", none)) ["value"] [] := T.f_is_name.bindsN fun _ _ _ _ _ _ us hl => match us, hl with | [_], _ => rfl
def NameOk (z : Str) : Prop := z = "a" ∨ z = "b" ∨ z = "f" ∨ z = "g" ∨ z = "k7"
def spIsName : Sp := fun vs H Q _ => ∃ z : Str, vs = [.str z] ∧ NameOk z ∧ Q (.bl true) H
theorem ok_is_name (T : Tx K mg) : FnOk P w K mg base CX0 1 (He.ga K "is_name") (NX.fdOf K ("is_name", none)) ["value"] spIsName := by
  refine T.f_is_name.ok sc_is_name (fun vs H Q E h => ?_) fun cdv A outer s H vs Q E hr h => ⟨_, PSs.nox (pss_cons (ps_if (PW.pt (pw_or (pt_not (pt_val (pe_callB call_isi rfl T.n_isinstance (by decide +kernel) (pa_cons (pv 0) (pa_cons (pe_bltn (v := .ty "str") (u := .type "str") rfl T.n_str (by decide +kernel) rfl) pa_nil))))) (pw_or1 (pt_not (pt_chain op_lt op_le pe_int (pe_callB call_len rfl T.n_len (by decide +kernel) (pa_cons (pv 0) pa_nil)) (pe_gK rfl (gI T.i_LONGEST_NAME)))))))
    (pss_one (ps_ret pe_bl))
    pss_nil)
  (pss_one (ps_ret (pe_and (pe_cmpR op_in_sign (pe_ix ix_str (pv 0) pe_int (fun _ _ => rfl)) (pe_gK rfl (gS T.i_LETTERS)) rfl) (pe_one (pe_cmpR op_eq (pe_bm PySem.F.plainAttrs_str PySem.F.slot_str_strip PySem.F.type_str_strip mt_stripChars (pv 0) (pa_cons (pe_op op_add_str (pe_gK rfl (gS T.i_LETTERS)) (pe_gK rfl (gS T.i_DIGITS))) pa_nil)) pe_str (nomark _))))))), ?_⟩
  · obtain ⟨z, rfl, _⟩ := h; rfl
  · obtain ⟨z, rfl, hz, q⟩ := h
    have ⟨c, h1, h2, h3, h4, h5, h6⟩ : ∃ c : Nat, (0 : Int) < (z.length : Nat) ∧ (z.length : Int) ≤ 8 ∧ z.length ≤ sizeLine ∧ z.cps.toList[0]? = some c ∧ c ∈ ("abcdefghijklmnopqrstuvwxyz" : Str).cps.toList ∧
        Txt.stripChars z (("abcdefghijklmnopqrstuvwxyz" : Str) ++ ("0123456789" : Str)) = ("" : Str) := by
      rcases hz with rfl | rfl | rfl | rfl | rfl
      · exact ⟨97, by decide +kernel⟩
      · exact ⟨98, by decide +kernel⟩
      · exact ⟨102, by decide +kernel⟩
      · exact ⟨103, by decide +kernel⟩
      · exact ⟨107, by decide +kernel⟩
    refine ⟨_, rfl, _, _, _, _, _, rfl, ClsV.ty _, .base (.str _), kit_ty (r := true) (by decide +kernel), true, rfl, ?_⟩
    refine iteF ?_
    refine ⟨_, rfl, _, _, rfl, ⟨h3, rfl⟩, _, _, rfl, rfl, _, rfl, ?_⟩
    rw [decide_eq_true h1]
    refine iteT ⟨_, _, rfl, rfl, true, ?_, ?_⟩
    · show V.bl (decide ((z.length : Int) ≤ 8)) = _
      rw [decide_eq_true h2]
    refine iteF ?_
    refine ⟨_, rfl, _, _, c, rfl, rfl, h3, atI_nat (j := 0) h4, c, _, rfl, rfl, true, ?_, ?_⟩
    · show V.bl (decide _) = _
      rw [decide_eq_true h5]
    refine ⟨_, rfl, rfl, _, _, rfl, rfl, by decide +kernel, _, _, rfl, rfl, h3, ?_⟩
    rw [h6]
    refine ⟨rfl, ?_⟩
    show Q (.bl (decide (V.str ("" : Str) = V.str ("" : Str)))) H
    rw [decide_eq_true rfl]
    exact q
end
end T59
namespace T59
open PySem PySem.Spec PyProof.Rows L2 NX
/-! k59: the book, as it stands in the heap; its methods. -/
theorem small1000' {n : Nat} (h : n < 20000) : n < sizeLine := Nat.lt_trans h (by decide)
abbrev Rw : Type := Str × List Int
def RowAt (H : Hp) (a : Addr) (r : Rw) : Prop := ∃ b, H a = some (.tup [.str r.1, .ref b]) ∧ H b = some (.tup (r.2.map V.int))
def rowKey (r : Rw) : NestedKey := .tup [.text r.1, .tup (r.2.map NestedKey.num)]
theorem nks_ints {H : Hp} : ∀ ns : List Int, NKs H (ns.map V.int) (ns.map NestedKey.num)
  | [] => .nil
  | n :: ns => .cons (.int n) (nks_ints ns)
theorem RowAt.nk {H : Hp} {a : Addr} {r : Rw} (h : RowAt H a r) : NK H (.ref a) (rowKey r) := by
  obtain ⟨b, h1, h2⟩ := h
  exact .tup h1 (.cons (.str _) (.cons (.tup h2 (nks_ints _)) .nil))
theorem num_inj : ∀ {a b : List Int}, a.map NestedKey.num = b.map NestedKey.num → a = b
  | [], [], _ => rfl
  | [], _ :: _, h => by cases h
  | _ :: _, [], h => by cases h
  | x :: a, y :: b, h => by
    rw [List.map_cons, List.map_cons] at h
    obtain ⟨h1, h2⟩ := List.cons.inj h
    cases h1
    rw [num_inj h2]
theorem rowKey_inj {r q : Rw} (h : rowKey r = rowKey q) : r = q := by
  obtain ⟨r1, r2⟩ := r
  obtain ⟨q1, q2⟩ := q
  unfold rowKey at h
  simp only [NestedKey.tup.injEq, List.cons.injEq, NestedKey.text.injEq, and_true] at h
  obtain ⟨h1, h2⟩ := h
  rw [h1, num_inj h2]
theorem depth_nums : ∀ ns : List Int, NestedKey.depthAll (ns.map NestedKey.num) ≤ 1
  | [] => by simp [NestedKey.depthAll]
  | n :: ns => by
    have := depth_nums ns
    simp only [List.map_cons, NestedKey.depthAll, NestedKey.depth]
    omega
theorem rowKey_depth (r : Rw) : (rowKey r).depth ≤ 8 := by
  have := depth_nums r.2
  unfold rowKey
  simp only [NestedKey.depthAll, NestedKey.depth]
  omega
def nums : Nat → List (Addr × Rw) → List NE
  | _, [] => []
  | n, x :: t => (rowKey x.2, x.1, .int n) :: nums (n + 1) t
theorem nums_length : ∀ (n : Nat) (xs : List (Addr × Rw)), (nums n xs).length = xs.length
  | _, [] => rfl
  | n, x :: t => by rw [nums, List.length_cons, List.length_cons, nums_length]
theorem nums_append : ∀ (n : Nat) (xs ys : List (Addr × Rw)), nums n (xs ++ ys) = nums n xs ++ nums (n + xs.length) ys
  | n, [], ys => by rw [List.nil_append, List.length_nil, Nat.add_zero, nums, List.nil_append]
  | n, x :: t, ys => by rw [List.cons_append, nums, nums, nums_append, List.cons_append, List.length_cons, Nat.add_assoc, Nat.add_comm 1]
theorem nums_keys {H : Hp} : ∀ (n : Nat) (xs : List (Addr × Rw)), (∀ x ∈ xs, RowAt H x.1 x.2) → NKeys H (nums n xs)
  | _, [], _ => fun x hx => nomatch hx
  | n, x :: t, h => fun y hy => by
    rcases List.mem_cons.mp hy with e | hy
    · subst e
      exact ⟨(h x (List.mem_cons_self ..)).nk, rowKey_depth _⟩
    · exact nums_keys (n + 1) t (fun z hz => h z (List.mem_cons_of_mem _ hz)) y hy
/-- the number of a row: its place, or the length -/
def numOf (rs : List Rw) (r : Rw) : Nat := rs.idxOf r
theorem valN_nums (r : Rw) : ∀ (n : Nat) (xs : List (Addr × Rw)), valN (nums n xs) (rowKey r) = if r ∈ xs.map (·.2) then some (V.int (n + numOf (xs.map (·.2)) r : Nat)) else none
  | n, [] => by simp [nums, valN]
  | n, x :: t => by
    have ih := valN_nums r (n + 1) t
    by_cases e : x.2 = r
    · have e1 : valN (nums n (x :: t)) (rowKey r) = some (V.int n) := by simp [nums, valN, List.find?_cons, e]
      rw [e1, if_pos (by rw [List.map_cons, e]; exact List.mem_cons_self ..)]
      have e2 : numOf ((x :: t).map (·.2)) r = 0 := by unfold numOf; rw [List.map_cons, e]; simp
      rw [e2]; rfl
    · have e0 : ¬ rowKey x.2 = rowKey r := fun z => e (rowKey_inj z)
      have e1 : valN (nums n (x :: t)) (rowKey r) = valN (nums (n + 1) t) (rowKey r) := by simp [nums, valN, List.find?_cons, e0]
      rw [e1, ih]
      have e2 : (r ∈ (x :: t).map (·.2)) ↔ r ∈ t.map (·.2) := by
        rw [List.map_cons, List.mem_cons]
        exact ⟨fun z => z.elim (fun z => absurd z.symm e) id, .inr⟩
      have e3 : numOf ((x :: t).map (·.2)) r = numOf (t.map (·.2)) r + 1 := by
        unfold numOf
        rw [List.map_cons, List.idxOf_cons]
        have : (x.2 == r) = false := beq_eq_false_iff_ne.mpr e
        rw [this]; rfl
      rw [e3]
      by_cases m : r ∈ t.map (·.2)
      · rw [if_pos m, if_pos (e2.mpr m)]
        have : n + 1 + numOf (t.map (·.2)) r = n + (numOf (t.map (·.2)) r + 1) := by omega
        rw [this]
      · rw [if_neg m, if_neg (fun z => m (e2.mp z))]
def addRow (xs : List (Addr × Rw)) (a : Addr) (r : Rw) : List (Addr × Rw) := if r ∈ xs.map (·.2) then xs else xs ++ [(a, r)]

def InsAt (C : Addr) (H : Hp) (p l d : Addr) : Prop := ∃ dx, H p = some (.ins C dx [("held", .ref l), ("numbers", .ref d)])
structure BookAt (P : Program) (w : World) (C : Addr) (H : Hp) (p l d : Addr) (xs : List (Addr × Rw)) : Prop where
  ins : InsAt C H p l d
  lst : H l = some (.lst (xs.map fun x => V.ref x.1))
  dct : H d = some (dN P w d (nums 0 xs))
  row : ∀ x ∈ xs, RowAt H x.1 x.2
  nm : ∀ r ∈ xs.map (·.2), NameOk r.1
  nd : (xs.map (·.2)).Nodup
  big : xs.length ≤ 10000
/-- all but l and d stands -/
def Sv (l d : Addr) (H H' : Hp) : Prop := ∀ b o, b ≠ l → b ≠ d → H b = some o → H' b = some o
theorem Sv.of_same {l d : Addr} {H H' : Hp} (s : Same H H') : Sv l d H H' := fun b o _ _ e => s b o e
theorem Sv.trans {l d : Addr} {H H1 H2 : Hp} (a : Sv l d H H1) (b : Sv l d H1 H2) : Sv l d H H2 := fun c o n m e => b c o n m (a c o n m e)
theorem RowAt.same {H H' : Hp} {a : Addr} {r : Rw} (s : Same H H') (h : RowAt H a r) : RowAt H' a r := let ⟨b, h1, h2⟩ := h; ⟨b, s _ _ h1, s _ _ h2⟩
theorem RowAt.tups {H H' : Hp} {a : Addr} {r : Rw} (s : ∀ b ys, H b = some (.tup ys) → H' b = some (.tup ys)) (h : RowAt H a r) : RowAt H' a r := let ⟨b, h1, h2⟩ := h; ⟨b, s _ _ h1, s _ _ h2⟩
section
variable {P : Program} {w : World} {C p l d : Addr} {H H' : Hp} {xs : List (Addr × Rw)}
theorem BookAt.ld (B : BookAt P w C H p l d xs) : l ≠ d := fun z => by
  have e := B.lst
  rw [z, B.dct] at e
  have e := Option.some.inj e
  unfold dN at e
  cases e
theorem BookAt.pl (B : BookAt P w C H p l d xs) : p ≠ l := fun z => by
  obtain ⟨dx, e⟩ := B.ins
  rw [z, B.lst] at e
  have e := Option.some.inj e
  cases e
theorem BookAt.pd (B : BookAt P w C H p l d xs) : p ≠ d := fun z => by
  obtain ⟨dx, e⟩ := B.ins
  rw [z, B.dct] at e
  have e := Option.some.inj e
  unfold dN at e
  cases e
theorem BookAt.tl (B : BookAt P w C H p l d xs) {b : Addr} {ys : List V} (h : H b = some (.tup ys)) : b ≠ l := fun z => by
  rw [z, B.lst] at h
  have e := Option.some.inj h
  cases e
theorem BookAt.td (B : BookAt P w C H p l d xs) {b : Addr} {ys : List V} (h : H b = some (.tup ys)) : b ≠ d := fun z => by
  rw [z, B.dct] at h
  exact dN_ne_tup (Option.some.inj h)
theorem BookAt.same (B : BookAt P w C H p l d xs) (s : Same H H') : BookAt P w C H' p l d xs :=
  ⟨let ⟨dx, e⟩ := B.ins; ⟨dx, s _ _ e⟩, s _ _ B.lst, s _ _ B.dct, fun x hx => (B.row x hx).same s, B.nm, B.nd, B.big⟩
theorem BookAt.sv {l2 d2 p2 : Addr} {ys : List (Addr × Rw)} (B : BookAt P w C H p l d xs) (B2 : BookAt P w C H p2 l2 d2 ys) (s : Sv l2 d2 H H') (n1 : l ≠ l2) (n2 : d ≠ d2) : BookAt P w C H' p l d xs := by
  have nd : l ≠ d2 := fun z => by
    have e := B.lst
    rw [z, B2.dct] at e
    have e := Option.some.inj e
    unfold dN at e
    cases e
  have nl : d ≠ l2 := fun z => by
    have e := B2.lst
    rw [← z, B.dct] at e
    have e := Option.some.inj e
    unfold dN at e
    cases e
  refine ⟨?_, s _ _ n1 nd B.lst, s _ _ nl n2 B.dct, fun x hx => (B.row x hx).tups fun b ys h => s _ _ (B2.tl h) (B2.td h) h, B.nm, B.nd, B.big⟩
  obtain ⟨dx, e⟩ := B.ins
  refine ⟨dx, s _ _ (fun z => ?_) (fun z => ?_) e⟩
  · rw [z, B2.lst] at e
    have e := Option.some.inj e
    cases e
  · rw [z, B2.dct] at e
    have e := Option.some.inj e
    unfold dN at e
    cases e
end
section
variable {P : Program} {w : World} {K : PySem.W.Frag} {mg : Str → Option Value} {base : Heap}
/-! has_number, need_number -/
theorem sc_Book_has_number : FnScope ["self", "number"] ["self", "number"] (defScope s_Book_has_number) := ⟨rfl, rfl, rfl, by decide +kernel, rfl, by decide +kernel, by decide +kernel⟩
theorem b_Book_has_number (T : Tx K mg) : Binds K (NX.fdOf K ("Book", some "has_number")) ["self", "number"] [] := T.f_Book_has_number.bindsN fun _ _ _ _ _ _ us hl => match us, hl with | [_, _], _ => rfl
def spHas (K : PySem.W.Frag) : Sp := fun vs H Q _ => ∃ (p l d : Addr) (ys : List V) (k : Int), vs = [.ref p, .int k] ∧ InsAt (He.ga K "Book") H p l d ∧ H l = some (.lst ys) ∧ Q (.bl (decide (0 ≤ k ∧ k ≤ (ys.length : Int) - 1))) H
theorem ok_Book_has_number (T : Tx K mg) : FnOk P w K mg base CX0 2 (He.ma K (He.ga K "Book") "has_number") (NX.fdOf K ("Book", some "has_number")) ["self", "number"] (spHas K) := by
  refine T.f_Book_has_number.ok sc_Book_has_number (fun vs H Q E h => ?_) fun cdv A outer s H vs Q E hr h => ⟨_, PSs.nox (pss_one (ps_ret (pe_call (ok_is_integer T) (hr.mono (by decide)) rfl T.g_is_integer T.f_is_integer.kp (b_is_integer T) .nil pass0 (pa_cons (pv 1) (pa_cons pe_int (pa_cons (pe_op op_sub (pe_callB call_len rfl T.n_len (by decide +kernel) (pa_cons (pe_fld (pv 0) rfl) pa_nil)) pe_int) pa_nil)))))), ?_⟩
  · obtain ⟨p, l, d, ys, k, rfl, _⟩ := h; rfl
  · obtain ⟨p, l, d, ys, k, rfl, ⟨dx, hp⟩, hl, q⟩ := h
    exact ⟨_, rfl, _, rfl, _, _, _, _, _, rfl, hp, T.c_Book, T.a_Book_held, rfl, _, _, rfl, .inl ⟨_, SqL.of hl, rfl⟩, _, _, rfl, rfl, k, 0, _, rfl, q⟩
theorem sc_Book_need_number : FnScope ["self", "number"] ["self", "number"] (defScope s_Book_need_number) := ⟨rfl, rfl, rfl, by decide +kernel, rfl, by decide +kernel, by decide +kernel⟩
theorem b_Book_need_number (T : Tx K mg) : Binds K (NX.fdOf K ("Book", some "need_number")) ["self", "number"] [] := T.f_Book_need_number.bindsN fun _ _ _ _ _ _ us hl => match us, hl with | [_, _], _ => rfl
def spNeed (K : PySem.W.Frag) : Sp := fun vs H Q _ => ∃ (p l d : Addr) (ys : List V) (k : Nat), vs = [.ref p, .int k] ∧ InsAt (He.ga K "Book") H p l d ∧ H l = some (.lst ys) ∧ k < ys.length ∧ Q .non H
theorem ok_Book_need_number (T : Tx K mg) : FnOk P w K mg base CX0 3 (He.ma K (He.ga K "Book") "need_number") (NX.fdOf K ("Book", some "need_number")) ["self", "number"] (spNeed K) := by
  refine T.f_Book_need_number.ok sc_Book_need_number (fun vs H Q E h => ?_) fun cdv A outer s H vs Q E hr h => ⟨_, PSs.nox (pss_one (ps_if (pt_not (pt_val (pe_meth (pv 0) T.c_Book T.m_Book_has_number (ok_Book_has_number T) (hr.mono (by decide)) (b_Book_has_number T) .nil pass0 (pa_cons (pv 1) pa_nil))))
    (pss_one ps_never)
    pss_nil)), ?_⟩
  · obtain ⟨p, l, d, ys, k, rfl, _⟩ := h; rfl
  · obtain ⟨p, l, d, ys, k, rfl, ⟨dx, hp⟩, hl, hk, q⟩ := h
    refine ⟨_, rfl, _, _, _, rfl, hp, rfl, _, rfl, p, l, d, ys, k, rfl, ⟨dx, hp⟩, hl, _, rfl, ?_⟩
    rw [decide_eq_true (show (0 : Int) ≤ (k : Int) ∧ (k : Int) ≤ (ys.length : Int) - 1 by omega)]
    exact iteF q
/-! len, [], rows -/
theorem sc_Book_len : FnScope ["self"] ["self"] (defScope s_Book_len) := ⟨rfl, rfl, rfl, by decide +kernel, rfl, by decide +kernel, by decide +kernel⟩
theorem b_Book_len (T : Tx K mg) : Binds K (NX.fdOf K ("Book", some "__len__")) ["self"] [] := T.f_Book_len.bindsN fun _ _ _ _ _ _ us hl => match us, hl with | [_], _ => rfl
def spLen (K : PySem.W.Frag) : Sp := fun vs H Q _ => ∃ (p l d : Addr) (ys : List V), vs = [.ref p] ∧ InsAt (He.ga K "Book") H p l d ∧ H l = some (.lst ys) ∧ Q (.int ys.length) H
theorem ok_Book_len (T : Tx K mg) : FnOk P w K mg base CX0 1 (He.ma K (He.ga K "Book") "__len__") (NX.fdOf K ("Book", some "__len__")) ["self"] (spLen K) := by
  refine T.f_Book_len.ok sc_Book_len (fun vs H Q E h => ?_) fun cdv A outer s H vs Q E hr h => ⟨_, PSs.nox (pss_one (ps_ret (pe_callB call_len rfl T.n_len (by decide +kernel) (pa_cons (pe_fld (pv 0) rfl) pa_nil)))), ?_⟩
  · obtain ⟨p, l, d, ys, rfl, _⟩ := h; rfl
  · obtain ⟨p, l, d, ys, rfl, ⟨dx, hp⟩, hl, q⟩ := h
    exact ⟨_, rfl, _, _, _, _, _, rfl, hp, T.c_Book, T.a_Book_held, rfl, _, _, rfl, .inl ⟨_, SqL.of hl, rfl⟩, q⟩
theorem sc_Book_getitem : FnScope ["self", "number"] ["self", "number"] (defScope s_Book_getitem) := ⟨rfl, rfl, rfl, by decide +kernel, rfl, by decide +kernel, by decide +kernel⟩
theorem b_Book_getitem (T : Tx K mg) : Binds K (NX.fdOf K ("Book", some "__getitem__")) ["self", "number"] [] := T.f_Book_getitem.bindsN fun _ _ _ _ _ _ us hl => match us, hl with | [_, _], _ => rfl
def spItem (K : PySem.W.Frag) : Sp := fun vs H Q _ => ∃ (p l d : Addr) (ys : List V) (k : Nat) (v : V), vs = [.ref p, .int k] ∧ InsAt (He.ga K "Book") H p l d ∧ H l = some (.lst ys) ∧ ys[k]? = some v ∧ Q v H
theorem ok_Book_getitem (T : Tx K mg) : FnOk P w K mg base CX0 2 (He.ma K (He.ga K "Book") "__getitem__") (NX.fdOf K ("Book", some "__getitem__")) ["self", "number"] (spItem K) := by
  refine T.f_Book_getitem.ok sc_Book_getitem (fun vs H Q E h => ?_) fun cdv A outer s H vs Q E hr h => ⟨_, PSs.nox (pss_cons (ps_if (pt_not (pt_val (pe_call (ok_is_integer T) (hr.mono (by decide)) rfl T.g_is_integer T.f_is_integer.kp (b_is_integer T) .nil pass0 (pa_cons (pv 1) (pa_cons pe_int (pa_cons (pe_op op_sub (pe_callB call_len rfl T.n_len (by decide +kernel) (pa_cons (pe_fld (pv 0) rfl) pa_nil)) pe_int) pa_nil))))))
    (pss_one ps_never)
    pss_nil)
  (pss_one (ps_ret (pe_ix ix_list (pe_fld (pv 0) rfl) (pv 1) (fun _ _ => rfl))))), ?_⟩
  · obtain ⟨p, l, d, ys, k, v, rfl, _⟩ := h; rfl
  · obtain ⟨p, l, d, ys, k, v, rfl, ⟨dx, hp⟩, hl, hk, q⟩ := h
    have hlt : k < ys.length := (List.getElem?_eq_some_iff.mp hk).1
    refine ⟨_, rfl, _, rfl, _, _, _, _, _, rfl, hp, T.c_Book, T.a_Book_held, rfl, _, _, rfl, .inl ⟨_, SqL.of hl, rfl⟩, _, _, rfl, rfl, k, 0, _, rfl, _, rfl, ?_⟩
    rw [decide_eq_true (show (0 : Int) ≤ (k : Int) ∧ (k : Int) ≤ (ys.length : Int) - 1 by omega)]
    exact iteF ⟨_, rfl, _, _, _, _, _, rfl, hp, T.c_Book, T.a_Book_held, rfl, _, rfl, _, _, _, _, rfl, rfl, SqL.of hl, atI_nat hk, q⟩
theorem sc_Book_rows : FnScope ["self"] ["self"] (defScope s_Book_rows) := ⟨rfl, rfl, rfl, by decide +kernel, rfl, by decide +kernel, by decide +kernel⟩
theorem b_Book_rows (T : Tx K mg) : Binds K (NX.fdOf K ("Book", some "rows")) ["self"] [] := T.f_Book_rows.bindsN fun _ _ _ _ _ _ us hl => match us, hl with | [_], _ => rfl
def spRows (K : PySem.W.Frag) : Sp := fun vs H Q _ => ∃ (p l d : Addr) (ys : List V), vs = [.ref p] ∧ InsAt (He.ga K "Book") H p l d ∧ H l = some (.lst ys) ∧ ∀ q, H q = none → Q (.ref q) (upd H q (.lst ys))
theorem ok_Book_rows (T : Tx K mg) : FnOk P w K mg base CX0 1 (He.ma K (He.ga K "Book") "rows") (NX.fdOf K ("Book", some "rows")) ["self"] (spRows K) := by
  refine T.f_Book_rows.ok sc_Book_rows (fun vs H Q E h => ?_) fun cdv A outer s H vs Q E hr h => ⟨_, PSs.nox (pss_one (ps_ret (pe_callTy call_list_of rfl T.n_list (by decide +kernel) (pa_cons (pe_fld (pv 0) rfl) pa_nil)))), ?_⟩
  · obtain ⟨p, l, d, ys, rfl, _⟩ := h; rfl
  · obtain ⟨p, l, d, ys, rfl, ⟨dx, hp⟩, hl, q⟩ := h
    exact ⟨_, rfl, _, _, _, _, _, rfl, hp, T.c_Book, T.a_Book_held, rfl, _, _, rfl, .inl (SqL.of hl), q⟩
/-! == -/
def rowD (r : Rw) : PyData := .tuple [.str r.1, .tuple (r.2.map PyData.int)]
theorem dp_ints {H : Hp} : ∀ ns : List Int, DpAll K H (ns.map V.int) (ns.map PyData.int)
  | [] => .nil
  | n :: ns => .cons (.int n) (dp_ints ns)
theorem RowAt.dp {H : Hp} {a : Addr} {r : Rw} (h : RowAt H a r) : Dp K H (.ref a) (rowD r) := by
  obtain ⟨b, h1, h2⟩ := h
  exact .tup (SqT.of h1) (.cons (.str _) (.cons (.tup (SqT.of h2) (dp_ints _)) .nil))
theorem dp_rows {H : Hp} : ∀ xs : List (Addr × Rw), (∀ x ∈ xs, RowAt H x.1 x.2) → DpAll K H (xs.map fun x => V.ref x.1) (xs.map fun x => rowD x.2)
  | [], _ => .nil
  | x :: xs, h => .cons (h x (List.mem_cons_self ..)).dp (dp_rows xs fun y hy => h y (List.mem_cons_of_mem _ hy))
theorem lay_ints : ∀ ns : List Int, PyData.canLayAll0 (ns.map PyData.int) = true
  | [] => rfl
  | n :: ns => by rw [List.map_cons, PyData.canLayAll0, lay_ints ns]; rfl
theorem name_str {z : Str} (h : NameOk z) : PyData.strOk z = true := by
  rcases h with rfl | rfl | rfl | rfl | rfl <;> decide +kernel
theorem lay_row (r : Rw) (h : NameOk r.1) : (rowD r).canLay0 = true := by
  simp [rowD, PyData.canLay0, PyData.canLayAll0, lay_ints, name_str h]
theorem lay_rows : ∀ rs : List Rw, (∀ r ∈ rs, NameOk r.1) → PyData.canLayAll0 (rs.map rowD) = true
  | [], _ => rfl
  | r :: rs, h => by rw [List.map_cons, PyData.canLayAll0, lay_rows rs fun q hq => h q (List.mem_cons_of_mem _ hq), lay_row r (h r (List.mem_cons_self ..))]; rfl
theorem dep_ints : ∀ ns : List Int, PyData.depthAll (ns.map PyData.int) = 0
  | [] => rfl
  | n :: ns => by rw [List.map_cons, PyData.depthAll, dep_ints ns]; rfl
theorem dep_rows : ∀ rs : List Rw, PyData.depthAll (rs.map rowD) ≤ 2
  | [] => by simp [PyData.depthAll]
  | r :: rs => by
    have := dep_rows rs
    rw [List.map_cons, PyData.depthAll]
    simp only [rowD, PyData.depth, PyData.depthAll, dep_ints]
    exact Nat.max_le.mpr ⟨by decide, this⟩
theorem shaped_rows (rs : List Rw) (hn : ∀ r ∈ rs, NameOk r.1) : SeqAt.shaped (.list (rs.map rowD)) = true := by
  unfold SeqAt.shaped
  have h := dep_rows rs
  simp only [PyData.canLay0, lay_rows rs hn, PyData.depth, Bool.true_and]
  exact decide_eq_true (Nat.le_trans (Nat.succ_le_succ h) (show 3 ≤ 64 by decide))
theorem map_rowD (xs : List (Addr × Rw)) : (xs.map fun x => rowD x.2) = (xs.map (·.2)).map rowD := by rw [List.map_map]; rfl
theorem sc_Book_eq : FnScope ["self", "other"] ["self", "other"] (defScope s_Book_eq) := ⟨rfl, rfl, rfl, by decide +kernel, rfl, by decide +kernel, by decide +kernel⟩
theorem b_Book_eq (T : Tx K mg) : Binds K (NX.fdOf K ("Book", some "__eq__")) ["self", "other"] [] := T.f_Book_eq.bindsN fun _ _ _ _ _ _ us hl => match us, hl with | [_, _], _ => rfl
def spBEq (P : Program) (w : World) (K : PySem.W.Frag) : Sp := fun vs H Q _ => ∃ (p l d p2 l2 d2 : Addr) (xs ys : List (Addr × Rw)), vs = [.ref p, .ref p2] ∧ BookAt P w (He.ga K "Book") H p l d xs ∧ BookAt P w (He.ga K "Book") H p2 l2 d2 ys ∧ xs.map (·.2) = ys.map (·.2) ∧ Q (.bl true) H
theorem ok_Book_eq (T : Tx K mg) : FnOk P w K mg base CX0 1 (He.ma K (He.ga K "Book") "__eq__") (NX.fdOf K ("Book", some "__eq__")) ["self", "other"] (spBEq P w K) := by
  refine T.f_Book_eq.ok sc_Book_eq (fun vs H Q E h => ?_) fun cdv A outer s H vs Q E hr h => ⟨_, PSs.nox (pss_one (ps_ret (pe_and (pe_callB (C8.call_isC (insB_ok T.c_Book T.is_Book)) rfl T.n_isinstance (by decide +kernel) (pa_cons (pv 1) (pa_cons (pe_glob (v := .ref (He.ga K "Book")) rfl T.g_Book rfl) pa_nil))) (pe_one (pe_cmpR (op_eqD hr.units) (pe_fld (pv 0) rfl) (pe_fld (pv 1) rfl) (nomark _)))))), ?_⟩
  · obtain ⟨p, l, d, p2, l2, d2, xs, ys, rfl, _⟩ := h; rfl
  · obtain ⟨p, l, d, p2, l2, d2, xs, ys, rfl, B, B2, e, q⟩ := h
    obtain ⟨dx, hp⟩ := B.ins
    obtain ⟨dx2, hp2⟩ := B2.ins
    refine ⟨_, rfl, _, _, _, rfl, hp2, true, rfl, ?_⟩
    refine ⟨_, rfl, _, _, _, _, _, rfl, hp, T.c_Book, T.a_Book_held, rfl, _, rfl, _, _, _, _, _, rfl, hp2, T.c_Book, T.a_Book_held, rfl, .list ((xs.map (·.2)).map rowD), .list ((ys.map (·.2)).map rowD), ?_, ?_, shaped_rows _ B.nm, shaped_rows _ B2.nm, ?_⟩
    · rw [← map_rowD]; exact .lst (SqL.of B.lst) (dp_rows xs B.row)
    · rw [← map_rowD]; exact .lst (SqL.of B2.lst) (dp_rows ys B2.row)
    · have ee : PyData.eqv (.list ((ys.map (·.2)).map rowD)) (.list ((ys.map (·.2)).map rowD)) = true := SeqAt.eqv_refl _ (by simp only [PyData.canLay0, lay_rows _ B2.nm])
      rw [e]
      show Q (.bl (PyData.eqv (.list ((ys.map (·.2)).map rowD)) (.list ((ys.map (·.2)).map rowD)))) H
      rw [ee]
      exact q
/-! number_of -/
theorem sc_Book_number_of : FnScope ["self", "row"] ["self", "row"] (defScope s_Book_number_of) := ⟨rfl, rfl, rfl, by decide +kernel, rfl, by decide +kernel, by decide +kernel⟩
theorem b_Book_number_of (T : Tx K mg) : Binds K (NX.fdOf K ("Book", some "number_of")) ["self", "row"] [] := T.f_Book_number_of.bindsN fun _ _ _ _ _ _ us hl => match us, hl with | [_, _], _ => rfl
def spNum (P : Program) (w : World) (K : PySem.W.Frag) : Sp := fun vs H Q _ => ∃ (p l d a : Addr) (xs : List (Addr × Rw)) (r : Rw), vs = [.ref p, .ref a] ∧ BookAt P w (He.ga K "Book") H p l d xs ∧ RowAt H a r ∧ NameOk r.1 ∧ xs.length < 10000 ∧
  ∀ H', Sv l d H H' → BookAt P w (He.ga K "Book") H' p l d (addRow xs a r) → Q (.int (numOf (xs.map (·.2)) r : Nat)) H'
theorem ok_Book_number_of (T : Tx K mg) : FnOk P w K mg base CX0 1 (He.ma K (He.ga K "Book") "number_of") (NX.fdOf K ("Book", some "number_of")) ["self", "row"] (spNum P w K) := by
  refine T.f_Book_number_of.ok sc_Book_number_of (fun vs H Q E h => ?_) fun cdv A outer s H vs Q E hr h => ⟨_, PSs.nox (pss_cons (ps_if (pt_cmp (pc_nnotin hr.units (pv 1) (pe_fld (pv 0) rfl)))
    (pss_cons (ps_nput hr.units (pe_fld (pv 0) rfl) (pv 1) (pe_callB call_len rfl T.n_len (by decide +kernel) (pa_cons (pe_fld (pv 0) rfl) pa_nil)) rfl)
    (pss_one (ps_expr (pe_bm PySem.F.plainAttrs_list PySem.F.slot_list_append PySem.F.type_list_append mt_append (pe_fld (pv 0) rfl) (pa_cons (pv 1) pa_nil)))))
    pss_nil)
  (pss_one (ps_ret (pe_nget hr.units (pe_fld (pv 0) rfl) (pv 1) (fun _ _ => rfl))))), ?_⟩
  · obtain ⟨p, l, d, a, xs, r, rfl, _⟩ := h; rfl
  · obtain ⟨p, l, d, a, xs, r, rfl, B, hr', hnm, hl, q⟩ := h
    obtain ⟨dx, hp⟩ := B.ins
    have nk := hr'.nk
    have kk := nums_keys 0 xs B.row
    have ev := valN_nums r 0 xs
    refine ⟨_, rfl, _, rfl, _, _, _, _, _, rfl, hp, T.c_Book, T.a_Book_numbers, rfl, _, _, _, _, rfl, rfl, B.dct, kk, nk, rowKey_depth _, _, rfl, ?_⟩
    by_cases m : r ∈ xs.map (·.2)
    · have e : valN (nums 0 xs) (rowKey r) = some (V.int (numOf (xs.map (·.2)) r : Nat)) := by rw [ev, if_pos m, Nat.zero_add]
      rw [e]
      refine iteF ?_
      refine ⟨_, rfl, _, _, _, _, _, rfl, hp, T.c_Book, T.a_Book_numbers, rfl, _, rfl, _, _, _, _, _, rfl, rfl, B.dct, kk, nk, rowKey_depth _, e, ?_⟩
      refine q H (Sv.of_same (Same.refl H)) ?_
      unfold addRow
      rw [if_pos m]
      exact B
    · have e : valN (nums 0 xs) (rowKey r) = none := by rw [ev, if_neg m]
      rw [e]
      refine iteT ?_
      refine ⟨_, rfl, _, _, _, _, _, rfl, hp, T.c_Book, T.a_Book_held, rfl, _, _, rfl, .inl ⟨_, SqL.of B.lst, rfl⟩, ?_⟩
      refine ⟨_, rfl, _, _, _, _, _, rfl, hp, T.c_Book, T.a_Book_numbers, rfl, _, rfl, _, _, _, _, rfl, rfl, B.dct, kk, nk, rowKey_depth _, by rw [nums_length]; exact small1000' (by omega), ?_⟩
      rw [putN_new e]
      have eN : nums 0 xs ++ [(rowKey r, a, V.int (xs.map fun x => V.ref x.1).length)] = nums 0 (xs ++ [(a, r)]) := by
        rw [nums_append, List.length_map]
        simp [nums]
      rw [eN]
      have tups : ∀ b ys, H b = some (.tup ys) → upd (upd H d (dN P w d (nums 0 (xs ++ [(a, r)])))) l (.lst ((xs.map fun x => V.ref x.1) ++ [.ref a])) b = some (.tup ys) := fun b ys h => by rw [upd_ne (B.tl h), upd_ne (B.td h)]; exact h
      have sv : Sv l d H (upd (upd H d (dN P w d (nums 0 (xs ++ [(a, r)])))) l (.lst ((xs.map fun x => V.ref x.1) ++ [.ref a]))) := fun b o n1 n2 h => by rw [upd_ne n1, upd_ne n2]; exact h
      have hp1 : upd H d (dN P w d (nums 0 (xs ++ [(a, r)]))) p = some (.ins (He.ga K "Book") dx [("held", .ref l), ("numbers", .ref d)]) := by rw [upd_ne B.pd]; exact hp
      have hl1 : upd H d (dN P w d (nums 0 (xs ++ [(a, r)]))) l = some (.lst (xs.map fun x => V.ref x.1)) := by rw [upd_ne B.ld]; exact B.lst
      have hp2 := sv _ _ B.pl B.pd hp
      have B2 : BookAt P w (He.ga K "Book") (upd (upd H d (dN P w d (nums 0 (xs ++ [(a, r)])))) l (.lst ((xs.map fun x => V.ref x.1) ++ [.ref a]))) p l d (xs ++ [(a, r)]) := by
        refine ⟨⟨dx, hp2⟩, by rw [upd_same, List.map_append]; rfl, by rw [upd_ne B.ld.symm, upd_same], fun x hx => ?_, fun q hq => ?_, ?_, by rw [List.length_append]; exact hl⟩
        · rcases List.mem_append.mp hx with hx | hx
          · exact (B.row x hx).tups tups
          · rw [List.mem_singleton.mp hx]; exact hr'.tups tups
        · rw [List.map_append, List.mem_append] at hq
          rcases hq with hq | hq
          · exact B.nm q hq
          · rw [List.mem_singleton.mp hq]; exact hnm
        · rw [List.map_append, List.nodup_append]
          refine ⟨B.nd, by simp, fun x hx y hy z => m ?_⟩
          have z2 : x = r := z.trans (List.mem_singleton.mp (show y ∈ [r] from hy))
          rw [← z2]; exact hx
      refine ⟨_, rfl, _, _, _, _, _, rfl, hp1, T.c_Book, T.a_Book_held, rfl, .inl ⟨rfl, _, SqL.of hl1⟩, _, rfl, _, _, _, rfl, rfl, hl1, ?_, ?_⟩
      · rw [List.length_map]; exact small1000' (by omega)
      have e2 : valN (nums 0 (xs ++ [(a, r)])) (rowKey r) = some (V.int (numOf (xs.map (·.2)) r : Nat)) := by
        have := valN_nums r 0 (xs ++ [(a, r)])
        rw [this, if_pos (by rw [List.map_append]; exact List.mem_append_right _ (List.mem_singleton.mpr rfl)), Nat.zero_add]
        have : numOf ((xs ++ [(a, r)]).map (·.2)) r = numOf (xs.map (·.2)) r := by
          unfold numOf
          rw [List.map_append, List.idxOf_append, if_neg m, List.idxOf_eq_length m]
          simp
        rw [this]
      refine ⟨_, rfl, _, _, _, _, _, rfl, hp2, T.c_Book, T.a_Book_numbers, rfl, _, rfl, _, _, _, _, _, rfl, rfl, B2.dct, nums_keys 0 _ B2.row, (hr'.tups tups).nk, rowKey_depth _, e2, ?_⟩
      refine q _ sv ?_
      unfold addRow
      rw [if_neg m]
      exact B2
/-! add_item -/
theorem sc_Book_add_item : FnScope ["self", "item", "name", "second", "number"] ["self", "item"] (defScope s_Book_add_item) := ⟨rfl, rfl, rfl, by decide +kernel, rfl, by decide +kernel, by decide +kernel⟩
theorem b_Book_add_item (T : Tx K mg) : Binds K (NX.fdOf K ("Book", some "add_item")) ["self", "item"] [] := T.f_Book_add_item.bindsN fun _ _ _ _ _ _ us hl => match us, hl with | [_, _], _ => rfl
def spAdd (P : Program) (w : World) (K : PySem.W.Frag) : Sp := fun vs H Q _ => ∃ (p l d a : Addr) (xs : List (Addr × Rw)) (r : Rw), vs = [.ref p, .ref a] ∧ BookAt P w (He.ga K "Book") H p l d xs ∧ RowAt H a r ∧ NameOk r.1 ∧ r.2.length ≤ 3 ∧ (∀ n ∈ r.2, 0 ≤ n ∧ n ≤ (xs.length : Int) - 1) ∧
  r ∉ xs.map (·.2) ∧ xs.length < 10000 ∧ ∀ H' c, Sv l d H H' → BookAt P w (He.ga K "Book") H' p l d (xs ++ [(c, r)]) → Q .non H'
theorem ok_Book_add_item (T : Tx K mg) : FnOk P w K mg base CX0 3 (He.ma K (He.ga K "Book") "add_item") (NX.fdOf K ("Book", some "add_item")) ["self", "item"] (spAdd P w K) := by
  refine T.f_Book_add_item.ok sc_Book_add_item (fun vs H Q E h => ?_) fun cdv A outer s H vs Q E hr h => ⟨_, PSs.nox (pss_cons (ps_if (pt_not (pt_val (pe_call (ok_is_pair T) (hr.mono (by decide)) rfl T.g_is_pair T.f_is_pair.kp (b_is_pair T) .nil pass0 (pa_cons (pv 1) pa_nil))))
    (pss_one ps_never)
    pss_nil)
  (pss_cons (ps_asg (pv 1) (pg_tup (by rfl) (pgs_cons (pg_name (i := 2) sc_Book_add_item.nd rfl (by first | exact Or.inl rfl | exact Or.inr rfl)) (pgs_cons (pg_name (i := 3) sc_Book_add_item.nd rfl (by first | exact Or.inl rfl | exact Or.inr rfl)) pgs_nil))))
  (pss_cons (ps_if (PW.pt (pw_and (pt_not (pt_val (pe_call (ok_is_turn T) (hr.mono (by decide)) rfl T.g_is_turn T.f_is_turn.kp (b_is_turn T) .nil pass0 (pa_cons (pv 3) pa_nil)))) (pw_and1 (pt_not (PW.pt (pw_and (pt_val (pe_call (ok_is_list T) (hr.mono (by decide)) rfl T.g_is_list T.f_is_list.kp (b_is_list T) .nil pass0 (pa_cons (pv 3) pa_nil))) (pw_and1 (pt_cmpR op_le (pe_callB call_len rfl T.n_len (by decide +kernel) (pa_cons (pv 3) pa_nil)) (pe_gK rfl (gI T.i_MOST_ARGUMENTS)) (nomark _)))))))))
    (pss_one ps_never)
    pss_nil)
  (pss_cons (ps_if (pt_not (pt_val (pe_call (ok_is_name T) (hr.mono (by decide)) rfl T.g_is_name T.f_is_name.kp (b_is_name T) .nil pass0 (pa_cons (pv 2) pa_nil))))
    (pss_one ps_never)
    pss_nil)
  (pss_cons (ps_if (pt_val (pe_call (ok_is_list T) (hr.mono (by decide)) rfl T.g_is_list T.f_is_list.kp (b_is_list T) .nil pass0 (pa_cons (pv 3) pa_nil)))
    (pss_cons (ps_if (pt_not (pt_val (pe_callB (cr_all rfl) rfl T.n_all (by decide +kernel) (pa_cons (pe_lc (own := [("number", 4)]) (g := gName 4) (rfl) sc_Book_add_item.nd (pi_tup (pv 3)) (blkOk_by (own := [("number", 4)]) (N := ["self", "item", "name", "second", "number"]) (sc := defScope s_Book_add_item) (by decide +kernel)) (fun _ _ _ _ _ => (pg_name (i := 4) sc_Book_add_item.nd rfl (by first | exact Or.inl rfl | exact Or.inr rfl))) (fun _ _ _ _ _ => pts_nil) (fun _ _ _ _ _ => (pe_meth (pv 0) T.c_Book T.m_Book_has_number (ok_Book_has_number T) (hr.mono (by decide)) (b_Book_has_number T) .nil pass0 (pa_cons (pv 4) pa_nil)))) pa_nil))))
      (pss_one ps_never)
      pss_nil)
    (pss_one (ps_set (i := 3) sc_Book_add_item.nd rfl (by first | exact Or.inl rfl | exact Or.inr rfl) (pe_callTy call_tuple_of rfl T.n_tuple (by decide +kernel) (pa_cons (pv 3) pa_nil)))))
    pss_nil)
  (pss_cons (ps_if (pt_cmp (pc_nin hr.units (pe_tup (pa_cons (pv 2) (pa_cons (pv 3) pa_nil))) (pe_fld (pv 0) rfl)))
    (pss_one ps_never)
    pss_nil)
  (pss_one (ps_expr (pe_meth (pv 0) T.c_Book T.m_Book_number_of (ok_Book_number_of T) (hr.mono (by decide)) (b_Book_number_of T) .nil pass0 (pa_cons (pe_tup (pa_cons (pv 2) (pa_cons (pv 3) pa_nil))) pa_nil)))))))))), ?_⟩
  · obtain ⟨p, l, d, a, xs, r, rfl, _⟩ := h; rfl
  · obtain ⟨p, l, d, a, xs, r, rfl, B, ⟨b, ha, hb⟩, hnm, h3, hin, hno, hl, q⟩ := h
    refine ⟨_, rfl, _, _, _, rfl, ha, fun H1 s1 => ⟨true, rfl, iteF ?_⟩⟩
    refine ⟨_, rfl, _, _, rfl, SqT.of (s1 _ _ ha), rfl, _, _, rfl, _, _, rfl, rfl, ?_⟩
    refine ⟨_, rfl, b, _, rfl, s1 _ _ hb, false, rfl, iteT ?_⟩
    refine ⟨_, rfl, b, rfl, .inr (.base (.tup (s1 _ _ hb))), fun H2 s2 => ⟨true, rfl, iteT ?_⟩⟩
    have s12 := s1.trans s2
    refine ⟨_, rfl, _, _, rfl, .inr ⟨_, SqT.of (s12 _ _ hb), rfl⟩, _, _, rfl, rfl, _, rfl, ?_⟩
    rw [decide_eq_true (show ((r.2.map V.int).length : Int) ≤ 3 by rw [List.length_map]; omega)]
    refine iteF ?_
    refine ⟨_, rfl, r.1, rfl, hnm, true, rfl, iteF ?_⟩
    refine ⟨_, rfl, b, rfl, .inr (.base (.tup (s12 _ _ hb))), fun H3 s3 => ⟨true, rfl, iteT ?_⟩⟩
    have s13 := s12.trans s3
    have B3 := B.same s13
    obtain ⟨dx, hp3⟩ := B3.ins
    refine ⟨_, rfl, b, rfl, ⟨_, SqT.of (s13 _ _ hb)⟩, fun D hD => ?_⟩
    refine lc_tup (K := K) (a := b) (xs := r.2.map V.int) (fun i H' => (∀ c o, c ≠ D → H3 c = some o → H' c = some o) ∧ H' D = some (.lst ((List.replicate i true).map V.bl))) ⟨fun c o n e => by rw [upd_ne n]; exact e, upd_same⟩
      (fun i H' _ h => SqT.of (h.1 _ _ (ne_of_none (s13 _ _ hb) hD) (s13 _ _ hb))) (fun i x H' hx h => ?_) fun H' h => ?_
    · rw [List.getElem?_map] at hx
      obtain ⟨n, hn, rfl⟩ := Option.map_eq_some_iff.mp hx
      obtain ⟨n0, n1⟩ := hin n (List.mem_of_getElem? hn)
      have hp4 := h.1 _ _ (ne_of_none hp3 hD) hp3
      have hl4 := h.1 _ _ (ne_of_none B3.lst hD) B3.lst
      refine ⟨rfl, ?_⟩
      refine ⟨_, rfl, _, _, _, rfl, hp4, rfl, _, rfl, p, l, d, _, n, rfl, ⟨dx, hp4⟩, hl4, ?_⟩
      refine ⟨_, h.2, ?_, fun c o nc e => by rw [upd_ne nc]; exact h.1 _ _ nc e, ?_⟩
      · rw [List.length_map, List.length_replicate]
        have : i < r.2.length := (List.getElem?_eq_some_iff.mp hn).1
        exact small1000 (by omega)
      · rw [upd_same, decide_eq_true (show (0 : Int) ≤ n ∧ n ≤ (((xs.map fun x => V.ref x.1).length : Nat) : Int) - 1 by rw [List.length_map]; exact ⟨n0, n1⟩), List.replicate_succ', List.map_append]
        rfl
    · have s4 : Same H3 H' := fun c o e => h.1 c o (ne_of_none e hD) e
      have sA := s13.trans s4
      refine ⟨D, _, rfl, SqL.of h.2, true, ?_, iteF ?_⟩
      · have : ∀ n, (List.replicate n true).all id = true := fun n => by
          induction n with
          | zero => rfl
          | succ n ih => rw [List.replicate_succ, List.all_cons, ih]; rfl
        rw [this]
      refine ⟨_, rfl, b, _, rfl, .inr ⟨SqT.of (sA _ _ hb), ?_⟩⟩
      refine ⟨_, rfl, _, rfl, by show 2 ≤ sizeLine; decide, fun t ht => ?_⟩
      have B4 := B.same sA
      have sT := upd_same_new (o := .tup [.str r.1, .ref b]) ht
      have B5 := B4.same sT
      obtain ⟨dx5, hp5⟩ := B5.ins
      have R5 : RowAt (upd H' t (.tup [.str r.1, .ref b])) t r := ⟨b, upd_same, sT _ _ (sA _ _ hb)⟩
      have e5 : valN (nums 0 xs) (rowKey r) = none := by rw [valN_nums, if_neg hno]
      refine ⟨_, rfl, _, _, _, _, _, rfl, hp5, T.c_Book, T.a_Book_numbers, rfl, _, _, _, _, rfl, rfl, B5.dct, nums_keys 0 _ B5.row, R5.nk, rowKey_depth _, _, rfl, ?_⟩
      rw [e5]
      refine iteF ?_
      refine ⟨_, rfl, _, _, _, rfl, hp5, rfl, _, rfl, _, rfl, by show 2 ≤ sizeLine; decide, fun t2 ht2 => ?_⟩
      have sT2 := upd_same_new (o := .tup [.str r.1, .ref b]) ht2
      refine ⟨p, l, d, t2, xs, r, rfl, B5.same sT2, ⟨b, upd_same, sT2 _ _ (sT _ _ (sA _ _ hb))⟩, hnm, hl, fun H6 sv B6 => ?_⟩
      refine q H6 t2 (Sv.trans (Sv.of_same ((sA.trans sT).trans sT2)) sv) ?_
      unfold addRow at B6
      rw [if_neg hno] at B6
      exact B6
/-! Book(rows), Book() -/
theorem sc_Book_init : FnScope ["self", "rows", "item"] ["self", "rows"] (defScope s_Book_init) := ⟨rfl, rfl, rfl, by decide +kernel, rfl, by decide +kernel, by decide +kernel⟩
def GoodRows (rs : List Rw) : Prop := rs.Nodup ∧ rs.length ≤ 10000 ∧ ∀ (i : Nat) (r : Rw), rs[i]? = some r → NameOk r.1 ∧ r.2.length ≤ 3 ∧ ∀ n ∈ r.2, 0 ≤ n ∧ n ≤ (i : Int) - 1
def Made (P : Program) (w : World) (K : PySem.W.Frag) (H : Hp) (p : Addr) (rs : List Rw) (Q : VK) : Prop := ∀ H' l d xs, xs.map (·.2) = rs → H l = none → H d = none → (∀ b o, b ≠ p → H b = some o → H' b = some o) → BookAt P w (He.ga K "Book") H' p l d xs → Q .non H'
def spInit (P : Program) (w : World) (K : PySem.W.Frag) : Sp := fun vs H Q _ => ∃ (p a dx : Addr) (ys : List (Addr × Rw)), vs = [.ref p, .ref a] ∧ H p = some (.ins (He.ga K "Book") dx []) ∧
  (H a = some (.lst (ys.map fun x => V.ref x.1)) ∨ (ys = [] ∧ SqT K H a [] ∧ TyX K H (.ref a) (.type "tuple"))) ∧ (∀ x ∈ ys, RowAt H x.1 x.2) ∧ GoodRows (ys.map (·.2)) ∧ Made P w K H p (ys.map (·.2)) Q
theorem init_heap {C p dx l d : Addr} {H H1 : Hp} (s1 : Same H H1) (hp : H p = some (.ins C dx [])) (hl : H1 l = none) (hd : upd (upd H1 l (.lst [])) p (.ins C dx (putF "held" (.ref l) [])) d = none) :
    (∀ b o, b ≠ p → H b = some o → upd (upd (upd (upd H1 l (.lst [])) p (.ins C dx (putF "held" (.ref l) []))) d (dN P w d [])) p (.ins C dx (putF "numbers" (.ref d) (putF "held" (.ref l) []))) b = some o) ∧ H l = none ∧ H d = none ∧
      BookAt P w C (upd (upd (upd (upd H1 l (.lst [])) p (.ins C dx (putF "held" (.ref l) []))) d (dN P w d [])) p (.ins C dx (putF "numbers" (.ref d) (putF "held" (.ref l) [])))) p l d [] := by
  have dp : d ≠ p := fun z => by rw [z, upd_same] at hd; cases hd
  have dl : d ≠ l := fun z => by
    rw [z] at hd
    by_cases e : l = p
    · rw [e, upd_same] at hd; cases hd
    · rw [upd_ne e, upd_same] at hd; cases hd
  have hd1 : H1 d = none := by rw [upd_ne dp, upd_ne dl] at hd; exact hd
  have lp : l ≠ p := fun z => by rw [z, s1 _ _ hp] at hl; cases hl
  refine ⟨fun b o n e => ?_, s1.free hl, s1.free hd1, ⟨dx, upd_same⟩, ?_, ?_, fun x hx => (nomatch hx), fun x hx => (nomatch hx), List.nodup_nil, Nat.zero_le _⟩
  · have e1 := s1 _ _ e
    rw [upd_ne n, upd_ne (ne_of_none e1 hd1), upd_ne n, upd_ne (ne_of_none e1 hl)]
    exact e1
  · rw [upd_ne lp, upd_ne dl.symm, upd_ne lp, upd_same]; rfl
  · rw [upd_ne dp, upd_same]; rfl
theorem nodup_take {α : Type} [DecidableEq α] {l : List α} (h : l.Nodup) {i : Nat} {x : α} (e : l[i]? = some x) : x ∉ l.take i := fun m => by
  obtain ⟨j, hj⟩ := List.getElem?_of_mem m
  rw [List.getElem?_take] at hj
  split at hj
  · rename_i lt
    exact absurd (nd_ix h hj e) (Nat.ne_of_lt lt)
  · cases hj
theorem ok_Book_init (T : Tx K mg) : FnOk P w K mg base CX0 4 (He.ma K (He.ga K "Book") "__init__") (NX.fdOf K ("Book", some "__init__")) ["self", "rows"] (spInit P w K) := by
  refine T.f_Book_init.ok sc_Book_init (fun vs H Q E h => ?_) fun cdv A outer s H vs Q E hr h => ?_
  · obtain ⟨p, a, dx, ys, rfl, _⟩ := h; rfl
  · obtain ⟨p, a, dx, ys, rfl, hp, hA, hrow, ⟨gn, gl, gr⟩, q⟩ := h
    rcases hA with ha | ⟨rfl, hT, ty⟩
    · refine ⟨_, PSs.nox (pss_cons (ps_if (pt_not (pt_val (pe_call (ok_is_list T) (hr.mono (by decide)) rfl T.g_is_list T.f_is_list.kp (b_is_list T) .nil pass0 (pa_cons (pv 1) pa_nil))))
    (pss_one ps_never)
    pss_nil)
  (pss_cons (ps_fld (pv 0) (pe_lst pa_nil) rfl)
  (pss_cons (ps_fld (pv 0) pe_nnew rfl)
  (pss_one (ps_for PassesOwn.never rfl (pi_list (pv 1)) (pg_name (i := 2) sc_Book_init.nd rfl (by first | exact Or.inl rfl | exact Or.inr rfl))
    (pss_one (ps_expr (pe_meth (pv 0) T.c_Book T.m_Book_add_item (ok_Book_add_item T) (hr.mono (by decide)) (b_Book_add_item T) .nil pass0 (pa_cons (pv 2) pa_nil))))))))), ?_⟩
      refine ⟨_, rfl, a, rfl, .inl (.base (.lst ha)), fun H1 s1 => ⟨true, rfl, iteF ?_⟩⟩
      refine ⟨by show 0 ≤ sizeLine; decide, fun l hl => ?_⟩
      have sl := upd_same_new (o := .lst []) hl
      refine ⟨_, rfl, _, _, _, _, rfl, sl _ _ (s1 _ _ hp), T.c_Book, T.a_Book_held, by show 0 < 1000; decide, fun d hd => ?_⟩
      refine ⟨_, rfl, _, _, _, _, rfl, (upd_same_new hd) _ _ upd_same, T.c_Book, T.a_Book_numbers, by show 1 < 1000; decide, ?_⟩
      obtain ⟨keep, hl0, hd0, B0⟩ := init_heap (P := P) (w := w) (C := He.ga K "Book") s1 hp hl hd
      have apos : a ≠ p := fun z => by
        rw [z, hp] at ha
        cases Option.some.inj ha
      refine ⟨_, rfl, a, rfl, ⟨_, SqL.of (keep _ _ apos ha)⟩, ?_⟩
      refine for_list (xs := ys.map fun x => V.ref x.1) (fun i σ' H' => (∃ o, σ' = [some (.ref p), some (.ref a), o]) ∧ (∀ b o, b ≠ p → H b = some o → H' b = some o) ∧ ∃ xs, xs.map (·.2) = (ys.map (·.2)).take i ∧ BookAt P w (He.ga K "Book") H' p l d xs)
        ⟨⟨_, rfl⟩, keep, [], by simp, B0⟩ (fun i σ' H' _ h => SqL.of (h.2.1 _ _ apos ha)) (fun i x σ' H' hx h => ?_) fun σ' H' h => ?_
      · obtain ⟨⟨o, rfl⟩, kp, xs, ex, B⟩ := h
        rw [List.getElem?_map] at hx
        obtain ⟨y, hy, rfl⟩ := Option.map_eq_some_iff.mp hx
        have hil : i < ys.length := (List.getElem?_eq_some_iff.mp hy).1
        have lx : xs.length = i := by
          have := congrArg List.length ex
          rw [List.length_map, List.length_take, List.length_map] at this
          omega
        have hr2 : (ys.map (·.2))[i]? = some y.2 := by rw [List.getElem?_map, hy]; rfl
        obtain ⟨g1, g2, g3⟩ := gr i y.2 hr2
        obtain ⟨dx', hp'⟩ := B.ins
        refine ⟨_, rfl, _, _, _, rfl, hp', rfl, _, rfl, p, l, d, y.1, xs, y.2, rfl, B, ?_, g1, g2, ?_, ?_, ?_, fun H6 c sv B6 => ?_⟩
        · obtain ⟨b, t1, t2⟩ := hrow y (List.mem_of_getElem? hy)
          exact ⟨b, kp _ _ (at_ne hp t1 (by intro z; cases z)) t1, kp _ _ (at_ne hp t2 (by intro z; cases z)) t2⟩
        · rw [lx]; exact g3
        · rw [ex]; exact nodup_take gn hr2
        · rw [lx]; rw [List.length_map] at gl; omega
        · refine ⟨⟨_, rfl⟩, fun b o n e => ?_, xs ++ [(c, y.2)], ?_, B6⟩
          · exact sv _ _ (fun z => by rw [z, hl0] at e; cases e) (fun z => by rw [z, hd0] at e; cases e) (kp b o n e)
          · rw [List.map_append, ex, List.take_add_one, hr2]; rfl
      · obtain ⟨⟨o, rfl⟩, kp, xs, ex, B⟩ := h
        refine q H' l d xs ?_ hl0 hd0 kp B
        rw [ex, List.length_map, ← List.length_map (as := ys) (·.2), List.take_length]
    · refine ⟨_, PSs.nox (pss_cons (ps_if (pt_not (pt_val (pe_call (ok_is_list T) (hr.mono (by decide)) rfl T.g_is_list T.f_is_list.kp (b_is_list T) .nil pass0 (pa_cons (pv 1) pa_nil))))
    (pss_one ps_never)
    pss_nil)
  (pss_cons (ps_fld (pv 0) (pe_lst pa_nil) rfl)
  (pss_cons (ps_fld (pv 0) pe_nnew rfl)
  (pss_one (ps_for PassesOwn.never rfl (pi_tup (pv 1)) (pg_name (i := 2) sc_Book_init.nd rfl (by first | exact Or.inl rfl | exact Or.inr rfl))
    (pss_one (ps_expr (pe_meth (pv 0) T.c_Book T.m_Book_add_item (ok_Book_add_item T) (hr.mono (by decide)) (b_Book_add_item T) .nil pass0 (pa_cons (pv 2) pa_nil))))))))), ?_⟩
      refine ⟨_, rfl, a, rfl, .inr ty, fun H1 s1 => ⟨true, rfl, iteF ?_⟩⟩
      refine ⟨by show 0 ≤ sizeLine; decide, fun l hl => ?_⟩
      have sl := upd_same_new (o := .lst []) hl
      refine ⟨_, rfl, _, _, _, _, rfl, sl _ _ (s1 _ _ hp), T.c_Book, T.a_Book_held, by show 0 < 1000; decide, fun d hd => ?_⟩
      refine ⟨_, rfl, _, _, _, _, rfl, (upd_same_new hd) _ _ upd_same, T.c_Book, T.a_Book_numbers, by show 1 < 1000; decide, ?_⟩
      obtain ⟨keep, hl0, hd0, B0⟩ := init_heap (P := P) (w := w) (C := He.ga K "Book") s1 hp hl hd
      have hT' : ∀ H', (∀ b o, b ≠ p → H b = some o → H' b = some o) → SqT K H' a [] := fun H' k => by
        rcases hT with (h | ⟨o, h⟩) | h
        · exact .inl (.inl (k _ _ (at_ne hp h (by intro z; cases z)) h))
        · exact .inl (.inr ⟨o, k _ _ (at_ne hp h (by intro z; cases z)) h⟩)
        · exact .inr h
      refine ⟨_, rfl, a, rfl, ⟨_, hT' _ keep⟩, ?_⟩
      refine for_tup (xs := []) (fun i σ' H' => (∀ b o, b ≠ p → H b = some o → H' b = some o) ∧ BookAt P w (He.ga K "Book") H' p l d []) ⟨keep, B0⟩ (fun i σ' H' _ h => hT' _ h.1) (fun i x σ' H' hx h => by cases hx) fun σ' H' h => ?_
      exact q H' l d [] rfl hl0 hd0 h.1 h.2
end
end T59
namespace T59
open PySem PySem.Spec PyProof.Rows L2 NX
/-! k59: chains; parts, size, depth. -/
section
variable {P : Program} {w : World} {K : PySem.W.Frag} {mg : Str → Option Value} {base : Heap}
theorem b_Book_init2 (T : Tx K mg) : Binds K (NX.fdOf K ("Book", some "__init__")) ["self", "rows"] [] := by
  obtain ⟨ds, r, b⟩ := T.f_Book_init.binds1 (ps := ["self", "rows"]) 2 1 (by intro z; cases z) rfl (fun T kV doc pm an cdv ct us its h1 h2 => match us, its, h1, h2 with | [_, _], [_], _, _ => ⟨_, rfl, rfl⟩)
  cases r
  exact b
theorem b_Book_init1 (T : Tx K mg) : ∃ u, RelV (.ref (He.dflAt ("Book", some "__init__") 0 K)) u ∧ Binds K (NX.fdOf K ("Book", some "__init__")) ["self", "rows"] [u] := by
  obtain ⟨ds, r, b⟩ := T.f_Book_init.binds1 (ps := ["self", "rows"]) 1 0 (by intro z; cases z) rfl (fun T kV doc pm an cdv ct us its h1 h2 => match us, its, h1, h2 with | [_], [_], _, _ => ⟨_, rfl, rfl⟩)
  obtain ⟨u, rfl, rx⟩ := vals1 r
  exact ⟨u, rx, b⟩
/-! copied -/
theorem sc_Book_copied : FnScope ["self"] ["self"] (defScope s_Book_copied) := ⟨rfl, rfl, rfl, by decide +kernel, rfl, by decide +kernel, by decide +kernel⟩
theorem b_Book_copied (T : Tx K mg) : Binds K (NX.fdOf K ("Book", some "copied")) ["self"] [] := T.f_Book_copied.bindsN fun _ _ _ _ _ _ us hl => match us, hl with | [_], _ => rfl
def spCopied (P : Program) (w : World) (K : PySem.W.Frag) : Sp := fun vs H Q _ => ∃ (p l d : Addr) (xs : List (Addr × Rw)), vs = [.ref p] ∧ BookAt P w (He.ga K "Book") H p l d xs ∧ GoodRows (xs.map (·.2)) ∧
  ∀ H' p' l' d' xs', Same H H' → xs'.map (·.2) = xs.map (·.2) → H l' = none → H d' = none → BookAt P w (He.ga K "Book") H' p' l' d' xs' → Q (.ref p') H'
theorem ok_Book_copied (T : Tx K mg) : FnOk P w K mg base CX0 6 (He.ma K (He.ga K "Book") "copied") (NX.fdOf K ("Book", some "copied")) ["self"] (spCopied P w K) := by
  refine T.f_Book_copied.ok sc_Book_copied (fun vs H Q E h => ?_) fun cdv A outer s H vs Q E hr h => ⟨_, PSs.nox (pss_one (ps_ret (pe_make T.k_Book (ok_Book_init T) (hr.mono (by decide)) rfl T.g_Book (b_Book_init2 T) .nil pass0 (pa_cons (pe_fld (pv 0) rfl) pa_nil)))), ?_⟩
  · obtain ⟨p, l, d, xs, rfl, _⟩ := h; rfl
  · obtain ⟨p, l, d, xs, rfl, B, g, q⟩ := h
    obtain ⟨dx, hp⟩ := B.ins
    refine ⟨_, rfl, _, _, _, _, _, rfl, hp, T.c_Book, T.a_Book_held, rfl, fun x e nx ne dne => ?_⟩
    have sm : Same H (upd (upd H e (.own x)) x (.ins (He.ga K "Book") e [])) := fun b o h => by rw [upd_ne (ne_of_none h nx), upd_ne (ne_of_none h ne)]; exact h
    refine ⟨x, l, e, xs, rfl, upd_same, .inl (sm _ _ B.lst), fun y hy => (B.row y hy).same sm, g, fun H' l' d' xs' ex hl hd kp B' => ⟨rfl, ?_⟩⟩
    refine q H' x l' d' xs' (Same.made nx ne fun b o h n => kp b o n h) ex (sm.free hl) (sm.free hd) B'
/-! chains -/
def Ch (s : Nat) (rs : List Rw) : Prop := ∀ (i : Nat) (r : Rw), rs[i]? = some r → (i < s → r.2 = []) ∧ (s ≤ i → ∃ w : Nat, 1 ≤ w ∧ w ≤ 3 ∧ r.2 = List.replicate w ((i - s : Nat) : Int))
def kvP (s n c : Nat) : List (L2.Key × V) := (List.range (c + 1)).map fun j => (Sum.inl ((n - j * s : Nat) : Int), V.bl true)
def ap (s n : Nat) : List Int := (List.range (n / s + 1)).map fun j => ((n % s + j * s : Nat) : Int)
theorem kvP_succ (s n c : Nat) : kvP s n (c + 1) = kvP s n c ++ [(Sum.inl ((n - (c + 1) * s : Nat) : Int), V.bl true)] := by
  unfold kvP
  rw [List.range_succ, List.map_append]
  rfl
theorem kvP_mem {s n c : Nat} {k : L2.Key} : ((kvP s n c).any fun kv => decide (kv.1 = k)) = true ↔ ∃ j, j ≤ c ∧ k = Sum.inl ((n - j * s : Nat) : Int) := by
  unfold kvP
  rw [List.any_eq_true]
  constructor
  · rintro ⟨x, hx, e⟩
    obtain ⟨j, hj, rfl⟩ := List.mem_map.mp hx
    exact ⟨j, Nat.lt_succ_iff.mp (List.mem_range.mp hj), (of_decide_eq_true e).symm⟩
  · rintro ⟨j, hj, rfl⟩
    exact ⟨_, List.mem_map.mpr ⟨j, List.mem_range.mpr (Nat.lt_succ_of_le hj), rfl⟩, decide_eq_true rfl⟩
theorem putK_new {kvs : List (L2.Key × V)} {k : L2.Key} {v : V} (h : ¬ (kvs.any fun kv => decide (kv.1 = k)) = true) : putK kvs k v = kvs ++ [(k, v)] := by
  unfold putK
  rw [if_neg h]
theorem putK_same {kvs : List (L2.Key × V)} {k : L2.Key} {v : V} (h : (kvs.any fun kv => decide (kv.1 = k)) = true) (ha : ∀ kv ∈ kvs, kv.1 = k → kv.2 = v) : putK kvs k v = kvs := by
  unfold putK
  rw [if_pos h]
  have : (kvs.map fun kv => if kv.1 = k then (kv.1, v) else kv) = kvs.map id := List.map_congr_left fun kv hk => by
    by_cases e : kv.1 = k
    · rw [if_pos e, ← ha kv hk e]; rfl
    · rw [if_neg e]; rfl
  rw [this, List.map_id]
theorem kvP_len (s n c : Nat) : (kvP s n c).length = c + 1 := by unfold kvP; rw [List.length_map, List.length_range]
theorem kvP_put1 {s n c : Nat} (hs : s = 1 ∨ s = 2) (h : (c + 1) * s ≤ n) : putK (kvP s n c) (Sum.inl ((n - (c + 1) * s : Nat) : Int)) (.bl true) = kvP s n (c + 1) := by
  rw [kvP_succ]
  refine putK_new fun m => ?_
  obtain ⟨j, hj, e⟩ := kvP_mem.mp m
  have e2 := Int.ofNat.inj (Sum.inl.inj e)
  rcases hs with rfl | rfl <;> omega
theorem kvP_put2 {s n c : Nat} : putK (kvP s n (c + 1)) (Sum.inl ((n - (c + 1) * s : Nat) : Int)) (.bl true) = kvP s n (c + 1) := by
  refine putK_same (kvP_mem.mpr ⟨c + 1, Nat.le_refl _, rfl⟩) fun kv hk _ => ?_
  unfold kvP at hk
  obtain ⟨j, _, rfl⟩ := List.mem_map.mp hk
  rfl
theorem kvP_keys {s n c : Nat} : (kvP s n c).map (·.1) = ((List.range (c + 1)).map fun j => ((n - j * s : Nat) : Int)).map Sum.inl := by
  unfold kvP
  rw [List.map_map, List.map_map]
  rfl
theorem ap_rev {s n : Nat} (hs : s = 1 ∨ s = 2) : ((List.range (n / s + 1)).map fun j => ((n - j * s : Nat) : Int)) = (ap s n).reverse := by
  unfold ap
  refine List.ext_getElem (by simp) fun i h1 h2 => ?_
  simp only [List.length_map, List.length_range] at h1
  simp only [List.getElem_map, List.getElem_range, List.getElem_reverse, List.length_map, List.length_range]
  congr 1
  rcases hs with rfl | rfl <;> omega
theorem ap_le {s n : Nat} (hs : s = 1 ∨ s = 2) : (ap s n).Pairwise (· ≤ ·) := by
  unfold ap
  rw [List.pairwise_map]
  refine List.Pairwise.imp (fun {a b} h => ?_) List.pairwise_lt_range
  rcases hs with rfl | rfl <;> omega
theorem ap_sorted {s n : Nat} (hs : s = 1 ∨ s = 2) {ys : List Int} (p : ys.Perm ((List.range (n / s + 1)).map fun j => ((n - j * s : Nat) : Int))) (h : ys.Pairwise (· ≤ ·)) : ys = ap s n := by
  rw [ap_rev hs] at p
  exact (p.trans (List.reverse_perm _)).eq_of_pairwise (fun a b _ _ h1 h2 => Int.le_antisymm h1 h2) h (ap_le hs)
/-! parts -/
theorem sc_Book_parts : FnScope ["self", "number", "needed", "one", "argument"] ["self", "number"] (defScope s_Book_parts) := ⟨rfl, rfl, rfl, by decide +kernel, rfl, by decide +kernel, by decide +kernel⟩
theorem b_Book_parts (T : Tx K mg) : Binds K (NX.fdOf K ("Book", some "parts")) ["self", "number"] [] := T.f_Book_parts.bindsN fun _ _ _ _ _ _ us hl => match us, hl with | [_, _], _ => rfl
def spParts (P : Program) (w : World) (K : PySem.W.Frag) : Sp := fun vs H Q _ => ∃ (p l d : Addr) (xs : List (Addr × Rw)) (s n : Nat), vs = [.ref p, .int n] ∧ BookAt P w (He.ga K "Book") H p l d xs ∧ (s = 1 ∨ s = 2) ∧ Ch s (xs.map (·.2)) ∧ n < xs.length ∧
  ∀ H' q, Same H H' → H q = none → H' q = some (.lst ((ap s n).map V.int)) → Q (.ref q) H'
theorem ok_Book_parts (T : Tx K mg) : FnOk P w K mg base CX0 4 (He.ma K (He.ga K "Book") "parts") (NX.fdOf K ("Book", some "parts")) ["self", "number"] (spParts P w K) := by
  refine T.f_Book_parts.ok sc_Book_parts (fun vs H Q E h => ?_) fun cdv A outer s H vs Q E hr h => ⟨_, PSs.nox (pss_cons (ps_expr (pe_meth (pv 0) T.c_Book T.m_Book_need_number (ok_Book_need_number T) (hr.mono (by decide)) (b_Book_need_number T) .nil pass0 (pa_cons (pv 1) pa_nil)))
  (pss_cons (ps_set (i := 2) sc_Book_parts.nd rfl (by first | exact Or.inl rfl | exact Or.inr rfl) (pe_disp (pps_cons (pv 1) pe_bl pps_nil) (by rfl) (by rfl) (fun z => by cases z) (by decide)))
  (pss_cons (ps_for PassesOwn.never rfl (pi_range3 rfl T.n_range (pa_cons (pv 1) (pa_cons (pe_un un_neg pe_int) (pa_cons (pe_un un_neg pe_int) pa_nil)))) (pg_name (i := 3) sc_Book_parts.nd rfl (by first | exact Or.inl rfl | exact Or.inr rfl))
    (pss_one (ps_if (pt_cmp (pc_din (hu_of hr) (pv 3) (pv 2)))
      (pss_one (ps_for PassesOwn.never rfl (pi_tup (pe_call (ok_arguments_of T) (hr.mono (by decide)) rfl T.g_arguments_of T.f_arguments_of.kp (b_arguments_of T) .nil pass0 (pa_cons (pe_ix ix_list (pe_fld (pv 0) rfl) (pv 3) (fun _ _ => rfl)) pa_nil))) (pg_name (i := 4) sc_Book_parts.nd rfl (by first | exact Or.inl rfl | exact Or.inr rfl))
        (pss_one (ps_dput (hu_of hr) (pv 2) (pv 4) pe_bl rfl))))
      pss_nil)))
  (pss_one (ps_ret (pe_callB (cr_sortedKeys rfl) rfl T.n_sorted (by decide +kernel) (pa_cons (pe_bm0 PySem.F.plainAttrs_dict PySem.F.slot_dict_keys PySem.F.type_dict_keys NX.mt_keysK (pv 2)) pa_nil))))))), ?_⟩
  · obtain ⟨p, l, d, xs, s, n, rfl, _⟩ := h; rfl
  · obtain ⟨p, l, d, xs, t, n, rfl, B, ht, hc, hn, q⟩ := h
    obtain ⟨dx, hp⟩ := B.ins
    refine ⟨_, rfl, _, _, _, rfl, hp, rfl, _, rfl, p, l, d, _, n, rfl, ⟨dx, hp⟩, B.lst, by rw [List.length_map]; exact hn, ?_⟩
    refine fun e he => ⟨_, rfl, upd_same, [(Sum.inl (n : Int), .bl true)], rfl, by show 1 ≤ 15; decide, ?_⟩
    have eH : upd (upd H e (.dK [])) e (.dK (mergeK [] [(Sum.inl (n : Int), .bl true)])) = upd H e (.dK (kvP t n 0)) := by
      funext b
      by_cases z : b = e
      · rw [z, upd_same, upd_same]
        show some (HO.dK [(Sum.inl (n : Int), V.bl true)]) = some (HO.dK [(Sum.inl ((n - 0 * t : Nat) : Int), V.bl true)])
        rw [Nat.zero_mul, Nat.sub_zero]
      · rw [upd_ne z, upd_ne z, upd_ne z]
    rw [eH]
    have big := B.big
    refine ⟨_, rfl, _, rfl, _, rfl, _, _, _, _, rfl, RgC.neg (by omega) (by omega) (by decide) (by decide), ?_⟩
    refine for_rangeC (fun i σ' H' => (∃ o1 o2, σ' = [some (.ref p), some (.int n), some (.ref e), o1, o2]) ∧ ∃ c, H' = upd H e (.dK (kvP t n c)) ∧ c * t ≤ n ∧ (c * t + t ≤ n → i ≤ c * t) ∧ (1 ≤ c → (c - 1) * t < i))
      ⟨⟨_, _, rfl⟩, 0, rfl, by omega, fun _ => Nat.zero_le _, fun z => absurd z (by decide)⟩ (fun i σ' H' hi h => ?_) fun σ' H' h => ?_
    · obtain ⟨⟨o1, o2, rfl⟩, c, rfl, c1, c2, c3⟩ := h
      have hi2 : i ≤ n := by omega
      have ei : (n : Int) + (i : Nat) * (-1) = ((n - i : Nat) : Int) := by omega
      rw [ei]
      have he1 : upd H e (.dK (kvP t n c)) e = some (.dK (kvP t n c)) := upd_same
      refine ⟨_, rfl, _, rfl, _, _, rfl, DGet.k (k := Sum.inl ((n - i : Nat) : Int)) he1, _, rfl, ?_⟩
      rw [← valV_any]
      by_cases hk : i = c * t
      · have ht1 : ((kvP t n c).any fun kv => decide (kv.1 = Sum.inl ((n - i : Nat) : Int))) = true := kvP_mem.mpr ⟨c, Nat.le_refl _, by rw [hk]⟩
        rw [ht1]
        refine iteT ?_
        have smE : ∀ x, Same H (upd H e x) := fun x => upd_same_new he
        have hlt : n - i < xs.length := by omega
        have hx : xs[n - i]? = some xs[n - i] := List.getElem?_eq_getElem hlt
        have hxl : (xs.map fun x => V.ref x.1)[n - i]? = some (V.ref xs[n - i].1) := by rw [List.getElem?_map, hx]; rfl
        have hxr : (xs.map (·.2))[n - i]? = some xs[n - i].2 := by rw [List.getElem?_map, hx]; rfl
        obtain ⟨b, ha, hb⟩ := B.row _ (List.getElem_mem hlt)
        obtain ⟨g1, g2⟩ := hc _ _ hxr
        refine ⟨_, rfl, _, _, _, _, _, rfl, smE _ _ _ hp, T.c_Book, T.a_Book_held, rfl, _, rfl, _, _, _, _, rfl, rfl, SqL.of (smE _ _ _ B.lst), atI_nat hxl, ?_⟩
        refine ⟨_, b, _, _, rfl, smE _ _ _ ha, smE _ _ _ hb, b, rfl, ⟨_, SqT.of (smE _ _ _ hb)⟩, ?_⟩
        by_cases hs : n - i < t
        · refine for_tup (xs := xs[n - i].2.2.map V.int) (fun j σ' H' => (∃ o1 o2, σ' = [some (.ref p), some (.int n), some (.ref e), o1, o2]) ∧ H' = upd H e (.dK (kvP t n c)))
            ⟨⟨_, _, rfl⟩, rfl⟩ (fun j σ' H' _ h => by rw [h.2]; exact SqT.of (smE _ _ _ hb)) (fun j x σ' H' hx h => ?_) fun σ' H' h => ?_
          · rw [g1 hs] at hx
            cases hx
          · obtain ⟨h1, rfl⟩ := h
            refine ⟨h1, c, rfl, c1, fun z => ?_, fun z => ?_⟩
            · rcases ht with rfl | rfl <;> omega
            · have := c3 z; omega
        · obtain ⟨m, m1, m3, em⟩ := g2 (by omega)
          have ek : ((n - i - t : Nat) : Int) = ((n - (c + 1) * t : Nat) : Int) := by rcases ht with rfl | rfl <;> omega
          have hc1 : (c + 1) * t ≤ n := by rcases ht with rfl | rfl <;> omega
          refine for_tup (xs := xs[n - i].2.2.map V.int) (fun j σ' H' => (∃ o1 o2, σ' = [some (.ref p), some (.int n), some (.ref e), o1, o2]) ∧ H' = upd H e (.dK (kvP t n (if j = 0 then c else c + 1))))
            ⟨⟨_, _, rfl⟩, rfl⟩ (fun j σ' H' _ h => by rw [h.2]; exact SqT.of (smE _ _ _ hb)) (fun j x σ' H' hx h => ?_) fun σ' H' h => ?_
          · obtain ⟨⟨p1, p2, rfl⟩, rfl⟩ := h
            rw [em, List.map_replicate, List.getElem?_replicate] at hx
            split at hx
            · obtain rfl := Option.some.inj hx
              rw [ek]
              refine ⟨_, rfl, _, rfl, _, _, rfl, DPut.k (k := Sum.inl ((n - (c + 1) * t : Nat) : Int)) upd_same ?_, ?_⟩
              · rw [kvP_len]
                refine small1000' ?_
                split <;> (rcases ht with rfl | rfl <;> omega)
              · refine ⟨⟨_, _, rfl⟩, ?_⟩
                funext b2
                by_cases z : b2 = e
                · rw [z, upd_same, upd_same, if_neg (Nat.succ_ne_zero j)]
                  by_cases j0 : j = 0
                  · rw [if_pos j0, kvP_put1 ht hc1]
                  · rw [if_neg j0, kvP_put2]
                · rw [upd_ne z, upd_ne z, upd_ne z]
            · cases hx
          · obtain ⟨h1, rfl⟩ := h
            have hl0 : ¬ (xs[n - i].2.2.map V.int).length = 0 := by rw [em, List.length_map, List.length_replicate]; omega
            refine ⟨h1, c + 1, ?_, hc1, fun z => ?_, fun z => ?_⟩
            · rw [if_neg hl0]
            · rcases ht with rfl | rfl <;> omega
            · rcases ht with rfl | rfl <;> omega
      · have ht0 : ((kvP t n c).any fun kv => decide (kv.1 = Sum.inl ((n - i : Nat) : Int))) = false := by
          rw [Bool.eq_false_iff]
          intro z
          obtain ⟨j, hj, ez⟩ := kvP_mem.mp z
          have e2 := Int.ofNat.inj (Sum.inl.inj ez)
          rcases ht with rfl | rfl <;> omega
        rw [ht0]
        refine iteF ⟨⟨_, _, rfl⟩, c, rfl, c1, fun z => ?_, fun z => ?_⟩
        · have := c2 z; omega
        · have := c3 z; omega
    · obtain ⟨⟨o1, o2, rfl⟩, c, rfl, c1, c2, c3⟩ := h
      have ec : c = n / t := by
        have e0 : ((n : Int) - -1).toNat = n + 1 := by omega
        rw [e0] at c2 c3
        rcases ht with rfl | rfl <;> omega
      have he1 : upd H e (.dK (kvP t n c)) e = some (.dK (kvP t n c)) := upd_same
      refine ⟨_, rfl, .inr (.inr (.inl ⟨rfl, .inl ⟨_, he1⟩⟩)), e, _, rfl, rfl, he1, fun v hv => ?_⟩
      have ve : v ≠ e := fun z => by rw [z, he1] at hv; cases hv
      have hv0 : H v = none := by rw [upd_ne ve] at hv; exact hv
      refine ⟨v, e, _, _, rfl, upd_same, by rw [upd_ne ve.symm]; exact he1, kvP_keys, fun ys r pm pw hr => ?_⟩
      rw [ec] at pm
      rw [ap_sorted ht pm pw]
      have rv : r ≠ v := fun z => by rw [z, upd_same] at hr; cases hr
      have re : r ≠ e := fun z => by rw [z, upd_ne ve.symm, he1] at hr; cases hr
      have r0 : H r = none := by rw [upd_ne rv, upd_ne re] at hr; exact hr
      refine q _ r (fun b o hb => ?_) r0 upd_same
      rw [upd_ne (ne_of_none hb r0), upd_ne (ne_of_none hb hv0), upd_ne (ne_of_none hb he)]
      exact hb
/-! a comprehension over the same argument, once, twice, thrice -/
theorem lc_rep {b D : Addr} {m i : Nat} {x v : V} {te : TE} {vs : List Nat} {σ : L2.St} {H1 : Hp} {Qd : Hp → Prop} (hm : m ≤ 3) (hT : H1 b = some (.tup (List.replicate m x))) (hD : H1 D = none) (hw : wipe ((wipe σ vs).set i (some x)) vs = wipe σ vs)
    (he : 1 ≤ m → ∀ H' (Q : VK), Same H1 H' → Q v H' → te ((wipe σ vs).set i (some x)) H' Q) (hd : ∀ H', Same H1 H' → H' D = some (.lst (List.replicate m v)) → Qd H') :
    ∃ W : Nat → Nat → Hp → Prop, (∃ m, W 0 m (upd H1 D (.lst []))) ∧ ∀ i' m' H, W i' m' H →
      ((Itt K b).stop i' H ∧ Qd H) ∨ ((Itt K b).go i' H ∧ ∃ Nx : Hp → Prop, (∀ H', Nx H' → ∃ m'', m'' < m' ∧ W (i' + 1) m'' H') ∧ ∀ x H', (Itt K b).yld i' H x H' → gName i x (wipe σ vs) H' fun σ2 H2 => wipe σ2 vs = wipe σ vs ∧ tYes σ2 H2 fun b H3 =>
        if b = true then te σ2 H3 fun y H4 => ∃ acc, H4 D = some (.lst acc) ∧ acc.length < sizeLine ∧ Nx (upd H4 D (.lst (acc ++ [y]))) else Nx H3) := by
  refine lc_tup (xs := List.replicate m x) (fun j H' => Same H1 H' ∧ H' D = some (.lst (List.replicate j v))) ⟨upd_same_new hD, upd_same⟩ (fun j H' _ h => SqT.of (h.1 _ _ hT)) (fun j y H' hy h => ?_) fun H' h => ?_
  · rw [List.getElem?_replicate] at hy
    split at hy
    · rename_i lt
      cases hy
      refine ⟨hw, iteT (B := Same H1 H' ∧ H' D = some (.lst (List.replicate (j + 1) v))) (he (by omega) _ _ h.1 ⟨_, h.2, ?_, fun c o e => ?_, ?_⟩)⟩
      · rw [List.length_replicate]; exact small1000 (by omega)
      · rw [upd_ne (ne_of_none e hD)]; exact h.1 _ _ e
      · rw [upd_same, List.replicate_succ']
    · cases hy
  · rw [List.length_replicate] at h
    exact hd H' h.1 h.2
theorem sum_rep (z : Int) : ∀ m : Nat, (List.replicate m z).sum = m * z
  | 0 => by simp
  | m + 1 => by
    rw [List.replicate_succ, List.sum_cons, sum_rep z m]
    have : ((m + 1 : Nat) : Int) = (m : Int) + 1 := by omega
    rw [this, Int.add_mul, Int.one_mul, Int.add_comm]
theorem maxI_rep (z : Int) : ∀ m : Nat, maxI z (List.replicate m z) = z
  | 0 => rfl
  | m + 1 => by
    have ih := maxI_rep z m
    unfold maxI at ih ⊢
    rw [List.replicate_succ, List.foldl_cons, if_neg (Int.lt_irrefl z)]
    exact ih
theorem maxDf_rep (z : Int) {m : Nat} (h : 1 ≤ m) : maxDf 0 (List.replicate m z) = z := by
  obtain ⟨k, rfl⟩ : ∃ k, m = k + 1 := ⟨m - 1, by omega⟩
  rw [List.replicate_succ]
  exact maxI_rep z k
/-! the parts, one by one -/
def nth (s n j : Nat) : Nat := n % s + j * s
theorem ap_get {s n j : Nat} {v : V} (h : ((ap s n).map V.int)[j]? = some v) : j ≤ n / s ∧ v = .int (nth s n j : Nat) := by
  unfold ap at h
  rw [List.getElem?_map, List.getElem?_map] at h
  by_cases hj : j < n / s + 1
  · rw [List.getElem?_range hj] at h
    exact ⟨Nat.lt_succ_iff.mp hj, (Option.some.inj h).symm⟩
  · rw [List.getElem?_eq_none (by rw [List.length_range]; omega)] at h
    cases h
theorem nth_last {s n : Nat} : nth s n (n / s) = n := by
  unfold nth
  rw [Nat.mul_comm, Nat.add_comm]
  exact Nat.div_add_mod n s
theorem nth_le {s n j : Nat} (hs : s = 1 ∨ s = 2) (h : j ≤ n / s) : nth s n j ≤ n := by
  unfold nth
  rcases hs with rfl | rfl <;> omega
/-- the arguments of the j-th part: none, or the part before -/
theorem ch_args {s n j : Nat} {rs : List Rw} {r : Rw} (hs : s = 1 ∨ s = 2) (hc : Ch s rs) (h : rs[nth s n j]? = some r) : (j = 0 ∧ r.2 = []) ∨ ∃ i w, j = i + 1 ∧ 1 ≤ w ∧ w ≤ 3 ∧ r.2 = List.replicate w ((nth s n i : Nat) : Int) := by
  obtain ⟨h1, h2⟩ := hc _ _ h
  unfold nth at h1 h2 ⊢
  cases j with
  | zero => exact .inl ⟨rfl, h1 (by rcases hs with rfl | rfl <;> omega)⟩
  | succ i =>
    obtain ⟨w, w1, w2, e⟩ := h2 (by rcases hs with rfl | rfl <;> omega)
    have : n % s + (i + 1) * s - s = n % s + i * s := by rcases hs with rfl | rfl <;> omega
    rw [this] at e
    exact .inr ⟨i, w, rfl, w1, w2, e⟩
/-- the dict that a loop over the parts has filled -/
def kvF (s n : Nat) (f : Nat → V) (m : Nat) : List (L2.Key × V) := (List.range m).map fun j => (Sum.inl ((nth s n j : Nat) : Int), f j)
theorem nth_inj {s n i j : Nat} (hs : s = 1 ∨ s = 2) (h : nth s n i = nth s n j) : i = j := by
  unfold nth at h
  rcases hs with rfl | rfl <;> omega
theorem kvF_put {s n m : Nat} {f : Nat → V} (hs : s = 1 ∨ s = 2) : putK (kvF s n f m) (Sum.inl ((nth s n m : Nat) : Int)) (f m) = kvF s n f (m + 1) := by
  unfold kvF
  rw [List.range_succ, List.map_append]
  refine putK_new fun z => ?_
  rw [List.any_eq_true] at z
  obtain ⟨x, hx, e⟩ := z
  obtain ⟨j, hj, rfl⟩ := List.mem_map.mp hx
  have e2 := nth_inj hs (Int.ofNat.inj (Sum.inl.inj (of_decide_eq_true e)))
  have := List.mem_range.mp hj
  omega
theorem kvF_len {s n m : Nat} {f : Nat → V} : (kvF s n f m).length = m := by unfold kvF; rw [List.length_map, List.length_range]
theorem kvF_get {s n : Nat} {f : Nat → V} (hs : s = 1 ∨ s = 2) {j : Nat} : ∀ {m : Nat}, j < m → valV (kvF s n f m) (Sum.inl ((nth s n j : Nat) : Int)) = some (f j)
  | m + 1, h => by
    unfold kvF
    rw [List.range_succ, List.map_append]
    by_cases e : j < m
    · have ih := kvF_get (s := s) (n := n) (f := f) hs e
      unfold kvF at ih
      unfold valV at ih ⊢
      rw [List.find?_append]
      cases q : ((List.range m).map fun j => ((Sum.inl ((nth s n j : Nat) : Int) : L2.Key), f j)).find? fun kv => decide (kv.1 = Sum.inl ((nth s n j : Nat) : Int)) with
      | none => rw [q] at ih; cases ih
      | some x => rw [q] at ih; exact ih
    · have ej : j = m := by omega
      subst ej
      unfold valV
      rw [List.find?_append]
      have : (((List.range j).map fun j => ((Sum.inl ((nth s n j : Nat) : Int) : L2.Key), f j)).find? fun kv => decide (kv.1 = Sum.inl ((nth s n j : Nat) : Int))) = none := by
        rw [List.find?_eq_none]
        intro x hx z
        obtain ⟨i, hi, rfl⟩ := List.mem_map.mp hx
        have e2 := nth_inj hs (Int.ofNat.inj (Sum.inl.inj (of_decide_eq_true z)))
        have := List.mem_range.mp hi
        omega
      rw [this]
      simp
/-- how often the j-th part names the part before -/
def wid (s n : Nat) (rs : List Rw) (j : Nat) : Nat := ((rs[nth s n j]?).elim 0 fun r => r.2.length)
theorem prev_args {s n j : Nat} {rs : List Rw} {r : Rw} (hs : s = 1 ∨ s = 2) (hc : Ch s rs) (h : rs[nth s n j]? = some r) : ∃ (m : Nat) (x : Int), m ≤ 3 ∧ m = wid s n rs j ∧ r.2 = List.replicate m x ∧ (j = 0 → m = 0) ∧ ∀ k, j = k + 1 → 1 ≤ m ∧ x = (nth s n k : Nat) := by
  have ew : wid s n rs j = r.2.length := by unfold wid; rw [h]; rfl
  rcases ch_args hs hc h with ⟨j0, e⟩ | ⟨i, w, j1, w1, w3, e⟩
  · refine ⟨0, 0, by decide, by rw [ew, e]; rfl, e, fun _ => rfl, fun k hk => by omega⟩
  · refine ⟨w, _, w3, by rw [ew, e, List.length_replicate], e, fun z => by omega, fun k hk => ⟨w1, ?_⟩⟩
    have : k = i := by omega
    rw [this]
/-! a loop over the parts: what is said of the book and of its j-th part -/
structure PartAt (P : Program) (w : World) (K : PySem.W.Frag) (H : Hp) (p l d : Addr) (xs : List (Addr × Rw)) (s n j : Nat) (y : Addr × Rw) (b : Addr) : Prop where
  lt : nth s n j < xs.length
  at_ : (xs.map fun x => V.ref x.1)[nth s n j]? = some (V.ref y.1)
  rw_ : (xs.map (·.2))[nth s n j]? = some y.2
  ha : H y.1 = some (.tup [.str y.2.1, .ref b])
  hb : H b = some (.tup (y.2.2.map V.int))
  il : j ≤ 10000
theorem part_at {H : Hp} {p l d C : Addr} {xs : List (Addr × Rw)} {s n j : Nat} (B : BookAt P w C H p l d xs) (hs : s = 1 ∨ s = 2) (hn : n < xs.length) (hj : j ≤ n / s) : ∃ y b, PartAt P w K H p l d xs s n j y b := by
  have hlt : nth s n j < xs.length := Nat.lt_of_le_of_lt (nth_le hs hj) hn
  have hy : xs[nth s n j]? = some xs[nth s n j] := List.getElem?_eq_getElem hlt
  obtain ⟨b, ha, hb⟩ := B.row _ (List.getElem_mem hlt)
  have big := B.big
  refine ⟨_, b, hlt, by rw [List.getElem?_map, hy]; rfl, by rw [List.getElem?_map, hy]; rfl, ha, hb, ?_⟩
  have : n / s ≤ n := Nat.div_le_self _ _
  omega
/-! size -/
theorem sc_Book_size : FnScope ["self", "number", "sizes", "part", "argument"] ["self", "number"] (defScope s_Book_size) := ⟨rfl, rfl, rfl, by decide +kernel, rfl, by decide +kernel, by decide +kernel⟩
theorem b_Book_size (T : Tx K mg) : Binds K (NX.fdOf K ("Book", some "size")) ["self", "number"] [] := T.f_Book_size.bindsN fun _ _ _ _ _ _ us hl => match us, hl with | [_, _], _ => rfl
def szF (s n : Nat) (rs : List Rw) : Nat → Int
  | 0 => 1
  | j + 1 => 1 + wid s n rs (j + 1) * szF s n rs j
def spSize (P : Program) (w : World) (K : PySem.W.Frag) : Sp := fun vs H Q _ => ∃ (p l d : Addr) (xs : List (Addr × Rw)) (s n : Nat), vs = [.ref p, .int n] ∧ BookAt P w (He.ga K "Book") H p l d xs ∧ (s = 1 ∨ s = 2) ∧ Ch s (xs.map (·.2)) ∧ n < xs.length ∧
  ∀ H', Same H H' → Q (.int (szF s n (xs.map (·.2)) (n / s))) H'
theorem ok_Book_size (T : Tx K mg) : FnOk P w K mg base CX0 5 (He.ma K (He.ga K "Book") "size") (NX.fdOf K ("Book", some "size")) ["self", "number"] (spSize P w K) := by
  refine T.f_Book_size.ok sc_Book_size (fun vs H Q E h => ?_) fun cdv A outer s H vs Q E hr h => ⟨_, PSs.nox (pss_cons (ps_set (i := 2) sc_Book_size.nd rfl (by first | exact Or.inl rfl | exact Or.inr rfl) pe_dnewK)
  (pss_cons (ps_for PassesOwn.never rfl (pi_list (pe_meth (pv 0) T.c_Book T.m_Book_parts (ok_Book_parts T) (hr.mono (by decide)) (b_Book_parts T) .nil pass0 (pa_cons (pv 1) pa_nil))) (pg_name (i := 3) sc_Book_size.nd rfl (by first | exact Or.inl rfl | exact Or.inr rfl))
    (pss_one (ps_dput (hu_of hr) (pv 2) (pv 3) (pe_op op_add pe_int (pe_callB (cr_sum rfl) rfl T.n_sum (by decide +kernel) (pa_cons (pe_lc (own := [("argument", 4)]) (g := gName 4) (rfl) sc_Book_size.nd (pi_tup (pe_call (ok_arguments_of T) (hr.mono (by decide)) rfl T.g_arguments_of T.f_arguments_of.kp (b_arguments_of T) .nil pass0 (pa_cons (pe_ix ix_list (pe_fld (pv 0) rfl) (pv 3) (fun _ _ => rfl)) pa_nil))) (blkOk_by (own := [("argument", 4)]) (N := ["self", "number", "sizes", "part", "argument"]) (sc := defScope s_Book_size) (by decide +kernel)) (fun _ _ _ _ _ => (pg_name (i := 4) sc_Book_size.nd rfl (by first | exact Or.inl rfl | exact Or.inr rfl))) (fun _ _ _ _ _ => pts_nil) (fun _ _ _ _ _ => (pe_dget (hu_of hr) (pv 2) (pv 4) (fun _ _ => rfl)))) pa_nil))) rfl)))
  (pss_one (ps_ret (pe_dget (hu_of hr) (pv 2) (pv 1) (fun _ _ => rfl)))))), ?_⟩
  · obtain ⟨p, l, d, xs, s, n, rfl, _⟩ := h; rfl
  · obtain ⟨p, l, d, xs, t, n, rfl, B, ht, hc, hn, q⟩ := h
    obtain ⟨dx, hp⟩ := B.ins
    refine fun e he => ?_
    have sE : ∀ x, Same H (upd H e x) := fun x => upd_same_new he
    refine ⟨_, rfl, _, _, _, rfl, sE _ _ _ hp, rfl, _, rfl, p, l, d, xs, t, n, rfl, B.same (sE _), ht, hc, hn, fun H1 r s1 r0 hR => ?_⟩
    have re : r ≠ e := fun z => by rw [z, upd_same] at r0; cases r0
    have rH : ∀ {c o}, H c = some o → c ≠ e := fun {c o} h => ne_of_none h he
    refine ⟨r, rfl, ⟨_, SqL.of hR⟩, ?_⟩
    refine for_list (xs := (ap t n).map V.int) (fun i σ' H' => (∃ o1 o2, σ' = [some (.ref p), some (.int n), some (.ref e), o1, o2]) ∧ Same H H' ∧ H' r = some (.lst ((ap t n).map V.int)) ∧ H' e = some (.dK (kvF t n (fun j => .int (szF t n (xs.map (·.2)) j)) i)))
      ⟨⟨_, _, rfl⟩, (sE _).trans s1, hR, s1 _ _ upd_same⟩ (fun i σ' H' _ h => SqL.of h.2.2.1) (fun i x σ' H' hx h => ?_) fun σ' H' h => ?_
    · obtain ⟨⟨o1, o2, rfl⟩, s2, hR2, hE2⟩ := h
      obtain ⟨hi, rfl⟩ := ap_get hx
      obtain ⟨y, b, Y⟩ := part_at (K := K) B ht hn hi
      obtain ⟨m, x, m3, mw, em, m0, mk⟩ := prev_args ht hc Y.rw_
      have emV : y.2.2.map V.int = List.replicate m (V.int x) := by rw [em, List.map_replicate]
      have hb2 := s2 _ _ Y.hb
      rw [emV] at hb2
      have hz : ∃ z : Int, 1 + (m : Int) * z = szF t n (xs.map (·.2)) i ∧ (1 ≤ m → valV (kvF t n (fun j => .int (szF t n (xs.map (·.2)) j)) i) (Sum.inl x) = some (.int z)) := by
        cases i with
        | zero => exact ⟨0, by simp [szF], fun z => by have := m0 rfl; omega⟩
        | succ k =>
          obtain ⟨_, ex⟩ := mk k rfl
          exact ⟨szF t n (xs.map (·.2)) k, by rw [mw]; rfl, fun _ => by rw [ex]; exact kvF_get ht (Nat.lt_succ_self k)⟩
      obtain ⟨z, ez, hv⟩ := hz
      refine ⟨_, rfl, _, _, _, _, _, rfl, s2 _ _ hp, T.c_Book, T.a_Book_held, rfl, _, rfl, _, _, _, _, rfl, rfl, SqL.of (s2 _ _ B.lst), atI_nat Y.at_, ?_⟩
      refine ⟨_, b, _, _, rfl, s2 _ _ Y.ha, s2 _ _ Y.hb, b, rfl, ⟨_, SqT.of hb2⟩, fun D hD => ?_⟩
      refine lc_rep (v := .int z) m3 hb2 hD rfl (fun h1 H3 Q3 s3 q3 => ⟨_, rfl, _, rfl, _, _, rfl, hv h1 ▸ DGet.k (k := Sum.inl x) (s3 _ _ hE2), q3⟩) fun H3 s3 hD3 => ?_
      refine ⟨D, List.replicate m z, rfl, SqL.of (by rw [List.map_replicate]; exact hD3), _, _, rfl, rfl, _, rfl, _, rfl, _, _, rfl, DPut.k (k := Sum.inl _) (s3 _ _ hE2) (by rw [kvF_len]; exact small1000' (by have := Y.il; omega)), ?_⟩
      have eput : putK (kvF t n (fun j => V.int (szF t n (xs.map (·.2)) j)) i) (Sum.inl ((nth t n i : Nat) : Int)) (.int (1 + (List.replicate m z).sum)) = kvF t n (fun j => V.int (szF t n (xs.map (·.2)) j)) (i + 1) := by
        rw [sum_rep, ez]
        exact kvF_put (f := fun j => V.int (szF t n (xs.map (·.2)) j)) ht
      exact ⟨⟨_, _, rfl⟩, fun c o h => by rw [upd_ne (rH h)]; exact s3 _ _ (s2 _ _ h), by rw [upd_ne re]; exact s3 _ _ hR2, by rw [upd_same]; exact congrArg (fun z => some (HO.dK z)) eput⟩
    · obtain ⟨⟨o1, o2, rfl⟩, s2, hR2, hE2⟩ := h
      have el : ((ap t n).map V.int).length = n / t + 1 := by unfold ap; simp
      rw [el] at hE2
      have hg := kvF_get (s := t) (n := n) (f := fun j => V.int (szF t n (xs.map (·.2)) j)) ht (Nat.lt_succ_self (n / t))
      rw [nth_last] at hg
      exact ⟨_, rfl, _, rfl, _, _, rfl, hg ▸ DGet.k (k := Sum.inl (n : Int)) hE2, q _ s2⟩
end
end T59
namespace T59
open PySem PySem.Spec PyProof.Rows L2 NX
/-! k59: depth, length, text. -/
section
variable {P : Program} {w : World} {K : PySem.W.Frag} {mg : Str → Option Value} {base : Heap}
theorem sc_Book_depth : FnScope ["self", "number", "depths", "part", "argument"] ["self", "number"] (defScope s_Book_depth) := ⟨rfl, rfl, rfl, by decide +kernel, rfl, by decide +kernel, by decide +kernel⟩
theorem b_Book_depth (T : Tx K mg) : Binds K (NX.fdOf K ("Book", some "depth")) ["self", "number"] [] := T.f_Book_depth.bindsN fun _ _ _ _ _ _ us hl => match us, hl with | [_, _], _ => rfl
def dpF (s n : Nat) (rs : List Rw) : Nat → Int
  | 0 => 1
  | j + 1 => 1 + dpF s n rs j
def spDepth (P : Program) (w : World) (K : PySem.W.Frag) : Sp := fun vs H Q _ => ∃ (p l d : Addr) (xs : List (Addr × Rw)) (s n : Nat), vs = [.ref p, .int n] ∧ BookAt P w (He.ga K "Book") H p l d xs ∧ (s = 1 ∨ s = 2) ∧ Ch s (xs.map (·.2)) ∧ n < xs.length ∧
  ∀ H', Same H H' → Q (.int (dpF s n (xs.map (·.2)) (n / s))) H'
theorem ok_Book_depth (T : Tx K mg) : FnOk P w K mg base CX0 5 (He.ma K (He.ga K "Book") "depth") (NX.fdOf K ("Book", some "depth")) ["self", "number"] (spDepth P w K) := by
  refine T.f_Book_depth.ok sc_Book_depth (fun vs H Q E h => ?_) fun cdv A outer s H vs Q E hr h => ⟨_, PSs.nox (pss_cons (ps_set (i := 2) sc_Book_depth.nd rfl (by first | exact Or.inl rfl | exact Or.inr rfl) pe_dnewK)
  (pss_cons (ps_for PassesOwn.never rfl (pi_list (pe_meth (pv 0) T.c_Book T.m_Book_parts (ok_Book_parts T) (hr.mono (by decide)) (b_Book_parts T) .nil pass0 (pa_cons (pv 1) pa_nil))) (pg_name (i := 3) sc_Book_depth.nd rfl (by first | exact Or.inl rfl | exact Or.inr rfl))
    (pss_one (ps_dput (hu_of hr) (pv 2) (pv 3) (pe_op op_add pe_int (pe_callBK (crk_maxDf rfl hr.units) rfl T.n_max (by decide +kernel) (pa_cons (pe_lc (own := [("argument", 4)]) (g := gName 4) (rfl) sc_Book_depth.nd (pi_tup (pe_call (ok_arguments_of T) (hr.mono (by decide)) rfl T.g_arguments_of T.f_arguments_of.kp (b_arguments_of T) .nil pass0 (pa_cons (pe_ix ix_list (pe_fld (pv 0) rfl) (pv 3) (fun _ _ => rfl)) pa_nil))) (blkOk_by (own := [("argument", 4)]) (N := ["self", "number", "depths", "part", "argument"]) (sc := defScope s_Book_depth) (by decide +kernel)) (fun _ _ _ _ _ => (pg_name (i := 4) sc_Book_depth.nd rfl (by first | exact Or.inl rfl | exact Or.inr rfl))) (fun _ _ _ _ _ => pts_nil) (fun _ _ _ _ _ => (pe_dget (hu_of hr) (pv 2) (pv 4) (fun _ _ => rfl)))) pa_nil) (pk_cons pe_int pk_nil))) rfl)))
  (pss_one (ps_ret (pe_dget (hu_of hr) (pv 2) (pv 1) (fun _ _ => rfl)))))), ?_⟩
  · obtain ⟨p, l, d, xs, s, n, rfl, _⟩ := h; rfl
  · obtain ⟨p, l, d, xs, t, n, rfl, B, ht, hc, hn, q⟩ := h
    obtain ⟨dx, hp⟩ := B.ins
    refine fun e he => ?_
    have sE : ∀ x, Same H (upd H e x) := fun x => upd_same_new he
    refine ⟨_, rfl, _, _, _, rfl, sE _ _ _ hp, rfl, _, rfl, p, l, d, xs, t, n, rfl, B.same (sE _), ht, hc, hn, fun H1 r s1 r0 hR => ?_⟩
    have re : r ≠ e := fun z => by rw [z, upd_same] at r0; cases r0
    have rH : ∀ {c o}, H c = some o → c ≠ e := fun {c o} h => ne_of_none h he
    refine ⟨r, rfl, ⟨_, SqL.of hR⟩, ?_⟩
    refine for_list (xs := (ap t n).map V.int) (fun i σ' H' => (∃ o1 o2, σ' = [some (.ref p), some (.int n), some (.ref e), o1, o2]) ∧ Same H H' ∧ H' r = some (.lst ((ap t n).map V.int)) ∧ H' e = some (.dK (kvF t n (fun j => .int (dpF t n (xs.map (·.2)) j)) i)))
      ⟨⟨_, _, rfl⟩, (sE _).trans s1, hR, s1 _ _ upd_same⟩ (fun i σ' H' _ h => SqL.of h.2.2.1) (fun i x σ' H' hx h => ?_) fun σ' H' h => ?_
    · obtain ⟨⟨o1, o2, rfl⟩, s2, hR2, hE2⟩ := h
      obtain ⟨hi, rfl⟩ := ap_get hx
      obtain ⟨y, b, Y⟩ := part_at (K := K) B ht hn hi
      obtain ⟨m, x, m3, mw, em, m0, mk⟩ := prev_args ht hc Y.rw_
      have emV : y.2.2.map V.int = List.replicate m (V.int x) := by rw [em, List.map_replicate]
      have hb2 := s2 _ _ Y.hb
      rw [emV] at hb2
      have hz : ∃ z : Int, 1 + (if m = 0 then 0 else z) = dpF t n (xs.map (·.2)) i ∧ (1 ≤ m → valV (kvF t n (fun j => .int (dpF t n (xs.map (·.2)) j)) i) (Sum.inl x) = some (.int z)) := by
        cases i with
        | zero => exact ⟨0, by rw [m0 rfl]; rfl, fun z => by have := m0 rfl; omega⟩
        | succ k =>
          obtain ⟨m1, ex⟩ := mk k rfl
          exact ⟨dpF t n (xs.map (·.2)) k, by rw [if_neg (by omega)]; rfl, fun _ => by rw [ex]; exact kvF_get ht (Nat.lt_succ_self k)⟩
      obtain ⟨z, ez, hv⟩ := hz
      refine ⟨_, rfl, _, _, _, _, _, rfl, s2 _ _ hp, T.c_Book, T.a_Book_held, rfl, _, rfl, _, _, _, _, rfl, rfl, SqL.of (s2 _ _ B.lst), atI_nat Y.at_, ?_⟩
      refine ⟨_, b, _, _, rfl, s2 _ _ Y.ha, s2 _ _ Y.hb, b, rfl, ⟨_, SqT.of hb2⟩, fun D hD => ?_⟩
      refine lc_rep (v := .int z) m3 hb2 hD rfl (fun h1 H3 Q3 s3 q3 => ⟨_, rfl, _, rfl, _, _, rfl, hv h1 ▸ DGet.k (k := Sum.inl x) (s3 _ _ hE2), q3⟩) fun H3 s3 hD3 => ?_
      refine ⟨D, List.replicate m z, 0, rfl, rfl, SqL.of (by rw [List.map_replicate]; exact hD3), _, _, rfl, rfl, _, rfl, _, rfl, _, _, rfl, DPut.k (k := Sum.inl _) (s3 _ _ hE2) (by rw [kvF_len]; exact small1000' (by have := Y.il; omega)), ?_⟩
      have eput : putK (kvF t n (fun j => V.int (dpF t n (xs.map (·.2)) j)) i) (Sum.inl ((nth t n i : Nat) : Int)) (.int (1 + maxDf 0 (List.replicate m z))) = kvF t n (fun j => V.int (dpF t n (xs.map (·.2)) j)) (i + 1) := by
        have em : maxDf 0 (List.replicate m z) = if m = 0 then 0 else z := by
          by_cases z0 : m = 0
          · rw [z0]; rfl
          · rw [if_neg z0]; exact maxDf_rep z (by omega)
        rw [em, ez]
        exact kvF_put (f := fun j => V.int (dpF t n (xs.map (·.2)) j)) ht
      exact ⟨⟨_, _, rfl⟩, fun c o h => by rw [upd_ne (rH h)]; exact s3 _ _ (s2 _ _ h), by rw [upd_ne re]; exact s3 _ _ hR2, by rw [upd_same]; exact congrArg (fun z => some (HO.dK z)) eput⟩
    · obtain ⟨⟨o1, o2, rfl⟩, s2, hR2, hE2⟩ := h
      have el : ((ap t n).map V.int).length = n / t + 1 := by unfold ap; simp
      rw [el] at hE2
      have hg := kvF_get (s := t) (n := n) (f := fun j => V.int (dpF t n (xs.map (·.2)) j)) ht (Nat.lt_succ_self (n / t))
      rw [nth_last] at hg
      exact ⟨_, rfl, _, rfl, _, _, rfl, hg ▸ DGet.k (k := Sum.inl (n : Int)) hE2, q _ s2⟩
/-! written: of a constant -/
theorem sc_written : FnScope ["row", "texts", "number"] ["row", "texts"] (defScope s_written) := ⟨rfl, rfl, rfl, by decide +kernel, rfl, by decide +kernel, by decide +kernel⟩
theorem b_written (T : Tx K mg) : Binds K (NX.fdOf K ("written", none)) ["row", "texts"] [] := T.f_written.bindsN fun _ _ _ _ _ _ us hl => match us, hl with | [_, _], _ => rfl
def spWritten : Sp := fun vs H Q _ => ∃ (a b t : Addr) (z : Str), vs = [.ref a, .ref t] ∧ H a = some (.tup [.str z, .ref b]) ∧ H b = some (.tup []) ∧ ∀ H', Same H H' → Q (.str z) H'
theorem ok_written (T : Tx K mg) : FnOk P w K mg base CX0 2 (He.ga K "written") (NX.fdOf K ("written", none)) ["row", "texts"] spWritten := by
  refine T.f_written.ok sc_written (fun vs H Q E h => ?_) fun cdv A outer s H vs Q E hr h => ⟨_, PSs.nox (pss_cons (ps_if (pt_val (pe_call (ok_is_sample_row T) (hr.mono (by decide)) rfl T.g_is_sample_row T.f_is_sample_row.kp (b_is_sample_row T) .nil pass0 (pa_cons (pv 0) pa_nil)))
    (pss_one ps_never)
    pss_nil)
  (pss_cons (ps_if (pt_cmpR (op_eqD hr.units) (pe_ix ix_tup (pv 0) pe_int (fun _ _ => rfl)) (pe_tup pa_nil) (nomark _))
    (pss_one (ps_ret (pe_ix ix_tup (pv 0) pe_int (fun _ _ => rfl))))
    pss_nil)
  (pss_one ps_never))), ?_⟩
  · obtain ⟨a, b, t, z, rfl, _⟩ := h; rfl
  · obtain ⟨a, b, t, z, rfl, ha, hb, q⟩ := h
    refine ⟨_, rfl, _, _, _, _, rfl, ha, hb, false, rfl, iteF ?_⟩
    refine ⟨_, rfl, _, _, _, _, rfl, rfl, SqT.of ha, atI_nat (j := 1) rfl, Nat.zero_le _, fun p hp => ?_⟩
    have sm := upd_same_new (o := .tup []) hp
    refine ⟨.tuple [], .tuple [], .tup (SqT.of (sm _ _ hb)) .nil, .tup (SqT.of upd_same) .nil, by decide, by decide, true, rfl, iteT ?_⟩
    exact ⟨_, rfl, _, _, _, _, rfl, rfl, SqT.of (sm _ _ ha), atI_nat (j := 0) rfl, q _ sm⟩
/-! length -/
theorem name_len {z : Str} (h : NameOk z) : 1 ≤ z.length ∧ z.length ≤ sizeLine := by
  rcases h with rfl | rfl | rfl | rfl | rfl <;> decide +kernel
theorem sc_Book_length : FnScope ["self", "number", "lengths", "part", "row", "many", "argument"] ["self", "number"] (defScope s_Book_length) := ⟨rfl, rfl, rfl, by decide +kernel, rfl, by decide +kernel, by decide +kernel⟩
theorem b_Book_length (T : Tx K mg) : Binds K (NX.fdOf K ("Book", some "length")) ["self", "number"] [] := T.f_Book_length.bindsN fun _ _ _ _ _ _ us hl => match us, hl with | [_, _], _ => rfl
def nml (s n : Nat) (rs : List Rw) (j : Nat) : Nat := ((rs[nth s n j]?).elim 0 fun r => r.1.length)
def lnF (s n : Nat) (rs : List Rw) : Nat → Int
  | 0 => nml s n rs 0
  | j + 1 => nml s n rs (j + 1) + 1 + wid s n rs (j + 1) + wid s n rs (j + 1) * lnF s n rs j
theorem lnF_succ {s n : Nat} {rs : List Rw} {j : Nat} : lnF s n rs (j + 1) = nml s n rs (j + 1) + 1 + wid s n rs (j + 1) + wid s n rs (j + 1) * lnF s n rs j := rfl
def spLength (P : Program) (w : World) (K : PySem.W.Frag) : Sp := fun vs H Q _ => ∃ (p l d : Addr) (xs : List (Addr × Rw)) (s n : Nat), vs = [.ref p, .int n] ∧ BookAt P w (He.ga K "Book") H p l d xs ∧ (s = 1 ∨ s = 2) ∧ Ch s (xs.map (·.2)) ∧ n < xs.length ∧
  ∀ H', Same H H' → Q (.int (lnF s n (xs.map (·.2)) (n / s))) H'
theorem ok_Book_length (T : Tx K mg) : FnOk P w K mg base CX0 5 (He.ma K (He.ga K "Book") "length") (NX.fdOf K ("Book", some "length")) ["self", "number"] (spLength P w K) := by
  refine T.f_Book_length.ok sc_Book_length (fun vs H Q E h => ?_) fun cdv A outer s H vs Q E hr h => ⟨_, PSs.nox (pss_cons (ps_set (i := 2) sc_Book_length.nd rfl (by first | exact Or.inl rfl | exact Or.inr rfl) pe_dnewK)
  (pss_cons (ps_for PassesOwn.never rfl (pi_list (pe_meth (pv 0) T.c_Book T.m_Book_parts (ok_Book_parts T) (hr.mono (by decide)) (b_Book_parts T) .nil pass0 (pa_cons (pv 1) pa_nil))) (pg_name (i := 3) sc_Book_length.nd rfl (by first | exact Or.inl rfl | exact Or.inr rfl))
    (pss_cons (ps_set (i := 4) sc_Book_length.nd rfl (by first | exact Or.inl rfl | exact Or.inr rfl) (pe_ix ix_list (pe_fld (pv 0) rfl) (pv 3) (fun _ _ => rfl)))
    (pss_cons (ps_set (i := 5) sc_Book_length.nd rfl (by first | exact Or.inl rfl | exact Or.inr rfl) (pe_callB call_len rfl T.n_len (by decide +kernel) (pa_cons (pe_call (ok_arguments_of T) (hr.mono (by decide)) rfl T.g_arguments_of T.f_arguments_of.kp (b_arguments_of T) .nil pass0 (pa_cons (pv 4) pa_nil)) pa_nil)))
    (pss_one (ps_if (pt_cmpR op_eq (pv 5) pe_int (nomark _))
      (pss_one (ps_dput (hu_of hr) (pv 2) (pv 3) (pe_callB call_len rfl T.n_len (by decide +kernel) (pa_cons (pe_call (ok_written T) (hr.mono (by decide)) rfl T.g_written T.f_written.kp (b_written T) .nil pass0 (pa_cons (pv 4) (pa_cons pe_dnewK pa_nil))) pa_nil)) rfl))
      (pss_one (ps_dput (hu_of hr) (pv 2) (pv 3) (pe_op op_add (pe_op op_add (pe_op op_add (pe_callB call_len rfl T.n_len (by decide +kernel) (pa_cons (pe_ix ix_tup (pv 4) pe_int (fun _ _ => rfl)) pa_nil)) pe_int) (pv 5)) (pe_callB (cr_sum rfl) rfl T.n_sum (by decide +kernel) (pa_cons (pe_lc (own := [("argument", 6)]) (g := gName 6) (rfl) sc_Book_length.nd (pi_tup (pe_ix ix_tup (pv 4) pe_int (fun _ _ => rfl))) (blkOk_by (own := [("argument", 6)]) (N := ["self", "number", "lengths", "part", "row", "many", "argument"]) (sc := defScope s_Book_length) (by decide +kernel)) (fun _ _ _ _ _ => (pg_name (i := 6) sc_Book_length.nd rfl (by first | exact Or.inl rfl | exact Or.inr rfl))) (fun _ _ _ _ _ => pts_nil) (fun _ _ _ _ _ => (pe_dget (hu_of hr) (pv 2) (pv 6) (fun _ _ => rfl)))) pa_nil))) rfl)))))))
  (pss_one (ps_ret (pe_dget (hu_of hr) (pv 2) (pv 1) (fun _ _ => rfl)))))), ?_⟩
  · obtain ⟨p, l, d, xs, s, n, rfl, _⟩ := h; rfl
  · obtain ⟨p, l, d, xs, t, n, rfl, B, ht, hc, hn, q⟩ := h
    obtain ⟨dx, hp⟩ := B.ins
    refine fun e he => ?_
    have sE : ∀ x, Same H (upd H e x) := fun x => upd_same_new he
    refine ⟨_, rfl, _, _, _, rfl, sE _ _ _ hp, rfl, _, rfl, p, l, d, xs, t, n, rfl, B.same (sE _), ht, hc, hn, fun H1 r s1 r0 hR => ?_⟩
    have re : r ≠ e := fun z => by rw [z, upd_same] at r0; cases r0
    have rH : ∀ {c o}, H c = some o → c ≠ e := fun {c o} h => ne_of_none h he
    refine ⟨r, rfl, ⟨_, SqL.of hR⟩, ?_⟩
    refine for_list (xs := (ap t n).map V.int) (fun i σ' H' => (∃ o1 o2 o3 o4, σ' = [some (.ref p), some (.int n), some (.ref e), o1, o2, o3, o4]) ∧ Same H H' ∧ H' r = some (.lst ((ap t n).map V.int)) ∧ H' e = some (.dK (kvF t n (fun j => .int (lnF t n (xs.map (·.2)) j)) i)))
      ⟨⟨_, _, _, _, rfl⟩, (sE _).trans s1, hR, s1 _ _ upd_same⟩ (fun i σ' H' _ h => SqL.of h.2.2.1) (fun i x σ' H' hx h => ?_) fun σ' H' h => ?_
    · obtain ⟨⟨o1, o2, o3, o4, rfl⟩, s2, hR2, hE2⟩ := h
      obtain ⟨hi, rfl⟩ := ap_get hx
      obtain ⟨y, b, Y⟩ := part_at (K := K) B ht hn hi
      obtain ⟨m, x, m3, mw, em, m0, mk⟩ := prev_args ht hc Y.rw_
      have emV : y.2.2.map V.int = List.replicate m (V.int x) := by rw [em, List.map_replicate]
      have hb2 := s2 _ _ Y.hb
      rw [emV] at hb2
      have nmE : nml t n (xs.map (·.2)) i = y.2.1.length := by unfold nml; rw [Y.rw_]; rfl
      have hnm := name_len (B.nm y.2 (List.mem_of_getElem? Y.rw_))
      have ha2 := s2 _ _ Y.ha
      refine ⟨_, rfl, _, _, _, _, _, rfl, s2 _ _ hp, T.c_Book, T.a_Book_held, rfl, _, rfl, _, _, _, _, rfl, rfl, SqL.of (s2 _ _ B.lst), atI_nat Y.at_, ?_⟩
      refine ⟨_, rfl, _, b, _, _, rfl, ha2, hb2, _, _, rfl, .inr ⟨_, SqT.of hb2, rfl⟩, ?_⟩
      rw [List.length_replicate]
      refine ⟨_, rfl, rfl, _, rfl, ?_⟩
      have fin : ∀ (H3 : Hp) (v : Int), Same H' H3 → v = lnF t n (xs.map (·.2)) i → (∃ a1 a2 a3 a4, ([some (.ref p), some (.int n), some (.ref e), some (.int (nth t n i : Nat)), some (.ref y.1), some (.int m), o4] : L2.St) = [some (.ref p), some (.int n), some (.ref e), a1, a2, a3, a4]) ∧
          Same H (upd H3 e (.dK (putK (kvF t n (fun j => .int (lnF t n (xs.map (·.2)) j)) i) (Sum.inl ((nth t n i : Nat) : Int)) (.int v)))) ∧ upd H3 e (.dK (putK (kvF t n (fun j => .int (lnF t n (xs.map (·.2)) j)) i) (Sum.inl ((nth t n i : Nat) : Int)) (.int v))) r = some (.lst ((ap t n).map V.int)) ∧
          upd H3 e (.dK (putK (kvF t n (fun j => .int (lnF t n (xs.map (·.2)) j)) i) (Sum.inl ((nth t n i : Nat) : Int)) (.int v))) e = some (.dK (kvF t n (fun j => .int (lnF t n (xs.map (·.2)) j)) (i + 1))) := fun H3 v s3 ev =>
        ⟨⟨_, _, _, _, rfl⟩, fun c o h => by rw [upd_ne (rH h)]; exact s3 _ _ (s2 _ _ h), by rw [upd_ne re]; exact s3 _ _ hR2, by
          rw [upd_same, ev]; exact congrArg (fun z => some (HO.dK z)) (kvF_put (f := fun j => V.int (lnF t n (xs.map (·.2)) j)) ht)⟩
      by_cases z0 : m = 0
      · have i0 : i = 0 := by
          cases i with
          | zero => rfl
          | succ k => have := (mk k rfl).1; omega
        rw [z0] at hb2
        rw [decide_eq_true (show V.int (m : Nat) = V.int 0 by rw [z0]; rfl)]
        refine iteT ⟨_, rfl, fun u hu => ?_⟩
        have sU := upd_same_new (o := .dK []) hu
        refine ⟨_, b, u, _, rfl, sU _ _ ha2, sU _ _ hb2, fun H3 s3 => ⟨_, _, rfl, ⟨hnm.2, rfl⟩, ?_⟩⟩
        refine ⟨_, rfl, _, rfl, _, _, rfl, DPut.k (k := Sum.inl _) (s3 _ _ (sU _ _ hE2)) (by rw [kvF_len]; exact small1000' (by have := Y.il; omega)), ?_⟩
        exact fin H3 _ (sU.trans s3) (by rw [i0] at nmE ⊢; unfold lnF; rw [nmE])
      · obtain ⟨k, rfl⟩ : ∃ k, i = k + 1 := by
          cases i with
          | zero => exact absurd (m0 rfl) z0
          | succ k => exact ⟨k, rfl⟩
        obtain ⟨_, ex⟩ := mk k rfl
        have hv := kvF_get (s := t) (n := n) (f := fun j => V.int (lnF t n (xs.map (·.2)) j)) ht (Nat.lt_succ_self k)
        rw [← ex] at hv
        rw [decide_eq_false (show ¬ V.int (m : Nat) = V.int 0 from fun z => by cases z; exact z0 rfl)]
        refine iteF ?_
        refine ⟨_, rfl, _, _, _, _, rfl, rfl, SqT.of ha2, atI_nat (j := 0) rfl, _, _, rfl, ⟨hnm.2, rfl⟩, _, _, rfl, rfl, _, rfl, _, _, rfl, rfl, ?_⟩
        refine ⟨_, rfl, _, _, _, _, rfl, rfl, SqT.of ha2, atI_nat (j := 1) rfl, b, rfl, ⟨_, SqT.of hb2⟩, fun D hD => ?_⟩
        refine lc_rep (v := .int (lnF t n (xs.map (·.2)) k)) m3 hb2 hD rfl (fun h1 H3 Q3 s3 q3 => ⟨_, rfl, _, rfl, _, _, rfl, hv ▸ DGet.k (k := Sum.inl x) (s3 _ _ hE2), q3⟩) fun H3 s3 hD3 => ?_
        refine ⟨D, List.replicate m _, rfl, SqL.of (by rw [List.map_replicate]; exact hD3), _, _, rfl, rfl, _, rfl, _, rfl, _, _, rfl, DPut.k (k := Sum.inl _) (s3 _ _ hE2) (by rw [kvF_len]; exact small1000' (by have := Y.il; omega)), ?_⟩
        exact fin H3 _ s3 (by rw [sum_rep, lnF_succ, nmE, ← mw])
    · obtain ⟨⟨o1, o2, o3, o4, rfl⟩, s2, hR2, hE2⟩ := h
      have el : ((ap t n).map V.int).length = n / t + 1 := by unfold ap; simp
      rw [el] at hE2
      have hg := kvF_get (s := t) (n := n) (f := fun j => V.int (lnF t n (xs.map (·.2)) j)) ht (Nat.lt_succ_self (n / t))
      rw [nth_last] at hg
      exact ⟨_, rfl, _, rfl, _, _, rfl, hg ▸ DGet.k (k := Sum.inl (n : Int)) hE2, q _ s2⟩
/-- a long chain's text is long -/
theorem lnF_ge {s n : Nat} {rs : List Rw} (hs : s = 1 ∨ s = 2) (hc : Ch s rs) (hn : n < rs.length) : ∀ j, j ≤ n / s → 2 * (j : Int) ≤ lnF s n rs j
  | 0, _ => by unfold lnF; omega
  | j + 1, h => by
    have ih := lnF_ge hs hc hn j (by omega)
    have hlt : nth s n (j + 1) < rs.length := Nat.lt_of_le_of_lt (nth_le hs h) hn
    obtain ⟨m, x, m3, mw, em, m0, mk⟩ := prev_args hs hc (List.getElem?_eq_getElem hlt)
    obtain ⟨m1, _⟩ := mk j rfl
    rw [lnF_succ, ← mw]
    have h1 : lnF s n rs j ≤ (m : Int) * lnF s n rs j := by
      have h0 : 0 ≤ lnF s n rs j := by omega
      have := Int.mul_le_mul_of_nonneg_right (show (1 : Int) ≤ m by omega) h0
      rw [Int.one_mul] at this
      exact this
    omega
end
end T59
namespace T59
open PySem PySem.Spec PyProof.Rows L2 NX
/-! k59: text, evaluate. -/
section
variable {P : Program} {w : World} {K : PySem.W.Frag} {mg : Str → Option Value} {base : Heap}
theorem fn_ty {f : Addr} (h : PySem.W.isFn K (.ref f) = true) : PySem.W.typeIn K (.ref f) = some (.type "function") := eq_of_beq h
theorem pt_no {X : Cx} {e : Expr} : PT X e (fun _ _ _ => False) := ⟨fun _ _ _ _ _ _ h => h.elim⟩
/-! TooLong -/
theorem sc_TooLong_init : FnScope ["self", "number"] ["self", "number"] (defScope s_TooLong_init) := ⟨rfl, rfl, rfl, by decide +kernel, rfl, by decide +kernel, by decide +kernel⟩
theorem b_TooLong_init (T : Tx K mg) : Binds K (NX.fdOf K ("TooLong", some "__init__")) ["self", "number"] [] := T.f_TooLong_init.bindsN fun _ _ _ _ _ _ us hl => match us, hl with | [_, _], _ => rfl
theorem ok_TooLong_init (T : Tx K mg) : FnOk P w K mg base CX0 2 (He.ma K (He.ga K "TooLong") "__init__") (NX.fdOf K ("TooLong", some "__init__")) ["self", "number"] (spXI1 (He.ga K "TooLong") "number") := by
  refine T.f_TooLong_init.ok sc_TooLong_init (fun vs H Q E h => ?_) fun cdv A outer s H vs Q E hr h => ⟨_, PSs.nox (pss_cons (ps_expr (pe_xinit xbase_Lookup rfl T.g_StateError T.b_StateError (pa_cons (pv 0) (pa_cons pe_str pa_nil))))
  (pss_one (ps_xst xbase_Lookup (pv 0) (pv 1)))), ?_⟩
  · obtain ⟨a, v, rfl, _⟩ := h; rfl
  · obtain ⟨a, v, rfl, ha, q⟩ := h
    exact ⟨_, rfl, a, _, _, rfl, by show 1 ≤ 1000; decide, T.x_TooLong, ha, _, rfl, _, rfl, a, _, rfl, T.x_TooLong, T.a_TooLong_number, .inl ⟨ha, fun dx n1 n2 => q dx n1 n2⟩⟩
/-! text: of what is too long -/
theorem sc_Book_text : FnScope ["self", "number", "texts", "part"] ["self", "number"] (defScope s_Book_text) := ⟨rfl, rfl, rfl, by decide +kernel, rfl, by decide +kernel, by decide +kernel⟩
theorem b_Book_text (T : Tx K mg) : Binds K (NX.fdOf K ("Book", some "text")) ["self", "number"] [] := T.f_Book_text.bindsN fun _ _ _ _ _ _ us hl => match us, hl with | [_, _], _ => rfl
def spText (P : Program) (w : World) (K : PySem.W.Frag) : Sp := fun vs H Q E => ∃ (p l d : Addr) (xs : List (Addr × Rw)) (s n : Nat), vs = [.ref p, .int n] ∧ BookAt P w (He.ga K "Book") H p l d xs ∧ (s = 1 ∨ s = 2) ∧ Ch s (xs.map (·.2)) ∧ n < xs.length ∧ 300 ≤ n / s ∧
  ∀ H' e, Same H H' → H' e = some (.xd [("number", .int n)]) → E (.ref (He.ga K "TooLong")) (some e) H'
theorem ok_Book_text (T : Tx K mg) : FnOk P w K mg base (L2.CX P w) 6 (He.ma K (He.ga K "Book") "text") (NX.fdOf K ("Book", some "text")) ["self", "number"] (spText P w K) := by
  refine T.f_Book_text.ok sc_Book_text (fun vs H Q E h => ?_) fun cdv A outer s H vs Q E hr h => ⟨_, (pss_cons (ps_if (pt_cmpR op_gt (pe_meth (pv 0) T.c_Book T.m_Book_length (ok_Book_length T) (hr.mono (by decide)) (b_Book_length T) .nil pass0 (pa_cons (pv 1) pa_nil)) (pe_gK rfl (gI T.i_LONGEST_TEXT)) (nomark _))
    (pss_one (ps_raise rfl (takes_of rfl rfl rfl rfl) (pmk_x xbase_Lookup T.x_TooLong T.m_TooLong_init.at_ (fn_ty T.m_TooLong_init.fn) (ok_TooLong_init T) (hr.mono (by decide)) (b_TooLong_init T) .nil pass0 rfl T.g_TooLong (pa_cons (pv 1) pa_nil))))
    pss_nil)
  (pss_cons ps_never
  (pss_cons ps_never
  (pss_one ps_never)))), ?_⟩
  · obtain ⟨p, l, d, xs, s, n, rfl, _⟩ := h; rfl
  · obtain ⟨p, l, d, xs, t, n, rfl, B, ht, hc, hn, h3, q⟩ := h
    obtain ⟨dx, hp⟩ := B.ins
    refine ⟨_, rfl, _, _, _, rfl, hp, rfl, _, rfl, p, l, d, xs, t, n, rfl, B, ht, hc, hn, fun H1 s1 => ?_⟩
    refine ⟨_, _, rfl, rfl, _, rfl, ?_⟩
    have hge := lnF_ge ht hc (by rw [List.length_map]; exact hn) (n / t) (Nat.le_refl _)
    rw [decide_eq_true (show (400 : Int) < lnF t n (xs.map (·.2)) (n / t) by omega)]
    refine iteT ⟨_, rfl, by show 1 ≤ 1000; decide, fun a ha => ?_⟩
    refine ⟨a, _, rfl, upd_same, fun dd hd hda => ⟨rfl, dd, [("number", .int n)], upd_same, ?_, ?_, ?_⟩⟩
    · rw [upd_ne hda, upd_same]
    · rw [upd_ne hda] at hd; exact hd
    · rw [upd_ne hda] at hd
      refine q _ dd (fun b o hb => ?_) (by rw [upd_same])
      have hb1 := s1 _ _ hb
      rw [upd_ne (ne_of_none hb1 hd)]
      unfold del
      rw [if_neg (ne_of_none hb1 ha), upd_ne (ne_of_none hb1 ha), upd_ne (ne_of_none hb1 hd), upd_ne (ne_of_none hb1 ha)]
      exact hb1
/-! need_known -/
def MeanOk (K : PySem.W.Frag) (mk : List (L2.Key × V)) : Prop := (∀ z : Str, z = "a" ∨ z = "b" → valV mk (Sum.inr z) = some (.ref (He.ga K "_law_none"))) ∧ ∀ z : Str, z = "f" ∨ z = "g" ∨ z = "k7" → valV mk (Sum.inr z) = some (.ref (He.ga K "_law_count"))
theorem MeanOk.some {mk : List (L2.Key × V)} (m : MeanOk K mk) {z : Str} (h : NameOk z) : (valV mk (Sum.inr z)).isSome = true := by
  rcases h with h | h | h
  · rw [m.1 z (.inl h)]; rfl
  · rw [m.1 z (.inr h)]; rfl
  · rw [m.2 z h]; rfl
theorem sc_need_known : FnScope ["row", "meaning", "samples", "name", "second"] ["row", "meaning", "samples"] (defScope s_need_known) := ⟨rfl, rfl, rfl, by decide +kernel, rfl, by decide +kernel, by decide +kernel⟩
theorem b_need_known (T : Tx K mg) : Binds K (NX.fdOf K ("need_known", none)) ["row", "meaning", "samples"] [] := T.f_need_known.bindsN fun _ _ _ _ _ _ us hl => match us, hl with | [_, _, _], _ => rfl
def spKnown (K : PySem.W.Frag) : Sp := fun vs H Q _ => ∃ (a b m : Addr) (z : Str) (v : V) (ys : List V) (mk : List (L2.Key × V)), vs = [.ref a, .ref m, v] ∧ H a = some (.tup [.str z, .ref b]) ∧ H b = some (.tup ys) ∧ H m = some (.dK mk) ∧ (valV mk (Sum.inr z)).isSome = true ∧ Q .non H
theorem ok_need_known (T : Tx K mg) : FnOk P w K mg base CX0 2 (He.ga K "need_known") (NX.fdOf K ("need_known", none)) ["row", "meaning", "samples"] (spKnown K) := by
  refine T.f_need_known.ok sc_need_known (fun vs H Q E h => ?_) fun cdv A outer s H vs Q E hr h => ⟨_, PSs.nox (pss_cons (ps_asg (pv 0) (pg_tup (by rfl) (pgs_cons (pg_name (i := 3) sc_need_known.nd rfl (by first | exact Or.inl rfl | exact Or.inr rfl)) (pgs_cons (pg_name (i := 4) sc_need_known.nd rfl (by first | exact Or.inl rfl | exact Or.inr rfl)) pgs_nil))))
  (pss_one (ps_if (pt_not (pt_val (pe_call (ok_is_sample_row T) (hr.mono (by decide)) rfl T.g_is_sample_row T.f_is_sample_row.kp (b_is_sample_row T) .nil pass0 (pa_cons (pv 0) pa_nil))))
    (pss_one (ps_if (pt_cmp (pc_dnotin (hu_of hr) (pv 3) (pv 1)))
      (pss_one ps_never)
      pss_nil))
    (pss_one ps_never)))), ?_⟩
  · obtain ⟨a, b, m, z, v, ys, mk, rfl, _⟩ := h; rfl
  · obtain ⟨a, b, m, z, v, ys, mk, rfl, ha, hb, hm, hk, q⟩ := h
    refine ⟨_, rfl, _, _, rfl, SqT.of ha, rfl, _, _, rfl, _, _, rfl, rfl, ?_⟩
    refine ⟨_, rfl, _, _, _, _, rfl, ha, hb, false, rfl, iteT ?_⟩
    refine ⟨_, rfl, _, rfl, _, _, rfl, DGet.k (k := Sum.inr z) hm, _, rfl, ?_⟩
    rw [hk]
    exact iteF q
/-! the law's two functions -/
theorem sc__law_count : FnScope ["_law_items"] ["_law_items"] (defScope s__law_count) := ⟨rfl, rfl, rfl, by decide +kernel, rfl, by decide +kernel, by decide +kernel⟩
theorem b__law_count (T : Tx K mg) : Binds K (NX.fdOf K ("_law_count", none)) ["_law_items"] [] := T.f__law_count.bindsN fun _ _ _ _ _ _ us hl => match us, hl with | [_], _ => rfl
def spCount : Sp := fun vs H Q _ => ∃ (a : Addr) (z : Int) (ys : List V), vs = [.ref a] ∧ H a = some (.lst (.int z :: ys)) ∧ Q (.int (z + 1)) H
theorem ok__law_count (T : Tx K mg) : FnOk P w K mg base CX0 1 (He.ga K "_law_count") (NX.fdOf K ("_law_count", none)) ["_law_items"] spCount := by
  refine T.f__law_count.ok sc__law_count (fun vs H Q E h => ?_) fun cdv A outer s H vs Q E hr h => ⟨_, PSs.nox (pss_one (ps_ret (pe_op op_add (pe_ix ix_list (pv 0) pe_int (fun _ _ => rfl)) pe_int))), ?_⟩
  · obtain ⟨a, z, ys, rfl, _⟩ := h; rfl
  · obtain ⟨a, z, ys, rfl, ha, q⟩ := h
    exact ⟨_, rfl, _, _, _, _, rfl, rfl, SqL.of ha, atI_nat (j := 0) rfl, _, _, rfl, rfl, q⟩
theorem sc__law_none : FnScope ["_law_items"] ["_law_items"] (defScope s__law_none) := ⟨rfl, rfl, rfl, by decide +kernel, rfl, by decide +kernel, by decide +kernel⟩
theorem b__law_none (T : Tx K mg) : Binds K (NX.fdOf K ("_law_none", none)) ["_law_items"] [] := T.f__law_none.bindsN fun _ _ _ _ _ _ us hl => match us, hl with | [_], _ => rfl
def spNone : Sp := fun vs H Q _ => ∃ (a : Addr), vs = [.ref a] ∧ H a = some (.lst []) ∧ Q (.int 0) H
theorem ok__law_none (T : Tx K mg) : FnOk P w K mg base CX0 1 (He.ga K "_law_none") (NX.fdOf K ("_law_none", none)) ["_law_items"] spNone := by
  refine T.f__law_none.ok sc__law_none (fun vs H Q E h => ?_) fun cdv A outer s H vs Q E hr h => ⟨_, PSs.nox (pss_one (ps_ret (pe_callB call_len rfl T.n_len (by decide +kernel) (pa_cons (pv 0) pa_nil)))), ?_⟩
  · obtain ⟨a, rfl, _⟩ := h; rfl
  · obtain ⟨a, rfl, ha, q⟩ := h
    exact ⟨_, rfl, _, _, rfl, .inl ⟨_, SqL.of ha, rfl⟩, q⟩
theorem fns_ne (T : Tx K mg) : He.ga K "_law_none" ≠ He.ga K "_law_count" := fun z => by
  obtain ⟨oc, od, dV, kV, doc, pm, an, cdv, ct, osl, e1, l1, _⟩ := T.f__law_none.ex
  obtain ⟨oc', od', dV', kV', doc', pm', an', cdv', ct', osl', e2, l2, _⟩ := T.f__law_count.ex
  rw [z, l2] at l1
  have e3 := Option.some.inj l1
  have e4 : NX.fdOf K ("_law_none", none) = NX.fdOf K ("_law_count", none) := by
    have := congrArg Obj.data e3
    exact (Data.func.inj this).symm
  rw [e1, e2] at e4
  have e5 : ("_law_none" : Str) = "_law_count" := congrArg FuncData.name e4
  exact absurd e5 (by decide +kernel)
def fnSp (K : PySem.W.Frag) (f : Addr) : Option Sp := if f = He.ga K "_law_none" then some spNone else if f = He.ga K "_law_count" then some spCount else none
theorem held_fn (T : Tx K mg) : ∀ f sp, fnSp K f = some sp → Held P w K mg base 1 f sp := by
  intro f sp h
  unfold fnSp at h
  split at h
  · rename_i e
    obtain rfl := Option.some.inj h
    rw [e]
    exact ⟨_, _, ok__law_none T, T.f__law_none.kp, b__law_none T⟩
  · split at h
    · rename_i e
      obtain rfl := Option.some.inj h
      rw [e]
      exact ⟨_, _, ok__law_count T, T.f__law_count.kp, b__law_count T⟩
    · cases h
/-! evaluate -/
theorem sc_Book_evaluate : FnScope ["self", "number", "meaning", "samples", "needed", "part", "values", "name", "second", "function", "argument"] ["self", "number", "meaning", "samples"] (defScope s_Book_evaluate) := ⟨rfl, rfl, rfl, by decide +kernel, rfl, by decide +kernel, by decide +kernel⟩
theorem b_Book_evaluate3 (T : Tx K mg) : Binds K (NX.fdOf K ("Book", some "evaluate")) ["self", "number", "meaning", "samples"] [.none] := by
  obtain ⟨ds, r, b⟩ := T.f_Book_evaluate.binds0 (ps := ["self", "number", "meaning", "samples"]) 3 (by intro z; cases z) rfl (fun D doc pm an cdv ct us ks h1 h2 => match us, ks, h1, h2 with | [_, _, _], [_], _, _ => ⟨_, _, _, _, _, _, rfl, rfl, rfl⟩)
  obtain ⟨u, rfl, rx⟩ := vals1 r
  cases rx
  exact b
def Sy (rs : List Rw) : Prop := ∀ (i : Nat) (r : Rw), rs[i]? = some r → (r.2 = [] → r.1 = "a" ∨ r.1 = "b") ∧ (r.2 ≠ [] → r.1 = "f" ∨ r.1 = "g" ∨ r.1 = "k7")
def spEval (P : Program) (w : World) (K : PySem.W.Frag) : Sp := fun vs H Q _ => ∃ (p l d m : Addr) (xs : List (Addr × Rw)) (s n : Nat) (mk : List (L2.Key × V)), vs = [.ref p, .int n, .ref m, .non] ∧ BookAt P w (He.ga K "Book") H p l d xs ∧ (s = 1 ∨ s = 2) ∧ Ch s (xs.map (·.2)) ∧ Sy (xs.map (·.2)) ∧ n < xs.length ∧
  H m = some (.dK mk) ∧ MeanOk K mk ∧ ∀ H', Same H H' → Q (.int (n / s : Nat)) H'
theorem ok_Book_evaluate (T : Tx K mg) : FnOk P w K mg base CX0 5 (He.ma K (He.ga K "Book") "evaluate") (NX.fdOf K ("Book", some "evaluate")) ["self", "number", "meaning", "samples"] (spEval P w K) := by
  refine T.f_Book_evaluate.ok sc_Book_evaluate (fun vs H Q E h => ?_) fun cdv A outer s H vs Q E hr h => ⟨_, PSs.nox (pss_cons (ps_set (i := 4) sc_Book_evaluate.nd rfl (by first | exact Or.inl rfl | exact Or.inr rfl) (pe_meth (pv 0) T.c_Book T.m_Book_parts (ok_Book_parts T) (hr.mono (by decide)) (b_Book_parts T) .nil pass0 (pa_cons (pv 1) pa_nil)))
  (pss_cons (ps_if (pt_not (pt_val (pe_callB call_isi rfl T.n_isinstance (by decide +kernel) (pa_cons (pv 2) (pa_cons (pe_bltn (v := .ty "dict") (u := .type "dict") rfl T.n_dict (by decide +kernel) rfl) pa_nil)))))
    (pss_one ps_never)
    pss_nil)
  (pss_cons (ps_if (PW.pt (pw_and (pt_cmpR op_notN (pv 3) pe_non (nomark _)) (pw_and1 pt_no)))
    (pss_one ps_never)
    pss_nil)
  (pss_cons (ps_for PassesOwn.never rfl (pi_list (pv 4)) (pg_name (i := 5) sc_Book_evaluate.nd rfl (by first | exact Or.inl rfl | exact Or.inr rfl))
    (pss_one (ps_expr (pe_call (ok_need_known T) (hr.mono (by decide)) rfl T.g_need_known T.f_need_known.kp (b_need_known T) .nil pass0 (pa_cons (pe_ix ix_list (pe_fld (pv 0) rfl) (pv 5) (fun _ _ => rfl)) (pa_cons (pv 2) (pa_cons (pv 3) pa_nil)))))))
  (pss_cons (ps_set (i := 6) sc_Book_evaluate.nd rfl (by first | exact Or.inl rfl | exact Or.inr rfl) pe_dnewK)
  (pss_cons (ps_for PassesOwn.never rfl (pi_list (pv 4)) (pg_name (i := 5) sc_Book_evaluate.nd rfl (by first | exact Or.inl rfl | exact Or.inr rfl))
    (pss_cons (ps_asg (pe_ix ix_list (pe_fld (pv 0) rfl) (pv 5) (fun _ _ => rfl)) (pg_tup (by rfl) (pgs_cons (pg_name (i := 7) sc_Book_evaluate.nd rfl (by first | exact Or.inl rfl | exact Or.inr rfl)) (pgs_cons (pg_name (i := 8) sc_Book_evaluate.nd rfl (by first | exact Or.inl rfl | exact Or.inr rfl)) pgs_nil))))
    (pss_one (ps_if (pt_val (pe_call (ok_is_sample_row T) (hr.mono (by decide)) rfl T.g_is_sample_row T.f_is_sample_row.kp (b_is_sample_row T) .nil pass0 (pa_cons (pe_tup (pa_cons (pv 7) (pa_cons (pv 8) pa_nil))) pa_nil)))
      (pss_one ps_never)
      (pss_cons (ps_set (i := 9) sc_Book_evaluate.nd rfl (by first | exact Or.inl rfl | exact Or.inr rfl) (pe_dget (hu_of hr) (pv 2) (pv 7) (fun _ _ => rfl)))
      (pss_one (ps_dput (hu_of hr) (pv 6) (pv 5) (pe_callA (i := 9) (S := fnSp K) (held_fn T) (hr.mono (by decide)) rfl (Or.inl rfl) (pa_cons (pe_lc (own := [("argument", 10)]) (g := gName 10) (rfl) sc_Book_evaluate.nd (pi_tup (pv 8)) (blkOk_by (own := [("argument", 10)]) (N := ["self", "number", "meaning", "samples", "needed", "part", "values", "name", "second", "function", "argument"]) (sc := defScope s_Book_evaluate) (by decide +kernel)) (fun _ _ _ _ _ => (pg_name (i := 10) sc_Book_evaluate.nd rfl (by first | exact Or.inl rfl | exact Or.inr rfl))) (fun _ _ _ _ _ => pts_nil) (fun _ _ _ _ _ => (pe_dget (hu_of hr) (pv 6) (pv 10) (fun _ _ => rfl)))) pa_nil)) rfl)))))))
  (pss_one (ps_ret (pe_dget (hu_of hr) (pv 6) (pv 1) (fun _ _ => rfl)))))))))), ?_⟩
  · obtain ⟨p, l, d, m, xs, s, n, mk, rfl, _⟩ := h; rfl
  · obtain ⟨p, l, d, mA, xs, t, n, mk, rfl, B, ht, hc, hy, hn, hmA, hmk, q⟩ := h
    obtain ⟨dx, hp⟩ := B.ins
    refine ⟨_, rfl, _, _, _, rfl, hp, rfl, _, rfl, p, l, d, xs, t, n, rfl, B, ht, hc, hn, fun H1 r s1 r0 hR => ?_⟩
    refine ⟨_, rfl, _, _, _, _, _, rfl, ClsV.ty _, .base (.dK (s1 _ _ hmA)), kit_ty (r := true) (by decide +kernel), true, rfl, iteF ?_⟩
    refine ⟨_, rfl, rfl, false, rfl, iteF (iteF ?_)⟩
    refine ⟨_, rfl, r, rfl, ⟨_, SqL.of hR⟩, ?_⟩
    refine for_list (xs := (ap t n).map V.int) (fun i σ' H' => (∃ o1, σ' = [some (.ref p), some (.int n), some (.ref mA), some .non, some (.ref r), o1, none, none, none, none, none]) ∧ H' = H1)
      ⟨⟨_, rfl⟩, rfl⟩ (fun i σ' H' _ h => by rw [h.2]; exact SqL.of hR) (fun i x σ' H' hx h => ?_) fun σ' H' h => ?_
    · obtain ⟨⟨o1, rfl⟩, rfl⟩ := h
      obtain ⟨hi, rfl⟩ := ap_get hx
      obtain ⟨y, b, Y⟩ := part_at (K := K) B ht hn hi
      have hnm := B.nm y.2 (List.mem_of_getElem? Y.rw_)
      refine ⟨_, rfl, _, _, _, _, _, rfl, s1 _ _ hp, T.c_Book, T.a_Book_held, rfl, _, rfl, _, _, _, _, rfl, rfl, SqL.of (s1 _ _ B.lst), atI_nat Y.at_, _, rfl, _, rfl, ?_⟩
      exact ⟨_, b, _, _, _, _, mk, rfl, s1 _ _ Y.ha, s1 _ _ Y.hb, s1 _ _ hmA, hmk.some hnm, ⟨_, rfl⟩, rfl⟩
    · obtain ⟨⟨o1, rfl⟩, rfl⟩ := h
      refine fun e he => ?_
      have sE : ∀ x, Same H' (upd H' e x) := fun x => upd_same_new he
      have re : r ≠ e := ne_of_none hR he
      have rH : ∀ {c o}, H c = some o → c ≠ e := fun {c o} h => ne_of_none (s1 _ _ h) he
      refine ⟨_, rfl, r, rfl, ⟨_, SqL.of (sE _ _ _ hR)⟩, ?_⟩
      refine for_list (xs := (ap t n).map V.int) (fun i σ' H2 => (∃ o1 o2 o3 o4 o5, σ' = [some (.ref p), some (.int n), some (.ref mA), some .non, some (.ref r), o1, some (.ref e), o2, o3, o4, o5]) ∧ Same H H2 ∧ H2 r = some (.lst ((ap t n).map V.int)) ∧ H2 e = some (.dK (kvF t n (fun j => .int (j : Nat)) i)))
        ⟨⟨_, _, _, _, _, rfl⟩, s1.trans (sE _), sE _ _ _ hR, upd_same⟩ (fun i σ' H' _ h => SqL.of h.2.2.1) (fun i x σ' H2 hx h => ?_) fun σ' H2 h => ?_
      · obtain ⟨⟨o1, o2, o3, o4, o5, rfl⟩, s2, hR2, hE2⟩ := h
        obtain ⟨hi, rfl⟩ := ap_get hx
        obtain ⟨y, b, Y⟩ := part_at (K := K) B ht hn hi
        obtain ⟨m, x, m3, mw, em, m0, mk1⟩ := prev_args ht hc Y.rw_
        have emV : y.2.2.map V.int = List.replicate m (V.int x) := by rw [em, List.map_replicate]
        have hb2 := s2 _ _ Y.hb
        rw [emV] at hb2
        have ha2 := s2 _ _ Y.ha
        obtain ⟨sy0, sy1⟩ := hy _ _ Y.rw_
        refine ⟨_, rfl, _, _, _, _, _, rfl, s2 _ _ hp, T.c_Book, T.a_Book_held, rfl, _, rfl, _, _, _, _, rfl, rfl, SqL.of (s2 _ _ B.lst), atI_nat Y.at_, ?_⟩
        refine ⟨_, _, rfl, SqT.of ha2, rfl, _, _, rfl, _, _, rfl, rfl, ?_⟩
        refine ⟨_, rfl, _, rfl, by show 2 ≤ sizeLine; decide, fun u hu => ?_⟩
        have sU := upd_same_new (o := .tup [.str y.2.1, .ref b]) hu
        refine ⟨u, b, _, _, rfl, upd_same, sU _ _ hb2, false, rfl, iteF ?_⟩
        have hb3 := sU _ _ hb2
        have hE3 := sU _ _ hE2
        have hm3 := sU _ _ (s2 _ _ hmA)
        have fin : ∀ (H3 : Hp) (f : Addr), Same (upd H2 u (.tup [.str y.2.1, .ref b])) H3 → (∃ a1 a2 a3 a4 a5, ([some (.ref p), some (.int n), some (.ref mA), some .non, some (.ref r), some (.int (nth t n i : Nat)), some (.ref e), some (.str y.2.1), some (.ref b), some (.ref f), o5] : L2.St) = [some (.ref p), some (.int n), some (.ref mA), some .non, some (.ref r), a1, some (.ref e), a2, a3, a4, a5]) ∧
            Same H (upd H3 e (.dK (putK (kvF t n (fun j => .int (j : Nat)) i) (Sum.inl ((nth t n i : Nat) : Int)) (.int (i : Nat))))) ∧ upd H3 e (.dK (putK (kvF t n (fun j => .int (j : Nat)) i) (Sum.inl ((nth t n i : Nat) : Int)) (.int (i : Nat)))) r = some (.lst ((ap t n).map V.int)) ∧
            upd H3 e (.dK (putK (kvF t n (fun j => .int (j : Nat)) i) (Sum.inl ((nth t n i : Nat) : Int)) (.int (i : Nat)))) e = some (.dK (kvF t n (fun j => .int (j : Nat)) (i + 1))) := fun H3 f s3 =>
          ⟨⟨_, _, _, _, _, rfl⟩, fun c o h => by rw [upd_ne (rH h)]; exact s3 _ _ (sU _ _ (s2 _ _ h)), by rw [upd_ne re]; exact s3 _ _ (sU _ _ hR2), by
            rw [upd_same]; exact congrArg (fun z => some (HO.dK z)) (kvF_put (f := fun j => V.int (j : Nat)) ht)⟩
        by_cases z0 : i = 0
        · have hm0 : m = 0 := m0 z0
          have e0 : y.2.2 = [] := by rw [em, hm0]; rfl
          refine ⟨_, rfl, _, rfl, _, _, rfl, hmk.1 _ (sy0 e0) ▸ DGet.k (k := Sum.inr y.2.1) hm3, ?_⟩
          refine ⟨_, spNone, rfl, if_pos rfl, _, rfl, b, rfl, ⟨_, SqT.of hb3⟩, fun D hD => ?_⟩
          refine lc_rep (v := .int 0) m3 hb3 hD rfl (fun h1 => by omega) fun H3 s3 hD3 => ?_
          rw [hm0] at hD3
          refine ⟨D, rfl, hD3, _, rfl, _, rfl, _, _, rfl, DPut.k (k := Sum.inl _) (s3 _ _ hE3) (by rw [kvF_len]; exact small1000' (by have := Y.il; omega)), ?_⟩
          have := fin H3 (He.ga K "_law_none") s3
          rw [z0] at this ⊢
          exact this
        · obtain ⟨k, rfl⟩ : ∃ k, i = k + 1 := ⟨i - 1, by omega⟩
          obtain ⟨m1, ex⟩ := mk1 k rfl
          have e0 : y.2.2 ≠ [] := fun z => by
            rw [em] at z
            have := congrArg List.length z
            rw [List.length_replicate, List.length_nil] at this
            omega
          have hv := kvF_get (s := t) (n := n) (f := fun j => V.int (j : Nat)) ht (Nat.lt_succ_self k)
          rw [← ex] at hv
          refine ⟨_, rfl, _, rfl, _, _, rfl, hmk.2 _ (sy1 e0) ▸ DGet.k (k := Sum.inr y.2.1) hm3, ?_⟩
          refine ⟨_, spCount, rfl, (if_neg (fns_ne T).symm).trans (if_pos rfl), _, rfl, b, rfl, ⟨_, SqT.of hb3⟩, fun D hD => ?_⟩
          refine lc_rep (v := .int (k : Nat)) m3 hb3 hD rfl (fun h1 H3 Q3 s3 q3 => ⟨_, rfl, _, rfl, _, _, rfl, hv ▸ DGet.k (k := Sum.inl x) (s3 _ _ hE3), q3⟩) fun H3 s3 hD3 => ?_
          obtain ⟨m', rfl⟩ : ∃ m', m = m' + 1 := ⟨m - 1, by omega⟩
          refine ⟨D, _, _, rfl, hD3, _, rfl, _, rfl, _, _, rfl, DPut.k (k := Sum.inl _) (s3 _ _ hE3) (by rw [kvF_len]; exact small1000' (by have := Y.il; omega)), ?_⟩
          exact fin H3 (He.ga K "_law_count") s3
      · obtain ⟨⟨o1, o2, o3, o4, o5, rfl⟩, s2, hR2, hE2⟩ := h
        have el : ((ap t n).map V.int).length = n / t + 1 := by unfold ap; simp
        rw [el] at hE2
        have hg := kvF_get (s := t) (n := n) (f := fun j => V.int (j : Nat)) ht (Nat.lt_succ_self (n / t))
        rw [nth_last] at hg
        exact ⟨_, rfl, _, rfl, _, _, rfl, hg ▸ DGet.k (k := Sum.inl (n : Int)) hE2, q _ s2⟩
end
end T59
namespace T59
open PySem PySem.Spec PyProof.Rows L2 NX
/-! k59: carry, differ, same_term. -/
section
variable {P : Program} {w : World} {K : PySem.W.Frag} {mg : Str → Option Value} {base : Heap}
/-! carry, as a plain function -/
def addR (rs : List Rw) (r : Rw) : List Rw := if r ∈ rs then rs else rs ++ [r]
def sgn (s n : Nat) (os : List Rw) (j : Nat) : Str := ((os[nth s n j]?).elim ("" : Str) fun r => r.1)
def crw (s n : Nat) (os : List Rw) (j prev : Nat) : Rw := (sgn s n os j, List.replicate (wid s n os j) (prev : Int))
def cS (s n : Nat) (os rs : List Rw) : Nat → List Rw × Nat
  | 0 => (rs, 0)
  | j + 1 => (addR (cS s n os rs j).1 (crw s n os j (cS s n os rs j).2), numOf (cS s n os rs j).1 (crw s n os j (cS s n os rs j).2))
theorem addRow_rows (xs : List (Addr × Rw)) (a : Addr) (r : Rw) : (addRow xs a r).map (·.2) = addR (xs.map (·.2)) r := by
  unfold addRow addR
  split
  · rfl
  · rw [List.map_append]; rfl
theorem addR_len (rs : List Rw) (r : Rw) : (addR rs r).length ≤ rs.length + 1 := by
  unfold addR
  split
  · omega
  · rw [List.length_append]; exact Nat.le_refl _
theorem cS_len {s n : Nat} {os rs : List Rw} : ∀ j, (cS s n os rs j).1.length ≤ rs.length + j
  | 0 => Nat.le_refl _
  | j + 1 => by
    have h1 := cS_len (s := s) (n := n) (os := os) (rs := rs) j
    have h2 := addR_len (cS s n os rs j).1 (crw s n os j (cS s n os rs j).2)
    show (addR _ _).length ≤ _
    omega
theorem BookAt.upd_dk {C p l d e : Addr} {H : Hp} {xs : List (Addr × Rw)} {kv : List (L2.Key × V)} {o : HO} (B : BookAt P w C H p l d xs) (he : H e = some (.dK kv)) : BookAt P w C (upd H e o) p l d xs := by
  obtain ⟨dx, hp⟩ := B.ins
  refine ⟨⟨dx, by rw [upd_ne (fun z => by rw [z, he] at hp; cases Option.some.inj hp)]; exact hp⟩, ?_, ?_, fun x hx => (B.row x hx).tups fun b ys h => ?_, B.nm, B.nd, B.big⟩
  · have h := B.lst
    rw [upd_ne (fun z => by rw [z, he] at h; cases Option.some.inj h)]; exact h
  · have h := B.dct
    rw [upd_ne (fun z => by
      rw [z, he] at h
      have h := Option.some.inj h
      unfold dN at h
      cases h)]
    exact h
  · rw [upd_ne (fun z => by rw [z, he] at h; cases Option.some.inj h)]; exact h
theorem sc_Book_carry : FnScope ["self", "other", "number", "carried", "part", "row", "argument"] ["self", "other", "number"] (defScope s_Book_carry) := ⟨rfl, rfl, rfl, by decide +kernel, rfl, by decide +kernel, by decide +kernel⟩
theorem b_Book_carry (T : Tx K mg) : Binds K (NX.fdOf K ("Book", some "carry")) ["self", "other", "number"] [] := T.f_Book_carry.bindsN fun _ _ _ _ _ _ us hl => match us, hl with | [_, _, _], _ => rfl
def spCarry (P : Program) (w : World) (K : PySem.W.Frag) : Sp := fun vs H Q _ => ∃ (p l d p2 l2 d2 : Addr) (xs ys : List (Addr × Rw)) (s n : Nat), vs = [.ref p, .ref p2, .int n] ∧ BookAt P w (He.ga K "Book") H p l d xs ∧ BookAt P w (He.ga K "Book") H p2 l2 d2 ys ∧ l2 ≠ l ∧ d2 ≠ d ∧
  (s = 1 ∨ s = 2) ∧ Ch s (ys.map (·.2)) ∧ n < ys.length ∧ xs.length + n + 1 ≤ 10000 ∧
  ∀ H' xs', Sv l d H H' → xs'.map (·.2) = (cS s n (ys.map (·.2)) (xs.map (·.2)) (n / s + 1)).1 → BookAt P w (He.ga K "Book") H' p l d xs' → Q (.int (cS s n (ys.map (·.2)) (xs.map (·.2)) (n / s + 1)).2) H'
theorem ok_Book_carry (T : Tx K mg) : FnOk P w K mg base CX0 5 (He.ma K (He.ga K "Book") "carry") (NX.fdOf K ("Book", some "carry")) ["self", "other", "number"] (spCarry P w K) := by
  refine T.f_Book_carry.ok sc_Book_carry (fun vs H Q E h => ?_) fun cdv A outer s H vs Q E hr h => ⟨_, PSs.nox (pss_cons (ps_if (pt_not (pt_val (pe_callB (C8.call_isC (insB_ok T.c_Book T.is_Book)) rfl T.n_isinstance (by decide +kernel) (pa_cons (pv 1) (pa_cons (pe_glob (v := .ref (He.ga K "Book")) rfl T.g_Book rfl) pa_nil)))))
    (pss_one ps_never)
    pss_nil)
  (pss_cons (ps_set (i := 3) sc_Book_carry.nd rfl (by first | exact Or.inl rfl | exact Or.inr rfl) pe_dnewK)
  (pss_cons (ps_for PassesOwn.never rfl (pi_list (pe_meth (pv 1) T.c_Book T.m_Book_parts (ok_Book_parts T) (hr.mono (by decide)) (b_Book_parts T) .nil pass0 (pa_cons (pv 2) pa_nil))) (pg_name (i := 4) sc_Book_carry.nd rfl (by first | exact Or.inl rfl | exact Or.inr rfl))
    (pss_cons (ps_set (i := 5) sc_Book_carry.nd rfl (by first | exact Or.inl rfl | exact Or.inr rfl) (pe_getO (ok_Book_getitem T) (hr.mono (by decide)) T.m_Book_getitem.at_ (fnIn_of T.f_Book_getitem) T.m_Book_getitem.fn (b_Book_getitem T) pass0 (pv 1) (pv 4)))
    (pss_cons (ps_if (pt_not (pt_val (pe_call (ok_is_sample_row T) (hr.mono (by decide)) rfl T.g_is_sample_row T.f_is_sample_row.kp (b_is_sample_row T) .nil pass0 (pa_cons (pv 5) pa_nil))))
      (pss_one (ps_set (i := 5) sc_Book_carry.nd rfl (by first | exact Or.inl rfl | exact Or.inr rfl) (pe_tup (pa_cons (pe_ix ix_tup (pv 5) pe_int (fun _ _ => rfl)) (pa_cons (pe_callTy call_tuple_of rfl T.n_tuple (by decide +kernel) (pa_cons (pe_lc (own := [("argument", 6)]) (g := gName 6) (rfl) sc_Book_carry.nd (pi_tup (pe_ix ix_tup (pv 5) pe_int (fun _ _ => rfl))) (blkOk_by (own := [("argument", 6)]) (N := ["self", "other", "number", "carried", "part", "row", "argument"]) (sc := defScope s_Book_carry) (by decide +kernel)) (fun _ _ _ _ _ => (pg_name (i := 6) sc_Book_carry.nd rfl (by first | exact Or.inl rfl | exact Or.inr rfl))) (fun _ _ _ _ _ => pts_nil) (fun _ _ _ _ _ => (pe_dget (hu_of hr) (pv 3) (pv 6) (fun _ _ => rfl)))) pa_nil)) pa_nil)))))
      pss_nil)
    (pss_one (ps_dput (hu_of hr) (pv 3) (pv 4) (pe_meth (pv 0) T.c_Book T.m_Book_number_of (ok_Book_number_of T) (hr.mono (by decide)) (b_Book_number_of T) .nil pass0 (pa_cons (pv 5) pa_nil)) rfl)))))
  (pss_one (ps_ret (pe_dget (hu_of hr) (pv 3) (pv 2) (fun _ _ => rfl))))))), ?_⟩
  · obtain ⟨p, l, d, p2, l2, d2, xs, ys, s, n, rfl, _⟩ := h; rfl
  · obtain ⟨p, l, d, p2, l2, d2, xs, ys, t, n, rfl, B, B2, nl, nd, ht, hc, hn, hz, q⟩ := h
    obtain ⟨dx2, hp2⟩ := B2.ins
    refine ⟨_, rfl, _, _, _, rfl, hp2, true, rfl, iteF ?_⟩
    refine fun e he => ?_
    have sE : ∀ x, Same H (upd H e x) := fun x => upd_same_new he
    refine ⟨_, rfl, _, _, _, rfl, sE _ _ _ hp2, rfl, _, rfl, p2, l2, d2, ys, t, n, rfl, B2.same (sE _), ht, hc, hn, fun H1 r s1 r0 hR => ?_⟩
    have re : r ≠ e := fun z => by rw [z, upd_same] at r0; cases r0
    have rH : ∀ {c o}, H c = some o → c ≠ e := fun {c o} h => ne_of_none h he
    have rr : ∀ {c o}, H c = some o → r ≠ c := fun {c o} h z => by rw [z, sE _ _ _ h] at r0; cases r0
    have el := rH B.lst
    have ed := rH B.dct
    have rl := rr B.lst
    have rd := rr B.dct
    refine ⟨r, rfl, ⟨_, SqL.of hR⟩, ?_⟩
    refine for_list (xs := (ap t n).map V.int) (fun i σ' H' => (∃ o1 o2 o3, σ' = [some (.ref p), some (.ref p2), some (.int n), some (.ref e), o1, o2, o3]) ∧ Sv l d H H' ∧ H' r = some (.lst ((ap t n).map V.int)) ∧
        H' e = some (.dK (kvF t n (fun j => .int (cS t n (ys.map (·.2)) (xs.map (·.2)) (j + 1)).2) i)) ∧ ∃ xs', xs'.map (·.2) = (cS t n (ys.map (·.2)) (xs.map (·.2)) i).1 ∧ BookAt P w (He.ga K "Book") H' p l d xs')
      ⟨⟨_, _, _, rfl⟩, Sv.of_same ((sE _).trans s1), hR, s1 _ _ upd_same, xs, rfl, (B.same (sE _)).same s1⟩ (fun i σ' H' _ h => SqL.of h.2.2.1) (fun i x σ' H' hx h => ?_) fun σ' H' h => ?_
    · obtain ⟨⟨o1, o2, o3, rfl⟩, s2, hR2, hE2, xs', exs, Bx⟩ := h
      obtain ⟨hi, rfl⟩ := ap_get hx
      have By := B2.sv B s2 nl nd
      obtain ⟨y, b, Y⟩ := part_at (K := K) By ht hn hi
      obtain ⟨dx', hp2'⟩ := By.ins
      obtain ⟨m, x, m3, mw, em, m0, mk1⟩ := prev_args ht hc Y.rw_
      have emV : y.2.2.map V.int = List.replicate m (V.int x) := by rw [em, List.map_replicate]
      have hb2 := Y.hb
      rw [emV] at hb2
      have ha2 := Y.ha
      have hnm := By.nm y.2 (List.mem_of_getElem? Y.rw_)
      refine ⟨_, rfl, _, rfl, p2, dx', _, rfl, hp2', p2, l2, d2, _, nth t n i, _, rfl, ⟨dx', hp2'⟩, By.lst, Y.at_, ?_⟩
      refine ⟨_, rfl, _, b, _, _, rfl, ha2, hb2, false, rfl, iteT ?_⟩
      refine ⟨_, rfl, _, _, _, _, rfl, rfl, SqT.of ha2, atI_nat (j := 0) rfl, ?_⟩
      refine ⟨_, rfl, _, _, _, _, rfl, rfl, SqT.of ha2, atI_nat (j := 1) rfl, b, rfl, ⟨_, SqT.of hb2⟩, fun D hD => ?_⟩
      have hz2 : ∃ z : Nat, crw t n (ys.map (·.2)) i (cS t n (ys.map (·.2)) (xs.map (·.2)) i).2 = (y.2.1, List.replicate m (z : Int)) ∧ (1 ≤ m → valV (kvF t n (fun j => .int (cS t n (ys.map (·.2)) (xs.map (·.2)) (j + 1)).2) i) (Sum.inl x) = some (.int (z : Nat))) := by
        have e1 : sgn t n (ys.map (·.2)) i = y.2.1 := by unfold sgn; rw [Y.rw_]; rfl
        cases i with
        | zero => exact ⟨0, by unfold crw; rw [e1, ← mw, m0 rfl]; rfl, fun z => by have := m0 rfl; omega⟩
        | succ k =>
          obtain ⟨_, ex⟩ := mk1 k rfl
          exact ⟨(cS t n (ys.map (·.2)) (xs.map (·.2)) (k + 1)).2, by unfold crw; rw [e1, ← mw], fun _ => by rw [ex]; exact kvF_get (f := fun j => V.int (cS t n (ys.map (·.2)) (xs.map (·.2)) (j + 1)).2) ht (Nat.lt_succ_self k)⟩
      obtain ⟨z, ecr, hv⟩ := hz2
      refine lc_rep (v := .int (z : Nat)) m3 hb2 hD rfl (fun h1 H3 Q3 s3 q3 => ⟨_, rfl, _, rfl, _, _, rfl, hv h1 ▸ DGet.k (k := Sum.inl x) (s3 _ _ hE2), q3⟩) fun H3 s3 hD3 => ?_
      refine ⟨D, _, rfl, .inl ⟨SqL.of hD3, fun u hu => ?_⟩⟩
      have sU := upd_same_new (o := .tup (List.replicate m (.int (z : Nat)))) hu
      refine ⟨by show 2 ≤ sizeLine; decide, fun v hv2 => ?_⟩
      have sV := upd_same_new (o := .tup [.str y.2.1, .ref u]) hv2
      have sA := (s3.trans sU).trans sV
      have B5 := Bx.same sA
      obtain ⟨dx5, hp5⟩ := B5.ins
      have hlen : xs'.length ≤ xs.length + i := by
        have := congrArg List.length exs
        rw [List.length_map] at this
        rw [this]
        have := cS_len (s := t) (n := n) (os := ys.map (·.2)) (rs := xs.map (·.2)) i
        rw [List.length_map] at this
        exact this
      have hin : i ≤ n := Nat.le_trans hi (Nat.div_le_self _ _)
      refine ⟨_, rfl, _, _, _, rfl, hp5, rfl, _, rfl, p, l, d, v, xs', (y.2.1, List.replicate m (z : Int)), rfl, B5, ⟨u, upd_same, ?_⟩, hnm, by omega, fun H6 s6 B6 => ?_⟩
      · rw [List.map_replicate]; exact sV _ _ upd_same
      have eE6 := s6 _ _ el.symm ed.symm (sA _ _ hE2)
      refine ⟨_, rfl, _, rfl, _, _, rfl, DPut.k (k := Sum.inl _) eE6 (by rw [kvF_len]; exact small1000' (by have := Y.il; omega)), ?_⟩
      have eput : putK (kvF t n (fun j => .int (cS t n (ys.map (·.2)) (xs.map (·.2)) (j + 1)).2) i) (Sum.inl ((nth t n i : Nat) : Int)) (.int (numOf (xs'.map (·.2)) (y.2.1, List.replicate m (z : Int)) : Nat)) = kvF t n (fun j => .int (cS t n (ys.map (·.2)) (xs.map (·.2)) (j + 1)).2) (i + 1) := by
        have := kvF_put (s := t) (n := n) (m := i) (f := fun j => V.int (cS t n (ys.map (·.2)) (xs.map (·.2)) (j + 1)).2) ht
        rw [← this, exs, ← ecr]
        rfl
      refine ⟨⟨_, _, _, rfl⟩, fun c o n1 n2 h => ?_, ?_, ?_, addRow xs' v (y.2.1, List.replicate m (z : Int)), ?_, B6.upd_dk eE6⟩
      · rw [upd_ne (rH h)]; exact s6 _ _ n1 n2 (sA _ _ (s2 _ _ n1 n2 h))
      · rw [upd_ne re]; exact s6 _ _ rl rd (sA _ _ hR2)
      · rw [upd_same]; exact congrArg (fun z => some (HO.dK z)) eput
      · rw [addRow_rows, exs, ← ecr]; rfl
    · obtain ⟨⟨o1, o2, o3, rfl⟩, s2, hR2, hE2, xs', exs, Bx⟩ := h
      have el : ((ap t n).map V.int).length = n / t + 1 := by unfold ap; simp
      rw [el] at hE2 exs
      have hg := kvF_get (s := t) (n := n) (f := fun j => V.int (cS t n (ys.map (·.2)) (xs.map (·.2)) (j + 1)).2) ht (Nat.lt_succ_self (n / t))
      rw [nth_last] at hg
      exact ⟨_, rfl, _, rfl, _, _, rfl, hg ▸ DGet.k (k := Sum.inl (n : Int)) hE2, q _ xs' s2 exs Bx⟩
/-! same_term -/
theorem sc_same_term : FnScope ["book", "number", "other", "other_number", "both"] ["book", "number", "other", "other_number"] (defScope s_same_term) := ⟨rfl, rfl, rfl, by decide +kernel, rfl, by decide +kernel, by decide +kernel⟩
theorem b_same_term (T : Tx K mg) : Binds K (NX.fdOf K ("same_term", none)) ["book", "number", "other", "other_number"] [] := T.f_same_term.bindsN fun _ _ _ _ _ _ us hl => match us, hl with | [_, _, _, _], _ => rfl
def spSame (P : Program) (w : World) (K : PySem.W.Frag) : Sp := fun vs H Q _ => ∃ (p l d p2 l2 d2 : Addr) (xs ys : List (Addr × Rw)) (s n2 n : Nat), vs = [.ref p, .int n, .ref p2, .int n2] ∧ BookAt P w (He.ga K "Book") H p l d xs ∧ BookAt P w (He.ga K "Book") H p2 l2 d2 ys ∧
  (s = 1 ∨ s = 2) ∧ Ch s (ys.map (·.2)) ∧ n < xs.length ∧ n2 < ys.length ∧ xs.length + n2 + 1 ≤ 10000 ∧ GoodRows (xs.map (·.2)) ∧
  ∀ H', Same H H' → Q (.bl (decide ((cS s n2 (ys.map (·.2)) (xs.map (·.2)) (n2 / s + 1)).2 = n))) H'
theorem ok_same_term (T : Tx K mg) : FnOk P w K mg base CX0 7 (He.ga K "same_term") (NX.fdOf K ("same_term", none)) ["book", "number", "other", "other_number"] (spSame P w K) := by
  refine T.f_same_term.ok sc_same_term (fun vs H Q E h => ?_) fun cdv A outer s H vs Q E hr h => ⟨_, PSs.nox (pss_cons (ps_if (pt_not (pt_val (pe_callB (C8.call_isC (insB_ok T.c_Book T.is_Book)) rfl T.n_isinstance (by decide +kernel) (pa_cons (pv 0) (pa_cons (pe_glob (v := .ref (He.ga K "Book")) rfl T.g_Book rfl) pa_nil)))))
    (pss_one ps_never)
    pss_nil)
  (pss_cons (ps_expr (pe_meth (pv 0) T.c_Book T.m_Book_need_number (ok_Book_need_number T) (hr.mono (by decide)) (b_Book_need_number T) .nil pass0 (pa_cons (pv 1) pa_nil)))
  (pss_cons (ps_if (pt_not (pt_val (pe_callB (C8.call_isC (insB_ok T.c_Book T.is_Book)) rfl T.n_isinstance (by decide +kernel) (pa_cons (pv 2) (pa_cons (pe_glob (v := .ref (He.ga K "Book")) rfl T.g_Book rfl) pa_nil)))))
    (pss_one ps_never)
    pss_nil)
  (pss_cons (ps_expr (pe_meth (pv 2) T.c_Book T.m_Book_need_number (ok_Book_need_number T) (hr.mono (by decide)) (b_Book_need_number T) .nil pass0 (pa_cons (pv 3) pa_nil)))
  (pss_cons (ps_set (i := 4) sc_same_term.nd rfl (by first | exact Or.inl rfl | exact Or.inr rfl) (pe_meth0 (pv 0) T.c_Book T.m_Book_copied (ok_Book_copied T) (hr.mono (by decide)) (b_Book_copied T) .nil pass0))
  (pss_one (ps_ret (pe_cmpR op_eq (pe_meth (pv 4) T.c_Book T.m_Book_carry (ok_Book_carry T) (hr.mono (by decide)) (b_Book_carry T) .nil pass0 (pa_cons (pv 2) (pa_cons (pv 3) pa_nil))) (pv 1) (nomark _))))))))), ?_⟩
  · obtain ⟨p, l, d, p2, l2, d2, xs, ys, s, n2, n, rfl, _⟩ := h; rfl
  · obtain ⟨p, l, d, p2, l2, d2, xs, ys, t, n2, n, rfl, B, B2, ht, hc, hn, hn2, hz, hg, q⟩ := h
    obtain ⟨dx, hp⟩ := B.ins
    obtain ⟨dx2, hp2⟩ := B2.ins
    refine ⟨_, rfl, _, _, _, rfl, hp, true, rfl, iteF ?_⟩
    refine ⟨_, rfl, _, _, _, rfl, hp, rfl, _, rfl, p, l, d, _, n, rfl, ⟨dx, hp⟩, B.lst, by rw [List.length_map]; exact hn, ?_⟩
    refine ⟨_, rfl, _, _, _, rfl, hp2, true, rfl, iteF ?_⟩
    refine ⟨_, rfl, _, _, _, rfl, hp2, rfl, _, rfl, p2, l2, d2, _, n2, rfl, ⟨dx2, hp2⟩, B2.lst, by rw [List.length_map]; exact hn2, ?_⟩
    refine ⟨_, rfl, _, _, _, rfl, hp, rfl, p, l, d, xs, rfl, B, hg, fun H1 p3 l3 d3 zs s1 ez hl3 hd3 B3 => ?_⟩
    obtain ⟨dx3, hp3⟩ := B3.ins
    have l23 : l2 ≠ l3 := ne_of_none B2.lst hl3
    have d23 : d2 ≠ d3 := ne_of_none B2.dct hd3
    have lz : zs.length = xs.length := by
      have := congrArg List.length ez
      rw [List.length_map, List.length_map] at this
      exact this
    refine ⟨_, rfl, _, _, _, rfl, hp3, rfl, _, rfl, _, rfl, p3, l3, d3, p2, l2, d2, zs, ys, t, n2, rfl, B3, B2.same s1, l23, d23, ht, hc, hn2, by omega, fun H4 zs' s4 e4 B4 => ?_⟩
    rw [ez]
    refine ⟨_, rfl, rfl, ?_⟩
    have e : decide (V.int ((cS t n2 (ys.map (·.2)) (xs.map (·.2)) (n2 / t + 1)).2 : Nat) = V.int (n : Nat)) = decide ((cS t n2 (ys.map (·.2)) (xs.map (·.2)) (n2 / t + 1)).2 = n) := by
      refine decide_eq_decide.mpr ⟨fun z => ?_, fun z => by rw [z]⟩
      have := V.int.inj z
      omega
    show Q (.bl (decide (V.int ((cS t n2 (ys.map (·.2)) (xs.map (·.2)) (n2 / t + 1)).2 : Nat) = V.int (n : Nat)))) H4
    rw [e]
    refine q H4 fun c o h => ?_
    exact s4 c o (ne_of_none h hl3) (ne_of_none h hd3) (s1 _ _ h)
end
end T59
namespace T59
open PySem PySem.Spec PyProof.Rows L2 NX
/-! k59: differ, _law_is_long. -/
section
variable {P : Program} {w : World} {K : PySem.W.Frag} {mg : Str → Option Value} {base : Heap}
/-- two chains, side by side -/
def Pr (rs : List Rw) : Prop := ∀ (j : Nat) (a b : Rw), rs[2 * j]? = some a → rs[2 * j + 1]? = some b → (j = 0 → a.1 ≠ b.1 ∧ a.2 = [] ∧ b.2 = []) ∧
  ∀ i, j = i + 1 → a.1 = b.1 ∧ ∃ w : Nat, 1 ≤ w ∧ w ≤ 3 ∧ a.2 = List.replicate w ((2 * i : Nat) : Int) ∧ b.2 = List.replicate w ((2 * i + 1 : Nat) : Int)
theorem sc_Book_differ : FnScope ["self", "one", "other", "slots", "left", "right", "slot", "at"] ["self", "one", "other"] (defScope s_Book_differ) := ⟨rfl, rfl, rfl, by decide +kernel, rfl, by decide +kernel, by decide +kernel⟩
theorem b_Book_differ (T : Tx K mg) : Binds K (NX.fdOf K ("Book", some "differ")) ["self", "one", "other"] [] := T.f_Book_differ.bindsN fun _ _ _ _ _ _ us hl => match us, hl with | [_, _, _], _ => rfl
def spDiffer (P : Program) (w : World) (K : PySem.W.Frag) : Sp := fun vs H Q _ => ∃ (p l d : Addr) (xs : List (Addr × Rw)) (x y : Nat), vs = [.ref p, .int x, .int y] ∧ BookAt P w (He.ga K "Book") H p l d xs ∧ x < xs.length ∧ y < xs.length ∧
  ((x = y ∧ Q .non H) ∨ (∃ j, x = 2 * j ∧ y = 2 * j + 1 ∧ Pr (xs.map (·.2)) ∧ ∀ H' q, Same H H' → H q = none → H' q = some (.lst (List.replicate j (.int 0))) → Q (.ref q) H'))
theorem row_of {C p l d : Addr} {H : Hp} {xs : List (Addr × Rw)} (B : BookAt P w C H p l d xs) {i : Nat} (h : i < xs.length) : ∃ (y : Addr × Rw) (b : Addr), (xs.map fun x => V.ref x.1)[i]? = some (V.ref y.1) ∧ (xs.map (·.2))[i]? = some y.2 ∧ H y.1 = some (.tup [.str y.2.1, .ref b]) ∧ H b = some (.tup (y.2.2.map V.int)) := by
  have hy : xs[i]? = some xs[i] := List.getElem?_eq_getElem h
  obtain ⟨b, ha, hb⟩ := B.row _ (List.getElem_mem h)
  exact ⟨_, b, by rw [List.getElem?_map, hy]; rfl, by rw [List.getElem?_map, hy]; rfl, ha, hb⟩
theorem ok_Book_differ (T : Tx K mg) : FnOk P w K mg base CX0 4 (He.ma K (He.ga K "Book") "differ") (NX.fdOf K ("Book", some "differ")) ["self", "one", "other"] (spDiffer P w K) := by
  refine T.f_Book_differ.ok sc_Book_differ (fun vs H Q E h => ?_) fun cdv A outer s H vs Q E hr h => ⟨_, PSs.nox (pss_cons (ps_expr (pe_meth (pv 0) T.c_Book T.m_Book_need_number (ok_Book_need_number T) (hr.mono (by decide)) (b_Book_need_number T) .nil pass0 (pa_cons (pv 1) pa_nil)))
  (pss_cons (ps_expr (pe_meth (pv 0) T.c_Book T.m_Book_need_number (ok_Book_need_number T) (hr.mono (by decide)) (b_Book_need_number T) .nil pass0 (pa_cons (pv 2) pa_nil)))
  (pss_cons (ps_if (pt_cmpR op_eq (pv 1) (pv 2) (nomark _))
    (pss_one (ps_ret pe_non))
    pss_nil)
  (pss_cons (ps_set (i := 3) sc_Book_differ.nd rfl (by first | exact Or.inl rfl | exact Or.inr rfl) (pe_lst pa_nil))
  (pss_one (ps_while PassesOwn.never (pt_val pe_bl)
    (pss_cons (ps_asg (pe_tup (pa_cons (pe_ix ix_list (pe_fld (pv 0) rfl) (pv 1) (fun _ _ => rfl)) (pa_cons (pe_ix ix_list (pe_fld (pv 0) rfl) (pv 2) (fun _ _ => rfl)) pa_nil))) (pg_tup (by rfl) (pgs_cons (pg_name (i := 4) sc_Book_differ.nd rfl (by first | exact Or.inl rfl | exact Or.inr rfl)) (pgs_cons (pg_name (i := 5) sc_Book_differ.nd rfl (by first | exact Or.inl rfl | exact Or.inr rfl)) pgs_nil))))
    (pss_cons (ps_if (PW.pt (pw_or (pt_cmpR op_ne (pe_ix ix_tup (pv 4) pe_int (fun _ _ => rfl)) (pe_ix ix_tup (pv 5) pe_int (fun _ _ => rfl)) (nomark _)) (pw_or (pt_val (pe_call (ok_is_sample_row T) (hr.mono (by decide)) rfl T.g_is_sample_row T.f_is_sample_row.kp (b_is_sample_row T) .nil pass0 (pa_cons (pv 4) pa_nil))) (pw_or (pt_val (pe_call (ok_is_sample_row T) (hr.mono (by decide)) rfl T.g_is_sample_row T.f_is_sample_row.kp (b_is_sample_row T) .nil pass0 (pa_cons (pv 5) pa_nil))) (pw_or1 (pt_cmpR op_ne (pe_callB call_len rfl T.n_len (by decide +kernel) (pa_cons (pe_ix ix_tup (pv 4) pe_int (fun _ _ => rfl)) pa_nil)) (pe_callB call_len rfl T.n_len (by decide +kernel) (pa_cons (pe_ix ix_tup (pv 5) pe_int (fun _ _ => rfl)) pa_nil)) (nomark _)))))))
      (pss_one (ps_ret (pv 3)))
      pss_nil)
    (pss_cons (ps_set (i := 6) sc_Book_differ.nd rfl (by first | exact Or.inl rfl | exact Or.inr rfl) (pe_ix ix_list (pe_lc (own := [("at", 7)]) (g := gName 7) (rfl) sc_Book_differ.nd (pi_range1 rfl T.n_range (pa_cons (pe_callB call_len rfl T.n_len (by decide +kernel) (pa_cons (pe_ix ix_tup (pv 4) pe_int (fun _ _ => rfl)) pa_nil)) pa_nil)) (blkOk_by (own := [("at", 7)]) (N := ["self", "one", "other", "slots", "left", "right", "slot", "at"]) (sc := defScope s_Book_differ) (by decide +kernel)) (fun _ _ _ _ _ => (pg_name (i := 7) sc_Book_differ.nd rfl (by first | exact Or.inl rfl | exact Or.inr rfl))) (fun _ _ _ _ _ => (pts_one (pt_cmpR op_ne (pe_ix (r := rIxT K) ix_tup (pe_ix (r := rIxT K) ix_tup (pv 4) pe_int (fun _ _ => rfl)) (pv 7) (fun _ _ => rfl)) (pe_ix (r := rIxT K) ix_tup (pe_ix (r := rIxT K) ix_tup (pv 5) pe_int (fun _ _ => rfl)) (pv 7) (fun _ _ => rfl)) (nomark _)))) (fun _ _ _ _ _ => (pv 7))) pe_int (fun _ _ => rfl)))
    (pss_cons (ps_expr (pe_bm PySem.F.plainAttrs_list PySem.F.slot_list_append PySem.F.type_list_append mt_append (pv 3) (pa_cons (pv 6) pa_nil)))
    (pss_one (ps_par (i := 1) (j := 2) (by rfl) sc_Book_differ.nd rfl rfl (by decide) rfl rfl (pa_cons (pe_ix ix_tup (pe_ix ix_tup (pv 4) pe_int (fun _ _ => rfl)) (pv 6) (fun _ _ => rfl)) (pa_cons (pe_ix ix_tup (pe_ix ix_tup (pv 5) pe_int (fun _ _ => rfl)) (pv 6) (fun _ _ => rfl)) pa_nil)) (by rfl))))))))))))), ?_⟩
  · obtain ⟨p, l, d, xs, x, y, rfl, _⟩ := h; rfl
  · obtain ⟨p, l, d, xs, x, y, rfl, B, hx, hy, q⟩ := h
    obtain ⟨dx, hp⟩ := B.ins
    have big := B.big
    refine ⟨_, rfl, _, _, _, rfl, hp, rfl, _, rfl, p, l, d, _, x, rfl, ⟨dx, hp⟩, B.lst, by rw [List.length_map]; exact hx, ?_⟩
    refine ⟨_, rfl, _, _, _, rfl, hp, rfl, _, rfl, p, l, d, _, y, rfl, ⟨dx, hp⟩, B.lst, by rw [List.length_map]; exact hy, ?_⟩
    refine ⟨_, rfl, _, rfl, rfl, _, rfl, ?_⟩
    rcases q with ⟨rfl, q⟩ | ⟨j, rfl, rfl, pr, q⟩
    · rw [decide_eq_true rfl]
      exact iteT q
    · rw [decide_eq_false (show ¬ V.int ((2 * j : Nat) : Int) = V.int ((2 * j + 1 : Nat) : Int) from fun z => by have := V.int.inj z; omega)]
      refine iteF ⟨by show 0 ≤ sizeLine; decide, fun e he => ?_⟩
      have sE : ∀ x, Same H (upd H e x) := fun x => upd_same_new he
      have rH : ∀ {c o}, H c = some o → c ≠ e := fun {c o} h => ne_of_none h he
      refine ⟨fun k σ' H' => (∃ i o1 o2 o3 o4, k + i = j ∧ σ' = [some (.ref p), some (.int (2 * k : Nat)), some (.int (2 * k + 1 : Nat)), some (.ref e), o1, o2, o3, o4] ∧ H' e = some (.lst (List.replicate i (.int 0)))) ∧ Same H H',
        ⟨j, ⟨0, _, _, _, _, rfl, rfl, upd_same⟩, sE _⟩, fun k σ' H' h => ?_⟩
      obtain ⟨⟨i, o1, o2, o3, o4, hki, rfl, hE⟩, s1⟩ := h
      obtain ⟨ya, ba, a1, a2, a3, a4⟩ := row_of B (show 2 * k < xs.length by omega)
      obtain ⟨yb, bb, b1, b2, b3, b4⟩ := row_of B (show 2 * k + 1 < xs.length by omega)
      obtain ⟨p0, p1⟩ := pr k _ _ a2 b2
      refine ⟨true, rfl, iteT ⟨fun σ' H' => (∃ k', k = k' + 1 ∧ ∃ i o1 o2 o3 o4, k' + i = j ∧ σ' = [some (.ref p), some (.int (2 * k' : Nat)), some (.int (2 * k' + 1 : Nat)), some (.ref e), o1, o2, o3, o4] ∧ H' e = some (.lst (List.replicate i (.int 0)))) ∧ Same H H',
        fun σ' H' h => ?_, ?_⟩⟩
      · obtain ⟨⟨k', rfl, h⟩, s⟩ := h
        exact ⟨k', Nat.lt_succ_self _, h, s⟩
      · refine ⟨_, rfl, _, _, _, _, _, rfl, s1 _ _ hp, T.c_Book, T.a_Book_held, rfl, _, rfl, _, _, _, _, rfl, rfl, SqL.of (s1 _ _ B.lst), atI_nat a1, ?_⟩
        refine ⟨_, rfl, _, _, _, _, _, rfl, s1 _ _ hp, T.c_Book, T.a_Book_held, rfl, _, rfl, _, _, _, _, rfl, rfl, SqL.of (s1 _ _ B.lst), atI_nat b1, ?_⟩
        refine ⟨by show 2 ≤ sizeLine; decide, fun u hu => ?_⟩
        have sU := upd_same_new (o := .tup [.ref ya.1, .ref yb.1]) hu
        have s2 := s1.trans sU
        have hE2 := sU _ _ hE
        refine ⟨_, _, rfl, SqT.of upd_same, rfl, _, _, rfl, _, _, rfl, rfl, ?_⟩
        have ha2 := s2 _ _ a3
        have hb2 := s2 _ _ b3
        have ha4 := s2 _ _ a4
        have hb4 := s2 _ _ b4
        refine ⟨_, rfl, _, _, _, _, rfl, rfl, SqT.of ha2, atI_nat (j := 0) rfl, ?_⟩
        refine ⟨_, rfl, _, _, _, _, rfl, rfl, SqT.of hb2, atI_nat (j := 0) rfl, ?_⟩
        refine ⟨rfl, _, rfl, ?_⟩
        by_cases k0 : k = 0
        · obtain ⟨ne, _, _⟩ := p0 k0
          rw [decide_eq_false (show ¬ V.str ya.2.1 = V.str yb.2.1 from fun z => ne (V.str.inj z))]
          refine iteT (iteT ⟨_, rfl, ?_⟩)
          have ij : i = j := by omega
          rw [ij] at hE2
          exact q _ e s2 he hE2
        · obtain ⟨k', rfl⟩ : ∃ k', k = k' + 1 := ⟨k - 1, by omega⟩
          obtain ⟨en, m, m1, m3, ea, eb⟩ := p1 k' rfl
          rw [decide_eq_true (show V.str ya.2.1 = V.str yb.2.1 by rw [en])]
          have eaV : ya.2.2.map V.int = List.replicate m (V.int ((2 * k' : Nat) : Int)) := by rw [ea, List.map_replicate]
          have ebV : yb.2.2.map V.int = List.replicate m (V.int ((2 * k' + 1 : Nat) : Int)) := by rw [eb, List.map_replicate]
          rw [eaV] at ha4
          rw [ebV] at hb4
          refine iteF ?_
          refine ⟨_, rfl, _, _, _, _, rfl, ha2, ha4, false, rfl, iteF ?_⟩
          refine ⟨_, rfl, _, _, _, _, rfl, hb2, hb4, false, rfl, iteF ?_⟩
          refine ⟨_, rfl, _, _, _, _, rfl, rfl, SqT.of ha2, atI_nat (j := 1) rfl, _, _, rfl, .inr ⟨_, SqT.of ha4, rfl⟩, ?_⟩
          refine ⟨_, rfl, _, _, _, _, rfl, rfl, SqT.of hb2, atI_nat (j := 1) rfl, _, _, rfl, .inr ⟨_, SqT.of hb4, rfl⟩, ?_⟩
          rw [List.length_replicate, List.length_replicate]
          refine ⟨rfl, _, rfl, ?_⟩
          rw [decide_eq_true (rfl : V.int (m : Nat) = V.int (m : Nat))]
          refine iteF ?_
          refine ⟨_, rfl, _, _, _, _, rfl, rfl, SqT.of ha2, atI_nat (j := 1) rfl, _, _, rfl, .inr ⟨_, SqT.of ha4, rfl⟩, ?_⟩
          rw [List.length_replicate]
          refine ⟨_, rfl, by omega, by omega, fun D hD => ?_⟩
          refine lc_range (lo := 0) (n := (m : Int).toNat) (fun c H4 => Same (upd H' u (.tup [.ref ya.1, .ref yb.1])) H4 ∧ H4 D = some (.lst ((List.range c).map fun z => V.int (0 + (z : Nat))))) ⟨upd_same_new hD, upd_same⟩ (fun c H4 hc h => ?_) fun H4 h => ?_
          · obtain ⟨s4, hD4⟩ := h
            have hcm : c < m := by omega
            have ga : (List.replicate m (V.int ((2 * k' : Nat) : Int)))[c]? = some (V.int ((2 * k' : Nat) : Int)) := by rw [List.getElem?_replicate, if_pos hcm]
            have gb : (List.replicate m (V.int ((2 * k' + 1 : Nat) : Int)))[c]? = some (V.int ((2 * k' + 1 : Nat) : Int)) := by rw [List.getElem?_replicate, if_pos hcm]
            refine ⟨rfl, ?_⟩
            refine ⟨_, rfl, _, _, _, _, rfl, rfl, SqT.of (s4 _ _ ha2), atI_nat (j := 1) rfl, _, rfl, _, _, _, _, rfl, rfl, SqT.of (s4 _ _ ha4), at_of (Int.zero_add _) ga, ?_⟩
            refine ⟨_, rfl, _, _, _, _, rfl, rfl, SqT.of (s4 _ _ hb2), atI_nat (j := 1) rfl, _, rfl, _, _, _, _, rfl, rfl, SqT.of (s4 _ _ hb4), at_of (Int.zero_add _) gb, ?_⟩
            refine ⟨rfl, _, rfl, ?_⟩
            rw [decide_eq_false (show ¬ V.int ((2 * k' : Nat) : Int) = V.int ((2 * k' + 1 : Nat) : Int) from fun z => by have := V.int.inj z; omega)]
            refine iteT ⟨_, rfl, _, hD4, ?_, fun b o h => ?_, ?_⟩
            · rw [List.length_map, List.length_range]; exact small1000 (by omega)
            · rw [upd_ne (ne_of_none h hD)]; exact s4 _ _ h
            · rw [upd_same, List.range_succ, List.map_append]; rfl
          · obtain ⟨s4, hD4⟩ := h
            have g0 : ((List.range (m : Int).toNat).map fun z => V.int (0 + ((z : Nat) : Int)))[0]? = some (V.int (0 + ((0 : Nat) : Int))) := by
              rw [List.getElem?_map, List.getElem?_range (by omega)]
              rfl
            refine ⟨_, _, _, _, rfl, rfl, SqL.of hD4, atI_nat (j := 0) g0, ?_⟩
            have hE4 := s4 _ _ hE2
            refine ⟨_, rfl, .inl ⟨rfl, _, SqL.of hE4⟩, _, rfl, _, _, _, rfl, rfl, hE4, ?_, ?_⟩
            · rw [List.length_replicate]; exact small1000' (by omega)
            have eD : ∀ {c o}, H c = some o → H4 c = some o := fun {c o} h => s4 _ _ (s2 _ _ h)
            have uk : ∀ {c o} {x : HO}, H4 c = some (.tup o) → upd H4 e x c = some (.tup o) := fun {c o x} h => by rw [upd_ne (fun z => by rw [z, hE4] at h; cases Option.some.inj h)]; exact h
            have ga : (List.replicate m (V.int ((2 * k' : Nat) : Int)))[0]? = some (V.int ((2 * k' : Nat) : Int)) := by rw [List.getElem?_replicate, if_pos (by omega)]
            have gb : (List.replicate m (V.int ((2 * k' + 1 : Nat) : Int)))[0]? = some (V.int ((2 * k' + 1 : Nat) : Int)) := by rw [List.getElem?_replicate, if_pos (by omega)]
            refine ⟨_, rfl, _, _, _, _, rfl, rfl, SqT.of (uk (s4 _ _ ha2)), atI_nat (j := 1) rfl, _, rfl, _, _, _, _, rfl, rfl, SqT.of (uk (s4 _ _ ha4)), at_of rfl ga, ?_⟩
            refine ⟨_, rfl, _, _, _, _, rfl, rfl, SqT.of (uk (s4 _ _ hb2)), atI_nat (j := 1) rfl, _, rfl, _, _, _, _, rfl, rfl, SqT.of (uk (s4 _ _ hb4)), at_of rfl gb, ?_⟩
            refine ⟨_, _, rfl, ⟨k', rfl, i + 1, _, _, _, _, by omega, rfl, ?_⟩, fun c o h => ?_⟩
            · rw [upd_same, List.replicate_succ']; rfl
            · rw [upd_ne (rH h)]; exact eD h
/-! a method that may raise, called in a try -/
def tMethX (C : Addr) (m : Str) (sp : Sp) (E : L2.St → XK) (to : TE) (ta : TA) : TE := fun σ H Q => to σ H fun x H1 => ∃ (a dx : Addr) (fs : List (Str × V)), x = .ref a ∧ H1 a = some (.ins C dx fs) ∧ fs.lookup m = none ∧ ta σ H1 fun vs H2 => sp (x :: vs) H2 Q (E σ)
section
variable {X : Cx} {CX : CXT} {lv : Nat} {g C : Addr} {fd : FuncData} {ps : List Str} {sp : Sp} {E : L2.St → XK} {m : Str} {po pa : Pos} {x o : Expr} {xs : List Expr} {to : TE} {ta : TA} {pl : Sem Bool}
theorem pe_methX (ho : PE X o to) (cl : Cls X.K C) (M : Meth X.K C m g) (G : FnOk X.prog X.w X.K X.mg X.base CX lv g fd ps sp) (room : Room lv X.A) (bi : Binds X.K fd ps []) (out : ∀ σ, PassesAt CX X σ (E σ)) (hargs : PA X (x :: xs) ta)
    (h1 : starEach (x :: xs) X.env = (false, eval x X.env) :: starEach xs X.env := by rfl) (h2 : (backTo po (starEach xs X.env)).any (·.1) = false := by rfl)
    (h3 : eval (.Call (.Attribute o m pa) (x :: xs) [] po) X.env = (do
      let v ← eval o X.env
      standAt pa.atName
      let (fn, self) ← holding [v] (getMethod v m pl)
      callWith po fn self (backTo po (starEach (x :: xs) X.env)) (backToKw po (keywordEach [] X.env))) := by rfl) :
    PE X (.Call (.Attribute o m pa) (x :: xs) [] po) (tMethX C m sp E to ta) := by
  refine ⟨fun pn t σ H Q I q => ?_⟩
  refine PySem.W.methodCall_KW (pl := pl) (thn (ho.run pn t σ H _ I q) fun v1 t1 ⟨y, H1, I1, ry, a, dx, fs, ey, ea, hl, q1⟩ => ?_) h3
  subst ey
  cases ry
  refine getmeth_ok I1 ea cl M hl (PySem.W.callWith_K (first := [.ref a]) (h₀ := X.base) I.ok.mod.kin M.kp ?_ h1 h2)
  refine thn (hargs.run po pn t1 σ H1 _ I1 q1) fun ws t2 ⟨ys, H2, I2, rs, q2⟩ => ⟨I2.kIn, ?_⟩
  exact run_fnS (us := .ref a :: ws) (vs := .ref a :: ys) G room bi (out σ) I2 (.cons rfl rs) q2
end
/-! the law's question whether a text is too long -/
theorem sc__law_is_long : FnScope ["_law_book", "_law_number", "e"] ["_law_book", "_law_number"] (defScope s__law_is_long) := ⟨rfl, rfl, rfl, by decide +kernel, rfl, by decide +kernel, by decide +kernel⟩
theorem b__law_is_long (T : Tx K mg) : Binds K (NX.fdOf K ("_law_is_long", none)) ["_law_book", "_law_number"] [] := T.f__law_is_long.bindsN fun _ _ _ _ _ _ us hl => match us, hl with | [_, _], _ => rfl
def spLong (P : Program) (w : World) (K : PySem.W.Frag) : Sp := fun vs H Q E => ∃ (p l d : Addr) (xs : List (Addr × Rw)) (s n : Nat), vs = [.ref p, .int n] ∧ BookAt P w (He.ga K "Book") H p l d xs ∧ (s = 1 ∨ s = 2) ∧ Ch s (xs.map (·.2)) ∧ n < xs.length ∧ 300 ≤ n / s ∧
  ∀ H', Same H H' → Q (.bl true) H'
theorem ok__law_is_long (T : Tx K mg) : FnOk P w K mg base CX0 7 (He.ga K "_law_is_long") (NX.fdOf K ("_law_is_long", none)) ["_law_book", "_law_number"] (spLong P w K) := by
  refine T.f__law_is_long.ok sc__law_is_long (fun vs H Q E h => ?_) fun cdv A outer s H vs Q E hr h => ⟨_, PSs.nox (pss_cons (ps_try_as (i := 2) (tb := fun W => tDrop (tMethX (He.ga K "Book") "text" (spText P w K) (WE W) (tVar 0) (tCons (tVar 1) tNil))) (ts := fun a cls d => tRet (tOp rEq (tXf a cls d (He.ga K "TooLong") "number" (tVar 2)) (tVar 1))) (Wout := fun _ _ _ _ => False) rfl rfl sc__law_is_long.nd rfl rfl ⟨rfl, by decide, .inl T.g_TooLong⟩ takes0 (fun W pn xe tk _ => pss_one (ps_expr (pe_methX (pv 0) T.c_Book T.m_Book_text (ok_Book_text T) (hr.mono (by decide)) (b_Book_text T) (fun σ => passAt tk σ) (pa_cons (pv 1) pa_nil)))) (fun a oe cls d pn hz hf => pss_one (ps_ret (pe_cmpR op_eq (pe_xf T.xf_TooLong T.a_TooLong_number hz hf (pv 2)) (pv 1) (nomark _)))))
  (pss_one (ps_ret pe_bl))), ?_⟩
  · obtain ⟨p, l, d, xs, s, n, rfl, _⟩ := h; rfl
  · obtain ⟨p, l, d, xs, t, n, rfl, B, ht, hc, hn, h3, q⟩ := h
    obtain ⟨dx, hp⟩ := B.ins
    refine ⟨_, rfl, _, _, _, rfl, hp, rfl, _, rfl, p, l, d, xs, t, n, rfl, B, ht, hc, hn, h3, fun H1 e s1 he => ?_⟩
    refine ⟨true, T.e_TooLong, fun _ a ha => ?_, fun z => Bool.noConfusion z⟩
    refine ⟨_, rfl, rfl, rfl, e, _, _, rfl, he, rfl, _, rfl, rfl, ?_⟩
    show Q (.bl (decide (V.int (n : Nat) = V.int (n : Nat)))) H1
    rw [decide_eq_true rfl]
    exact q H1 s1
end
end T59
namespace T59
open PySem PySem.Spec PyProof.Rows L2 NX
/-! k59: the law's helpers. -/
section
variable {P : Program} {w : World} {K : PySem.W.Frag} {mg : Str → Option Value} {base : Heap}
theorem sc__law_cell : FnScope ["_law_script", "_law_k"] ["_law_script", "_law_k"] (defScope s__law_cell) := ⟨rfl, rfl, rfl, by decide +kernel, rfl, by decide +kernel, by decide +kernel⟩
theorem b__law_cell (T : Tx K mg) : Binds K (NX.fdOf K ("_law_cell", none)) ["_law_script", "_law_k"] [] := T.f__law_cell.bindsN fun _ _ _ _ _ _ us hl => match us, hl with | [_, _], _ => rfl
def spCell (K : PySem.W.Frag) : Sp := fun vs H Q _ => ∃ (a : Addr) (ns : List Int) (k : Nat), vs = [.ref a, .int k] ∧ SqL K H a (ns.map V.int) ∧ ∀ z, Q (.int z) H
theorem ok__law_cell (T : Tx K mg) : FnOk P w K mg base CX0 1 (He.ga K "_law_cell") (NX.fdOf K ("_law_cell", none)) ["_law_script", "_law_k"] (spCell K) := by
  refine T.f__law_cell.ok sc__law_cell (fun vs H Q E h => ?_) fun cdv A outer s H vs Q E hr h => ⟨_, PSs.nox (pss_cons (ps_if (pt_cmpR op_lt (pv 1) (pe_callB call_len rfl T.n_len (by decide +kernel) (pa_cons (pv 0) pa_nil)) (nomark _))
    (pss_one (ps_ret (pe_ix ix_list (pv 0) (pv 1) (fun _ _ => rfl))))
    pss_nil)
  (pss_one (ps_ret (pe_op op_add (pe_op op_mul pe_int (pv 1)) pe_int)))), ?_⟩
  · obtain ⟨a, ns, k, rfl, _⟩ := h; rfl
  · obtain ⟨a, ns, k, rfl, hS, q⟩ := h
    refine ⟨_, rfl, _, rfl, _, _, rfl, .inl ⟨_, hS, rfl⟩, _, _, rfl, rfl, _, rfl, ?_⟩
    by_cases hk : (k : Int) < ((ns.map V.int).length : Nat)
    · rw [decide_eq_true hk]
      have hk2 : k < ns.length := by rw [List.length_map] at hk; omega
      refine iteT ⟨_, rfl, _, rfl, _, _, _, _, rfl, rfl, hS, atI_nat (j := k) (v := .int ns[k]) (by rw [List.getElem?_map, List.getElem?_eq_getElem hk2]; rfl), q _⟩
    · rw [decide_eq_false hk]
      exact iteF ⟨_, rfl, _, _, rfl, rfl, .inl ⟨by decide, by decide⟩, _, _, rfl, rfl, q _⟩
theorem sc__law_box : FnScope ["_law_cell_here"] ["_law_cell_here"] (defScope s__law_box) := ⟨rfl, rfl, rfl, by decide +kernel, rfl, by decide +kernel, by decide +kernel⟩
theorem b__law_box (T : Tx K mg) : Binds K (NX.fdOf K ("_law_box", none)) ["_law_cell_here"] [] := T.f__law_box.bindsN fun _ _ _ _ _ _ us hl => match us, hl with | [_], _ => rfl
def spBox : Sp := fun vs H Q _ => ∃ z : Int, vs = [.int z] ∧ ∀ p (x0 x1 : Int), H p = none → 0 ≤ x0 → 0 ≤ x1 → x1 < 2147483629 → Q (.ref p) (upd H p (.lst [.int x0, .int x1, .int 0]))
theorem ok__law_box (T : Tx K mg) : FnOk P w K mg base CX0 1 (He.ga K "_law_box") (NX.fdOf K ("_law_box", none)) ["_law_cell_here"] spBox := by
  refine T.f__law_box.ok sc__law_box (fun vs H Q E h => ?_) fun cdv A outer s H vs Q E hr h => ⟨_, PSs.nox (pss_one (ps_ret (pe_lst (pa_cons (pe_callB (call_max2 rfl) rfl T.n_max (by decide +kernel) (pa_cons pe_int (pa_cons (pe_op op_sub (pv 0) (pe_op op_pow pe_int pe_int)) pa_nil))) (pa_cons (pe_op op_mod (pv 0) pe_int) (pa_cons pe_int pa_nil)))))), ?_⟩
  · obtain ⟨z, rfl, _⟩ := h; rfl
  · obtain ⟨z, rfl, q⟩ := h
    refine ⟨_, rfl, _, _, rfl, rfl, ⟨by decide, by decide, by decide⟩, _, _, rfl, rfl, _, _, rfl, ?_⟩
    refine ⟨_, rfl, _, _, rfl, rfl, by show (0 : Int) < 2147483629; decide, by show 3 ≤ sizeLine; decide, fun p hp => ?_⟩
    refine q p _ _ hp ?_ (Int.emod_nonneg _ (by decide)) (Int.emod_lt_of_pos _ (by decide))
    split <;> omega
theorem sc__law_take : FnScope ["_law_box_here", "_law_many", "_law_digit", "_law_mixed"] ["_law_box_here", "_law_many"] (defScope s__law_take) := ⟨rfl, rfl, rfl, by decide +kernel, rfl, by decide +kernel, by decide +kernel⟩
theorem b__law_take (T : Tx K mg) : Binds K (NX.fdOf K ("_law_take", none)) ["_law_box_here", "_law_many"] [] := T.f__law_take.bindsN fun _ _ _ _ _ _ us hl => match us, hl with | [_, _], _ => rfl
def spTake : Sp := fun vs H Q _ => ∃ (b : Addr) (m : Nat) (x0 x1 x2 : Int), vs = [.ref b, .int m] ∧ H b = some (.lst [.int x0, .int x1, .int x2]) ∧ 0 < m ∧ m < 2000 ∧ 0 ≤ x0 ∧ 0 ≤ x1 ∧ x1 < 2147483629 ∧ 0 ≤ x2 ∧ x2 < 1000000 ∧
  ∀ (t : Nat) (y0 y2 : Int), t < m → 0 ≤ y0 → 0 ≤ y2 → y2 ≤ x2 + 1 → Q (.int t) (upd H b (.lst [.int y0, .int x1, .int y2]))
theorem mod_nat {z m : Int} (h : 0 < m) : ∃ t : Nat, z % m = (t : Int) ∧ (t : Int) < m :=
  ⟨(z % m).toNat, by have := Int.emod_nonneg z (show m ≠ 0 by omega); omega, by have := Int.emod_nonneg z (show m ≠ 0 by omega); have := Int.emod_lt_of_pos z h; omega⟩
theorem ok__law_take (T : Tx K mg) : FnOk P w K mg base CX0 1 (He.ga K "_law_take") (NX.fdOf K ("_law_take", none)) ["_law_box_here", "_law_many"] spTake := by
  refine T.f__law_take.ok sc__law_take (fun vs H Q E h => ?_) fun cdv A outer s H vs Q E hr h => ⟨_, PSs.nox (pss_cons (ps_if (pt_cmpR op_gt (pe_ix ix_list (pv 0) pe_int (fun _ _ => rfl)) pe_int (nomark _))
    (pss_cons (ps_set (i := 2) sc__law_take.nd rfl (by first | exact Or.inl rfl | exact Or.inr rfl) (pe_op op_mod (pe_ix ix_list (pv 0) pe_int (fun _ _ => rfl)) (pv 1)))
    (pss_cons (ps_asg (pe_op op_fdivN (pe_ix ix_list (pv 0) pe_int (fun _ _ => rfl)) (pv 1)) (pg_sub (pv 0) pe_int set_list))
    (pss_one (ps_ret (pv 2)))))
    pss_nil)
  (pss_cons (ps_asg (pe_op op_add (pe_ix ix_list (pv 0) pe_int (fun _ _ => rfl)) pe_int) (pg_sub (pv 0) pe_int set_list))
  (pss_cons (ps_set (i := 3) sc__law_take.nd rfl (by first | exact Or.inl rfl | exact Or.inr rfl) (pe_op op_mod (pe_op op_pow (pe_op op_add (pe_op op_add (pe_ix ix_list (pv 0) pe_int (fun _ _ => rfl)) (pe_op op_mul pe_int (pe_ix ix_list (pv 0) pe_int (fun _ _ => rfl)))) pe_int) pe_int) pe_int))
  (pss_cons (ps_set (i := 3) sc__law_take.nd rfl (by first | exact Or.inl rfl | exact Or.inr rfl) (pe_op op_mod (pe_op op_pow (pe_op op_add (pv 3) (pe_op op_mul pe_int (pe_ix ix_list (pv 0) pe_int (fun _ _ => rfl)))) pe_int) pe_int))
  (pss_one (ps_ret (pe_op op_mod (pe_op op_fdiv (pv 3) pe_int) (pv 1)))))))), ?_⟩
  · obtain ⟨b, m, x0, x1, x2, rfl, _⟩ := h; rfl
  · obtain ⟨b, m, x0, x1, x2, rfl, hb, m0, m1, h0, h1, h11, h2, h21, q⟩ := h
    refine ⟨_, rfl, _, _, _, _, rfl, rfl, SqL.of hb, atI_nat (j := 0) rfl, _, _, rfl, rfl, _, rfl, ?_⟩
    by_cases hz : 0 < x0
    · rw [decide_eq_true hz]
      obtain ⟨t, et, ht⟩ := mod_nat (z := x0) (m := m) (by omega)
      refine iteT ⟨_, rfl, _, _, _, _, rfl, rfl, SqL.of hb, atI_nat (j := 0) rfl, _, rfl, _, _, rfl, rfl, by show (0 : Int) < m; omega, ?_⟩
      refine ⟨_, rfl, _, _, _, _, rfl, rfl, SqL.of hb, atI_nat (j := 0) rfl, _, rfl, _, _, rfl, rfl, ⟨by omega, by omega⟩, ?_⟩
      refine ⟨_, rfl, _, _, _, 0, rfl, rfl, hb, rfl, ?_⟩
      refine ⟨_, rfl, ?_⟩
      have := q t (x0.fdiv m) x2 (by omega) (Int.fdiv_nonneg h0 (by omega)) h2 (by omega)
      rw [← et] at this
      exact this
    · rw [decide_eq_false hz]
      refine iteF ⟨_, rfl, _, _, _, _, rfl, rfl, SqL.of hb, atI_nat (j := 2) rfl, _, _, rfl, rfl, _, rfl, _, _, _, 2, rfl, rfl, hb, rfl, ?_⟩
      have hb2 : upd H b (.lst ([V.int x0, V.int x1, V.int x2].set 2 (.int (x2 + 1)))) b = some (.lst [.int x0, .int x1, .int (x2 + 1)]) := upd_same
      refine ⟨_, rfl, _, _, _, _, rfl, rfl, SqL.of hb2, atI_nat (j := 1) rfl, _, rfl, _, _, _, _, rfl, rfl, SqL.of hb2, atI_nat (j := 2) rfl, _, _, rfl, rfl, .inl ⟨by decide, by decide⟩, _, _, rfl, rfl, _, _, rfl, rfl, _, _, rfl, rfl, ⟨by decide, by decide, ?_⟩, _, _, rfl, rfl, by show (0 : Int) < 2147483647; decide, ?_⟩
      · omega
      obtain ⟨u, eu, hu⟩ := mod_nat (z := (x1 + 15488559 * (x2 + 1) + 1483) ^ (5 : Int).toNat) (m := 2147483647) (by decide)
      refine ⟨_, rfl, _, rfl, _, _, _, _, rfl, rfl, SqL.of hb2, atI_nat (j := 2) rfl, _, _, rfl, rfl, .inl ⟨by decide, by decide⟩, _, _, rfl, rfl, _, _, rfl, rfl, ⟨by decide, by decide, ?_⟩, _, _, rfl, rfl, by show (0 : Int) < 2147483587; decide, ?_⟩
      · rw [eu]; omega
      refine ⟨_, rfl, _, _, rfl, rfl, ⟨by decide, by decide⟩, _, rfl, _, _, rfl, rfl, by show (0 : Int) < m; omega, ?_⟩
      obtain ⟨t, et, ht⟩ := mod_nat (z := ((x1 + 15488559 * (x2 + 1) + 1483) ^ (5 : Int).toNat % 2147483647 + 104711 * (x2 + 1)) ^ (3 : Int).toNat % 2147483587 / 32) (m := m) (by omega)
      have := q t x0 (x2 + 1) (by omega) h0 (by omega) (by omega)
      rw [← et] at this
      exact this
end
end T59
namespace T59
open PySem PySem.Spec PyProof.Rows L2 NX
/-! k59: the law's chains, in plain Lean. -/
def WOk (ws : List (Str × Nat)) : Prop := ∀ x ∈ ws, (x.1 = "f" ∨ x.1 = "g" ∨ x.1 = "k7") ∧ 1 ≤ x.2 ∧ x.2 ≤ 3
def szW (ws : List (Str × Nat)) : Int := ws.foldl (fun z x => 1 + x.2 * z) 1
/-- s chains of one form, that begin with the names tp 0 .. -/
structure Cr (s : Nat) (tp : Nat → Str) (ws : List (Str × Nat)) (rs : List Rw) : Prop where
  len : rs.length = s * (ws.length + 1)
  top : ∀ i, i < s → rs[i]? = some (tp i, [])
  nxt : ∀ k x i, ws[k]? = some x → i < s → rs[s * (k + 1) + i]? = some (x.1, List.replicate x.2 ((s * k + i : Nat) : Int))
/-- each place: of the tops, or of the turns -/
theorem Cr.place {s : Nat} {tp : Nat → Str} {ws : List (Str × Nat)} {rs : List Rw} (c : Cr s tp ws rs) (hs : s = 1 ∨ s = 2) {i : Nat} {r : Rw} (h : rs[i]? = some r) : (i < s ∧ r = (tp i, [])) ∨ ∃ k x j, ws[k]? = some x ∧ j < s ∧ i = s * (k + 1) + j ∧ r = (x.1, List.replicate x.2 ((s * k + j : Nat) : Int)) := by
  have hi : i < rs.length := (List.getElem?_eq_some_iff.mp h).1
  rw [c.len] at hi
  by_cases h0 : i < s
  · rw [c.top i h0] at h
    exact .inl ⟨h0, (Option.some.inj h).symm⟩
  · have hk : (i - s) / s < ws.length := by rcases hs with rfl | rfl <;> omega
    have hx : ws[(i - s) / s]? = some ws[(i - s) / s] := List.getElem?_eq_getElem hk
    have hj : (i - s) % s < s := Nat.mod_lt _ (by omega)
    have ei : i = s * ((i - s) / s + 1) + (i - s) % s := by rcases hs with rfl | rfl <;> omega
    have := c.nxt _ _ _ hx hj
    rw [← ei, h] at this
    exact .inr ⟨_, _, _, hx, hj, ei, Option.some.inj this⟩
section
variable {s : Nat} {tp : Nat → Str} {ws : List (Str × Nat)} {rs : List Rw}
theorem Cr.ch (c : Cr s tp ws rs) (hs : s = 1 ∨ s = 2) (hw : WOk ws) : Ch s rs := fun i r h => by
  rcases c.place hs h with ⟨h0, rfl⟩ | ⟨k, x, j, hx, hj, ei, rfl⟩
  · exact ⟨fun _ => rfl, fun z => by omega⟩
  · obtain ⟨_, w1, w3⟩ := hw x (List.mem_of_getElem? hx)
    refine ⟨fun z => ?_, fun _ => ⟨x.2, w1, w3, ?_⟩⟩
    · rcases hs with rfl | rfl <;> omega
    · have : i - s = s * k + j := by rcases hs with rfl | rfl <;> omega
      rw [this]
theorem Cr.sy (c : Cr s tp ws rs) (hs : s = 1 ∨ s = 2) (hw : WOk ws) (ht : ∀ i, i < s → tp i = "a" ∨ tp i = "b") : Sy rs := fun i r h => by
  rcases c.place hs h with ⟨h0, rfl⟩ | ⟨k, x, j, hx, hj, ei, rfl⟩
  · exact ⟨fun _ => ht i h0, fun z => absurd rfl z⟩
  · obtain ⟨wn, w1, w3⟩ := hw x (List.mem_of_getElem? hx)
    refine ⟨fun z => ?_, fun _ => wn⟩
    have := congrArg List.length z
    rw [List.length_replicate, List.length_nil] at this
    omega
theorem Cr.nodup (c : Cr s tp ws rs) (hs : s = 1 ∨ s = 2) (hw : WOk ws) (ht : ∀ i j, i < s → j < s → tp i = tp j → i = j) : rs.Nodup := by
  rw [List.Nodup, List.pairwise_iff_getElem]
  intro i j hi hj hij e
  have h1 := c.place hs (List.getElem?_eq_getElem hi)
  have h2 := c.place hs (List.getElem?_eq_getElem hj)
  rw [e] at h1
  rcases h1 with ⟨a0, ea⟩ | ⟨k, x, u, hx, hu, ei, ea⟩
  · rcases h2 with ⟨b0, eb⟩ | ⟨k2, x2, u2, hx2, hu2, ej, eb⟩
    · rw [ea] at eb
      have := ht i j a0 b0 (congrArg Prod.fst eb)
      omega
    · rw [ea] at eb
      have := congrArg (fun z : Rw => z.2.length) eb
      simp only [List.length_replicate, List.length_nil] at this
      have := (hw x2 (List.mem_of_getElem? hx2)).2.1
      omega
  · have w1 := (hw x (List.mem_of_getElem? hx)).2.1
    rcases h2 with ⟨b0, eb⟩ | ⟨k2, x2, u2, hx2, hu2, ej, eb⟩
    · rw [ea] at eb
      have := congrArg (fun z : Rw => z.2.length) eb
      simp only [List.length_replicate, List.length_nil] at this
      omega
    · rw [ea] at eb
      have w2 := (hw x2 (List.mem_of_getElem? hx2)).2.1
      have e2 := congrArg (fun z : Rw => z.2) eb
      simp only at e2
      have e3 : (List.replicate x.2 ((s * k + u : Nat) : Int))[0]? = (List.replicate x2.2 ((s * k2 + u2 : Nat) : Int))[0]? := by rw [e2]
      rw [List.getElem?_replicate, List.getElem?_replicate, if_pos (show 0 < x.2 from w1), if_pos (show 0 < x2.2 from w2)] at e3
      have e4 := Int.ofNat.inj (Option.some.inj e3)
      rcases hs with rfl | rfl <;> omega
theorem Cr.good (c : Cr s tp ws rs) (hs : s = 1 ∨ s = 2) (hw : WOk ws) (ht : ∀ i, i < s → tp i = "a" ∨ tp i = "b") (hi : ∀ i j, i < s → j < s → tp i = tp j → i = j) (hl : ws.length ≤ 1900) : GoodRows rs := by
  refine ⟨c.nodup hs hw hi, ?_, fun i r h => ?_⟩
  · rw [c.len]; rcases hs with rfl | rfl <;> omega
  · rcases c.place hs h with ⟨h0, rfl⟩ | ⟨k, x, j, hx, hj, ei, rfl⟩
    · refine ⟨?_, Nat.zero_le _, fun n hn => by cases hn⟩
      rcases ht i h0 with e | e
      · exact .inl e
      · exact .inr (.inl e)
    · obtain ⟨wn, w1, w3⟩ := hw x (List.mem_of_getElem? hx)
      refine ⟨.inr (.inr wn), by rw [List.length_replicate]; exact w3, fun n hn => ?_⟩
      rw [List.eq_of_mem_replicate hn]
      rcases hs with rfl | rfl <;> omega
theorem Cr.pr (c : Cr 2 tp ws rs) (hw : WOk ws) (ht : tp 0 ≠ tp 1) : Pr rs := fun j a b ha hb => by
  refine ⟨fun z => ?_, fun i z => ?_⟩
  · subst z
    rw [c.top 0 (by decide)] at ha
    rw [show 2 * 0 + 1 = 1 from rfl, c.top 1 (by decide)] at hb
    obtain rfl := Option.some.inj ha
    obtain rfl := Option.some.inj hb
    exact ⟨ht, rfl, rfl⟩
  · subst z
    have hi := (List.getElem?_eq_some_iff.mp hb).1
    rw [c.len] at hi
    have hk : i < ws.length := by omega
    have hx : ws[i]? = some ws[i] := List.getElem?_eq_getElem hk
    have h1 := c.nxt _ _ 0 hx (by decide)
    have h2 := c.nxt _ _ 1 hx (by decide)
    rw [Nat.add_zero, ha] at h1
    rw [hb] at h2
    obtain rfl := Option.some.inj h1
    obtain rfl := Option.some.inj h2
    obtain ⟨_, w1, w3⟩ := hw _ (List.mem_of_getElem? hx)
    exact ⟨rfl, _, w1, w3, rfl, rfl⟩
/-! the parts of the end of the chain c -/
theorem end_div {m u : Nat} (hs : s = 1 ∨ s = 2) (hu : u < s) : (s * m + u) / s = m := by rcases hs with rfl | rfl <;> omega
theorem end_mod {m u : Nat} (hs : s = 1 ∨ s = 2) (hu : u < s) : (s * m + u) % s = u := by rcases hs with rfl | rfl <;> omega
theorem end_nth {m u j : Nat} (hs : s = 1 ∨ s = 2) (hu : u < s) : nth s (s * m + u) j = s * j + u := by
  unfold nth
  rw [end_mod hs hu, Nat.mul_comm, Nat.add_comm]
theorem Cr.part0 (c : Cr s tp ws rs) (hs : s = 1 ∨ s = 2) {m u : Nat} (hu : u < s) : rs[nth s (s * m + u) 0]? = some (tp u, []) := by
  rw [end_nth hs hu, Nat.mul_zero, Nat.zero_add]
  exact c.top u hu
theorem Cr.part1 (c : Cr s tp ws rs) (hs : s = 1 ∨ s = 2) {m u k : Nat} {x : Str × Nat} (hu : u < s) (hx : ws[k]? = some x) : rs[nth s (s * m + u) (k + 1)]? = some (x.1, List.replicate x.2 ((s * k + u : Nat) : Int)) := by
  rw [end_nth hs hu]
  exact c.nxt k x u hx hu
theorem Cr.szF (c : Cr s tp ws rs) (hs : s = 1 ∨ s = 2) {m u : Nat} (hu : u < s) : ∀ j, j ≤ ws.length → T59.szF s (s * m + u) rs j = szW (ws.take j)
  | 0, _ => rfl
  | j + 1, h => by
    have ih := Cr.szF c hs (m := m) hu j (by omega)
    have hj : j < ws.length := h
    have hx : ws[j]? = some ws[j] := List.getElem?_eq_getElem hj
    have ew : wid s (s * m + u) rs (j + 1) = ws[j].2 := by
      unfold wid
      rw [c.part1 hs hu hx]
      show (List.replicate _ _).length = _
      rw [List.length_replicate]
    show 1 + (wid s (s * m + u) rs (j + 1) : Int) * T59.szF s (s * m + u) rs j = _
    rw [ew, ih, List.take_add_one, hx]
    unfold szW
    rw [List.foldl_append]
    rfl
theorem dpF_eq {n : Nat} : ∀ j, dpF s n rs j = (j : Int) + 1
  | 0 => rfl
  | j + 1 => by
    have ih := dpF_eq (n := n) j
    show 1 + dpF s n rs j = _
    omega
/-- the row that carry makes of the j-th part -/
theorem Cr.crw0 (c : Cr s tp ws rs) (hs : s = 1 ∨ s = 2) {m u p : Nat} (hu : u < s) : crw s (s * m + u) rs 0 p = (tp u, []) := by
  unfold crw sgn wid
  rw [c.part0 hs hu]
  rfl
theorem Cr.crw1 (c : Cr s tp ws rs) (hs : s = 1 ∨ s = 2) {m u p k : Nat} {x : Str × Nat} (hu : u < s) (hx : ws[k]? = some x) : crw s (s * m + u) rs (k + 1) p = (x.1, List.replicate x.2 (p : Int)) := by
  unfold crw sgn wid
  rw [c.part1 hs hu hx]
  show (x.1, List.replicate (List.replicate x.2 ((s * k + u : Nat) : Int)).length (p : Int)) = _
  rw [List.length_replicate]
theorem numOf_at {os : List Rw} (nd : os.Nodup) {i : Nat} {r : Rw} (h : os[i]? = some r) : numOf os r = i := by
  have hm : r ∈ os := List.mem_of_getElem? h
  unfold numOf
  have hlt := List.idxOf_lt_length_of_mem hm
  exact nd_ix nd (by rw [List.getElem?_eq_getElem hlt, List.getElem_idxOf hlt]) h
theorem addR_in {os : List Rw} {r : Rw} (h : r ∈ os) : addR os r = os := if_pos h
theorem addR_new {os : List Rw} {r : Rw} (h : r ∉ os) : addR os r = os ++ [r] := if_neg h
theorem numOf_new {os : List Rw} {r : Rw} (h : r ∉ os) : numOf os r = os.length := List.idxOf_eq_length h
/-- carried into a book that has the chain -/
theorem Cr.found {s2 : Nat} {tp2 : Nat → Str} {os : List Rw} (c : Cr s tp ws rs) (hs : s = 1 ∨ s = 2) (c2 : Cr s2 tp2 ws os) (nd : os.Nodup) {m u u2 : Nat} (hu : u < s) (hu2 : u2 < s2) (et : tp2 u2 = tp u) :
    ∀ j, j ≤ ws.length → cS s (s * m + u) rs os (j + 1) = (os, s2 * j + u2)
  | 0, _ => by
    have e : crw s (s * m + u) rs 0 0 = (tp2 u2, []) := by rw [c.crw0 hs hu, et]
    have h := c2.top u2 hu2
    show (addR os (crw s (s * m + u) rs 0 0), numOf os (crw s (s * m + u) rs 0 0)) = _
    rw [e, addR_in (List.mem_of_getElem? h), numOf_at nd h, Nat.mul_zero, Nat.zero_add]
  | j + 1, hj => by
    have ih := Cr.found c hs c2 nd (m := m) hu hu2 et j (by omega)
    have hx : ws[j]? = some ws[j] := List.getElem?_eq_getElem (by omega)
    show (addR (cS s (s * m + u) rs os (j + 1)).1 (crw s (s * m + u) rs (j + 1) (cS s (s * m + u) rs os (j + 1)).2), numOf (cS s (s * m + u) rs os (j + 1)).1 (crw s (s * m + u) rs (j + 1) (cS s (s * m + u) rs os (j + 1)).2)) = _
    rw [ih]
    have h := c2.nxt j _ u2 hx hu2
    rw [c.crw1 hs hu hx]
    simp only
    rw [addR_in (List.mem_of_getElem? h), numOf_at nd h]
/-- carried into an empty book -/
theorem Cr.made {tp2 : Nat → Str} {os : List Rw} (c : Cr s tp ws rs) (hs : s = 1 ∨ s = 2) (c2 : Cr 1 tp2 ws os) (nd : os.Nodup) {m u : Nat} (hu : u < s) (et : tp2 0 = tp u) :
    ∀ j, j ≤ ws.length → cS s (s * m + u) rs [] (j + 1) = (os.take (j + 1), j)
  | 0, _ => by
    have e : crw s (s * m + u) rs 0 0 = (tp2 0, []) := by rw [c.crw0 hs hu, et]
    have h := c2.top 0 (by decide)
    show (addR [] (crw s (s * m + u) rs 0 0), numOf [] (crw s (s * m + u) rs 0 0)) = _
    rw [e, addR_new (by simp), List.take_add_one, h]
    rfl
  | j + 1, hj => by
    have ih := Cr.made c hs c2 nd (m := m) hu et j (by omega)
    have hx : ws[j]? = some ws[j] := List.getElem?_eq_getElem (by omega)
    show (addR (cS s (s * m + u) rs [] (j + 1)).1 (crw s (s * m + u) rs (j + 1) (cS s (s * m + u) rs [] (j + 1)).2), numOf (cS s (s * m + u) rs [] (j + 1)).1 (crw s (s * m + u) rs (j + 1) (cS s (s * m + u) rs [] (j + 1)).2)) = _
    rw [ih]
    have h := c2.nxt j _ 0 hx (by decide)
    rw [c.crw1 hs hu hx]
    simp only
    have e1 : 1 * j + 0 = j := by omega
    have e2 : 1 * (j + 1) + 0 = j + 1 := by omega
    rw [e1, e2] at h
    have nin := nodup_take nd h
    have hl : (os.take (j + 1)).length = j + 1 := by
      rw [List.length_take, c2.len]
      omega
    rw [addR_new nin, numOf_new nin, hl, List.take_add_one (i := j + 1), h]
    rfl
/-- carried into a book that has another chain: none of it is there -/
theorem Cr.apart {tp2 : Nat → Str} {os : List Rw} (c : Cr s tp ws rs) (hs : s = 1 ∨ s = 2) (c2 : Cr 1 tp2 ws os) (hw : WOk ws) {m u : Nat} (hu : u < s) (et : tp2 0 ≠ tp u) :
    ∀ j, j ≤ ws.length → os.length ≤ (cS s (s * m + u) rs os (j + 1)).2 ∧ ∃ ex, (cS s (s * m + u) rs os (j + 1)).1 = os ++ ex := by
  have step : ∀ (ex : List Rw) (r : Rw), r ∉ os → os.length ≤ numOf (os ++ ex) r ∧ ∃ ex', addR (os ++ ex) r = os ++ ex' := fun ex r h => by
    refine ⟨?_, ?_⟩
    · unfold numOf
      rw [List.idxOf_append, if_neg h]
      exact Nat.le_add_left _ _
    · unfold addR
      split
      · exact ⟨ex, rfl⟩
      · exact ⟨ex ++ [r], by rw [List.append_assoc]⟩
  intro j
  induction j with
  | zero =>
    intro _
    have e : crw s (s * m + u) rs 0 0 = (tp u, []) := c.crw0 hs hu
    have nin : (tp u, []) ∉ os := fun h => by
      obtain ⟨i, hi⟩ := List.getElem?_of_mem h
      rcases c2.place (.inl rfl) hi with ⟨h0, er⟩ | ⟨k, x, v, hx, hv, ei, er⟩
      · have : i = 0 := by omega
        rw [this] at er
        exact et (congrArg Prod.fst er).symm
      · have := congrArg (fun z : Rw => z.2.length) er
        simp only [List.length_replicate, List.length_nil] at this
        have := (hw x (List.mem_of_getElem? hx)).2.1
        omega
    have := step [] _ nin
    rw [List.append_nil] at this
    show os.length ≤ numOf os (crw s (s * m + u) rs 0 0) ∧ ∃ ex, addR os (crw s (s * m + u) rs 0 0) = os ++ ex
    rw [e]
    exact this
  | succ j ih =>
    intro hj
    obtain ⟨h1, ex, h2⟩ := ih (by omega)
    have hx : ws[j]? = some ws[j] := List.getElem?_eq_getElem (by omega)
    have nin : (ws[j].1, List.replicate ws[j].2 ((cS s (s * m + u) rs os (j + 1)).2 : Int)) ∉ os := fun h => by
      obtain ⟨i, hi⟩ := List.getElem?_of_mem h
      have w1 := (hw _ (List.mem_of_getElem? hx)).2.1
      rcases c2.place (.inl rfl) hi with ⟨h0, er⟩ | ⟨k, x, v, hx', hv, ei, er⟩
      · have := congrArg (fun z : Rw => z.2.length) er
        simp only [List.length_replicate, List.length_nil] at this
        omega
      · have w2 := (hw x (List.mem_of_getElem? hx')).2.1
        have e2 := congrArg (fun z : Rw => z.2) er
        simp only at e2
        have e3 := congrArg (fun z : List Int => z[0]?) e2
        simp only [List.getElem?_replicate, if_pos (show 0 < ws[j].2 from w1), if_pos (show 0 < x.2 from w2)] at e3
        have e4 := Int.ofNat.inj (Option.some.inj e3)
        have hk := (List.getElem?_eq_some_iff.mp hx').1
        have := c2.len
        omega
    have := step ex _ nin
    show os.length ≤ numOf (cS s (s * m + u) rs os (j + 1)).1 (crw s (s * m + u) rs (j + 1) (cS s (s * m + u) rs os (j + 1)).2) ∧ ∃ ex, addR (cS s (s * m + u) rs os (j + 1)).1 (crw s (s * m + u) rs (j + 1) (cS s (s * m + u) rs os (j + 1)).2) = os ++ ex
    rw [h2, c.crw1 hs hu hx]
    exact this
end
/-! the two books' rows -/
def twoOf (ws : List (Str × Nat)) : Nat → List Rw
  | 0 => [("a", []), ("b", [])]
  | k + 1 => twoOf ws k ++ [((ws.getD k ("", 0)).1, List.replicate (ws.getD k ("", 0)).2 ((2 * k : Nat) : Int)), ((ws.getD k ("", 0)).1, List.replicate (ws.getD k ("", 0)).2 ((2 * k + 1 : Nat) : Int))]
def oneOf (ws : List (Str × Nat)) : Nat → List Rw
  | 0 => [("b", [])]
  | k + 1 => oneOf ws k ++ [((ws.getD k ("", 0)).1, List.replicate (ws.getD k ("", 0)).2 (k : Int))]
theorem twoOf_len (ws : List (Str × Nat)) : ∀ k, (twoOf ws k).length = 2 * (k + 1)
  | 0 => rfl
  | k + 1 => by rw [twoOf, List.length_append, twoOf_len ws k]; rfl
theorem oneOf_len (ws : List (Str × Nat)) : ∀ k, (oneOf ws k).length = k + 1
  | 0 => rfl
  | k + 1 => by rw [oneOf, List.length_append, oneOf_len ws k]; rfl
theorem twoOf_keep (ws : List (Str × Nat)) {i : Nat} {r : Rw} {k : Nat} (h : (twoOf ws k)[i]? = some r) : ∀ e, (twoOf ws (k + e))[i]? = some r
  | 0 => h
  | e + 1 => by
    have ih := twoOf_keep ws h e
    show (twoOf ws (k + e + 1))[i]? = some r
    rw [twoOf, List.getElem?_append_left (List.getElem?_eq_some_iff.mp ih).1]
    exact ih
theorem oneOf_keep (ws : List (Str × Nat)) {i : Nat} {r : Rw} {k : Nat} (h : (oneOf ws k)[i]? = some r) : ∀ e, (oneOf ws (k + e))[i]? = some r
  | 0 => h
  | e + 1 => by
    have ih := oneOf_keep ws h e
    show (oneOf ws (k + e + 1))[i]? = some r
    rw [oneOf, List.getElem?_append_left (List.getElem?_eq_some_iff.mp ih).1]
    exact ih
def tp2 : Nat → Str
  | 0 => "a"
  | _ => "b"
def tp1 : Nat → Str := fun _ => "b"
theorem cr_two (ws : List (Str × Nat)) : Cr 2 tp2 ws (twoOf ws ws.length) := by
  refine ⟨twoOf_len ws _, fun i hi => ?_, fun k x i hx hi => ?_⟩
  · have h0 : (twoOf ws 0)[i]? = some (tp2 i, []) := by
      have : i = 0 ∨ i = 1 := by omega
      rcases this with rfl | rfl <;> rfl
    have := twoOf_keep ws h0 ws.length
    rw [Nat.zero_add] at this
    exact this
  · have hk := (List.getElem?_eq_some_iff.mp hx).1
    have h0 : (twoOf ws (k + 1))[2 * (k + 1) + i]? = some (x.1, List.replicate x.2 ((2 * k + i : Nat) : Int)) := by
      have eg : ws.getD k ("", 0) = x := by rw [List.getD_eq_getElem?_getD, hx]; rfl
      rw [twoOf, List.getElem?_append_right (by rw [twoOf_len]; omega), twoOf_len, eg]
      have : i = 0 ∨ i = 1 := by omega
      rcases this with rfl | rfl
      · rw [show 2 * (k + 1) + 0 - 2 * (k + 1) = 0 by omega]; rfl
      · rw [show 2 * (k + 1) + 1 - 2 * (k + 1) = 1 by omega]; rfl
    have := twoOf_keep ws h0 (ws.length - (k + 1))
    rw [show k + 1 + (ws.length - (k + 1)) = ws.length by omega] at this
    exact this
theorem cr_one (ws : List (Str × Nat)) : Cr 1 tp1 ws (oneOf ws ws.length) := by
  refine ⟨by rw [oneOf_len]; omega, fun i hi => ?_, fun k x i hx hi => ?_⟩
  · have h0 : (oneOf ws 0)[i]? = some (tp1 i, []) := by
      have : i = 0 := by omega
      rw [this]; rfl
    have := oneOf_keep ws h0 ws.length
    rw [Nat.zero_add] at this
    exact this
  · have hk := (List.getElem?_eq_some_iff.mp hx).1
    have i0 : i = 0 := by omega
    subst i0
    have h0 : (oneOf ws (k + 1))[1 * (k + 1) + 0]? = some (x.1, List.replicate x.2 ((1 * k + 0 : Nat) : Int)) := by
      have eg : ws.getD k ("", 0) = x := by rw [List.getD_eq_getElem?_getD, hx]; rfl
      rw [oneOf, List.getElem?_append_right (by rw [oneOf_len]; omega), oneOf_len, eg]
      rw [show 1 * (k + 1) + 0 - (k + 1) = 0 by omega, show 1 * k + 0 = k by omega]
      rfl
    have := oneOf_keep ws h0 (ws.length - (k + 1))
    rw [show k + 1 + (ws.length - (k + 1)) = ws.length by omega] at this
    exact this
theorem tp2_ok : ∀ i, i < 2 → tp2 i = "a" ∨ tp2 i = "b" := fun i h => by
  have : i = 0 ∨ i = 1 := by omega
  rcases this with rfl | rfl
  · exact .inl rfl
  · exact .inr rfl
theorem tp2_inj : ∀ i j, i < 2 → j < 2 → tp2 i = tp2 j → i = j := fun i j h1 h2 e => by
  have a : i = 0 ∨ i = 1 := by omega
  have b : j = 0 ∨ j = 1 := by omega
  rcases a with rfl | rfl <;> rcases b with rfl | rfl
  · rfl
  · exact absurd e (by decide +kernel)
  · exact absurd e (by decide +kernel)
  · rfl
/-- the rows, as the law's helper lays them -/
theorem twoOf_snoc (ws : List (Str × Nat)) (x : Str × Nat) : ∀ k, k ≤ ws.length → twoOf (ws ++ [x]) k = twoOf ws k
  | 0, _ => rfl
  | k + 1, h => by
    have ih := twoOf_snoc ws x k (by omega)
    have e : (ws ++ [x]).getD k ("", 0) = ws.getD k ("", 0) := by
      rw [List.getD_eq_getElem?_getD, List.getD_eq_getElem?_getD, List.getElem?_append_left h]
    rw [twoOf, twoOf, ih, e]
theorem twoOf_next (ws : List (Str × Nat)) (x : Str × Nat) : twoOf (ws ++ [x]) (ws.length + 1) = twoOf ws ws.length ++ [(x.1, List.replicate x.2 ((2 * ws.length : Nat) : Int)), (x.1, List.replicate x.2 ((2 * ws.length + 1 : Nat) : Int))] := by
  have e : (ws ++ [x]).getD ws.length ("", 0) = x := by
    rw [List.getD_eq_getElem?_getD, List.getElem?_append_right (Nat.le_refl _), Nat.sub_self]
    rfl
  rw [twoOf, twoOf_snoc ws x _ (Nat.le_refl _), e]
theorem szW_next (ws : List (Str × Nat)) (x : Str × Nat) : szW (ws ++ [x]) = 1 + x.2 * szW ws := by
  unfold szW
  rw [List.foldl_append]
  rfl
end T59
namespace T59
open PySem PySem.Spec PyProof.Rows L2 NX
/-! k59: the law's chains, in the heap. -/
section
variable {P : Program} {w : World} {K : PySem.W.Frag} {mg : Str → Option Value} {base : Heap}
theorem rep_or {H : Hp} {t : Addr} {v : V} {m : Nat} {Q : VK} (m1 : 1 ≤ m) (m3 : m ≤ 3) (hT : H t = some (.tup [v])) (h : ∀ t' H', Same H H' → H' t' = some (.tup (List.replicate m v)) → Q (.ref t') H') : rRepT1 K (.ref t) (.int m) H Q ∨ rRepT K (.ref t) (.int m) H Q := by
  by_cases e : m = 1
  · subst e
    exact .inl ⟨t, _, rfl, rfl, SqT.of hT, h t H (Same.refl H) hT⟩
  · refine .inr ⟨t, _, _, rfl, rfl, SqT.of hT, by simp, by omega, by omega, by show 1 ≤ 1000; decide, fun p hp => h p _ (upd_same_new hp) ?_⟩
    rw [upd_same]
    have : ∀ n : Nat, (List.replicate n [v]).flatten = List.replicate n v := fun n => by
      induction n with
      | zero => rfl
      | succ n ih => rw [List.replicate_succ, List.flatten_cons, ih, List.replicate_succ]; rfl
    show some (HO.tup (List.replicate m [v]).flatten) = _
    rw [this]
/-- all but b stands -/
def Kb (b : Addr) (H H' : Hp) : Prop := ∀ c o, c ≠ b → H c = some o → H' c = some o
theorem Kb.same {b : Addr} {H H' : Hp} (s : Same H H') : Kb b H H' := fun c o _ e => s c o e
theorem Kb.trans {b : Addr} {H H1 H2 : Hp} (a : Kb b H H1) (c : Kb b H1 H2) : Kb b H H2 := fun x o n e => c x o n (a x o n e)
theorem kb_upd {b : Addr} {H : Hp} {o : HO} : Kb b H (upd H b o) := fun c u n e => by rw [upd_ne n]; exact e
theorem sc__law_chains : FnScope ["_law_box_here", "_law_many", "_law_rows", "_law_size", "_law_k", "_law_wide", "_law_symbol"] ["_law_box_here", "_law_many"] (defScope s__law_chains) := ⟨rfl, rfl, rfl, by decide +kernel, rfl, by decide +kernel, by decide +kernel⟩
theorem b__law_chains (T : Tx K mg) : Binds K (NX.fdOf K ("_law_chains", none)) ["_law_box_here", "_law_many"] [] := T.f__law_chains.bindsN fun _ _ _ _ _ _ us hl => match us, hl with | [_, _], _ => rfl
def spChains (K : PySem.W.Frag) : Sp := fun vs H Q _ => ∃ (b : Addr) (m : Nat) (x0 x1 x2 : Int), vs = [.ref b, .int m] ∧ H b = some (.lst [.int x0, .int x1, .int x2]) ∧ 300 ≤ m ∧ m ≤ 1800 ∧ 0 ≤ x0 ∧ 0 ≤ x1 ∧ x1 < 2147483629 ∧ 0 ≤ x2 ∧ x2 ≤ 10 ∧
  ∀ (H' : Hp) (t r : Addr) (xs : List (Addr × Rw)) (ws : List (Str × Nat)), Kb b H H' → H' t = some (.tup [.ref r, .int (szW ws)]) → H' r = some (.lst (xs.map fun x => V.ref x.1)) → (∀ x ∈ xs, RowAt H' x.1 x.2) → xs.map (·.2) = twoOf ws ws.length → ws.length = m → WOk ws → Q (.ref t) H'
theorem pick3 {t : Nat} (h : t < 3) : ∃ z : Str, ([V.str "f", V.str "g", V.str "k7"] : List V)[t]? = some (V.str z) ∧ (z = "f" ∨ z = "g" ∨ z = "k7") := by
  have : t = 0 ∨ t = 1 ∨ t = 2 := by omega
  rcases this with rfl | rfl | rfl
  · exact ⟨_, rfl, .inl rfl⟩
  · exact ⟨_, rfl, .inr (.inl rfl)⟩
  · exact ⟨_, rfl, .inr (.inr rfl)⟩
theorem ok__law_chains (T : Tx K mg) : FnOk P w K mg base CX0 2 (He.ga K "_law_chains") (NX.fdOf K ("_law_chains", none)) ["_law_box_here", "_law_many"] (spChains K) := by
  refine T.f__law_chains.ok sc__law_chains (fun vs H Q E h => ?_) fun cdv A outer s H vs Q E hr h => ⟨_, PSs.nox (pss_cons (ps_par (i := 2) (j := 3) (by rfl) sc__law_chains.nd rfl rfl (by decide) rfl rfl (pa_cons (pe_lst (pa_cons (pe_tup (pa_cons pe_str (pa_cons (pe_tup pa_nil) pa_nil))) (pa_cons (pe_tup (pa_cons pe_str (pa_cons (pe_tup pa_nil) pa_nil))) pa_nil))) (pa_cons pe_int pa_nil)) (by rfl))
  (pss_cons (ps_for PassesOwn.never rfl (pi_range1 rfl T.n_range (pa_cons (pv 1) pa_nil)) (pg_name (i := 4) sc__law_chains.nd rfl (by first | exact Or.inl rfl | exact Or.inr rfl))
    (pss_cons (ps_par (i := 5) (j := 6) (by rfl) sc__law_chains.nd rfl rfl (by decide) rfl rfl (pa_cons (pe_op op_add pe_int (pe_call (ok__law_take T) (hr.mono (by decide)) rfl T.g__law_take T.f__law_take.kp (b__law_take T) .nil pass0 (pa_cons (pv 0) (pa_cons pe_int pa_nil)))) (pa_cons (pe_ix ix_list (pe_lst (pa_cons pe_str (pa_cons pe_str (pa_cons pe_str pa_nil)))) (pe_call (ok__law_take T) (hr.mono (by decide)) rfl T.g__law_take T.f__law_take.kp (b__law_take T) .nil pass0 (pa_cons (pv 0) (pa_cons pe_int pa_nil))) (fun _ _ => rfl)) pa_nil)) (by rfl))
    (pss_cons (ps_expr (pe_bm PySem.F.plainAttrs_list PySem.F.slot_list_extend PySem.F.type_list_extend mt_extend (pv 2) (pa_cons (pe_lst (pa_cons (pe_tup (pa_cons (pv 6) (pa_cons (pe_op (OpR.or op_repT1 op_repT) (pe_tup (pa_cons (pe_op op_mul pe_int (pv 4)) pa_nil)) (pv 5)) pa_nil))) (pa_cons (pe_tup (pa_cons (pv 6) (pa_cons (pe_op (OpR.or op_repT1 op_repT) (pe_tup (pa_cons (pe_op op_add (pe_op op_mul pe_int (pv 4)) pe_int) pa_nil)) (pv 5)) pa_nil))) pa_nil))) pa_nil)))
    (pss_one (ps_set (i := 3) sc__law_chains.nd rfl (by first | exact Or.inl rfl | exact Or.inr rfl) (pe_op op_add pe_int (pe_op op_mul (pv 5) (pv 3))))))))
  (pss_one (ps_ret (pe_tup (pa_cons (pv 2) (pa_cons (pv 3) pa_nil))))))), ?_⟩
  · obtain ⟨b, m, x0, x1, x2, rfl, _⟩ := h; rfl
  · obtain ⟨b, m, x0, x1, x2, rfl, hb, m0, m1, h0, h1, h11, h2, h21, q⟩ := h
    refine ⟨by show 0 ≤ sizeLine; decide, fun e1 n1 => ⟨by show 2 ≤ sizeLine; decide, fun a1 k1 => ⟨by show 0 ≤ sizeLine; decide, fun e2 n2 => ⟨by show 2 ≤ sizeLine; decide, fun a2 k2 => ⟨by show 2 ≤ sizeLine; decide, fun r nr => ?_⟩⟩⟩⟩⟩
    have s1 := upd_same_new (o := .tup []) n1
    have s2 := upd_same_new (o := .tup [.str "a", .ref e1]) k1
    have s3 := upd_same_new (o := .tup []) n2
    have s4 := upd_same_new (o := .tup [.str "b", .ref e2]) k2
    have s5 := upd_same_new (o := .lst [.ref a1, .ref a2]) nr
    have sR := ((((s1.trans s2).trans s3).trans s4).trans s5)
    have hrN : H r = none := (((s1.trans s2).trans s3).trans s4).free nr
    have hr0 : r ≠ b := fun z => by
      rw [z, s4 _ _ (s3 _ _ (s2 _ _ (s1 _ _ hb)))] at nr
      cases nr
    refine ⟨_, _, rfl, ?_⟩
    refine ⟨_, rfl, _, rfl, by omega, by omega, ?_⟩
    refine for_range (lo := 0) (n := (m : Int).toNat) (fun i σ' H' => ∃ (o1 o2 o3 : Option V) (ws : List (Str × Nat)) (xs : List (Addr × Rw)) (y0 y2 : Int), σ' = [some (.ref b), some (.int m), some (.ref r), some (.int (szW ws)), o1, o2, o3] ∧ Kb b H H' ∧ H' b = some (.lst [.int y0, .int x1, .int y2]) ∧ 0 ≤ y0 ∧ 0 ≤ y2 ∧ y2 ≤ 10 + 2 * i ∧
        H' r = some (.lst (xs.map fun x => V.ref x.1)) ∧ (∀ x ∈ xs, RowAt H' x.1 x.2) ∧ xs.map (·.2) = twoOf ws ws.length ∧ ws.length = i ∧ WOk ws)
      ⟨_, _, _, [], [(a1, ("a", [])), (a2, ("b", []))], x0, x2, rfl, Kb.same sR, sR _ _ hb, h0, h2, by omega, upd_same, ?_, rfl, rfl, fun x hx => by cases hx⟩ (fun i σ' H' hi h => ?_) fun σ' H' h => ?_
    · intro x hx
      rcases List.mem_cons.mp hx with rfl | hx
      · exact ⟨e1, s5 _ _ (s4 _ _ (s3 _ _ upd_same)), s5 _ _ (s4 _ _ (s3 _ _ (s2 _ _ upd_same)))⟩
      · rw [List.mem_singleton.mp hx]
        exact ⟨e2, s5 _ _ upd_same, s5 _ _ (s4 _ _ upd_same)⟩
    · obtain ⟨o1, o2, o3, ws, xs, y0, y2, rfl, kb, hb', g0, g2, g21, hr', rows, ex, el, hw⟩ := h
      have him : i < m := by omega
      -- 1 + take(box, 3)
      refine ⟨_, rfl, b, 3, y0, x1, y2, rfl, hb', by decide, by decide, g0, h1, h11, g2, by omega, fun t1 z0 z2 t13 z00 z20 z21 => ?_⟩
      refine ⟨_, _, rfl, rfl, ?_⟩
      refine ⟨by show 3 ≤ sizeLine; decide, fun p np => ?_⟩
      have hbA : upd H' b (.lst [.int z0, .int x1, .int z2]) b = some (.lst [.int z0, .int x1, .int z2]) := upd_same
      have sP := upd_same_new (o := .lst [.str "f", .str "g", .str "k7"]) np
      have pb : p ≠ b := fun z => by rw [z, upd_same] at np; cases np
      refine ⟨_, rfl, b, 3, z0, x1, z2, rfl, sP _ _ hbA, by decide, by decide, z00, h1, h11, z20, by omega, fun t2 v0 v2 t23 v00 v20 v21 => ?_⟩
      obtain ⟨sy, esy, hsy⟩ := pick3 t23
      refine ⟨_, _, _, _, rfl, rfl, SqL.of (show upd (upd (upd H' b (.lst [.int z0, .int x1, .int z2])) p (.lst [.str "f", .str "g", .str "k7"])) b (.lst [.int v0, .int x1, .int v2]) p = some (.lst [.str "f", .str "g", .str "k7"]) by rw [upd_ne pb, upd_same]), atI_nat esy, ?_⟩
      refine ⟨_, _, rfl, ?_⟩
      have kb1 : Kb b H' (upd (upd (upd H' b (.lst [.int z0, .int x1, .int z2])) p (.lst [.str "f", .str "g", .str "k7"])) b (.lst [.int v0, .int x1, .int v2])) := (kb_upd.trans (Kb.same sP)).trans kb_upd
      have hb1 : upd (upd (upd H' b (.lst [.int z0, .int x1, .int z2])) p (.lst [.str "f", .str "g", .str "k7"])) b (.lst [.int v0, .int x1, .int v2]) b = some (.lst [.int v0, .int x1, .int v2]) := upd_same
      generalize upd (upd (upd H' b (.lst [.int z0, .int x1, .int z2])) p (.lst [.str "f", .str "g", .str "k7"])) b (.lst [.int v0, .int x1, .int v2]) = H1 at kb1 hb1 ⊢
      have hr1 := kb1 _ _ hr0 hr'
      have em : (1 : Int) + (t1 : Nat) = ((t1 + 1 : Nat) : Int) := by omega
      have ei : (0 : Int) + (i : Nat) = (i : Nat) := by omega
      dsimp only
      rw [em, ei]
      have m1' : 1 ≤ t1 + 1 := by omega
      have m3' : t1 + 1 ≤ 3 := by omega
      -- the two rows
      refine ⟨_, rfl, .inl ⟨rfl, _, SqL.of hr1⟩, ?_⟩
      refine ⟨_, rfl, _, rfl, _, _, rfl, rfl, .inl ⟨by decide, by decide⟩, by show 1 ≤ sizeLine; decide, fun u1 nu1 => ⟨_, rfl, ?_⟩⟩
      have q1 := upd_same_new (o := .tup [.int (2 * (i : Int))]) nu1
      refine rep_or m1' m3' upd_same fun u2 H2 q2 hu2 => ?_
      refine ⟨by show 2 ≤ sizeLine; decide, fun c1 nc1 => ?_⟩
      have q3 := upd_same_new (o := .tup [.str sy, .ref u2]) nc1
      refine ⟨_, rfl, _, rfl, _, _, rfl, rfl, .inl ⟨by decide, by decide⟩, _, _, rfl, rfl, by show 1 ≤ sizeLine; decide, fun u3 nu3 => ⟨_, rfl, ?_⟩⟩
      have q4 := upd_same_new (o := .tup [.int (2 * (i : Int) + 1)]) nu3
      refine rep_or m1' m3' upd_same fun u4 H3 q5 hu4 => ?_
      refine ⟨by show 2 ≤ sizeLine; decide, fun c2 nc2 => ?_⟩
      have q6 := upd_same_new (o := .tup [.str sy, .ref u4]) nc2
      refine ⟨by show 2 ≤ sizeLine; decide, fun L nL => ?_⟩
      have q7 := upd_same_new (o := .lst [.ref c1, .ref c2]) nL
      have sA := q1.trans (q2.trans (q3.trans (q4.trans (q5.trans (q6.trans q7)))))
      have lx : xs.length = 2 * (i + 1) := by
        have := congrArg List.length ex
        rw [List.length_map, twoOf_len, el] at this
        exact this
      have hrA := sA _ _ hr1
      refine ⟨r, L, _, _, rfl, rfl, hrA, upd_same, ?_, ?_⟩
      · rw [List.length_map, lx]
        show _ + 2 ≤ sizeLine
        exact Nat.le_of_lt (small1000' (by omega))
      refine ⟨_, rfl, _, rfl, _, _, rfl, rfl, .inl ⟨by omega, by omega⟩, _, _, rfl, rfl, ?_⟩
      have uk : ∀ {c ys} {x : HO}, (upd (upd H3 c2 (.tup [.str sy, .ref u4])) L (.lst [.ref c1, .ref c2])) c = some (.tup ys) → upd (upd (upd H3 c2 (.tup [.str sy, .ref u4])) L (.lst [.ref c1, .ref c2])) r x c = some (.tup ys) := fun {c ys x} h => by
        rw [upd_ne (fun z => by rw [z, hrA] at h; cases Option.some.inj h)]; exact h
      have e1' : ((2 * i : Nat) : Int) = 2 * (i : Int) := by omega
      have e2' : ((2 * i + 1 : Nat) : Int) = 2 * (i : Int) + 1 := by omega
      refine ⟨some (.int (i : Nat)), some (.int (t1 + 1 : Nat)), some (.str sy), ws ++ [(sy, t1 + 1)], xs ++ [(c1, (sy, List.replicate (t1 + 1) (2 * (i : Int)))), (c2, (sy, List.replicate (t1 + 1) (2 * (i : Int) + 1)))], v0, v2, ?_, ?_, ?_, v00, v20, by omega, ?_, ?_, ?_, by rw [List.length_append, el]; rfl, ?_⟩
      · rw [szW_next]; rfl
      · intro c o n e
        rw [upd_ne (ne_of_none e hrN)]
        exact sA _ _ (kb1 _ _ n (kb _ _ n e))
      · rw [upd_ne hr0.symm]; exact sA _ _ hb1
      · rw [upd_same, List.map_append]; rfl
      · intro x hx
        rcases List.mem_append.mp hx with hx | hx
        · obtain ⟨b3, r1, r2⟩ := rows x hx
          exact ⟨b3, uk (sA _ _ (kb1 _ _ (at_ne hb' r1 (by intro z; cases z)) r1)), uk (sA _ _ (kb1 _ _ (at_ne hb' r2 (by intro z; cases z)) r2))⟩
        · rcases List.mem_cons.mp hx with rfl | hx
          · exact ⟨u2, uk (q7 _ _ (q6 _ _ (q5 _ _ (q4 _ _ upd_same)))), by rw [List.map_replicate]; exact uk (q7 _ _ (q6 _ _ (q5 _ _ (q4 _ _ (q3 _ _ hu2)))))⟩
          · rw [List.mem_singleton.mp hx]
            exact ⟨u4, uk (q7 _ _ upd_same), by rw [List.map_replicate]; exact uk (q7 _ _ (q6 _ _ hu4))⟩
      · rw [List.map_append, ex, List.length_append, ← el]
        show _ = twoOf (ws ++ [(sy, t1 + 1)]) (ws.length + 1)
        rw [twoOf_next, el, e1', e2']
        rfl
      · intro x hx
        rcases List.mem_append.mp hx with hx | hx
        · exact hw x hx
        · rw [List.mem_singleton.mp hx]
          exact ⟨hsy, m1', m3'⟩
    · obtain ⟨o1, o2, o3, ws, xs, y0, y2, rfl, kb, hb', g0, g2, g21, hr', rows, ex, el, hw⟩ := h
      refine ⟨_, rfl, _, rfl, by show 2 ≤ sizeLine; decide, fun t nt => ?_⟩
      have sT := upd_same_new (o := .tup [.ref r, .int (szW ws)]) nt
      exact q _ t r xs ws (kb.trans (Kb.same sT)) upd_same (sT _ _ hr') (fun x hx => (rows x hx).same sT) ex (by omega) hw
end
end T59
namespace T59
open PySem PySem.Spec PyProof.Rows L2 NX
/-! k59: the law. -/
section
variable {P : Program} {w : World} {K : PySem.W.Frag} {mg : Str → Option Value} {base : Heap}
theorem sc_law : FnScope ["_law_script", "_law_k", "_law_box_here", "_law_many", "_law_rows", "_law_size", "_law_book", "_law_ends", "_law_meaning", "_law_parts", "_law_at", "_law_side", "_law_end", "_law_other", "_law_found", "_law_told"] ["_law_script"] (defScope s_law) := ⟨rfl, rfl, rfl, by decide +kernel, rfl, by decide +kernel, by decide +kernel⟩
theorem b_law (T : Tx K mg) : Binds K (NX.fdOf K ("law", none)) ["_law_script"] [] := T.f_law.bindsN fun _ _ _ _ _ _ us hl => match us, hl with | [_], _ => rfl
def spLaw (K : PySem.W.Frag) : Sp := fun vs H Q _ => ∃ (a : Addr) (ns : List Int), vs = [.ref a] ∧ SqL K H a (ns.map V.int) ∧ ∀ H', Q (.bl true) H'
def mkv (K : PySem.W.Frag) : List (L2.Key × V) := [(Sum.inr ("a" : Str), .ref (He.ga K "_law_none")), (Sum.inr ("b" : Str), .ref (He.ga K "_law_none")), (Sum.inr ("f" : Str), .ref (He.ga K "_law_count")), (Sum.inr ("g" : Str), .ref (He.ga K "_law_count")), (Sum.inr ("k7" : Str), .ref (He.ga K "_law_count"))]
theorem mkv_ok : MeanOk K (mergeK [] (mkv K)) := by
  refine ⟨fun z h => ?_, fun z h => ?_⟩
  · rcases h with rfl | rfl
    · rfl
    · rfl
  · rcases h with rfl | rfl | rfl
    · rfl
    · rfl
    · rfl
/-- one side's places -/
def side (j c : Nat) : List Int := ((List.range c).filter fun z => decide (z % 2 = j)).map fun z : Nat => (z : Int)
theorem side_succ (j c : Nat) : side j (c + 1) = if c % 2 = j then side j c ++ [(c : Int)] else side j c := by
  unfold side
  rw [List.range_succ, List.filter_append, List.map_append]
  by_cases h : c % 2 = j
  · rw [if_pos h]
    simp [h]
  · rw [if_neg h]
    simp [h]
theorem side_ap {j : Nat} (hj : j < 2) : ∀ m : Nat, side j (2 * m + 2) = ap 2 (2 * m + j)
  | 0 => by
    have : j = 0 ∨ j = 1 := by omega
    rcases this with rfl | rfl <;> rfl
  | m + 1 => by
    have ih := side_ap hj m
    rw [show 2 * (m + 1) + 2 = 2 * m + 2 + 1 + 1 by omega, side_succ, side_succ, ih]
    have e1 : ap 2 (2 * (m + 1) + j) = ap 2 (2 * m + j) ++ [((2 * m + 2 + j : Nat) : Int)] := by
      unfold ap
      rw [show (2 * (m + 1) + j) / 2 + 1 = ((2 * m + j) / 2 + 1) + 1 by omega, List.range_succ, List.map_append, show (2 * (m + 1) + j) % 2 = (2 * m + j) % 2 by omega]
      congr 1
      show [(((2 * m + j) % 2 + ((2 * m + j) / 2 + 1) * 2 : Nat) : Int)] = [_]
      rw [show (2 * m + j) % 2 + ((2 * m + j) / 2 + 1) * 2 = 2 * m + 2 + j by omega]
    rw [e1]
    have : j = 0 ∨ j = 1 := by omega
    rcases this with rfl | rfl
    · rw [if_pos (show (2 * m + 2) % 2 = 0 by omega), if_neg (show ¬ (2 * m + 2 + 1) % 2 = 0 by omega)]
    · rw [if_neg (show ¬ (2 * m + 2) % 2 = 1 by omega), if_pos (show (2 * m + 2 + 1) % 2 = 1 by omega)]
theorem lst_ne {ls : List Addr} {k n : Nat} {c : Addr} (h : ls[k]? = some c) (e : some (HO.lst (ls.map V.ref)) = some (HO.lst ((ap 2 n).map V.int))) : False := by
  have e2 := HO.lst.inj (Option.some.inj e)
  have e3 := congrArg (fun z : List V => z[0]?) e2
  obtain ⟨x, r, rfl⟩ : ∃ x r, ls = x :: r := by
    cases ls with
    | nil => cases h
    | cons x r => exact ⟨x, r, rfl⟩
  have e4 : ((ap 2 n).map V.int)[0]? = some (V.int ((n % 2 + 0 * 2 : Nat) : Int)) := by
    unfold ap
    rw [List.getElem?_map, List.getElem?_map, List.getElem?_range (by omega)]
    rfl
  have e5 : some (V.ref x) = some (V.int ((n % 2 + 0 * 2 : Nat) : Int)) := e3.trans e4
  cases e5
theorem rows_eqv {rs : List Rw} (hn : ∀ r ∈ rs, NameOk r.1) : PyData.eqv (.list (rs.map rowD)) (.list (rs.map rowD)) = true := SeqAt.eqv_refl _ (by simp only [PyData.canLay0, lay_rows rs hn])
theorem dp_rows' {H : Hp} {xs : List (Addr × Rw)} {rs : List Rw} (e : xs.map (·.2) = rs) (h : ∀ x ∈ xs, RowAt H x.1 x.2) : DpAll K H (xs.map fun x => V.ref x.1) (rs.map rowD) := by
  rw [← e, ← map_rowD]
  exact dp_rows xs h
/-- two lists of ints, in a list -/
theorem dp_two {H : Hp} {ls : List Addr} {f : Nat → List Int} (hl : ls.length = 2) (h : ∀ (k : Nat) (c : Addr), ls[k]? = some c → H c = some (.lst ((f k).map V.int))) : DpAll K H (ls.map V.ref) [.list ((f 0).map PyData.int), .list ((f 1).map PyData.int)] := by
  match ls, hl with
  | [x, y], _ => exact .cons (.lst (SqL.of (h 0 x rfl)) (dp_ints _)) (.cons (.lst (SqL.of (h 1 y rfl)) (dp_ints _)) .nil)
theorem lay_two (a b : List Int) : PyData.canLay0 (.list [.list (a.map PyData.int), .list (b.map PyData.int)]) = true := by
  simp [PyData.canLay0, PyData.canLayAll0, lay_ints]
theorem shaped_two (a b : List Int) : SeqAt.shaped (.list [.list (a.map PyData.int), .list (b.map PyData.int)]) = true := by
  unfold SeqAt.shaped
  rw [lay_two]
  simp only [PyData.depth, PyData.depthAll, dep_ints]
  decide
theorem lay_l (a : List Int) : PyData.canLay0 (.list (a.map PyData.int)) = true := by
  simp [PyData.canLay0, lay_ints]
theorem shaped_l (a : List Int) : SeqAt.shaped (.list (a.map PyData.int)) = true := by
  unfold SeqAt.shaped
  rw [lay_l]
  simp only [PyData.depth, dep_ints]
  decide
theorem rep_flat (z : V) : ∀ n : Nat, (List.replicate n [z]).flatten = List.replicate n z
  | 0 => rfl
  | n + 1 => by rw [List.replicate_succ, List.flatten_cons, rep_flat z n, List.replicate_succ]; rfl
theorem dp_zero {H : Hp} {q : Addr} {m : Nat} (h : H q = some (.lst (List.replicate m (.int 0)))) : Dp K H (.ref q) (.list ((List.replicate m (0 : Int)).map PyData.int)) :=
  .lst (xs := (List.replicate m (0 : Int)).map V.int) (SqL.of (by rw [List.map_replicate]; exact h)) (dp_ints _)
theorem empty_at (T : Tx K mg) {H : Hp} : SqT K H (He.dflAt ("Book", some "__init__") 0 K) [] ∧ TyX K H (.ref (He.dflAt ("Book", some "__init__") 0 K)) (.type "tuple") := by
  have h := T.t_empty
  split at h
  · rename_i its _ _ e
    have hz : its = #[] := by simpa using h
    subst hz
    exact ⟨.inr ⟨_, #[], _, e, rfl, rfl, Nat.zero_le _, .nil⟩, .kTuple e rfl⟩
  · cases h
theorem ok_law (T : Tx K mg) : FnG P w K mg base CX0 8 (He.ga K "law") (NX.fdOf K ("law", none)) ["_law_script"] (spLaw K) := by
  obtain ⟨u0, rI0, bI0⟩ := b_Book_init1 T
  refine fnG_of T.f_law sc_law (fun vs H Q E h => ?_) fun cdv A outer s H vs Q E hG hr h => ⟨_, PSs.nox (pss_cons (ps_for PassesOwn.never rfl (pi_range1 rfl T.n_range (pa_cons (pe_callB (call_max2 rfl) rfl T.n_max (by decide +kernel) (pa_cons pe_int (pa_cons (pe_callB (call_min2 rfl) rfl T.n_min (by decide +kernel) (pa_cons pe_int (pa_cons (pe_callB call_len rfl T.n_len (by decide +kernel) (pa_cons (pv 0) pa_nil)) pa_nil))) pa_nil))) pa_nil)) (pg_name (i := 1) sc_law.nd rfl (by first | exact Or.inl rfl | exact Or.inr rfl))
    (pss_cons (ps_set (i := 2) sc_law.nd rfl (by first | exact Or.inl rfl | exact Or.inr rfl) (pe_call (ok__law_box T) (hr.mono (by decide)) rfl T.g__law_box T.f__law_box.kp (b__law_box T) .nil pass0 (pa_cons (pe_call (ok__law_cell T) (hr.mono (by decide)) rfl T.g__law_cell T.f__law_cell.kp (b__law_cell T) .nil pass0 (pa_cons (pv 0) (pa_cons (pv 1) pa_nil))) pa_nil)))
    (pss_cons (ps_set (i := 3) sc_law.nd rfl (by first | exact Or.inl rfl | exact Or.inr rfl) (pe_op op_add pe_int (pe_call (ok__law_take T) (hr.mono (by decide)) rfl T.g__law_take T.f__law_take.kp (b__law_take T) .nil pass0 (pa_cons (pv 2) (pa_cons pe_int pa_nil)))))
    (pss_cons (ps_asg (pe_call (ok__law_chains T) (hr.mono (by decide)) rfl T.g__law_chains T.f__law_chains.kp (b__law_chains T) .nil pass0 (pa_cons (pv 2) (pa_cons (pv 3) pa_nil))) (pg_tup (by rfl) (pgs_cons (pg_name (i := 4) sc_law.nd rfl (by first | exact Or.inl rfl | exact Or.inr rfl)) (pgs_cons (pg_name (i := 5) sc_law.nd rfl (by first | exact Or.inl rfl | exact Or.inr rfl)) pgs_nil))))
    (pss_cons (ps_asg (pe_tup (pa_cons (pe_make T.k_Book (ok_Book_init T) (hr.mono (by decide)) rfl T.g_Book (b_Book_init2 T) .nil pass0 (pa_cons (pv 4) pa_nil)) (pa_cons (pe_lst (pa_cons (pe_op op_mul pe_int (pv 3)) (pa_cons (pe_op op_add (pe_op op_mul pe_int (pv 3)) pe_int) pa_nil))) pa_nil))) (pg_tup (by rfl) (pgs_cons (pg_name (i := 6) sc_law.nd rfl (by first | exact Or.inl rfl | exact Or.inr rfl)) (pgs_cons (pg_name (i := 7) sc_law.nd rfl (by first | exact Or.inl rfl | exact Or.inr rfl)) pgs_nil))))
    (pss_cons (ps_set (i := 8) sc_law.nd rfl (by first | exact Or.inl rfl | exact Or.inr rfl) (pe_disp (pps_cons pe_str (pe_glob (v := .ref (He.ga K "_law_none")) rfl T.g__law_none rfl) (pps_cons pe_str (pe_glob (v := .ref (He.ga K "_law_none")) rfl T.g__law_none rfl) (pps_cons pe_str (pe_glob (v := .ref (He.ga K "_law_count")) rfl T.g__law_count rfl) (pps_cons pe_str (pe_glob (v := .ref (He.ga K "_law_count")) rfl T.g__law_count rfl) (pps_cons pe_str (pe_glob (v := .ref (He.ga K "_law_count")) rfl T.g__law_count rfl) pps_nil))))) (by rfl) (by rfl) (fun z => by cases z) (by decide)))
    (pss_cons (ps_setLc (i := 9) (own := [("_law_side", 11)]) (g := gName 11) rfl sc_law.nd rfl rfl (sw_true rfl rfl rfl (by decide +kernel)) (pi_range1 rfl T.n_range (pa_cons pe_int pa_nil)) (blkOk_by (own := [("_law_side", 11)]) (N := ["_law_script", "_law_k", "_law_box_here", "_law_many", "_law_rows", "_law_size", "_law_book", "_law_ends", "_law_meaning", "_law_parts", "_law_at", "_law_side", "_law_end", "_law_other", "_law_found", "_law_told"]) (sc := defScope s_law) (by decide +kernel)) (fun _ _ _ _ _ => (pg_name (i := 11) sc_law.nd rfl (by first | exact Or.inl rfl | exact Or.inr rfl))) (fun _ _ _ _ _ => pts_nil) (fun _ _ _ _ _ => (pe_lc (own := [("_law_at", 10)]) (g := gName 10) (rfl) sc_law.nd (pi_range1 rfl T.n_range (pa_cons (pe_callB (call_lenO (ok_Book_len (P := P) (w := w) (base := base) T) (hr.mono (by decide)) T.m_Book_len.at_ T.m_Book_len.fn (b_Book_len T) pass0) rfl T.n_len (by decide +kernel) (pa_cons (pv 6) pa_nil)) pa_nil)) (blkOk_by (own := [("_law_at", 10)]) (N := ["_law_script", "_law_k", "_law_box_here", "_law_many", "_law_rows", "_law_size", "_law_book", "_law_ends", "_law_meaning", "_law_parts", "_law_at", "_law_side", "_law_end", "_law_other", "_law_found", "_law_told"]) (sc := _) (by rfl)) (fun _ _ _ _ _ => (pg_name (i := 10) sc_law.nd rfl (by first | exact Or.inl rfl | exact Or.inr rfl))) (fun _ _ _ _ _ => (pts_one (pt_cmpR op_eq (pe_op op_mod (pv 10) pe_int) (pv 11) (nomark _)))) (fun _ _ _ _ _ => (pv 10)))))
    (pss_cons (ps_if (PW.pt (pw_or (pt_cmpR op_ne (pe_callB (call_lenO (ok_Book_len T) (hr.mono (by decide)) T.m_Book_len.at_ T.m_Book_len.fn (b_Book_len T) pass0) rfl T.n_len (by decide +kernel) (pa_cons (pv 6) pa_nil)) (pe_op op_add (pe_op op_mul pe_int (pv 3)) pe_int) (nomark _)) (pw_or (pt_cmpR (op_neD hr.units) (pe_meth0 (pv 6) T.c_Book T.m_Book_rows (ok_Book_rows T) (hr.mono (by decide)) (b_Book_rows T) .nil pass0) (pv 4) (nomark _)) (pw_or1 (pt_cmpR (op_neD hr.units) (pe_lc (own := [("_law_end", 12)]) (g := gName 12) (rfl) sc_law.nd (pi_list (pv 7)) (blkOk_by (own := [("_law_end", 12)]) (N := ["_law_script", "_law_k", "_law_box_here", "_law_many", "_law_rows", "_law_size", "_law_book", "_law_ends", "_law_meaning", "_law_parts", "_law_at", "_law_side", "_law_end", "_law_other", "_law_found", "_law_told"]) (sc := defScope s_law) (by decide +kernel)) (fun _ _ _ _ _ => (pg_name (i := 12) sc_law.nd rfl (by first | exact Or.inl rfl | exact Or.inr rfl))) (fun _ _ _ _ _ => pts_nil) (fun _ _ _ _ _ => (pe_meth (pv 6) T.c_Book T.m_Book_parts (ok_Book_parts (P := P) (w := w) (base := base) T) (hr.mono (by decide)) (b_Book_parts T) .nil pass0 (pa_cons (pv 12) pa_nil)))) (pv 9) (nomark _))))))
      (pss_one (ps_ret pe_bl))
      pss_nil)
    (pss_cons (ps_for PassesOwn.never rfl (pi_list (pv 7)) (pg_name (i := 12) sc_law.nd rfl (by first | exact Or.inl rfl | exact Or.inr rfl))
      (pss_cons (ps_if (PW.pt (pw_or (pt_cmpR op_ne (pe_meth (pv 6) T.c_Book T.m_Book_size (ok_Book_size T) (hr.mono (by decide)) (b_Book_size T) .nil pass0 (pa_cons (pv 12) pa_nil)) (pv 5) (nomark _)) (pw_or (pt_cmpR op_ne (pe_meth (pv 6) T.c_Book T.m_Book_depth (ok_Book_depth T) (hr.mono (by decide)) (b_Book_depth T) .nil pass0 (pa_cons (pv 12) pa_nil)) (pe_op op_add (pv 3) pe_int) (nomark _)) (pw_or1 (pt_not (pt_val (pe_call (ok__law_is_long T) (hr.mono (by decide)) rfl T.g__law_is_long T.f__law_is_long.kp (b__law_is_long T) .nil pass0 (pa_cons (pv 6) (pa_cons (pv 12) pa_nil)))))))))
        (pss_one (ps_ret pe_bl))
        pss_nil)
      (pss_one (ps_if (pt_cmpR op_ne (pe_meth (dvs := [.non]) (pv 6) T.c_Book T.m_Book_evaluate (ok_Book_evaluate T) (hr.mono (by decide)) (b_Book_evaluate3 T) (.cons rfl .nil) pass0 (pa_cons (pv 12) (pa_cons (pv 8) pa_nil))) (pv 3) (nomark _))
        (pss_one (ps_ret pe_bl))
        pss_nil))))
    (pss_cons (ps_if (PW.pt (pw_or (pt_cmpR (op_neD hr.units) (pe_meth (pv 6) T.c_Book T.m_Book_differ (ok_Book_differ T) (hr.mono (by decide)) (b_Book_differ T) .nil pass0 (pa_cons (pe_ix ix_list (pv 7) pe_int (fun _ _ => rfl)) (pa_cons (pe_ix ix_list (pv 7) pe_int (fun _ _ => rfl)) pa_nil))) (pe_op op_rep (pe_lst (pa_cons pe_int pa_nil)) (pv 3)) (nomark _)) (pw_or1 (pt_cmpR op_notN (pe_meth (pv 6) T.c_Book T.m_Book_differ (ok_Book_differ T) (hr.mono (by decide)) (b_Book_differ T) .nil pass0 (pa_cons (pe_ix ix_list (pv 7) pe_int (fun _ _ => rfl)) (pa_cons (pe_ix ix_list (pv 7) pe_int (fun _ _ => rfl)) pa_nil))) pe_non (nomark _)))))
      (pss_one (ps_ret pe_bl))
      pss_nil)
    (pss_cons (ps_set (i := 13) sc_law.nd rfl (by first | exact Or.inl rfl | exact Or.inr rfl) (pe_make0 (dvs := [.ref (He.dflAt ("Book", some "__init__") 0 K)]) T.k_Book (ok_Book_init T) (hr.mono (by decide)) rfl T.g_Book bI0 (.cons rI0 .nil) pass0))
    (pss_cons (ps_set (i := 14) sc_law.nd rfl (by first | exact Or.inl rfl | exact Or.inr rfl) (pe_meth (pv 13) T.c_Book T.m_Book_carry (ok_Book_carry T) (hr.mono (by decide)) (b_Book_carry T) .nil pass0 (pa_cons (pv 6) (pa_cons (pe_ix ix_list (pv 7) pe_int (fun _ _ => rfl)) pa_nil))))
    (pss_cons (ps_if (PW.pt (pw_or (pt_cmpR op_ne (pv 14) (pv 3) (nomark _)) (pw_or (pt_cmpR op_ne (pe_callB (call_lenO (ok_Book_len T) (hr.mono (by decide)) T.m_Book_len.at_ T.m_Book_len.fn (b_Book_len T) pass0) rfl T.n_len (by decide +kernel) (pa_cons (pv 13) pa_nil)) (pe_op op_add (pv 3) pe_int) (nomark _)) (pw_or1 (pt_cmpR op_ne (pe_meth (pv 13) T.c_Book T.m_Book_carry (ok_Book_carry T) (hr.mono (by decide)) (b_Book_carry T) .nil pass0 (pa_cons (pv 6) (pa_cons (pe_ix ix_list (pv 7) pe_int (fun _ _ => rfl)) pa_nil))) (pv 3) (nomark _))))))
      (pss_one (ps_ret pe_bl))
      pss_nil)
    (pss_cons (ps_if (PW.pt (pw_or (pt_cmpR op_ne (pe_meth (pv 6) T.c_Book T.m_Book_carry (ok_Book_carry T) (hr.mono (by decide)) (b_Book_carry T) .nil pass0 (pa_cons (pv 13) (pa_cons (pv 3) pa_nil))) (pe_ix ix_list (pv 7) pe_int (fun _ _ => rfl)) (nomark _)) (pw_or1 (pt_cmpR op_ne (pe_callB (call_lenO (ok_Book_len T) (hr.mono (by decide)) T.m_Book_len.at_ T.m_Book_len.fn (b_Book_len T) pass0) rfl T.n_len (by decide +kernel) (pa_cons (pv 6) pa_nil)) (pe_op op_add (pe_op op_mul pe_int (pv 3)) pe_int) (nomark _)))))
      (pss_one (ps_ret pe_bl))
      pss_nil)
    (pss_cons (ps_set (i := 15) sc_law.nd rfl (by first | exact Or.inl rfl | exact Or.inr rfl) (pe_lst (pa_cons (pe_call (ok_same_term T) (hr.mono (by decide)) rfl T.g_same_term T.f_same_term.kp (b_same_term T) .nil pass0 (pa_cons (pv 6) (pa_cons (pe_ix ix_list (pv 7) pe_int (fun _ _ => rfl)) (pa_cons (pv 13) (pa_cons (pv 3) pa_nil))))) (pa_cons (pe_call (ok_same_term T) (hr.mono (by decide)) rfl T.g_same_term T.f_same_term.kp (b_same_term T) .nil pass0 (pa_cons (pv 13) (pa_cons (pv 3) (pa_cons (pv 6) (pa_cons (pe_ix ix_list (pv 7) pe_int (fun _ _ => rfl)) pa_nil))))) pa_nil))))
    (pss_one (ps_if (PW.pt (pw_or (pt_cmpR op_ne (pe_callB (call_reprD hG hr.units) rfl T.n_repr (by decide +kernel) (pa_cons (pv 15) pa_nil)) (pe_callB (call_reprD hG hr.units) rfl T.n_repr (by decide +kernel) (pa_cons (pe_lst (pa_cons pe_bl (pa_cons pe_bl pa_nil))) pa_nil)) (nomark _)) (pw_or1 (pt_cmpR (op_neO (ok_Book_eq T) (hr.mono (by decide)) (neB_ok T.ne_Book).1 T.m_Book_eq.at_ T.m_Book_eq.fn (neB_ok T.ne_Book).2 (b_Book_eq T) pass0) (pe_meth0 (pv 6) T.c_Book T.m_Book_copied (ok_Book_copied T) (hr.mono (by decide)) (b_Book_copied T) .nil pass0) (pv 6) (nomark _)))))
      (pss_one (ps_ret pe_bl))
      pss_nil)))))))))))))))))
  (pss_one (ps_ret pe_bl))), ?_⟩
  · obtain ⟨a, ns, rfl, _⟩ := h; rfl
  · obtain ⟨a, ns, rfl, hS, q⟩ := h
    refine ⟨_, rfl, _, _, rfl, .inl ⟨_, hS, rfl⟩, _, _, rfl, _, _, rfl, _, rfl, ?_, ?_, ?_⟩
    · split <;> split <;> omega
    · split <;> split <;> omega
    refine for_range (lo := 0) (fun i σ' H' => (∃ o1 o2 o3 o4 o5 o6 o7 o8 o9 o10 o11 o12 o13 o14 o15, σ' = [some (.ref a), o1, o2, o3, o4, o5, o6, o7, o8, o9, o10, o11, o12, o13, o14, o15]) ∧ Same H H')
      ⟨⟨_, _, _, _, _, _, _, _, _, _, _, _, _, _, _, rfl⟩, Same.refl H⟩ (fun i σ' H' hi h => ?_) fun σ' H' h => ?_
    · obtain ⟨⟨o1, o2, o3, o4, o5, o6, o7, o8, o9, o10, o11, o12, o13, o14, o15, rfl⟩, s0⟩ := h
      -- box, many
      refine ⟨_, rfl, _, rfl, a, ns, 0 + i, rfl, s0.seq hS, fun z => ⟨z, rfl, fun b x0 x1 nb g0 g1 g2 => ?_⟩⟩
      have sb := s0.trans (upd_same_new (o := .lst [.int x0, .int x1, .int 0]) nb)
      have bH : ∀ {c o}, H c = some o → c ≠ b := fun {c o} h => ne_of_none (s0 _ _ h) nb
      refine ⟨_, rfl, b, 1501, x0, x1, 0, rfl, upd_same, by decide, by decide, g0, g1, g2, by decide, by decide, fun t y0 y2 t1 y00 y20 y21 => ⟨_, _, rfl, rfl, ?_⟩⟩
      -- the chains
      refine ⟨_, rfl, _, rfl, b, 300 + t, y0, x1, y2, rfl, upd_same, by omega, by omega, y00, g1, g2, y20, by omega, fun H3 tt r xs ws kb ht hr3 hrow ex el hw => ?_⟩
      have s3 : Same H H3 := fun c o h => kb _ _ (bH h) (by rw [upd_ne (bH h)]; exact sb _ _ h)
      clear sb bH kb y00 y20 y21 g0 g1 g2 nb
      generalize hm : 300 + t = m at el ⊢
      have m300 : 300 ≤ m := by omega
      have m1800 : m ≤ 1800 := by omega
      have em : (300 : Int) + (t : Nat) = (m : Nat) := by omega
      dsimp only
      rw [em]
      refine ⟨_, _, rfl, SqT.of ht, rfl, _, _, rfl, _, _, rfl, rfl, ?_⟩
      have c2 := cr_two ws
      have good2 : GoodRows (twoOf ws ws.length) := c2.good (.inr rfl) hw tp2_ok tp2_inj (by omega)
      -- the book
      refine ⟨_, rfl, fun p e np ne dne => ?_⟩
      have sN : Same H3 (upd (upd H3 e (.own p)) p (.ins (He.ga K "Book") e [])) := fun c o h => by rw [upd_ne (ne_of_none h np), upd_ne (ne_of_none h ne)]; exact h
      refine ⟨p, r, e, xs, rfl, upd_same, .inl (sN _ _ hr3), fun x hx => (hrow x hx).same sN, by rw [ex]; exact good2, fun H4 l d ys ey hl hd kp B => ⟨rfl, ?_⟩⟩
      have s34 : Same H3 H4 := Same.made np ne fun c o h n => kp c o n h
      have s4 := s3.trans s34
      have hr4 := s34 _ _ hr3
      have hrow4 := fun x hx => (hrow x hx).same s34
      rw [ex] at ey
      have old1 : ∀ {c o}, H c = some o → c ≠ l ∧ c ≠ d := fun {c o} h => ⟨ne_of_none (sN _ _ (s3 _ _ h)) hl, ne_of_none (sN _ _ (s3 _ _ h)) hd⟩
      clear kp sN hl hd dne np ne s34 ht
      refine ⟨_, rfl, _, _, rfl, rfl, .inl ⟨by decide, by decide⟩, _, rfl, _, _, rfl, rfl, .inl ⟨by decide, by decide⟩, _, _, rfl, rfl, by show 2 ≤ sizeLine; decide, fun E nE => ?_⟩
      have sE := upd_same_new (o := .lst [.int ((2 * m : Nat) : Int), .int ((2 * m + 1 : Nat) : Int)]) nE
      have lE : l ≠ E := ne_of_none B.lst nE
      have dE : d ≠ E := ne_of_none B.dct nE
      have hE : upd H4 E (.lst [.int ((2 * m : Nat) : Int), .int ((2 * m + 1 : Nat) : Int)]) E = some (.lst [.int ((2 * m : Nat) : Int), .int ((2 * m + 1 : Nat) : Int)]) := upd_same
      refine ⟨by show 2 ≤ sizeLine; decide, fun t5 n5 => ⟨_, _, rfl, SqT.of upd_same, rfl, _, _, rfl, _, _, rfl, rfl, ?_⟩⟩
      have s5 := upd_same_new (o := .tup [.ref p, .ref E]) n5
      replace hE := s5 _ _ hE
      replace B := (B.same sE).same s5
      replace hr4 := s5 _ _ (sE _ _ hr4)
      replace hrow4 := fun x hx => ((hrow4 x hx).same sE).same s5
      replace s4 := (s4.trans sE).trans s5
      -- the meaning
      refine fun M nM => ⟨upd_same, mkv K, rfl, by show 5 ≤ 15; decide, ?_⟩
      have sM : Same (upd (upd H4 E (.lst [.int ((2 * m : Nat) : Int), .int ((2 * m + 1 : Nat) : Int)])) t5 (.tup [.ref p, .ref E])) (upd (upd (upd (upd H4 E (.lst [.int ((2 * m : Nat) : Int), .int ((2 * m + 1 : Nat) : Int)])) t5 (.tup [.ref p, .ref E])) M (.dK [])) M (.dK (mergeK [] (mkv K)))) := fun c o h => by rw [upd_ne (ne_of_none h nM), upd_ne (ne_of_none h nM)]; exact h
      have hM : upd (upd (upd (upd H4 E (.lst [.int ((2 * m : Nat) : Int), .int ((2 * m + 1 : Nat) : Int)])) t5 (.tup [.ref p, .ref E])) M (.dK [])) M (.dK (mergeK [] (mkv K))) M = some (.dK (mergeK [] (mkv K))) := upd_same
      replace B := B.same sM
      replace hE := sM _ _ hE
      replace hr4 := sM _ _ hr4
      replace hrow4 := fun x hx => (hrow4 x hx).same sM
      replace s4 := s4.trans sM
      clear sE s5 sM
      have ly : ys.length = 2 * m + 2 := by
        have := congrArg List.length ey
        rw [List.length_map, twoOf_len, el] at this
        omega
      -- the two sides
      refine ⟨_, rfl, by decide, by decide, fun D nD => ?_⟩
      refine lc_range (lo := 0) (n := 2) (fun j Hx => Same (upd (upd (upd (upd H4 E (.lst [.int ((2 * m : Nat) : Int), .int ((2 * m + 1 : Nat) : Int)])) t5 (.tup [.ref p, .ref E])) M (.dK [])) M (.dK (mergeK [] (mkv K)))) Hx ∧ ∃ ls : List Addr, Hx D = some (.lst (ls.map V.ref)) ∧ ls.length = j ∧ ∀ (k : Nat) (c : Addr), ls[k]? = some c → Hx c = some (.lst ((ap 2 (2 * m + k)).map V.int)))
        ⟨upd_same_new nD, [], upd_same, rfl, fun k c h => by cases h⟩ (fun j Hx hj h => ?_) fun H6 h => ?_
      · obtain ⟨sx, ls, hD, lj, hls⟩ := h
        have Bx := B.same sx
        obtain ⟨dx, hp⟩ := Bx.ins
        refine ⟨rfl, ?_⟩
        refine ⟨_, rfl, p, dx, _, rfl, hp, p, l, d, _, rfl, ⟨dx, hp⟩, Bx.lst, _, rfl, ⟨by omega, ?_⟩, _, rfl, ?_, ?_, ?_⟩
        · rw [List.length_map, ly]; omega
        · omega
        · rw [List.length_map, ly]; omega
        rw [List.length_map, ly]
        refine fun D2 nD2 => ?_
        refine lc_range (lo := 0) (n := ((2 * m + 2 : Nat) : Int).toNat) (fun c Hy => Same Hx Hy ∧ Hy D2 = some (.lst ((side j c).map V.int))) ⟨upd_same_new nD2, upd_same⟩ (fun c Hy hc h => ?_) fun Hy h => ?_
        · obtain ⟨sy, hD2⟩ := h
          refine ⟨rfl, ?_⟩
          refine ⟨_, rfl, _, _, rfl, rfl, by show (0 : Int) < 2; decide, _, rfl, rfl, _, rfl, ?_⟩
          have ec : decide (V.int ((0 + (c : Nat) : Int) % 2) = V.int (0 + (j : Nat) : Int)) = decide (c % 2 = j) := by
            refine decide_eq_decide.mpr ⟨fun z => ?_, fun z => ?_⟩
            · have := V.int.inj z; omega
            · congr 1; omega
          show if decide (V.int ((0 + (c : Nat) : Int) % 2) = V.int (0 + (j : Nat) : Int)) = true then _ else _
          rw [ec]
          by_cases hcj : c % 2 = j
          · rw [decide_eq_true hcj]
            refine iteT ⟨_, rfl, _, hD2, ?_, fun b2 o h => ?_, ?_⟩
            · rw [List.length_map]
              refine small1000' (Nat.lt_of_le_of_lt (?_ : _ ≤ c) (by omega))
              unfold side
              rw [List.length_map]
              exact Nat.le_trans (List.length_filter_le _ _) (by rw [List.length_range]; exact Nat.le_refl _)
            · rw [upd_ne (ne_of_none h nD2)]; exact sy _ _ h
            · rw [upd_same, side_succ, if_pos hcj, List.map_append, Int.zero_add]; rfl
          · rw [decide_eq_false hcj]
            refine iteF ⟨sy, ?_⟩
            rw [side_succ, if_neg hcj]; exact hD2
        · obtain ⟨sy, hD2⟩ := h
          rw [show ((2 * m + 2 : Nat) : Int).toNat = 2 * m + 2 by omega, side_ap hj] at hD2
          have hDy := sy _ _ hD
          have dd : D2 ≠ D := fun z => by rw [z, hD] at nD2; cases nD2
          refine ⟨_, hDy, ?_, fun b2 o h => ?_, ls ++ [D2], ?_, by rw [List.length_append, lj]; rfl, fun k c h => ?_⟩
          · rw [List.length_map, lj]; exact small1000 (by omega)
          · rw [upd_ne (ne_of_none h nD)]; exact sy _ _ (sx _ _ h)
          · rw [upd_same, List.map_append]; rfl
          · rw [List.getElem?_append] at h
            split at h
            · have hk := hls k c h
              rw [upd_ne (fun z => by
                rw [z, hD] at hk
                exact lst_ne h hk)]
              exact sy _ _ hk
            · rename_i hk
              have k0 : k - ls.length = 0 := by
                have := (List.getElem?_eq_some_iff.mp h).1
                simp at this
                omega
              rw [k0] at h
              obtain rfl := Option.some.inj h
              rw [upd_ne dd]
              have : k = j := by omega
              rw [this]
              exact hD2
      · obtain ⟨sx, ls, hD, lj, hls⟩ := h
        replace B := B.same sx
        replace hE := sx _ _ hE
        replace hM := sx _ _ hM
        replace hr4 := sx _ _ hr4
        replace hrow4 := fun x hx => (hrow4 x hx).same sx
        replace s4 := s4.trans sx
        clear sx nD
        obtain ⟨dx, hp⟩ := B.ins
        have hnm2 : ∀ r ∈ twoOf ws ws.length, NameOk r.1 := by rw [← ey]; exact B.nm
        have ch2 : Ch 2 (ys.map (·.2)) := by rw [ey]; exact c2.ch (.inr rfl) hw
        -- len, rows, parts
        refine ⟨_, rfl, p, dx, _, rfl, hp, p, l, d, _, rfl, ⟨dx, hp⟩, B.lst, _, rfl, ⟨by omega, ?_⟩, _, rfl, _, _, rfl, rfl, .inl ⟨by decide, by decide⟩, _, _, rfl, rfl, rfl, _, rfl, iteNS ?_ ?_⟩
        · rw [List.length_map, ly]; omega
        · rw [List.length_map, ly]; rfl
        refine ⟨_, rfl, _, _, _, rfl, hp, rfl, p, l, d, _, rfl, ⟨dx, hp⟩, B.lst, fun q1 nq1 => ?_⟩
        have sq := upd_same_new (o := .lst (ys.map fun x => V.ref x.1)) nq1
        refine ⟨_, rfl, .list ((twoOf ws ws.length).map rowD), .list ((twoOf ws ws.length).map rowD), .lst (SqL.of upd_same) (dp_rows' ey fun x hx => (B.row x hx).same sq), .lst (SqL.of (sq _ _ hr4)) (dp_rows' ex fun x hx => (hrow4 x hx).same sq), shaped_rows _ hnm2, shaped_rows _ hnm2, _, rfl, ?_⟩
        rw [rows_eqv hnm2]
        refine iteF ?_
        replace B := B.same sq
        replace hp := sq _ _ hp
        replace hE := sq _ _ hE
        replace hM := sq _ _ hM
        replace s4 := s4.trans sq
        replace hD := sq _ _ hD
        replace hls := fun k c h => sq _ _ (hls k c h)
        refine ⟨_, rfl, E, rfl, ⟨_, SqL.of hE⟩, fun D3 nD3 => ?_⟩
        refine lc_list (K := K) (a := E) (xs := [.int ((2 * m : Nat) : Int), .int ((2 * m + 1 : Nat) : Int)]) (fun j Hx => Same (upd H6 q1 (.lst (ys.map fun x => V.ref x.1))) Hx ∧ ∃ ls : List Addr, Hx D3 = some (.lst (ls.map V.ref)) ∧ ls.length = j ∧ ∀ (k : Nat) (c : Addr), ls[k]? = some c → Hx c = some (.lst ((ap 2 (2 * m + k)).map V.int)))
          ⟨upd_same_new nD3, [], upd_same, rfl, fun k c h => by cases h⟩ (fun j Hx _ h => SqL.of (h.1 _ _ hE)) (fun j x Hx hx h => ?_) fun H7 h => ?_
        · obtain ⟨sx, ls2, hD2, lj2, hls2⟩ := h
          have hj : j < 2 := (List.getElem?_eq_some_iff.mp hx).1
          obtain rfl : x = .int ((2 * m + j : Nat) : Int) := by
            have : j = 0 ∨ j = 1 := by omega
            rcases this with rfl | rfl <;> exact (Option.some.inj hx).symm
          have Bx := B.same sx
          refine ⟨rfl, ?_⟩
          refine ⟨_, rfl, _, _, _, rfl, sx _ _ hp, rfl, _, rfl, p, l, d, ys, 2, 2 * m + j, rfl, Bx, .inr rfl, ch2, by omega, fun H8 q8 s8 n8 h8 => ?_⟩
          have hD8 := s8 _ _ hD2
          have q8D : q8 ≠ D3 := fun z => by rw [z, hD2] at n8; cases n8
          refine ⟨_, hD8, ?_, fun b2 o h => ?_, ls2 ++ [q8], ?_, by rw [List.length_append, lj2]; rfl, fun k c h => ?_⟩
          · rw [List.length_map, lj2]; exact small1000 (by omega)
          · rw [upd_ne (ne_of_none h nD3)]; exact s8 _ _ (sx _ _ h)
          · rw [upd_same, List.map_append]; rfl
          · rw [List.getElem?_append] at h
            split at h
            · have hk := hls2 k c h
              rw [upd_ne (fun z => by
                rw [z, hD2] at hk
                exact lst_ne h hk)]
              exact s8 _ _ hk
            · rename_i hk
              have k0 : k - ls2.length = 0 := by
                have := (List.getElem?_eq_some_iff.mp h).1
                simp at this
                omega
              rw [k0] at h
              obtain rfl := Option.some.inj h
              rw [upd_ne q8D]
              have : k = j := by omega
              rw [this]
              exact h8
        · obtain ⟨sx, ls2, hD2, lj2, hls2⟩ := h
          have hls' := fun k c h => sx _ _ (hls k c h)
          refine ⟨_, rfl, .list [.list ((ap 2 (2 * m + 0)).map PyData.int), .list ((ap 2 (2 * m + 1)).map PyData.int)], .list [.list ((ap 2 (2 * m + 0)).map PyData.int), .list ((ap 2 (2 * m + 1)).map PyData.int)],
            .lst (SqL.of hD2) (dp_two (f := fun k => ap 2 (2 * m + k)) lj2 hls2), .lst (SqL.of (sx _ _ hD)) (dp_two (f := fun k => ap 2 (2 * m + k)) lj hls'), shaped_two _ _, shaped_two _ _, _, rfl, ?_⟩
          rw [SeqAt.eqv_refl _ (lay_two _ _)]
          refine iteF ?_
          replace B := B.same sx
          replace hp := sx _ _ hp
          replace hE := sx _ _ hE
          replace hM := sx _ _ hM
          replace s4 := s4.trans sx
          clear hls hls' hls2 hD2 hD lj lj2 sx sq hr4 hrow4 nD3 nq1
          have sy2 : Sy (ys.map (·.2)) := by rw [ey]; exact c2.sy (.inr rfl) hw tp2_ok
          -- size, depth, too long, value
          refine ⟨_, rfl, E, rfl, ⟨_, SqL.of hE⟩, ?_⟩
          refine for_list (K := K) (a := E) (xs := [.int ((2 * m : Nat) : Int), .int ((2 * m + 1 : Nat) : Int)]) (fun j σ' Hx => (∃ o, σ' = [some (.ref a), some (.int (0 + (i : Nat))), some (.ref b), some (.int m), some (.ref r), some (.int (szW ws)), some (.ref p), some (.ref E), some (.ref M), some (.ref D), o10, o11, o, o13, o14, o15]) ∧ Same H7 Hx)
            ⟨⟨_, rfl⟩, Same.refl H7⟩ (fun j σ' Hx _ h => SqL.of (h.2 _ _ hE)) (fun j x σ' Hx hx h => ?_) fun σ' H8 h => ?_
          · obtain ⟨⟨o, rfl⟩, sx⟩ := h
            have hj : j < 2 := (List.getElem?_eq_some_iff.mp hx).1
            obtain rfl : x = .int ((2 * m + j : Nat) : Int) := by
              have : j = 0 ∨ j = 1 := by omega
              rcases this with rfl | rfl <;> exact (Option.some.inj hx).symm
            have ed : (2 * m + j) / 2 = m := by omega
            refine ⟨_, rfl, _, _, _, rfl, sx _ _ hp, rfl, _, rfl, p, l, d, ys, 2, 2 * m + j, rfl, B.same sx, .inr rfl, ch2, by omega, fun Ha sa => ?_⟩
            refine ⟨_, rfl, rfl, _, rfl, iteNS ?_ ?_⟩
            · rw [ey, ed, c2.szF (.inr rfl) hj m (by omega), ← el, List.take_length]
            replace sa := sx.trans sa
            refine ⟨_, rfl, _, _, _, rfl, sa _ _ hp, rfl, _, rfl, p, l, d, ys, 2, 2 * m + j, rfl, B.same sa, .inr rfl, ch2, by omega, fun Hb sb => ?_⟩
            refine ⟨_, rfl, _, _, rfl, rfl, rfl, _, rfl, iteNS ?_ ?_⟩
            · rw [ed, dpF_eq]
            replace sb := sa.trans sb
            refine ⟨_, rfl, _, rfl, p, l, d, ys, 2, 2 * m + j, rfl, B.same sb, .inr rfl, ch2, by omega, by omega, fun Hc sc => ⟨true, rfl, iteF ?_⟩⟩
            replace sc := sb.trans sc
            refine ⟨_, rfl, _, _, _, rfl, sc _ _ hp, rfl, _, rfl, _, rfl, p, l, d, M, ys, 2, 2 * m + j, _, rfl, B.same sc, .inr rfl, ch2, sy2, by omega, sc _ _ hM, mkv_ok, fun Hd sd => ?_⟩
            refine ⟨_, rfl, rfl, _, rfl, iteNS ?_ ?_⟩
            · rw [ed]
            exact ⟨⟨_, rfl⟩, sc.trans sd⟩
          · obtain ⟨⟨o, rfl⟩, sx⟩ := h
            replace B := B.same sx
            replace hp := sx _ _ hp
            replace hE := sx _ _ hE
            replace s4 := s4.trans sx
            clear sx hM
            have pr2 : Pr (ys.map (·.2)) := by rw [ey]; exact c2.pr hw (by decide +kernel)
            -- differ
            refine ⟨_, rfl, _, _, _, rfl, hp, rfl, _, rfl, _, _, _, _, rfl, rfl, SqL.of hE, atI_nat (j := 0) rfl, _, rfl, _, _, _, _, rfl, rfl, SqL.of hE, atI_nat (j := 1) rfl, p, l, d, ys, 2 * m, 2 * m + 1, rfl, B, by omega, by omega, .inr ⟨m, rfl, rfl, pr2, fun Ha qa sa na ha => ?_⟩⟩
            refine ⟨by show 1 ≤ sizeLine; decide, fun z nz => ?_⟩
            have sz := upd_same_new (o := .lst [.int 0]) nz
            refine ⟨_, rfl, z, m, _, rfl, rfl, upd_same, by omega, by omega, by show 1 * (m : Int).toNat ≤ sizeLine; exact Nat.le_of_lt (small1000' (by omega)), fun y ny => ?_⟩
            have sy := upd_same_new (o := .lst (List.replicate (m : Int).toNat [V.int 0]).flatten) ny
            refine ⟨.list ((List.replicate m (0 : Int)).map PyData.int), .list ((List.replicate m (0 : Int)).map PyData.int), dp_zero (sy _ _ (sz _ _ ha)), dp_zero (by rw [upd_same, rep_flat]; rfl), shaped_l _, shaped_l _, _, rfl, ?_⟩
            rw [SeqAt.eqv_refl _ (lay_l _)]
            refine iteF ?_
            have sA := sa.trans (sz.trans sy)
            replace B := B.same sA
            replace hp := sA _ _ hp
            replace hE := sA _ _ hE
            replace s4 := s4.trans sA
            clear sa sz sy sA na ha
            refine ⟨_, rfl, _, _, _, rfl, hp, rfl, _, rfl, _, _, _, _, rfl, rfl, SqL.of hE, atI_nat (j := 1) rfl, _, rfl, _, _, _, _, rfl, rfl, SqL.of hE, atI_nat (j := 1) rfl, p, l, d, ys, 2 * m + 1, 2 * m + 1, rfl, B, by omega, by omega, .inl ⟨rfl, ?_⟩⟩
            refine ⟨rfl, _, rfl, iteNS rfl ?_⟩
            -- the other book
            have c1 := cr_one ws
            have nd1 : (oneOf ws ws.length).Nodup := c1.nodup (.inl rfl) hw fun i j h1 h2 _ => by omega
            have good1 : GoodRows (oneOf ws ws.length) := c1.good (.inl rfl) hw (fun _ _ => .inr rfl) (fun i j h1 h2 _ => by omega) (by omega)
            have ch1 : Ch 1 (oneOf ws ws.length) := c1.ch (.inl rfl) hw
            have nd2 : (twoOf ws ws.length).Nodup := c2.nodup (.inr rfl) hw tp2_inj
            refine fun x2 e2 nx ne dne => ?_
            have sN := fun {c : Addr} {o : HO} (h : (upd (upd Ha z (.lst [.int 0])) y (.lst (List.replicate (m : Int).toNat [V.int 0]).flatten)) c = some o) => (show upd (upd (upd (upd Ha z (.lst [.int 0])) y (.lst (List.replicate (m : Int).toNat [V.int 0]).flatten)) e2 (.own x2)) x2 (.ins (He.ga K "Book") e2 []) c = some o by rw [upd_ne (ne_of_none h nx), upd_ne (ne_of_none h ne)]; exact h)
            refine ⟨x2, _, e2, [], rfl, upd_same, .inr ⟨rfl, (empty_at T).1, (empty_at T).2⟩, fun x hx => (nomatch hx), ⟨List.nodup_nil, Nat.zero_le _, fun i r h => by cases h⟩, fun H9 l2 d2 zs ez hl2 hd2 kp B2 => ⟨rfl, ?_⟩⟩
            have s9 := Same.made nx ne fun c o h n => kp c o n h
            have nl : l ≠ l2 := fun z => by rw [z] at B; rw [sN B.lst] at hl2; cases hl2
            have nd : d ≠ d2 := fun z => by rw [z] at B; rw [sN B.dct] at hd2; cases hd2
            have old : ∀ {c o}, H c = some o → c ≠ l2 ∧ c ≠ d2 := fun {c o} h => ⟨ne_of_none (sN (s4 _ _ h)) hl2, ne_of_none (sN (s4 _ _ h)) hd2⟩
            have El : E ≠ l2 := ne_of_none (sN hE) hl2
            have Ed : E ≠ d2 := ne_of_none (sN hE) hd2
            have pl2 : p ≠ l2 := ne_of_none (sN hp) hl2
            have pd2 : p ≠ d2 := ne_of_none (sN hp) hd2
            replace B := B.same s9
            replace hp := s9 _ _ hp
            replace hE := s9 _ _ hE
            replace s4 := s4.trans s9
            clear kp sN nx ne dne hl2 hd2 s9 ny nz
            obtain rfl : zs = [] := List.map_eq_nil_iff.mp ez
            obtain ⟨dx2, hp2⟩ := B2.ins
            have ed1 : (2 * m + 1) / 2 = m := by omega
            have mk1 : cS 2 (2 * m + 1) (twoOf ws ws.length) [] (m + 1) = (oneOf ws ws.length, m) := by
              have := c2.made (.inr rfl) c1 nd1 (m := m) (u := 1) (by decide) rfl m (by omega)
              rw [this, List.take_of_length_le (by rw [oneOf_len]; omega)]
            have fo1 : cS 2 (2 * m + 1) (twoOf ws ws.length) (oneOf ws ws.length) (m + 1) = (oneOf ws ws.length, m) := by
              have := c2.found (.inr rfl) c1 nd1 (m := m) (u := 1) (u2 := 0) (by decide) (by decide) rfl m (by omega)
              rw [this]
              congr 1
              omega
            have fo2 : cS 1 m (oneOf ws ws.length) (twoOf ws ws.length) (m + 1) = (twoOf ws ws.length, 2 * m + 1) := by
              have := c1.found (.inl rfl) c2 nd2 (m := m) (u := 0) (u2 := 1) (by decide) (by decide) rfl m (by omega)
              rw [show 1 * m + 0 = m by omega] at this
              exact this
            have ap0 : (cS 2 (2 * m) (twoOf ws ws.length) (oneOf ws ws.length) (m + 1)).2 ≠ m := fun z => by
              have := (c2.apart (.inr rfl) c1 hw (m := m) (u := 0) (by decide) (by decide +kernel) m (by omega)).1
              rw [Nat.add_zero, z, oneOf_len] at this
              omega
            -- carried
            refine ⟨_, rfl, _, _, _, rfl, hp2, rfl, _, rfl, _, rfl, _, _, _, _, rfl, rfl, SqL.of hE, atI_nat (j := 1) rfl, x2, l2, d2, p, l, d, [], ys, 2, 2 * m + 1, rfl, B2, B, nl, nd, .inr rfl, ch2, by omega, by show 0 + (2 * m + 1) + 1 ≤ 10000; omega, fun Hb zs sv ez B2n => ?_⟩
            rw [ey, ed1] at ez
            rw [ey, ed1]
            rw [show (List.map (fun x : Addr × Rw => x.2) []) = ([] : List Rw) from rfl] at ez ⊢
            rw [mk1] at ez
            rw [mk1]
            replace ez : zs.map (·.2) = oneOf ws ws.length := ez
            replace B := B.sv B2 sv nl nd
            replace hp := sv _ _ pl2 pd2 hp
            replace hE := sv _ _ El Ed hE
            replace s4 : Same H Hb := fun c o h => sv _ _ (old h).1 (old h).2 (s4 _ _ h)
            clear B2 hp2 sv
            obtain ⟨dx3, hp2⟩ := B2n.ins
            have lz : zs.length = m + 1 := by
              have := congrArg List.length ez
              rw [List.length_map, oneOf_len, el] at this
              exact this
            refine ⟨_, rfl, _, rfl, rfl, _, rfl, iteNS rfl ?_⟩
            refine ⟨_, rfl, x2, dx3, _, rfl, hp2, x2, l2, d2, _, rfl, ⟨dx3, hp2⟩, B2n.lst, _, rfl, ⟨by omega, by rw [List.length_map]; omega⟩, _, rfl, _, _, rfl, rfl, rfl, _, rfl, iteNS (by rw [List.length_map, lz]; rfl) ?_⟩
            refine ⟨_, rfl, _, _, _, rfl, hp2, rfl, _, rfl, _, rfl, _, _, _, _, rfl, rfl, SqL.of hE, atI_nat (j := 1) rfl, x2, l2, d2, p, l, d, zs, ys, 2, 2 * m + 1, rfl, B2n, B, nl, nd, .inr rfl, ch2, by omega, by omega, fun Hc zs2 sv ez2 B3 => ?_⟩
            rw [ey, ed1, ez, fo1] at ez2
            replace ez2 : zs2.map (·.2) = oneOf ws ws.length := ez2
            refine ⟨_, rfl, rfl, _, rfl, iteNS (by rw [ey, ed1, ez, fo1]) ?_⟩
            replace B := B.sv B2n sv nl nd
            replace hp := sv _ _ pl2 pd2 hp
            replace hE := sv _ _ El Ed hE
            replace s4 : Same H Hc := fun c o h => sv _ _ (old h).1 (old h).2 (s4 _ _ h)
            clear B2n hp2 sv lz ez zs
            have lz : zs2.length = m + 1 := by
              have := congrArg List.length ez2
              rw [List.length_map, oneOf_len, el] at this
              exact this
            have ch1' : Ch 1 (zs2.map (·.2)) := by rw [ez2]; exact ch1
            -- carried back
            refine ⟨_, rfl, _, _, _, rfl, hp, rfl, _, rfl, _, rfl, p, l, d, x2, l2, d2, ys, zs2, 1, m, rfl, B, B3, nl.symm, nd.symm, .inl rfl, ch1', by omega, by omega, fun Hd ys2 sv ey2 B4 => ?_⟩
            rw [ey, ez2, Nat.div_one, fo2] at ey2
            replace ey2 : ys2.map (·.2) = twoOf ws ws.length := ey2
            replace hE := sv _ _ lE.symm dE.symm hE
            replace s4 : Same H Hd := fun c o h => sv _ _ (old1 h).1 (old1 h).2 (s4 _ _ h)
            replace B3 := B3.sv B sv nl.symm nd.symm
            refine ⟨_, rfl, _, _, _, _, rfl, rfl, SqL.of hE, atI_nat (j := 1) rfl, rfl, _, rfl, iteNS (by rw [ey, ez2, Nat.div_one, fo2]) ?_⟩
            clear B hp sv
            obtain ⟨dx4, hp⟩ := B4.ins
            have ly2 : ys2.length = 2 * m + 2 := by
              have := congrArg List.length ey2
              rw [List.length_map, twoOf_len, el] at this
              omega
            have ch2' : Ch 2 (ys2.map (·.2)) := by rw [ey2, ← ey]; exact ch2
            refine ⟨_, rfl, p, dx4, _, rfl, hp, p, l, d, _, rfl, ⟨dx4, hp⟩, B4.lst, _, rfl, ⟨by omega, by rw [List.length_map]; omega⟩, _, rfl, _, _, rfl, rfl, .inl ⟨by decide, by decide⟩, _, _, rfl, rfl, rfl, _, rfl, iteNS (by rw [List.length_map, ly2]; rfl) ?_⟩
            -- told
            refine ⟨_, rfl, _, rfl, _, _, _, _, rfl, rfl, SqL.of hE, atI_nat (j := 1) rfl, _, rfl, _, rfl, p, l, d, x2, l2, d2, ys2, zs2, 1, m, 2 * m + 1, rfl, B4, B3, .inl rfl, ch1', by omega, by omega, by omega, by rw [ey2]; exact good2, fun He se => ?_⟩
            rw [ey2, ez2, Nat.div_one, fo2, decide_eq_true rfl]
            replace hE := se _ _ hE
            replace s4 := s4.trans se
            replace B4 := B4.same se
            replace B3 := B3.same se
            clear se hp
            refine ⟨_, rfl, _, rfl, _, rfl, _, rfl, _, _, _, _, rfl, rfl, SqL.of hE, atI_nat (j := 0) rfl, x2, l2, d2, p, l, d, zs2, ys2, 2, 2 * m, m, rfl, B3, B4, .inr rfl, ch2', by omega, by omega, by omega, by rw [ez2]; exact good1, fun Hf sf => ?_⟩
            rw [ey2, ez2, show 2 * m / 2 = m by omega, decide_eq_false ap0]
            replace s4 := s4.trans sf
            replace B4 := B4.same sf
            refine ⟨by show 2 ≤ sizeLine; decide, fun td ntd => ?_⟩
            have st := upd_same_new (o := .lst [.bl true, .bl false]) ntd
            replace s4 := s4.trans st
            replace B4 := B4.same st
            refine ⟨_, rfl, td, .list [.bool true, .bool false], rfl, .lst (SqL.of upd_same) (.cons (.bl _) (.cons (.bl _) .nil)), by decide +kernel, by decide +kernel, by decide +kernel, by decide +kernel, ?_⟩
            refine ⟨by show 2 ≤ sizeLine; decide, fun t9 n9 => ?_⟩
            have st2 := upd_same_new (o := .lst [.bl true, .bl false]) n9
            replace s4 := s4.trans st2
            replace B4 := B4.same st2
            refine ⟨t9, .list [.bool true, .bool false], rfl, .lst (SqL.of upd_same) (.cons (.bl _) (.cons (.bl _) .nil)), by decide +kernel, by decide +kernel, by decide +kernel, by decide +kernel, ?_⟩
            refine ⟨rfl, _, rfl, iteNS rfl ?_⟩
            obtain ⟨dx5, hp5⟩ := B4.ins
            refine ⟨_, rfl, _, _, _, rfl, hp5, rfl, p, l, d, ys2, rfl, B4, by rw [ey2]; exact good2, fun Hg p6 l6 d6 zs6 s6 e6 _ _ B6 => ?_⟩
            obtain ⟨dx6, hp6⟩ := B6.ins
            refine ⟨_, rfl, p6, p, dx6, dx5, _, _, rfl, rfl, hp6, s6 _ _ hp5, p6, l6, d6, p, l, d, zs6, ys2, rfl, B6, B4.same s6, e6, true, rfl, false, rfl, iteF ?_⟩
            exact ⟨⟨_, _, _, _, _, _, _, _, _, _, _, _, _, _, _, rfl⟩, s4.trans s6⟩
    · exact q H'
end
end T59
namespace T59
open PySem PySem.Spec PyProof.Rows L2 NX
/-! k59: the end. -/
end T59
open PySem PySem.W PySem.Calls PyProof.Rows
theorem PySem.Challenge.cw_toldpast_k59_long_chains_of_terms_holds : PySem.Challenge.rw_toldpast_k59_long_chains_of_terms.Holds := by
  w_on; o_law
  refine HandSHeadRun.head_any (r := OpenLaw.row PySem.Challenge.rw_toldpast_k59_long_chains_of_terms) (q := view (OpenLaw.row PySem.Challenge.rw_toldpast_k59_long_chains_of_terms).prog [47]) (H := T59.hk) (ob := T59.ob) (M := 6000) (loose := T59.loose) (d := HandSHeadRun.topDef (OpenLaw.row PySem.Challenge.rw_toldpast_k59_long_chains_of_terms).prog 47) (kwd := []) T59.ob_eq
    (by kernel_rfl) (fun s => by kernel_rfl) T59.run (by kernel_rfl) (by kernel_rfl) (by kernel_rfl) (by rfl) (by first | assumption | decide +kernel) (by decide +kernel) ⟨rfl, rfl, rfl, rfl, rfl, by decide +kernel⟩ ?hw ?hc
  case hw => w_witness2
  case hc =>
    refine NX.walk_ofG (l := PySem.Challenge.rw_toldpast_k59_long_chains_of_terms) (n := 63) (k := 8) (x := "_law_script") rfl (by decide) (by kernel_rfl) ⟨rfl, by decide, by decide⟩ ?F
    intro w mg fa h Y G hmg0
    obtain ⟨K, KX, c⟩ := Y
    have T : T59.Tx K mg := T59.tx KX G c
    have hmg : mg ("law" : PySem.Str) = some (.ref fa) := by
      have e : (HandSHeadRun.topDef (OpenLaw.row PySem.Challenge.rw_toldpast_k59_long_chains_of_terms).prog 47).name = ("law" : PySem.Str) := by kernel_rfl
      rw [← e]
      exact hmg0
    have e := hmg.symm.trans T.g_law
    cases e
    have b := L2.FunD.bindsA (ps := ["_law_script"]) T.f_law fun _ _ _ _ _ _ us hl => match us, hl with | [_], _ => rfl
    exact ⟨K, NX.fdOf K ("law", none), T59.spLaw K, KX, fun s v => b s [v] rfl, fun H a ns hl _ hS => ⟨a, ns, rfl, hS, fun _ => rfl⟩, fun base _ _ => T59.ok_law T⟩
