import PyProof.Rows.All
import Wide.All
import OpenK.AllK
import HandS.ForMost
import KE.KeyNested
import KE.KDictKeyed
import HandS.TupLen
import KE.KSetDisp
import KE.KRevSl
import KE.KDictDisplayH
import HandS.Small
import HandS.Strs
import HandS.TupAny
import PyProof.Rows.SetFrom
import Wide.FinOn
import HandS.Wide
import HandS.Gcd
import HandS.TupMul
import HandS.IsInst
import HandS.Flow
import HandS.Conv
import HandS.Defaults
import HandS.Deep
import HandS.More
import HandS.Head2
import HandS.HeadHook2
import HandS.HeadEnd
import HandS.Exc
import HandS.ExcOwn
import HandS.ExcIs
import HandS.WordsExc
import KE.KStateDown
import HandS.Base
import HandS.Call
import HandS.Ends
import HandS.Words
import HandS.Head0
import HandS.Head1
import HandS.Head3
import HandS.HeadHook1
import PySem.Challenge.RW_everynumber_k77_whole_doubling_substitut
set_option Elab.async false
set_option linter.all false
set_option maxRecDepth 100000
set_option maxHeartbeats 0
/-! Ab0d: dicts whose keys are tuples of any depth, over the layer. -/
namespace Ab
open PySem PySem.Spec PyProof.Rows L2
mutual
/-- the value is such a key -/
inductive NkV (K : PySem.W.Frag) (H : Hp) : NestedKey → V → Prop
  | non : NkV K H .none .non
  | int (i : Int) : NkV K H (.num i) (.int i)
  | bl (b : Bool) : NkV K H (.num (if b = true then 1 else 0)) (.bl b)
  | str (x : Str) : NkV K H (.text x) (.str x)
  | tup {b : Addr} {vs : List V} {ks : List NestedKey} : SqT K H b vs → NkVs K H ks vs → NkV K H (.tup ks) (.ref b)
inductive NkVs (K : PySem.W.Frag) (H : Hp) : List NestedKey → List V → Prop
  | nil : NkVs K H [] []
  | cons {k v ks vs} : NkV K H k v → NkVs K H ks vs → NkVs K H (k :: ks) (v :: vs)
end
section
variable {X : Cx} {pins : List (Addr × Obj)} {σ : L2.St} {H : Hp} {s : Shared}
mutual
theorem nk_is (I : Inv X pins σ H s) : ∀ {k : NestedKey} {x : V} {v : Value}, NkV X.K H k x → RelV x v → NestedIs s.heap k v
  | _, _, v, .non, r => by
    cases r
    exact .none
  | _, _, v, .int i, r => by
    obtain ⟨t, rfl⟩ := r
    exact .int i t
  | _, _, v, .bl b, r => by
    cases r
    exact .bool rfl
  | _, _, v, .str x, r => by
    obtain ⟨t, rfl⟩ := r
    exact .text x t
  | _, _, v, .tup h hs, r => by
    cases r
    obtain ⟨its, rv, it, _⟩ := I.tuple h
    obtain ⟨o, ho, hc, n, hd⟩ := it
    exact .tup ho hc hd (by simpa using nks_are I hs rv)
theorem nks_are (I : Inv X pins σ H s) : ∀ {ks : List NestedKey} {xs : List V} {vs : List Value}, NkVs X.K H ks xs → Vals xs vs → NestedAll s.heap ks vs
  | _, _, _, .nil, r => by
    cases r
    exact .nil
  | _, _, _, .cons h hs, r => by
    cases r with
    | cons r1 r2 => exact .cons (nk_is I h r1) (nks_are I hs r2)
end
/-- the entries as they lie: key, its address, the value -/
inductive XRel : List (NestedKey × Addr × V) → List (NestedKey × Addr × Value) → Prop
  | nil : XRel [] []
  | cons {k : NestedKey} {b : Addr} {v : V} {u : Value} {xs ys} : RelV v u → XRel xs ys → XRel ((k, b, v) :: xs) ((k, b, u) :: ys)
theorem XRel.length : ∀ {xs ys}, XRel xs ys → xs.length = ys.length
  | _, _, .nil => rfl
  | _, _, .cons _ h => by simp [XRel.length h]
theorem XRel.keys : ∀ {xs ys}, XRel xs ys → xs.map (·.1) = ys.map (·.1)
  | _, _, .nil => rfl
  | _, _, .cons _ h => by simp [XRel.keys h]
def atX (xs : List (NestedKey × Addr × V)) (k : NestedKey) : Option V := (xs.find? fun x => decide (x.1 = k)).map (·.2.2)
def putX (xs : List (NestedKey × Addr × V)) (k : NestedKey) (b : Addr) (v : V) : List (NestedKey × Addr × V) :=
  if (atX xs k).isSome then xs.map (fun x => if x.1 = k then (x.1, x.2.1, v) else x) else xs ++ [(k, b, v)]
theorem XRel.at_ : ∀ {xs ys}, XRel xs ys → ∀ k, RelO (atX xs k) ((atKey ys k).map (·.2))
  | _, _, .nil, k => by
    simp only [atX, atKey, List.find?_nil, Option.map_none]
    trivial
  | _, _, .cons (k := k') r h, k => by
    have ih := XRel.at_ h k
    by_cases e : k' = k
    · simp [atX, atKey, List.find?_cons, e]
      exact r
    · simp only [atX, atKey, List.find?_cons, e, decide_false] at ih ⊢
      exact ih
theorem XRel.snoc {k : NestedKey} {b : Addr} {v : V} {u : Value} (r : RelV v u) : ∀ {xs ys}, XRel xs ys → XRel (xs ++ [(k, b, v)]) (ys ++ [(k, b, u)])
  | _, _, .nil => .cons r .nil
  | _, _, .cons r' h => .cons r' (XRel.snoc r h)
theorem XRel.repl {k : NestedKey} {v : V} {u : Value} (r : RelV v u) : ∀ {xs ys}, XRel xs ys → XRel (xs.map (fun x => if x.1 = k then (x.1, x.2.1, v) else x)) (ys.map (putAt k u))
  | _, _, .nil => .nil
  | _, _, .cons (k := k') r' h => by
    by_cases e : k' = k
    · simp only [List.map_cons, putAt, e, if_true]
      exact .cons r (XRel.repl r h)
    · simp only [List.map_cons, putAt, e, if_false]
      exact .cons r' (XRel.repl r h)
theorem RelO.some_iff {o : Option V} {p : Option Value} (r : RelO o p) : o.isSome = p.isSome := RelO.isSome_eq r
theorem XRel.put {k : NestedKey} {b : Addr} {v : V} {u : Value} (r : RelV v u) {xs ys} (h : XRel xs ys) : XRel (putX xs k b v) (storedH ys k b u) := by
  have e : (atX xs k).isSome = (atKey ys k).isSome := by
    have := RelO.isSome_eq (h.at_ k)
    rwa [Option.isSome_map] at this
  unfold putX storedH
  rw [e]
  split
  · exact h.repl r
  · exact h.snoc r
/-- the dict at a -/
def DicX (P : Program) (w : World) (a : Addr) (xs : List (NestedKey × Addr × V)) : HO := .ext fun h => xs.length ≤ sizeLine ∧ (a == sysModules) = false ∧ (xs.map (·.1)).Nodup ∧
  ∃ ys, XRel xs ys ∧ ∃ o es ep, h.get? a = some o ∧ o.ExactDict ∧ o.data = .dict es ep ∧ es.toList = ys.map (entryOfKey (nestedKind P w))
theorem dicX_ok {P : Program} {w : World} {H' : Hp} {h : Heap} {a : Addr} {xs : List (NestedKey × Addr × V)} {ys} (hz : xs.length ≤ sizeLine) (hd : (a == sysModules) = false) (hr : XRel xs ys) (hm : h.DictOfH (nestedKind P w) a ys) : ObjOk P w H' h a (DicX P w a xs) := by
  obtain ⟨o, es, ep, h1, h2, h3, h4, _, h6⟩ := hm
  refine ⟨⟨hz, hd, by rw [hr.keys]; exact h6, ys, hr, o, es, ep, h1, h2, h3, h4⟩, ⟨o, h1⟩, fun a1 a2 p q => ?_⟩
  obtain ⟨b1, b2, b3, ys', b4, o', es', ep', b5, b6⟩ := p
  exact ⟨b1, b2, b3, ys', b4, o', es', ep', q _ b5, b6⟩
/-- its keys are keys -/
def KeysOk (K : PySem.W.Frag) (H : Hp) (xs : List (NestedKey × Addr × V)) : Prop := ∀ x ∈ xs, NkV K H x.1 (.ref x.2.1) ∧ x.1.depth ≤ 8
theorem XRel.mem : ∀ {xs ys}, XRel xs ys → ∀ y ∈ ys, ∃ x ∈ xs, x.1 = y.1 ∧ x.2.1 = y.2.1
  | _, _, .cons (k := k) (b := b) (v := v) r h, y, hy => by
    rcases List.mem_cons.mp hy with rfl | hy
    · exact ⟨_, List.mem_cons_self, rfl, rfl⟩
    · obtain ⟨x, h1, h2⟩ := XRel.mem h y hy
      exact ⟨x, List.mem_cons_of_mem _ h1, h2⟩
theorem dicX_of (I : Inv X pins σ H s) {a : Addr} {xs : List (NestedKey × Addr × V)} (e : H a = some (DicX X.prog X.w a xs)) (hk : KeysOk X.K H xs) : xs.length ≤ sizeLine ∧ (a == sysModules) = false ∧ ∃ ys, XRel xs ys ∧ s.heap.DictOfH (nestedKind X.prog X.w) a ys := by
  obtain ⟨⟨h1, h2, h3, ys, h4, o, es, ep, h5, h6, h7, h8⟩, _⟩ := I.hok a _ e
  refine ⟨h1, h2, ys, h4, o, es, ep, h5, h6, h7, h8, fun y hy => ?_, by rw [← h4.keys]; exact h3⟩
  obtain ⟨x, hx, e1, e2⟩ := h4.mem y hy
  obtain ⟨n1, n2⟩ := hk x hx
  rw [← e1, ← e2]
  exact ⟨nk_is I n1 rfl, n2⟩
end
end Ab

/-! Ab0e: such dicts read, asked, stored, made. -/
namespace Ab
open PySem PySem.Spec PyProof.Rows L2
section
variable {X : Cx} {pins : List (Addr × Obj)} {σ : L2.St} {H : Hp} {s : Shared} {a b : Addr} {k : NestedKey} {xs : List (NestedKey × Addr × V)}
theorem nk_room {A : Around} (hu : A.units + 64 < cLine) : A.in1.units + 8 < cLine := by
  show A.units + 1 + 8 < cLine
  omega
theorem dx_in (hu : X.A.units + 64 < cLine) {Q : VK} (I : Inv X pins σ H s) (e : H a = some (DicX X.prog X.w a xs)) (hk : KeysOk X.K H xs) (kb : NkV X.K H k (.ref b)) (kd : k.depth ≤ 8) (h : Q (.bl (atX xs k).isSome) H) :
    wpAny (model X.prog X.w) X.A (compareOp .In (.ref b) (.ref a)) (EP X pins σ Q) X.xe s := by
  obtain ⟨z, hd, ys, hr, hm⟩ := dicX_of I e hk
  refine wpAny_in_heap (knd := nestedKind X.prog X.w) (nk_room hu) ⟨nk_is I kb rfl, kd⟩ hd hm ?_
  have q := RelO.isSome_eq (hr.at_ k)
  rw [Option.isSome_map] at q
  rw [← q]
  exact ⟨.bl _, H, I.tok _, rfl, h⟩
theorem dx_notin (hu : X.A.units + 64 < cLine) {Q : VK} (I : Inv X pins σ H s) (e : H a = some (DicX X.prog X.w a xs)) (hk : KeysOk X.K H xs) (kb : NkV X.K H k (.ref b)) (kd : k.depth ≤ 8) (h : Q (.bl (!(atX xs k).isSome)) H) :
    wpAny (model X.prog X.w) X.A (compareOp .NotIn (.ref b) (.ref a)) (EP X pins σ Q) X.xe s := by
  obtain ⟨z, hd, ys, hr, hm⟩ := dicX_of I e hk
  refine wpAny_notIn_heap (knd := nestedKind X.prog X.w) (nk_room hu) ⟨nk_is I kb rfl, kd⟩ hd hm ?_
  have q := RelO.isSome_eq (hr.at_ k)
  rw [Option.isSome_map] at q
  rw [← q]
  exact ⟨.bl _, H, I.tok _, rfl, h⟩
theorem dx_get (hu : X.A.units + 64 < cLine) {v : V} {Q : VK} (I : Inv X pins σ H s) (e : H a = some (DicX X.prog X.w a xs)) (hk : KeysOk X.K H xs) (kb : NkV X.K H k (.ref b)) (kd : k.depth ≤ 8) (hv : atX xs k = some v) (h : Q v H) :
    wpAny (model X.prog X.w) X.A (getItem (.ref a) (.ref b)) (EP X pins σ Q) X.xe s := by
  obtain ⟨z, hd, ys, hr, hm⟩ := dicX_of I e hk
  obtain ⟨w', hw, rw'⟩ := RelO.some_of (v := v) (o := (atKey ys k).map (·.2)) (by rw [← hv]; exact hr.at_ k)
  obtain ⟨p, hp, hp2⟩ := Option.map_eq_some_iff.mp hw
  refine wpAny_getItem_heap (knd := nestedKind X.prog X.w) (nk_room hu) ⟨nk_is I kb rfl, kd⟩ hm hp ?_
  rw [hp2]
  exact ⟨v, H, I.tok _, rw', h⟩
theorem putX_len (xs : List (NestedKey × Addr × V)) (k : NestedKey) (b : Addr) (v : V) : (putX xs k b v).length ≤ xs.length + 1 := by
  unfold putX
  split <;> simp
theorem dx_set (hu : X.A.units + 64 < cLine) {v : V} {u : Value} {Q : Unit → Shared → Prop} (I : Inv X pins σ H s) (e : H a = some (DicX X.prog X.w a xs)) (hk : KeysOk X.K H xs) (kb : NkV X.K H k (.ref b)) (kd : k.depth ≤ 8) (rv : RelV v u) (hl : xs.length < sizeLine)
    (h : ∀ s', Inv X pins σ (upd H a (DicX X.prog X.w a (putX xs k b v))) s' → Q () s') {E : Value → Shared → Prop} :
    wpAny (model X.prog X.w) X.A (setItem (.ref a) (.ref b) u) Q E s := by
  obtain ⟨z, hd, ys, hr, hm⟩ := dicX_of I e hk
  refine wpAny_setItem_heap (knd := nestedKind X.prog X.w) (hsz := by rw [← hr.length]; exact z) (nk_room hu) ⟨nk_is I kb rfl, kd⟩ hm fun h' dd' hs => h _ ?_
  have he : ∃ q, h'.get? a = some q := by
    obtain ⟨q, _, _, hq, _⟩ := dd'
    exact ⟨q, hq⟩
  exact d_write I (by rw [e]; exact True.intro) hs he (dicX_ok (by have := putX_len xs k b v; omega) hd (hr.put rv) dd')
theorem dx_empty {P : Program} {w : World} {H : Hp} (h : Heap) (hb : sysModules < h.objs.size) : ObjOk P w H (h.push { cls := .type "dict", data := .dict #[] }) h.objs.size (DicX P w h.objs.size []) :=
  dicX_ok (ys := []) (Nat.zero_le _) (beq_eq_false_iff_ne.mpr (Ne.symm (Nat.ne_of_lt hb))) .nil (Heap.DictOfH.new h)
def tDNewX (P : Program) (w : World) : TE := fun _ H Q => ∀ p, H p = none → Q (.ref p) (upd H p (DicX P w p []))
theorem pe_dnewX {pos : Pos} : PE X (.Dict [] [] pos) (tDNewX X.prog X.w) := ⟨fun pins s σ H Q I h =>
  wpAny_Dict_empty ⟨.ref s.heap.objs.size, _, I.laid (a := s.heap.objs.size) (o := DicX X.prog X.w s.heap.objs.size []) (t' := s.toks) (fun _ _ q => Heap.get?_push_of_some _ q) (Nat.le_refl _) (dx_empty s.heap I.big), rfl, h _ (I.hok.fresh (Nat.le_refl _))⟩⟩
/-- d[k], k a tuple -/
def tDGetX (P : Program) (w : World) (K : PySem.W.Frag) (td ty : TE) : TE := fun σ H Q => td σ H fun x H1 => ty σ H1 fun y H2 => ∃ a b xs k v, x = .ref a ∧ y = .ref b ∧ H2 a = some (DicX P w a xs) ∧ KeysOk K H2 xs ∧ NkV K H2 k (.ref b) ∧ k.depth ≤ 8 ∧ atX xs k = some v ∧ Q v H2
theorem dicX_typeIs (I : Inv X pins σ H s) (e : H a = some (DicX X.prog X.w a xs)) : s.TypeIs (.ref a) "dict" := by
  obtain ⟨⟨_, _, _, _, _, o, _, _, h5, h6, _⟩, _⟩ := I.hok a _ e
  exact ⟨o, h5, h6.1⟩
theorem pe_dgetX {o i : Expr} {td ty : TE} {pos : Pos} (hu : X.A.units + 64 < cLine) (ho : PE X o td) (hi : PE X i ty) (hs : NoSl i) : PE X (.Subscript o i pos) (tDGetX X.prog X.w X.K td ty) := by
  refine ⟨fun pins s σ H Q I h => ?_⟩
  refine subD_of PySem.F.slot_dict_getitem.lookup hs (thn (ho.run pins s σ H _ I h) fun u s1 ⟨x, H1, I1, rx, q1⟩ => thn (hi.run pins s1 σ H1 _ I1 q1) fun iv s2 ⟨y, H2, I2, ry, a, b, xs, k, v, ex, ey, e, hk, kb, kd, hv, q2⟩ => ?_)
  subst ex ey
  obtain rfl : u = Value.ref a := rx
  obtain rfl : iv = Value.ref b := ry
  exact ⟨dicX_typeIs I2 e, dx_get hu I2 e hk kb kd hv q2⟩
theorem dx_len {Q : VK} (I : Inv X pins σ H s) (e : H a = some (DicX X.prog X.w a xs)) (hk : KeysOk X.K H xs) (h : Q (.int ((xs.length : Nat) : Int)) H) :
    wpAny (model X.prog X.w) X.A (call (.builtin "len") [.ref a]) (EP X pins σ Q) X.xe s := by
  obtain ⟨z, hd, ys, hr, hm⟩ := dicX_of I e hk
  have hl := hr.length
  have hsl := sizeLine_eq
  refine PySem.call_len_dictH hd hm (by omega) ?_
  rw [← hl]
  exact ⟨.int ((xs.length : Nat) : Int), H, I.tok _, ⟨_, rfl⟩, h⟩
end
end Ab

/-! Ab0f: sets of ints; t[::-1]; displays. -/
namespace Ab
open PySem PySem.Spec PyProof.Rows L2
section
variable {X : Cx} {pins : List (Addr × Obj)} {σ : L2.St} {H : Hp} {s : Shared} {a : Addr} {S : Int → Bool} {n : Nat}
/-! ### sets of ints -/
theorem si_of (I : Inv X pins σ H s) (ha : H a = some (.set S n)) : s.heap.SetOf (intKind X.prog X.w) a S n := I.hok a _ ha
theorem si_in {i : Int} {v : Value} {Q : VK} (I : Inv X pins σ H s) (ha : H a = some (.set S n)) (r : RelV (.int i) v) (h : Q (.bl (S i)) H) :
    wpAny (model X.prog X.w) X.A (compareOp .In v (.ref a)) (EP X pins σ Q) X.xe s := by
  obtain ⟨tk, rfl⟩ := r
  exact wpAny_inSet_of (intKind_is _ _ _ _) rfl (si_of I ha) ⟨.bl (S i), H, I.tok _, rfl, h⟩
theorem si_notin {i : Int} {v : Value} {Q : VK} (I : Inv X pins σ H s) (ha : H a = some (.set S n)) (r : RelV (.int i) v) (h : Q (.bl (!S i)) H) :
    wpAny (model X.prog X.w) X.A (compareOp .NotIn v (.ref a)) (EP X pins σ Q) X.xe s := by
  obtain ⟨tk, rfl⟩ := r
  exact wpAny_notInSet_of (intKind_is _ _ _ _) rfl (si_of I ha) ⟨.bl (!S i), H, I.tok _, rfl, h⟩
theorem si_there {P : Program} {w : World} {h : Heap} (q : h.SetOf (intKind P w) a S n) : ∃ u, h.get? a = some u := by
  obtain ⟨o, _, _, _, ho, _⟩ := q
  exact ⟨o, ho⟩
def rSiAdd : V → List V → Hp → VK → Prop := fun x xs H Q => ∃ (a : Addr) (k : Int) (S : Int → Bool) (n : Nat), x = V.ref a ∧ xs = [V.int k] ∧ H a = some (.set S n) ∧ n + 1 < scanBound ∧
  Q .non (upd H a (.set (fun j => S j || decide (j = k)) (if S k = true then n else n + 1)))
theorem mt_si : MtR X "set.add" rSiAdd := by
  intro pins s σ H x xs v us Q I rx rxs h
  obtain ⟨a, k, S, n, rfl, rfl, ha, room, q⟩ := h
  cases rx
  cases rxs with
  | cons ry rt =>
    cases rt
    obtain ⟨tk, rfl⟩ := ry
    refine call_set_add (intKind_is _ _ _ _) rfl (si_of I ha) room fun h' sb new => ?_
    exact ⟨.non, _, d_write (ob := .set (fun j => S j || decide (j = k)) (if S k = true then n else n + 1)) I (by rw [ha]; exact True.intro) sb (si_there new) new, rfl, q⟩
/-- {e} -/
def tSet1 (te : TE) : TE := fun σ H Q => ∀ p, H p = none → te σ (upd H p (.set (fun _ => false) 0)) fun v H1 => ∃ i : Int, v = .int i ∧ H1 p = some (.set (fun _ => false) 0) ∧ Q (.ref p) (upd H1 p (.set (fun j => decide (j = i)) 1))
theorem pe_set1 {e : Expr} {k : Nat} {pos : Pos} {te : TE} (hcd : PySem.W.kdsCode X.K X.env.code = true) (hk : k = 0) (hp : PySem.W.kdsPlain e = true) (he : PE X e te) : PE X (.Set [e] k pos) (tSet1 te) := by
  refine ⟨fun pins s σ H Q I h => ?_⟩
  subst hk
  rw [arm_eval_Set]
  refine wpAny_bind (wpAny_standAt ?_)
  refine wpAny_bind (PySem.W.kds_main I.kIn hcd fun b => ?_)
  rw [PySem.W.kds_star [e] (by simp [hp]), List.map_map]
  refine PySem.W.kds_core (ts := (evalEach [e] X.env).map fun t => do let v ← t; standAt pos; pure v) (by rfl) ?_ ?_ ?_ fun led => ?_
  · refine List.findIdx?_eq_none_iff.mpr fun x hx => ?_
    obtain ⟨t, _, rfl⟩ := List.mem_map.mp hx
    rfl
  · rw [List.length_map, PySem.W.kds_len]
    show 1 ≤ 30
    decide
  · rw [List.map_map]
    rfl
  · refine PySem.W.kds_all pos [e] _ _ ?_
    have hn := I.hok.fresh (Nat.le_refl s.heap.objs.size)
    have I1 := I.laid (a := s.heap.objs.size) (o := .set (fun _ => false) 0) (h' := s.heap.push { cls := .type "set", dict := none, data := .set #[] 0 (.fresh 0 0 led) }) (t' := s.toks) (fun _ _ q => Heap.get?_push_of_some _ q) (Nat.le_refl _)
      ⟨_, #[], 0, _, Heap.get?_push_size _ rfl, ⟨rfl, rfl, rfl⟩, rfl, fun e he => by simp at he, fun k => by simp, by decide, by rfl, rfl⟩
    refine thn (he.run pins _ σ _ _ I1 (h _ hn)) fun v s1 ⟨x, H1, I2, r, i, ex, hp, q⟩ => ?_
    subst ex
    obtain ⟨tk, rfl⟩ := r
    show PySem.W.KdsFill _ _ _ _ _ _ [_] _
    refine PySem.W.kds_fill_cons ?_
    unfold setAdd
    refine wpAny_bind ((intKind X.prog X.w).pyHash (intKind_is X.prog X.w i tk) ?_)
    refine wpAny_setAddHashed_of (s := { s1 with toks := s1.toks + 1 }) (intKind_is _ _ _ _) rfl (si_of (I2.tok (t := s1.toks + 1)) hp) (by decide) fun h' sb new => ?_
    refine PySem.W.kds_fill_nil (by rfl) ⟨.ref s.heap.objs.size, _, d_write (ob := .set (fun j => decide (j = i)) 1) (t' := s1.toks + 1) (I2.tok (t := s1.toks + 1)) (by rw [hp]; exact True.intro) sb (si_there new) ?_, rfl, q⟩
    have e1 : (fun j : Int => false || decide (j = i)) = fun j => decide (j = i) := by
      funext j
      simp
    have new' : h'.SetOf (intKind X.prog X.w) s.heap.objs.size (fun j => false || decide (j = i)) 1 := new
    rw [e1] at new'
    exact new'
/-! ### len(set(xs)) -/
def tSLen (K : PySem.W.Frag) (ta : TE) : TE := fun σ H Q => ta σ H fun x H1 => ∃ (l : Addr) (ns : List Int), x = .ref l ∧ SqL K H1 l (ns.map V.int) ∧ ns.length ≤ 4000 ∧ Q (.int (firstMet (fun i => ns.getD i 0) ns.length).length) H1
theorem pe_slen {a : Expr} {ta : TE} {p p2 q pos : Pos} (hg : Gl X "len") (hm : X.mg "len" = none) (hg2 : Gl X "set") (hm2 : X.mg "set" = none) (ha : PE X a ta) (hc : X.calm = true)
    (na : starEach [a] X.env = (false, eval a X.env) :: starEach [] X.env) : PE X (.Call (.Name "len" p) [.Call (.Name "set" p2) [a] [] q] [] pos) (tSLen X.K ta) := by
  refine ⟨fun pins s σ H Q I h => ?_⟩
  refine Call_ (ld_blt I hg hm boot_len ?_)
  refine PyProof.Rows.callWith_builtin1 (PyProof.Rows.args_cons ?_ rfl) rfl rfl
  refine Call_ (ld_blt I hg2 hm2 boot_set ?_)
  refine PyProof.Rows.callWith_type1 (PyProof.Rows.args_cons (thn (ha.run pins s σ H _ I h) fun v s1 ⟨x, H1, I1, r1, q1⟩ => PyProof.Rows.args_nil ?_) na) na rfl
  obtain ⟨l, ns, rfl, hq, hl, q1⟩ := q1
  cases r1
  obtain ⟨its, r, pl, hz⟩ := I1.list hq
  have hlen : its.toArray.size = ns.length := by rw [List.size_toArray, ← r.length, List.length_map]
  refine call_set_list (I1.ok.hd hc) pl.isList (ns := ns) (by simpa using r.ints) (by rw [hlen]; unfold scanBound; omega) fun h' tk hS hk => ?_
  refine PyProof.Rows.args_nil ?_
  rw [hlen] at hS
  obtain ⟨o, es, ep, t, ho, hex, hd, _, _, hb, hf, hn⟩ := hS
  have I2 : Inv X pins σ H1 { s1 with heap := h', toks := tk } := I1.kept fun b o e => hk b o (Heap.lt_size e) e
  exact call_len_set ho hex hd hf (by unfold scanBound at hb; omega) ⟨.int _, H1, I2.tok _, ⟨_, by rw [hn]⟩, q1⟩
end
/-! ### t[::-1] -/
section
variable {prog : Program} {w : World} {A : Around} {E : Value → Shared → Prop} {s : Shared}
theorem slicePlaces_rev (n : Nat) : Builtin.Slice.slicePlaces ((n : Int) - 1) (-1) (-1) = n := by
  unfold Builtin.Slice.slicePlaces
  have h1 : ¬ ((-1 : Int) > 0) := by decide
  simp only [h1, if_false]
  by_cases h : n = 0
  · subst h
    decide
  · rw [if_pos (by omega)]
    have e : ((n : Int) - 1 - -1 - 1) / (- -1) + 1 = n := by
      have : (- -1 : Int) = 1 := by decide
      rw [this, Int.ediv_one]
      omega
    rw [e]
    rfl
theorem pick_rev (its : Array Value) : ((List.range its.size).filterMap fun (k : Nat) => its[(((its.size : Int) - 1) + (k : Int) * -1).toNat]?) = its.toList.reverse := by
  apply List.ext_getElem?
  intro i
  have one : ∀ k, k < its.size → its[(((its.size : Int) - 1) + (k : Int) * -1).toNat]? = some (its.toList.reverse.getD k .none) := fun k hk => by
    have e1 : (((its.size : Int) - 1) + (k : Int) * -1).toNat = its.size - 1 - k := by omega
    rw [e1]
    have hl : its.size - 1 - k < its.size := by omega
    rw [Array.getElem?_eq_getElem hl, List.getD_eq_getElem?_getD, List.getElem?_reverse (by simpa using hk)]
    simp [hl]
  have e : ((List.range its.size).filterMap fun (k : Nat) => its[(((its.size : Int) - 1) + (k : Int) * -1).toNat]?) = (List.range its.size).map fun k => its.toList.reverse.getD k .none := by
    have gen : ∀ l : List Nat, (∀ k ∈ l, k < its.size) → (l.filterMap fun (k : Nat) => its[(((its.size : Int) - 1) + (k : Int) * -1).toNat]?) = l.map fun k => its.toList.reverse.getD k .none := by
      intro l
      induction l with
      | nil => intro _; rfl
      | cons k l ih =>
        intro hl
        rw [List.filterMap_cons, one k (hl k List.mem_cons_self), List.map_cons, ih fun j hj => hl j (List.mem_cons_of_mem _ hj)]
    exact gen _ fun k hk => List.mem_range.mp hk
  rw [e, List.getElem?_map]
  by_cases hi : i < its.size
  · rw [List.getElem?_range hi]
    show some (its.toList.reverse.getD i .none) = _
    rw [List.getD_eq_getElem?_getD, List.getElem?_eq_getElem (by simpa using hi)]
    rfl
  · rw [List.getElem?_eq_none (by simpa using hi), List.getElem?_eq_none (by simpa using hi)]
    rfl
theorem getItem_tuple_rev {t sl : Addr} {its : Array Value} {vl vu vs : Value} {Q : Value → Shared → Prop} (ht : IsTup s.heap t its) (hs : s.heap.IsSliceOf sl vl vu vs) (pl : IsPart vl none) (pu : IsPart vu none) (ps : IsPart vs (some (-1)))
    (h : Q (.ref s.heap.objs.size) { s with heap := s.heap.push { cls := .type "tuple", data := .seq its.toList.reverse.toArray } }) (hsz : its.size ≤ sizeLine) : wpAny (model prog w) A (getItem (.ref t) (.ref sl)) Q E s := by
  obtain ⟨os, hos, hcs, hds⟩ := id hs
  have hTs : s.TypeIs (.ref sl) "slice" := ⟨os, hos, hcs⟩
  have hfits : sizeOk (.seq its.toList.reverse.toArray) := by
    show its.toList.reverse.toArray.size ≤ sizeLine
    rw [List.size_toArray, List.length_reverse, Array.length_toList]
    exact hsz
  unfold getItem
  try with_reducible refine wpAny_holding ?_
  first | refine wpAny_bind (wpAny_pure ?_) | skip
  refine wpAny_bind (wpAny_sequenceKey ht.typeIs (by decide) ?_)
  have slt := PyProof.Rows.slot_tuple_getitem
  refine wpAny_bind (wpAny_callSpecial?_slot (name := Str.ofString "__getitem__") ht.typeIs slt (wpAny_call_entry slt ht.typeIs PyProof.Rows.entry_tuple_getitem ?_ (PyProof.Rows.args_tuple_getitem _ _)))
  show wpAny _ _ (Builtin.Tuple.tupleItemsOf (.ref t) >>= _) _ _ s
  refine wpAny_bind (PyProof.Rows.tupleItemsOf_ ht (wpAny_bind (wpAny_typeOf hTs ?_)))
  rw [if_pos (by decide)]
  refine wpAny_bind ?_
  unfold Builtin.Slice.sliceApplied Builtin.Slice.sliceFields
  refine wpAny_bind (wpAny_bind (wpAny_field hos hds (x := vl) rfl (wpAny_bind (wpAny_field hos hds (x := vu) rfl (wpAny_bind (wpAny_field hos hds (x := vs) rfl (wpAny_pure ?_)))))))
  refine wpAny_bind (HT.slicePart_ ps ?_)
  show wpAny _ _ (if ((-1 : Int) == 0) = true then _ else _) _ _ s
  rw [if_neg (by decide)]
  refine wpAny_bind (HT.slicePart_ pl (wpAny_bind (HT.slicePart_ pu (wpAny_bind (wpAny_pure ?_)))))
  show wpAny _ _ (pure (((its.size : Int) - 1), (-1 : Int), Builtin.Slice.slicePlaces ((its.size : Int) - 1) (-1) (-1))) _ _ s
  rw [slicePlaces_rev]
  refine wpAny_pure ?_
  have hno : ¬ ((((its.size : Int) - 1) == 0 && (-1 : Int) == 1 && its.size == its.size) = true) := by
    intro q
    rw [Bool.and_eq_true, Bool.and_eq_true] at q
    exact absurd q.1.2 (by decide)
  show wpAny _ _ (if (((its.size : Int) - 1) == 0 && (-1 : Int) == 1 && its.size == its.size) = true then _ else _) _ _ s
  rw [if_neg hno, pick_rev]
  first
    | exact wpAny_bind (m := Builtin.Tuple.tupleExact _) (wpAny_newObj_type (wpAny_pure ⟨_, rfl, wpAny_pure h⟩) hfits)
    | exact wpAny_bind (m := Builtin.Tuple.tupleExact _) (wpAny_newObj_type (wpAny_bind (wpAny_pure (wpAny_pure ⟨_, rfl, wpAny_pure h⟩))) hfits)
    | exact wpAny_bind (wpAny_bind (m := Builtin.Tuple.tupleExact _) (wpAny_newObj_type (wpAny_pure (wpAny_pure ⟨_, rfl, wpAny_pure h⟩)) hfits))
    | exact wpAny_bind (wpAny_bind (m := Builtin.Tuple.tupleExact _) (wpAny_newObj_type (wpAny_pure ⟨_, rfl, wpAny_pure h⟩) hfits))
end
section
variable {X : Cx}
def tRevA (K : PySem.W.Frag) (te : TE) : TE := fun σ H Q => te σ H fun x H1 => ∃ a xs, x = .ref a ∧ ((SqL K H1 a xs ∧ ∀ p, H1 p = none → Q (.ref p) (upd H1 p (.lst xs.reverse))) ∨ (SqT K H1 a xs ∧ ∀ p, H1 p = none → Q (.ref p) (upd H1 p (.tup xs.reverse))))
theorem pe_revA {e : Expr} {te : TE} {k : Nat} {p1 p2 p3 pos : Pos} (he : PE X e te) : PE X (.Subscript e (.Slice none none (some (.UnaryOp .USub (.Constant (.int 1) k p1) p2)) p3) pos) (tRevA X.K te) := by
  refine ⟨fun pins s σ H Q I h => ?_⟩
  refine Subscript_ (thn (he.run pins s σ H _ I h) fun v s1 ⟨x, H1, I1, r1, a, xs, ex, q⟩ => ?_)
  subst ex
  cases r1
  have hst : PO X (some (.UnaryOp .USub (.Constant (.int 1) k p1) p2)) (tPart (tUn (rU fun i => .int (-i)) (tC (.int 1)))) := po_some (pe_un un_neg pe_int)
  refine wpAny_Slice (thn (po_none.run pins s1 σ H1 (fun o H2 => o = none ∧ H2 = H1) I1 ⟨rfl, rfl⟩) fun vl s2 ⟨l, H2, I2, pl, el, e2⟩ => ?_)
  subst el e2
  refine thn (po_none.run pins s2 σ H2 (fun o H3 => o = none ∧ H3 = H2) I2 ⟨rfl, rfl⟩) fun vu s3 ⟨u, H3, I3, pu, eu, e3⟩ => ?_
  subst eu e3
  refine thn (hst.run pins s3 σ H3 (fun o H4 => o = some (-1) ∧ H4 = H3) I3 ⟨1, rfl, -1, rfl, rfl, rfl⟩) fun vs s4 ⟨o, H4, I4, ps, eo, e4⟩ => ?_
  subst eo e4
  have I5 : Inv X pins σ H4 { s4 with heap := s4.heap.push { cls := .type "slice", data := .fields #[vl, vu, vs] } } := I4.kept (t' := s4.toks) fun b ob q => Heap.get?_push_of_some _ q
  show wpAny (model X.prog X.w) X.A (subscriptTail e (.Slice none none (some (.UnaryOp .USub (.Constant (.int 1) k p1) p2)) p3) (.ref a) (.ref s4.heap.objs.size)) (EP X pins σ Q) X.xe { s4 with heap := s4.heap.push { cls := .type "slice", data := .fields #[vl, vu, vs] } }
  rcases q with ⟨hx, q⟩ | ⟨hx, q⟩
  · obtain ⟨its, r, ht, hz⟩ := I5.list hx
    have hlen := r.length
    refine tail_any (ops := [.ref a, .ref s4.heap.objs.size]) ht.isList.typeIs (PySem.slot_list_getitem.lookup) ?_ (by with_unfolding_all rfl)
    refine wpAny_getItem_list_slice ht.isList (Heap.IsSliceOf.new _ vl vu vs) pl pu ps (by decide) ?_ (by rw [List.size_toArray]; omega)
    rw [PySem.W.krv_pick]
    exact ⟨.ref _, _, I5.laid (t' := s4.toks) (o := .lst xs.reverse) (fun b ob q => Heap.get?_push_of_some _ q) (Nat.le_refl _) ⟨by rw [List.length_reverse]; exact hz, _, 0, r.reverse, Heap.get?_push_size _ rfl⟩, rfl, q _ (I5.hok.fresh (Nat.le_refl _))⟩
  · obtain ⟨its, r, ht, hz⟩ := I5.tuple hx
    have hlen := r.length
    refine tail_any (ops := [.ref a, .ref s4.heap.objs.size]) ht.typeIs (PyProof.Rows.slot_tuple_getitem.lookup) ?_ (by with_unfolding_all rfl)
    refine getItem_tuple_rev ht (Heap.IsSliceOf.new _ vl vu vs) pl pu ps ?_ (by rw [List.size_toArray]; omega)
    exact ⟨.ref _, _, I5.laid (t' := s4.toks) (o := .tup xs.reverse) (fun b ob q => Heap.get?_push_of_some _ q) (Nat.le_refl _) ⟨by rw [List.length_reverse]; exact hz, _, r.reverse, IsTup.new _ _⟩, rfl, q _ (I5.hok.fresh (Nat.le_refl _))⟩
end
/-! ### dicts: an empty one gets ints; displays of one pair -/
section
variable {X : Cx} {pins : List (Addr × Obj)} {σ : L2.St} {H : Hp} {s : Shared} {a b : Addr}
theorem dx_nil (I : Inv X pins σ H s) (e : H a = some (DicX X.prog X.w a [])) : (a == sysModules) = false ∧ s.heap.DictOf (mixKind X.prog X.w) a [] := by
  obtain ⟨⟨h1, h2, h3, ys, h4, o, es, ep, h5, h6, h7, h8⟩, _⟩ := I.hok a _ e
  cases h4
  refine ⟨h2, o, es, ep, h5, h6, h7, ?_⟩
  have e0 : es = #[] := by
    have : es.toList = [] := h8
    simpa using this
  subst e0
  obtain ⟨o', es', ep', k1, k2, k3, k4⟩ := Heap.DictOf.new (knd := mixKind X.prog X.w) s.heap
  rw [Heap.get?_push_size _ rfl] at k1
  cases k1
  cases k3
  exact k4
theorem dx0_in {i : Int} {v : Value} {Q : VK} (I : Inv X pins σ H s) (e : H a = some (DicX X.prog X.w a [])) (r : RelV (.int i) v) (h : Q (.bl false) H) :
    wpAny (model X.prog X.w) X.A (compareOp .In v (.ref a)) (EP X pins σ Q) X.xe s := by
  obtain ⟨hd, dd⟩ := dx_nil I e
  exact wpAny_in_of (kV_is (k := .inl i) r) hd dd.mapOf ⟨.bl false, H, I.tok _, rfl, h⟩
theorem dx0_notin {i : Int} {v : Value} {Q : VK} (I : Inv X pins σ H s) (e : H a = some (DicX X.prog X.w a [])) (r : RelV (.int i) v) (h : Q (.bl true) H) :
    wpAny (model X.prog X.w) X.A (compareOp .NotIn v (.ref a)) (EP X pins σ Q) X.xe s := by
  obtain ⟨hd, dd⟩ := dx_nil I e
  exact wpAny_notIn_of (kV_is (k := .inl i) r) hd dd.mapOf ⟨.bl true, H, I.tok _, rfl, h⟩
theorem dx0_set {i : Int} {u v : Value} {x : V} {Q : Unit → Shared → Prop} {E : Value → Shared → Prop} (I : Inv X pins σ H s) (e : H a = some (DicX X.prog X.w a [])) (r : RelV (.int i) u) (rv : RelV x v)
    (h : ∀ s', Inv X pins σ (upd H a (.dK [(.inl i, x)])) s' → Q () s') : wpAny (model X.prog X.w) X.A (setItem (.ref a) u v) Q E s := by
  obtain ⟨hd, dd⟩ := dx_nil I e
  refine wpAny_setItem_pairs (hsz := Nat.zero_le _) (kV_is (k := .inl i) r) dd fun h' dd' hs => h _ ?_
  have he : ∃ q, h'.get? a = some q := let ⟨q, _, _, hq, _⟩ := dd'; ⟨q, hq⟩
  exact d_write I (by rw [e]; exact True.intro) hs he (dk_new (by rw [sizeLine_eq]; simp) hd (.cons ⟨rfl, rv⟩ .nil) dd')
/-- {k: v}, k a tuple -/
def tDispX (P : Program) (w : World) (K : PySem.W.Frag) (tk tv : TE) : TE := fun σ H Q => ∀ p, H p = none → tk σ (upd H p (DicX P w p [])) fun x H1 => tv σ H1 fun y H2 => H2 p = some (DicX P w p []) ∧
  ∃ b k, x = .ref b ∧ NkV K H2 k (.ref b) ∧ k.depth ≤ 8 ∧ Q (.ref p) (upd H2 p (DicX P w p [(k, b, y)]))
theorem pe_dispX {k v : Expr} {tk tv : TE} {pos : Pos} (hu : X.A.units + 64 < cLine) (hk : PE X k tk) (hv : PE X v tv) : PE X (.Dict [some k] [v] pos) (tDispX X.prog X.w X.K tk tv) := by
  refine ⟨fun pins s σ H Q I q => ?_⟩
  have hn := I.hok.fresh (Nat.le_refl s.heap.objs.size)
  have I1 := I.laid (a := s.heap.objs.size) (o := DicX X.prog X.w s.heap.objs.size []) (h' := s.heap.push { cls := .type "dict", data := .dict #[] }) (t' := s.toks) (fun _ _ q => Heap.get?_push_of_some _ q) (Nat.le_refl _) (dx_empty s.heap I.big)
  have q0 := q _ hn
  have main : wpAny (model X.prog X.w) X.A (evalPairs (pairTrees [some k] [v] X.env pos)) (fun vs s₁ => ∃ ps, CarriesH (nestedKind X.prog X.w) s₁.heap vs ps ∧ s₁.heap.DictOfH (nestedKind X.prog X.w) s.heap.objs.size [] ∧
      ∀ h' tk, h'.DictOfH (nestedKind X.prog X.w) s.heap.objs.size (storedAllH [] ps) → Heap.SameBut s.heap.objs.size s₁.heap h' → EP X pins σ Q (Value.ref s.heap.objs.size) { s₁ with heap := h', toks := tk }) X.xe
      { s with heap := s.heap.push { cls := .type "dict", data := .dict #[] } } := by
    refine pairTrees_cons_walk (thn (hk.run pins _ σ _ _ I1 q0) fun u s1 ⟨x, H1, I2, rx, q1⟩ => thn (hv.run pins s1 σ H1 _ I2 q1) fun w2 s2 ⟨y, H2, I3, ry, e, b, kk, ex, kb, kd, q2⟩ => pairTrees_nil_walk ?_)
    subst ex
    obtain rfl : u = Value.ref b := rx
    obtain ⟨z, hd, ys, hr, hm⟩ := dicX_of I3 e (fun x hx => nomatch hx)
    cases hr
    refine ⟨[(kk, b, w2)], ⟨rfl, rfl, ⟨nk_is I3 kb rfl, kd⟩, True.intro⟩, hm, fun h' tk dd' hs => ?_⟩
    have dd2 : h'.DictOfH (nestedKind X.prog X.w) s.heap.objs.size [(kk, b, w2)] := dd'
    have he : ∃ q, h'.get? s.heap.objs.size = some q := by
      obtain ⟨q, _, _, hq, _⟩ := dd2
      exact ⟨q, hq⟩
    exact ⟨.ref _, _, d_write I3 (by rw [e]; exact True.intro) hs he (dicX_ok (by rw [sizeLine_eq]; simp) hd (.cons ry .nil) dd2), rfl, q2⟩
  rw [arm_eval_Dict, zip_pairTrees [some k] [v] X.env pos rfl rfl, dictDisplay_pairs (pairTrees [some k] [v] X.env pos) (fun z => by have := congrArg List.length z; simp [pairTrees_length [some k] [v] X.env pos rfl rfl] at this) (by rw [pairTrees_length [some k] [v] X.env pos rfl rfl]; simp)]
  exact wpAny_bind (wpAny_standAt (wpAny_bind (wpAny_subDictH (knd := nestedKind X.prog X.w) (Q := fun d s' => wpAny (model X.prog X.w) X.A (pure (Value.ref d)) (EP X pins σ Q) X.xe s') (by show X.A.units + 8 < cLine; omega) (by rw [pairTrees_length [some k] [v] X.env pos rfl rfl]; simp)
    (wpAny_mono main (fun vs s₁ ⟨ps, hc, hm, hq⟩ => ⟨ps, hc, hm, fun h' tk a b => wpAny_pure (hq h' tk a b)⟩) fun _ _ e => e))))
end
end Ab

/-! Ab1: data as trees, a store of changing lists, small code, its evaluation. -/
namespace Ab
open PySem

inductive D where
  | non | bl (b : Bool) | int (i : Int) | str (x : Str)
  | tup (ds : List D) | lst (ds : List D) | scr (ns : List Int) | ref (r : Nat) | fn (f : Nat)
  deriving Inhabited
inductive O where
  | lst (ds : List D)
  /-- a dict (t: its keys are tuples, or it is empty; else ints) -/
  | dic (t : Bool) (kvs : List (NestedKey × D))
  /-- a set of ints -/
  | set (ns : List Int)
  deriving Inhabited
abbrev Store := List O
abbrev AEnv := List (Option D)

mutual
def D.same : D → D → Bool
  | .non, .non => true
  | .bl a, .bl b => a == b
  | .int a, .int b => a == b
  | .str a, .str b => decide (a = b)
  | .tup a, .tup b => D.sames a b
  | .lst a, .lst b => D.sames a b
  | .scr a, .scr b => a == b
  | .ref a, .ref b => a == b
  | .fn a, .fn b => a == b
  | _, _ => false
def D.sames : List D → List D → Bool
  | [], [] => true
  | a :: as, b :: bs => D.same a b && D.sames as bs
  | _, _ => false
end
mutual
theorem D.same_refl : ∀ a : D, D.same a a = true
  | .non => rfl
  | .bl a => by simp [D.same]
  | .int a => by simp [D.same]
  | .str a => by simp [D.same]
  | .tup a => by simp [D.same, D.sames_refl a]
  | .lst a => by simp [D.same, D.sames_refl a]
  | .scr a => by simp [D.same]
  | .ref a => by simp [D.same]
  | .fn a => by simp [D.same]
theorem D.sames_refl : ∀ a : List D, D.sames a a = true
  | [] => rfl
  | a :: as => by simp [D.sames, D.same_refl a, D.sames_refl as]
end
mutual
theorem D.same_eq : ∀ {a b : D}, D.same a b = true → a = b
  | .non, b, h => by cases b <;> simp_all [D.same]
  | .bl _, b, h => by cases b <;> simp_all [D.same]
  | .int _, b, h => by cases b <;> simp_all [D.same]
  | .str _, b, h => by cases b <;> simp_all [D.same]
  | .tup as, b, h => by
    cases b with
    | tup bs => exact congrArg D.tup (D.sames_eq (by simpa [D.same] using h))
    | _ => simp [D.same] at h
  | .lst as, b, h => by
    cases b with
    | lst bs => exact congrArg D.lst (D.sames_eq (by simpa [D.same] using h))
    | _ => simp [D.same] at h
  | .scr _, b, h => by cases b <;> simp_all [D.same]
  | .ref _, b, h => by cases b <;> simp_all [D.same]
  | .fn _, b, h => by cases b <;> simp_all [D.same]
theorem D.sames_eq : ∀ {a b : List D}, D.sames a b = true → a = b
  | [], b, h => by cases b <;> simp_all [D.sames]
  | a :: as, [], h => by simp [D.sames] at h
  | a :: as, b :: bs, h => by
    simp only [D.sames, Bool.and_eq_true] at h
    rw [D.same_eq h.1, D.sames_eq h.2]
end

/-! which refs stand in it: all below n -/
mutual
def D.undr (n : Nat) : D → Bool
  | .tup ds => D.undrs n ds
  | .lst ds => D.undrs n ds
  | .ref r => decide (r < n)
  | _ => true
def D.undrs (n : Nat) : List D → Bool
  | [] => true
  | d :: ds => D.undr n d && D.undrs n ds
end
def O.undr (n : Nat) : O → Bool
  | .lst ds => D.undrs n ds
  | .dic _ kvs => D.undrs n (kvs.map (·.2))
  | .set _ => true

/-! ### dicts -/
mutual
def D.nk : D → Option NestedKey
  | .non => some .none
  | .bl b => some (.num (if b = true then 1 else 0))
  | .int i => some (.num i)
  | .str x => some (.text x)
  | .tup ds => (D.nks ds).map .tup
  | _ => none
def D.nks : List D → Option (List NestedKey)
  | [] => some []
  | d :: ds => (D.nk d).bind fun k => (D.nks ds).map fun ks => k :: ks
end
/-- what stands for k -/
def kAt (kvs : List (NestedKey × D)) (k : NestedKey) : Option D := (kvs.find? fun p => decide (p.1 = k)).map (·.2)
def kPut (kvs : List (NestedKey × D)) (k : NestedKey) (v : D) : List (NestedKey × D) :=
  if (kAt kvs k).isSome then kvs.map (fun p => if p.1 = k then (p.1, v) else p) else kvs ++ [(k, v)]
/-- a key, for a dict of that kind; a tuple or not -/
def dKey (t emp : Bool) (d : D) : Option (Bool × NestedKey) :=
  match d with
  | .int i => if t && !emp then none else some (false, .num i)
  | .tup ds => if t then (match D.nks ds with
    | some ks => if (NestedKey.tup ks).depth ≤ 8 then some (true, .tup ks) else none
    | none => none) else none
  | _ => none
def dicOf (S : List O) : D → Option (Bool × List (NestedKey × D))
  | .ref r => match S[r]? with
    | some (.dic t kvs) => some (t, kvs)
    | _ => none
  | _ => none
/-- d[k], or none where k is no key -/
def dicLook (S : List O) (a d : D) : Option (Option D) :=
  match dicOf S a with
  | some (t, kvs) => match dKey t kvs.isEmpty d with
    | some (_, k) => some (kAt kvs k)
    | none => none
  | none => none
def dicPut (S : List O) (a d v : D) : Option (List O) :=
  match a with
  | .ref r => match S[r]? with
    | some (.dic t kvs) => match dKey t kvs.isEmpty d with
      | some (t', k) => if kvs.length < sizeLine then some (S.set r (.dic t' (kPut kvs k v))) else none
      | none => none
    | _ => none
  | _ => none
def setOf (S : List O) : D → Option (List Int)
  | .ref r => match S[r]? with
    | some (.set ns) => some ns
    | _ => none
  | _ => none
def addTo (ns : List Int) (n : Int) : List Int := if ns.contains n then ns else ns ++ [n]
def dist (ns : List Int) : List Int := ns.foldl addTo []

/-! ### plain data -/
mutual
def D.py : D → Option PyData
  | .non => some .none
  | .bl b => some (.bool b)
  | .int i => some (.int i)
  | .str x => some (.str x)
  | .tup ds => (D.pys ds).map .tuple
  | .lst ds => (D.pys ds).map .list
  | .scr ns => some (.list (ns.map .int))
  | .ref _ => none
  | .fn _ => none
def D.pys : List D → Option (List PyData)
  | [] => some []
  | d :: ds => (D.py d).bind fun p => (D.pys ds).map fun ps => p :: ps
end
/-- a ref to a list, as a list -/
def deref (S : Store) : D → D
  | .ref r => match S[r]? with
    | some (.lst ds) => .lst ds
    | _ => .ref r
  | d => d
def dEq (S : Store) (a b : D) : Option Bool :=
  match (deref S a).py, (deref S b).py with
  | some p, some q => if SeqAt.shaped p && SeqAt.shaped q then some (PyData.eqv p q) else none
  | _, _ => none

/-- x in a list of plain data -/
def dIn (S : Store) (a b : D) : Option Bool :=
  match (deref S a).py, (deref S b).py with
  | some p, some (.list qs) => if SeqAt.shaped p && SeqAt.shaped (.list qs) then some (qs.any fun z => PyData.eqv z p) else none
  | _, _ => none
/-- the items of what may be walked, read by place -/
def items (S : Store) : D → Option (List D)
  | .tup ds => some ds
  | .lst ds => some ds
  | .scr ns => some (ns.map .int)
  | .ref r => match S[r]? with
    | some (.lst ds) => some ds
    | _ => none
  | _ => none
def listOf (S : Store) : D → Option (List D)
  | .lst ds => some ds
  | .ref r => match S[r]? with
    | some (.lst ds) => some ds
    | _ => none
  | _ => none
def truth (S : Store) : D → Option Bool
  | .non => some false
  | .bl b => some b
  | .int i => some (i != 0)
  | .str x => if x.length ≤ sizeLine then some ((x.length : Int) != 0) else none
  | d => (items S d).map fun ds => !ds.isEmpty

def at_ {α : Type} (xs : List α) (i : Int) : Option α := L2.atI xs i
def dIx (S : Store) (a i : D) : Option D :=
  match i with
  | .int i => (items S a).bind fun ds => at_ ds i
  | _ => none
def cut {α : Type} (xs : List α) (lo hi : Option Int) : List α := (xs.drop (HT.sIx xs.length 0 lo)).take (HT.sIx xs.length xs.length hi - HT.sIx xs.length 0 lo)
def dSl (S : Store) (a : D) (lo hi : Option Int) : Option D :=
  match a with
  | .tup ds => some (.tup (cut ds lo hi))
  | d => (items S d).map fun ds => .lst (cut ds lo hi)

def mulOk (i j : Int) : Bool := decide (i.natAbs < 2 ^ 64) || (decide (j.natAbs < 2 ^ 64) || decide (i.natAbs.log2 + j.natAbs.log2 < 1000000))
def divOk (j : Int) : Bool := decide (j.natAbs.log2 < 9000)
def powOk (i j : Int) : Bool := decide (0 ≤ j) && (decide (j.natAbs ≤ 1000000) && decide (i.natAbs < 2 ^ 64))
/-- ints -/
def dInt (op : Operator) (i j : Int) : Option Int :=
  match op with
  | .Add => some (i + j)
  | .Sub => some (i - j)
  | .Mult => if mulOk i j then some (i * j) else none
  | .Mod => if 0 < j then some (i % j) else if j ≠ 0 then some (i.fmod j) else none
  | .FloorDiv => if divOk j then (if 0 < j then some (i / j) else if j ≠ 0 then some (i.fdiv j) else none) else none
  | .Pow => if powOk i j then some (i ^ j.toNat) else none
  | .LShift => if powOk i j then some (i * 2 ^ j.toNat) else none
  | .RShift => if 0 ≤ j then some (i / 2 ^ j.toNat) else none
  | .BitAnd => some (Builtin.bitAnd i j)
  | .BitOr => some (Builtin.bitOr i j)
  | .BitXor => some (Builtin.bitXor i j)
  | _ => none
/-- lists that are made: by + and * -/
def dList (S : Store) (op : Operator) (a b : D) : Option (List D) :=
  match op with
  | .Add => (listOf S a).bind fun xs => (listOf S b).bind fun ys => if xs.length + ys.length ≤ sizeLine then some (xs ++ ys) else none
  | .Mult => match b with
    | .int k => (listOf S a).bind fun xs => if k.natAbs < 2 ^ 63 ∧ xs.length * k.toNat ≤ sizeLine then some (List.replicate k.toNat xs).flatten else none
    | _ => none
  | _ => none
def dBin (S : Store) (op : Operator) (a b : D) : Option D :=
  match a, b with
  | .int i, .int j => (dInt op i j).map .int
  | .tup xs, .tup ys => match op with
    | .Add => if xs.length + ys.length ≤ sizeLine then some (.tup (xs ++ ys)) else none
    | _ => none
  | .tup xs, .int k => match op with
    | .Mult => if k.natAbs ≤ 1000 ∧ xs.length ≤ 1000 then some (.tup (List.replicate k.toNat xs).flatten) else none
    | _ => none
  | .str x, .str y => match op with
    | .Add => if x.length + y.length ≤ sizeLine then some (.str (x ++ y)) else none
    | _ => none
  | a, b => (dList S op a b).map .lst
def dUn (op : UnaryOp) (a : D) : Option D :=
  match op, a with
  | .USub, .int i => some (.int (-i))
  | .Invert, .int i => some (.int (Builtin.bitNot i))
  | .Not, .bl b => some (.bl (!b))
  | _, _ => none
def D.isNon : D → Bool
  | .non => true
  | _ => false
def dCmp (S : Store) (op : CmpOp) (a b : D) : Option Bool :=
  match op with
  | .Eq => dEq S a b
  | .NotEq => (dEq S a b).map (!·)
  | .Is => match b with
    | .non => some a.isNon
    | _ => none
  | .IsNot => match b with
    | .non => some (!a.isNon)
    | _ => none
  | .Lt => match a, b with
    | .int i, .int j => some (decide (i < j))
    | _, _ => none
  | .LtE => match a, b with
    | .int i, .int j => some (decide (i ≤ j))
    | _, _ => none
  | .Gt => match a, b with
    | .int i, .int j => some (decide (j < i))
    | _, _ => none
  | .GtE => match a, b with
    | .int i, .int j => some (decide (j ≤ i))
    | _, _ => none
  | .In => dIn S a b
  | .NotIn => (dIn S a b).map (!·)

/-! ### targets -/
inductive Tg where
  | name (i : Nat) | tup (ts : List Tg)
mutual
def Tg.bind : Tg → D → AEnv → Option AEnv
  | .name i, d, ρ => if i < ρ.length then some (ρ.set i (some d)) else none
  | .tup ts, .tup ds, ρ => Tg.binds ts ds ρ
  | .tup _, _, _ => none
def Tg.binds : List Tg → List D → AEnv → Option AEnv
  | [], [], ρ => some ρ
  | t :: ts, d :: ds, ρ => (Tg.bind t d ρ).bind fun ρ' => Tg.binds ts ds ρ'
  | _, _, _ => none
end

/-! ### built-in functions -/
inductive Bi where
  | len | abs | int | tuple | min | max | sum | all | any | gcd
  deriving DecidableEq
def ints? : List D → Option (List Int)
  | [] => some []
  | .int i :: ds => (ints? ds).map (i :: ·)
  | _ => none
def bls? : List D → Option (List Bool)
  | [] => some []
  | .bl i :: ds => (bls? ds).map (i :: ·)
  | _ => none
def dBi (S : Store) (b : Bi) (ds : List D) : Option D :=
  match b, ds with
  | .len, [.str x] => if x.length ≤ sizeLine then some (.int x.length) else none
  | .len, [d] => (items S d).map fun xs => .int xs.length
  | .abs, [.int i] => some (.int (if i < 0 then -i else i))
  | .int, [.int i] => some (.int i)
  | .int, [.bl b] => some (.int (if b then 1 else 0))
  | .tuple, [d] => (items S d).map .tup
  | .min, [.int i, .int j] => some (.int (if j < i then j else i))
  | .max, [.int i, .int j] => some (.int (if j > i then j else i))
  | .sum, [d] => (listOf S d).bind fun xs => (ints? xs).map fun ns => .int ns.sum
  | .all, [d] => (listOf S d).bind fun xs => (bls? xs).map fun bs => .bl (bs.all id)
  | .any, [d] => (listOf S d).bind fun xs => (bls? xs).map fun bs => .bl (bs.any id)
  | .gcd, [.int i, .int j] => some (.int ((Nat.gcd i.natAbs j.natAbs : Nat) : Int))
  | _, _ => none
/-- isinstance -/
inductive Ty where
  | bool | int | str | tuple | list
  deriving DecidableEq
def dIsi (S : Store) (t : Ty) (d : D) : Option Bool :=
  match d with
  | .non => some false
  | .bl _ => some (match t with | .bool => true | .int => true | _ => false)
  | .int _ => some (match t with | .int => true | _ => false)
  | .str _ => some (match t with | .str => true | _ => false)
  | .tup _ => some (match t with | .tuple => true | _ => false)
  | .lst _ => some (match t with | .list => true | _ => false)
  | _ => none

/-! ### methods of the store's lists -/
inductive Me where
  | append | pop | reverse | index | insert
  deriving DecidableEq
/-- the first place of an equal one -/
def dFind (S : Store) (o d : D) : Option Nat :=
  match (deref S o).py, (deref S d).py with
  | some (.list qs), some p => if SeqAt.shaped (.list qs) && SeqAt.shaped p then qs.findIdx? (fun z => PyData.eqv z p) else none
  | _, _ => none
def dMe0 (m : Me) (o : D) (ds : List D) (S : Store) : Option (D × Store) :=
  match o with
  | .ref r => match S[r]? with
    | some (.lst xs) => match m, ds with
      | .append, [d] => if xs.length < sizeLine then some (.non, S.set r (.lst (xs ++ [d]))) else none
      | .pop, [] => match xs[xs.length - 1]? with
        | some d => some (d, S.set r (.lst xs.dropLast))
        | none => none
      | .pop, [.int i] => match L2.ixN xs.length i with
        | some j => match xs[j]? with
          | some d => some (d, S.set r (.lst (xs.eraseIdx j)))
          | none => none
        | none => none
      | .reverse, [] => some (.non, S.set r (.lst xs.reverse))
      | .insert, [.int i, d] => if 0 ≤ i ∧ i.natAbs < 2 ^ 62 ∧ xs.length < sizeLine then some (.non, S.set r (.lst (xs.take i.toNat ++ [d] ++ xs.drop i.toNat))) else none
      | _, _ => none
    | _ => none
  | _ => none
def dMe (m : Me) (o : D) (ds : List D) (S : Store) : Option (D × Store) :=
  match m with
  | .index => match ds with
    | [d] => (dFind S o d).map fun j => (.int (j : Int), S)
    | _ => none
  | .append => dMe0 .append o ds S
  | .pop => dMe0 .pop o ds S
  | .reverse => dMe0 .reverse o ds S
  | .insert => dMe0 .insert o ds S

/-- the receiver is of the method's kind -/
def recvOk (m : Me) (o : D) (S : Store) : Bool :=
  match o with
  | .lst _ => true
  | .ref r => match S[r]? with
    | some (.lst _) => true
    | _ => false
  | _ => false

/-- x[::-1] -/
def dRev (S : Store) (d : D) : Option D :=
  match d with
  | .tup ds => some (.tup ds.reverse)
  | d => (items S d).map fun ds => .lst ds.reverse
/-! ### expressions -/
inductive IE where
  | lit (d : D)
  | var (i : Nat)
  | glob (x : Str)
  | tup (es : List IE)
  | lst (es : List IE)
  | bin (op : Operator) (a b : IE)
  | un (op : UnaryOp) (a : IE)
  | bop (op : BoolOp) (es : List IE)
  | cmp (op : CmpOp) (a b : IE)
  | chain (op op' : CmpOp) (a b c : IE)
  | ite (c a b : IE)
  | ix (a i : IE)
  | slc (a : IE) (lo hi : Option IE)
  | call (f : Nat) (es : List IE)
  | bi (b : Bi) (es : List IE)
  | isi (t : Ty) (a : IE)
  | meth (m : Me) (o : IE) (es : List IE)
  | list1 (a : IE)
  | rev (a : IE)
  | dget (a i : IE)
  | din (neg : Bool) (i a : IE)
  | dlen (a : IE)
  | sin (neg : Bool) (i a : IE)
  | sadd (a i : IE)
  | slen (a : IE)
  | lc (own : List Nat) (tg : Tg) (rg : Bool) (it : List IE) (ifs : List IE) (elt : IE)
  | bad

def isAnd : BoolOp → Bool
  | .And => true
  | .Or => false

abbrev CallF := Nat → List D → Store → Option (D × Store)

/-- one more range -/
def rangeD (lo hi : Int) : Option (List D) := if lo.natAbs < 2 ^ 62 ∧ hi.natAbs < 2 ^ 62 then some ((List.range (hi - lo).toNat).map fun i => D.int (lo + (i : Nat))) else none
/-- what a walk goes over: its items, and what must stay so -/
def walk (rg : Bool) (ds : List D) (S : Store) : Option (List D) :=
  match rg, ds with
  | true, [.int j] => rangeD 0 j
  | true, [.int i, .int j] => rangeD i j
  | false, [d] => items S d
  | _, _ => none
def stays (rg : Bool) (ds : List D) (xs : List D) (S : Store) : Bool :=
  match rg, ds with
  | false, [.ref r] => match S[r]? with
    | some (.lst ys) => D.sames ys xs
    | _ => false
  | _, _ => true

/-- the block of a comprehension, over its items: f gives the new item, or none where a test fails -/
def evLc (chk : Store → Bool) (f : D → Store → Option (Option D × Store)) : List D → List D → Store → Option (List D × Store)
  | [], acc, S => if chk S then some (acc, S) else none
  | d :: ds, acc, S => if chk S then (match f d S with
      | some (some y, S') => if acc.length < sizeLine then evLc chk f ds (acc ++ [y]) S' else none
      | some (none, S') => evLc chk f ds acc S'
      | none => none) else none
def wipeA (ρ : AEnv) : List Nat → AEnv
  | [] => ρ
  | v :: vs => (wipeA ρ vs).set v none

mutual
def ev (cf : CallF) (gl : Str → Option D) : IE → AEnv → Store → Option (D × Store)
  | .lit d, _, S => some (d, S)
  | .var i, ρ, S => match ρ[i]? with
    | some (some d) => some (d, S)
    | _ => none
  | .glob x, _, S => (gl x).map fun d => (d, S)
  | .tup es, ρ, S => match evs cf gl es ρ S with
    | some (ds, S') => if ds.length ≤ sizeLine then some (.tup ds, S') else none
    | none => none
  | .lst es, ρ, S => match evs cf gl es ρ S with
    | some (ds, S') => if ds.length ≤ sizeLine then some (.lst ds, S') else none
    | none => none
  | .bin op a b, ρ, S => match ev cf gl a ρ S with
    | some (x, S1) => match ev cf gl b ρ S1 with
      | some (y, S2) => (dBin S2 op x y).map fun z => (z, S2)
      | none => none
    | none => none
  | .un op a, ρ, S => match ev cf gl a ρ S with
    | some (x, S1) => (dUn op x).map fun z => (z, S1)
    | none => none
  | .bop op es, ρ, S => evB cf gl op es ρ S
  | .cmp op a b, ρ, S => match ev cf gl a ρ S with
    | some (x, S1) => match ev cf gl b ρ S1 with
      | some (y, S2) => (dCmp S2 op x y).map fun z => (.bl z, S2)
      | none => none
    | none => none
  | .chain op op' a b c, ρ, S => match ev cf gl a ρ S with
    | some (x, S1) => match ev cf gl b ρ S1 with
      | some (y, S2) => match dCmp S2 op x y with
        | some true => match ev cf gl c ρ S2 with
          | some (z, S3) => (dCmp S3 op' y z).map fun r => (.bl r, S3)
          | none => none
        | some false => some (.bl false, S2)
        | none => none
      | none => none
    | none => none
  | .ite c a b, ρ, S => match evT cf gl c ρ S with
    | some (true, S1) => ev cf gl a ρ S1
    | some (false, S1) => ev cf gl b ρ S1
    | none => none
  | .ix a i, ρ, S => match ev cf gl a ρ S with
    | some (x, S1) => match ev cf gl i ρ S1 with
      | some (y, S2) => (dIx S2 x y).map fun z => (z, S2)
      | none => none
    | none => none
  | .slc a lo hi, ρ, S => match ev cf gl a ρ S with
    | some (x, S1) => match evO cf gl lo ρ S1 with
      | some (l, S2) => match evO cf gl hi ρ S2 with
        | some (h, S3) => (dSl S3 x l h).map fun z => (z, S3)
        | none => none
      | none => none
    | none => none
  | .call f es, ρ, S => match evs cf gl es ρ S with
    | some (ds, S') => cf f ds S'
    | none => none
  | .bi b es, ρ, S => match evs cf gl es ρ S with
    | some (ds, S') => (dBi S' b ds).map fun z => (z, S')
    | none => none
  | .isi t a, ρ, S => match ev cf gl a ρ S with
    | some (x, S1) => (dIsi S1 t x).map fun z => (.bl z, S1)
    | none => none
  | .meth m o es, ρ, S => match ev cf gl o ρ S with
    | some (x, S1) => if recvOk m x S1 then (match evs cf gl es ρ S1 with
      | some (ds, S2) => dMe m x ds S2
      | none => none) else none
    | none => none
  | .list1 a, ρ, S => match ev cf gl a ρ S with
    | some (x, S1) => (items S1 x).map fun ds => (.lst ds, S1)
    | none => none
  | .rev a, ρ, S => match ev cf gl a ρ S with
    | some (x, S1) => (dRev S1 x).map fun d => (d, S1)
    | none => none
  | .dget a i, ρ, S => match ev cf gl a ρ S with
    | some (x, S1) => match ev cf gl i ρ S1 with
      | some (y, S2) => match dicLook S2 x y with
        | some (some d) => some (d, S2)
        | _ => none
      | none => none
    | none => none
  | .din _ _ _, _, _ => none
  | .dlen a, ρ, S => match ev cf gl a ρ S with
    | some (x, S1) => (dicOf S1 x).map fun p => (.int p.2.length, S1)
    | none => none
  | .sin _ _ _, _, _ => none
  | .sadd a i, ρ, S => match ev cf gl a ρ S with
    | some (.ref r, S1) => match S1[r]? with
      | some (.set _) => match ev cf gl i ρ S1 with
        | some (.int n, S2) => match S2[r]? with
          | some (.set ns) => if ns.length < 4000 then some (.non, S2.set r (.set (addTo ns n))) else none
          | _ => none
        | _ => none
      | _ => none
    | _ => none
  | .slen a, ρ, S => match ev cf gl a ρ S with
    | some (x, S1) => match listOf S1 x with
      | some ds => match ints? ds with
        | some ns => if ns.length < 4000 then some (.int (dist ns).length, S1) else none
        | none => none
      | none => none
    | none => none
  | .lc own tg rg it ifs elt, ρ, S => match evs cf gl it ρ S with
    | some (ds, S1) => match walk rg ds S1 with
      | some xs => (evLc (stays rg ds xs) (fun d S => match Tg.bind tg d (wipeA ρ own) with
          | some ρ' => match evTs cf gl ifs ρ' S with
            | some (true, S2) => (ev cf gl elt ρ' S2).map fun p => (some p.1, p.2)
            | some (false, S2) => some (none, S2)
            | none => none
          | none => none) xs [] S1).map fun p => (.lst p.1, p.2)
      | none => none
    | none => none
  | .bad, _, _ => none
def evs (cf : CallF) (gl : Str → Option D) : List IE → AEnv → Store → Option (List D × Store)
  | [], _, S => some ([], S)
  | e :: es, ρ, S => match ev cf gl e ρ S with
    | some (d, S1) => match evs cf gl es ρ S1 with
      | some (ds, S2) => some (d :: ds, S2)
      | none => none
    | none => none
/-- and, or as values: all but the last are bools -/
def evB (cf : CallF) (gl : Str → Option D) (op : BoolOp) : List IE → AEnv → Store → Option (D × Store)
  | [], _, _ => none
  | e :: es, ρ, S => match ev cf gl e ρ S with
    | some (d, S1) => if es.isEmpty then some (d, S1) else match d with
      | .bl b => if b = isAnd op then evB cf gl op es ρ S1 else some (.bl b, S1)
      | _ => none
    | none => none
/-- a test -/
def evT (cf : CallF) (gl : Str → Option D) : IE → AEnv → Store → Option (Bool × Store)
  | .un .Not a, ρ, S => match evT cf gl a ρ S with
    | some (b, S1) => some (!b, S1)
    | none => none
  | .bop op es, ρ, S => evBT cf gl op es ρ S
  | .ite c a b, ρ, S => match evT cf gl c ρ S with
    | some (true, S1) => evT cf gl a ρ S1
    | some (false, S1) => evT cf gl b ρ S1
    | none => none
  | .var i, ρ, S => match ρ[i]? with
    | some (some d) => (truth S d).map fun b => (b, S)
    | _ => none
  | .cmp op a b, ρ, S => match ev cf gl a ρ S with
    | some (x, S1) => match ev cf gl b ρ S1 with
      | some (y, S2) => (dCmp S2 op x y).map fun z => (z, S2)
      | none => none
    | none => none
  | .chain op op' a b c, ρ, S => match ev cf gl a ρ S with
    | some (x, S1) => match ev cf gl b ρ S1 with
      | some (y, S2) => match dCmp S2 op x y with
        | some true => match ev cf gl c ρ S2 with
          | some (z, S3) => (dCmp S3 op' y z).map fun r => (r, S3)
          | none => none
        | some false => some (false, S2)
        | none => none
      | none => none
    | none => none
  | .call f es, ρ, S => match evs cf gl es ρ S with
    | some (ds, S') => match cf f ds S' with
      | some (.bl b, S2) => some (b, S2)
      | _ => none
    | none => none
  | .bi b es, ρ, S => match evs cf gl es ρ S with
    | some (ds, S') => match dBi S' b ds with
      | some (.bl b) => some (b, S')
      | _ => none
    | none => none
  | .isi t a, ρ, S => match ev cf gl a ρ S with
    | some (x, S1) => (dIsi S1 t x).map fun z => (z, S1)
    | none => none
  | .ix a i, ρ, S => match ev cf gl a ρ S with
    | some (x, S1) => match ev cf gl i ρ S1 with
      | some (y, S2) => match dIx S2 x y with
        | some d => (truth S2 d).map fun b => (b, S2)
        | none => none
      | none => none
    | none => none
  | .din neg i a, ρ, S => match ev cf gl i ρ S with
    | some (y, S1) => match ev cf gl a ρ S1 with
      | some (x, S2) => (dicLook S2 x y).map fun o => (neg != o.isSome, S2)
      | none => none
    | none => none
  | .sin neg i a, ρ, S => match ev cf gl i ρ S with
    | some (.int n, S1) => match ev cf gl a ρ S1 with
      | some (x, S2) => (setOf S2 x).map fun ns => (neg != ns.contains n, S2)
      | none => none
    | _ => none
  | _, _, _ => none
def evBT (cf : CallF) (gl : Str → Option D) (op : BoolOp) : List IE → AEnv → Store → Option (Bool × Store)
  | [], _, S => some (isAnd op, S)
  | e :: es, ρ, S => match evT cf gl e ρ S with
    | some (b, S1) => if b = isAnd op then evBT cf gl op es ρ S1 else some (b, S1)
    | none => none
/-- a comprehension's tests -/
def evTs (cf : CallF) (gl : Str → Option D) : List IE → AEnv → Store → Option (Bool × Store)
  | [], _, S => some (true, S)
  | e :: es, ρ, S => match evT cf gl e ρ S with
    | some (true, S1) => evTs cf gl es ρ S1
    | some (false, S1) => some (false, S1)
    | none => none
def evO (cf : CallF) (gl : Str → Option D) : Option IE → AEnv → Store → Option (Option Int × Store)
  | none, _, S => some (none, S)
  | some e, ρ, S => match ev cf gl e ρ S with
    | some (.int i, S1) => some (some i, S1)
    | _ => none
end

/-! ### statements -/
inductive IS where
  | asg (tg : Tg) (e : IE)
  | new (i : Nat) (e : IE)
  | par (i j : Nat) (a b : IE)
  | seti (o i e : IE)
  | aug (i : Nat) (op : Operator) (e : IE)
  | ex (e : IE)
  | ret (e : IE)
  | retN
  | ite (c : IE) (a b : List IS)
  | whl (n : Nat) (c : IE) (b : List IS)
  | for_ (tg : Tg) (rg : Bool) (it : List IE) (b : List IS)
  | dnew (i : Nat)
  | ddisp (i : Nat) (k v : IE)
  | snew (i : Nat) (e : IE)
  | dput (o i e : IE)
  | pass | brk | cont | bad
def augOp (op : Operator) (x y : Int) : Option Int := match op with
  | .Add => some (x + y)
  | .Sub => some (x - y)
  | _ => none
inductive Fl where
  | next | brk | cont | ret (d : D)
abbrev RS := Option (Fl × AEnv × Store)

def evFor (chk : Store → Bool) (body : D → AEnv → Store → RS) : List D → AEnv → Store → RS
  | [], ρ, S => if chk S then some (.next, ρ, S) else none
  | d :: ds, ρ, S => if chk S then (match body d ρ S with
      | some (.next, ρ', S') => evFor chk body ds ρ' S'
      | some (.cont, ρ', S') => evFor chk body ds ρ' S'
      | some (.brk, ρ', S') => some (.next, ρ', S')
      | some (.ret v, ρ', S') => some (.ret v, ρ', S')
      | none => none) else none
def evWh (c : AEnv → Store → Option (Bool × Store)) (body : AEnv → Store → RS) : Nat → AEnv → Store → RS
  | 0, _, _ => none
  | n + 1, ρ, S => match c ρ S with
    | some (true, S1) => match body ρ S1 with
      | some (.next, ρ', S') => evWh c body n ρ' S'
      | some (.cont, ρ', S') => evWh c body n ρ' S'
      | some (.brk, ρ', S') => some (.next, ρ', S')
      | some (.ret v, ρ', S') => some (.ret v, ρ', S')
      | none => none
    | some (false, S1) => some (.next, ρ, S1)
    | none => none

mutual
def evS (cf : CallF) (gl : Str → Option D) : IS → AEnv → Store → RS
  | .asg tg e, ρ, S => match ev cf gl e ρ S with
    | some (d, S1) => (Tg.bind tg d ρ).map fun ρ' => (.next, ρ', S1)
    | none => none
  | .new i e, ρ, S => match ev cf gl e ρ S with
    | some (.lst ds, S1) => if i < ρ.length then some (.next, ρ.set i (some (.ref S1.length)), S1 ++ [.lst ds]) else none
    | _ => none
  | .par i j a b, ρ, S => match ev cf gl a ρ S with
    | some (x, S1) => match ev cf gl b ρ S1 with
      | some (y, S2) => if i < ρ.length ∧ j < ρ.length then some (.next, (ρ.set i (some x)).set j (some y), S2) else none
      | none => none
    | none => none
  | .seti o i e, ρ, S => match ev cf gl e ρ S with
    | some (d, S1) => match ev cf gl o ρ S1 with
      | some (.ref r, S2) => match ev cf gl i ρ S2 with
        | some (.int k, S3) => match S3[r]? with
          | some (.lst xs) => match L2.ixN xs.length k with
            | some j => some (.next, ρ, S3.set r (.lst (xs.set j d)))
            | none => none
          | _ => none
        | _ => none
      | _ => none
    | none => none
  | .aug i op e, ρ, S => match ρ[i]? with
    | some (some (.int x)) => match ev cf gl e ρ S with
      | some (.int y, S1) => (augOp op x y).map fun z => (.next, ρ.set i (some (.int z)), S1)
      | _ => none
    | _ => none
  | .ex e, ρ, S => match ev cf gl e ρ S with
    | some (_, S1) => some (.next, ρ, S1)
    | none => none
  | .ret e, ρ, S => match ev cf gl e ρ S with
    | some (d, S1) => some (.ret d, ρ, S1)
    | none => none
  | .retN, ρ, S => some (.ret .non, ρ, S)
  | .ite c a b, ρ, S => match evT cf gl c ρ S with
    | some (true, S1) => evSs cf gl a ρ S1
    | some (false, S1) => evSs cf gl b ρ S1
    | none => none
  | .whl n c b, ρ, S => evWh (evT cf gl c) (evSs cf gl b) n ρ S
  | .for_ tg rg it b, ρ, S => match evs cf gl it ρ S with
    | some (ds, S1) => match walk rg ds S1 with
      | some xs => evFor (stays rg ds xs) (fun d ρ S => match Tg.bind tg d ρ with
          | some ρ' => evSs cf gl b ρ' S
          | none => none) xs ρ S1
      | none => none
    | none => none
  | .dnew i, ρ, S => if i < ρ.length then some (.next, ρ.set i (some (.ref S.length)), S ++ [.dic true []]) else none
  | .ddisp i k v, ρ, S => match ev cf gl k ρ S with
    | some (kd, S1) => match ev cf gl v ρ S1 with
      | some (d, S2) => match dKey true true kd with
        | some (t, kk) => if i < ρ.length then some (.next, ρ.set i (some (.ref S2.length)), S2 ++ [.dic t [(kk, d)]]) else none
        | none => none
      | none => none
    | none => none
  | .snew i e, ρ, S => match ev cf gl e ρ S with
    | some (.int n, S1) => if i < ρ.length then some (.next, ρ.set i (some (.ref S1.length)), S1 ++ [.set [n]]) else none
    | _ => none
  | .dput o i e, ρ, S => match ev cf gl e ρ S with
    | some (d, S1) => match ev cf gl o ρ S1 with
      | some (x, S2) => match ev cf gl i ρ S2 with
        | some (y, S3) => (dicPut S3 x y d).map fun S4 => (.next, ρ, S4)
        | none => none
      | none => none
    | none => none
  | .pass, ρ, S => some (.next, ρ, S)
  | .brk, ρ, S => some (.brk, ρ, S)
  | .cont, ρ, S => some (.cont, ρ, S)
  | .bad, _, _ => none
def evSs (cf : CallF) (gl : Str → Option D) : List IS → AEnv → Store → RS
  | [], ρ, S => some (.next, ρ, S)
  | s :: ss, ρ, S => match evS cf gl s ρ S with
    | some (.next, ρ', S') => evSs cf gl ss ρ' S'
    | r => r
end

/-! ### defs -/
structure FD where
  name : Str
  ps : List Str
  N : List Str
  body : List IS
/-- what a call leaves: the store cut where nothing older or handed back names what is new -/
def trunc (n : Nat) (d : D) (S : Store) : D × Store :=
  if D.undr n d && (S.take n).all (O.undr n) then (d, S.take n) else (d, S)
def startA (n : Nat) (ds : List D) : AEnv := ds.map some ++ List.replicate (n - ds.length) none
def runF (cf : CallF) (gl : Str → Option D) (fd : FD) (ds : List D) (S : Store) : Option (D × Store) :=
  if ds.length = fd.ps.length then
    match evSs cf gl fd.body (startA fd.N.length ds) S with
    | some (.ret d, _, S') => some (trunc S.length d S')
    | some (.next, _, S') => some (trunc S.length .non S')
    | _ => none
  else none
def call (T : Nat → Option FD) (gl : Str → Option D) : Nat → CallF
  | 0 => fun _ _ _ => none
  | k + 1 => fun f ds S => match T f with
    | some fd => runF (call T gl k) gl fd ds S
    | none => none
end Ab

/-! Ab2: which values stand for which data; what stays. -/
namespace Ab
open PySem PySem.Spec PyProof.Rows L2

/-- where defs lie, beside program and world -/
structure Fa where
  f : Nat → Option Addr
  P : Program
  w : World
instance : CoeFun Fa (fun _ => Nat → Option Addr) := ⟨Fa.f⟩
structure G where
  fz : Addr → Prop
  kp : Addr → Prop
  m : List Addr

def pers : HO → Bool
  | .tup _ => true
  | .frz _ _ => true
  | _ => false

/-- a list that stays: frozen by us, known, or of the module -/
def SqS (K : PySem.W.Frag) (g : G) (H : Hp) (a : Addr) (xs : List V) : Prop :=
  (H a = some (.lst xs) ∧ g.fz a) ∨ (∃ o, H a = some (.frz o (.lst xs))) ∨
    ∃ (o : Obj) (its : Array Value) (n : Nat), K.lookup a = some o ∧ o.cls = .type "list" ∧ o.dict = none ∧ o.data = .seq its n ∧ its.size ≤ sizeLine ∧ Vals xs its.toList
theorem SqS.sq {K : PySem.W.Frag} {g : G} {H : Hp} {a : Addr} {xs : List V} (h : SqS K g H a xs) : SqL K H a xs := by
  rcases h with ⟨h, _⟩ | ⟨o, h⟩ | h
  · exact .inl (.inl h)
  · exact .inl (.inr ⟨o, h⟩)
  · exact .inr h

section
variable (K : PySem.W.Frag) (fa : Fa)
mutual
inductive Rep (g : G) (H : Hp) : D → V → Prop
  | non : Rep g H .non .non
  | bl (b : Bool) : Rep g H (.bl b) (.bl b)
  | int (i : Int) : Rep g H (.int i) (.int i)
  | str (x : Str) : Rep g H (.str x) (.str x)
  | tup {a : Addr} {vs : List V} {ds : List D} : SqT K H a vs → Reps g H ds vs → Rep g H (.tup ds) (.ref a)
  | lst {a : Addr} {vs : List V} {ds : List D} : H a = some (.lst vs) → g.fz a → Reps g H ds vs → Rep g H (.lst ds) (.ref a)
  | scr {a : Addr} {ns : List Int} : SqS K g H a (ns.map V.int) → Rep g H (.scr ns) (.ref a)
  | ref {a : Addr} {r : Nat} : g.m[r]? = some a → Rep g H (.ref r) (.ref a)
  | fn {a : Addr} {f : Nat} : fa f = some a → Rep g H (.fn f) (.ref a)
inductive Reps (g : G) (H : Hp) : List D → List V → Prop
  | nil : Reps g H [] []
  | cons {d : D} {ds : List D} {v : V} {vs : List V} : Rep g H d v → Reps g H ds vs → Reps g H (d :: ds) (v :: vs)
end
/-- entries of a dict whose keys are ints -/
inductive KD (g : G) (H : Hp) : List (NestedKey × D) → List (Key × V) → Prop
  | nil : KD g H [] []
  | cons {i : Int} {d : D} {v : V} {xs ys} : Rep K fa g H d v → KD g H xs ys → KD g H ((.num i, d) :: xs) ((Sum.inl i, v) :: ys)
/-- .. and of one whose keys are tuples -/
inductive XD (g : G) (H : Hp) : List (NestedKey × D) → List (NestedKey × Addr × V) → Prop
  | nil : XD g H [] []
  | cons {k : NestedKey} {b : Addr} {d : D} {v : V} {xs ys} : Rep K fa g H d v → XD g H xs ys → XD g H ((k, d) :: xs) ((k, b, v) :: ys)
def ORep (g : G) (H : Hp) (a : Addr) : O → Prop
  | .lst ds => ∃ vs, H a = some (.lst vs) ∧ Reps K fa g H ds vs
  | .dic true kvs => ∃ xs, H a = some (DicX fa.P fa.w a xs) ∧ KeysOk K H xs ∧ XD K fa g H kvs xs
  | .dic false kvs => ∃ ys, H a = some (.dK ys) ∧ KD K fa g H kvs ys
  | .set ns => ∃ s, H a = some (.set s ns.length) ∧ ∀ k, s k = ns.contains k
structure RelS (g : G) (S : Store) (H : Hp) : Prop where
  len : g.m.length = S.length
  inj : ∀ (i j : Nat) a, g.m[i]? = some a → g.m[j]? = some a → i = j
  sepf : ∀ a, g.fz a → a ∉ g.m ∧ ¬ g.kp a ∧ H a ≠ none
  sepk : ∀ a, g.kp a → a ∉ g.m ∧ H a ≠ none
  obj : ∀ (r : Nat) o a, S[r]? = some o → g.m[r]? = some a → ORep K fa g H a o
def ERel (g : G) (H : Hp) (ρ : AEnv) (σ : L2.St) : Prop := ρ.length = σ.length ∧ ∀ (i : Nat) d, ρ[i]? = some (some d) → ∃ v, σ[i]? = some (some v) ∧ Rep K fa g H d v
end

structure Ext (g : G) (H : Hp) (g' : G) (H' : Hp) : Prop where
  fz : ∀ a, g.fz a → g'.fz a ∧ H' a = H a
  kp : ∀ a, g.kp a → g'.kp a ∧ H' a = H a
  pers : ∀ a o, H a = some o → pers o = true → H' a = some o
  m : ∃ r, g'.m = g.m ++ r
theorem Ext.refl (g : G) (H : Hp) : Ext g H g H := ⟨fun _ h => ⟨h, rfl⟩, fun _ h => ⟨h, rfl⟩, fun _ _ h _ => h, [], by simp⟩
theorem Ext.trans {g1 g2 g3 : G} {H1 H2 H3 : Hp} (a : Ext g1 H1 g2 H2) (b : Ext g2 H2 g3 H3) : Ext g1 H1 g3 H3 :=
  ⟨fun x h => ⟨(b.fz x (a.fz x h).1).1, (b.fz x (a.fz x h).1).2.trans (a.fz x h).2⟩, fun x h => ⟨(b.kp x (a.kp x h).1).1, (b.kp x (a.kp x h).1).2.trans (a.kp x h).2⟩,
    fun x o h p => b.pers x o (a.pers x o h p) p, by
      obtain ⟨r, e⟩ := a.m
      obtain ⟨s, e'⟩ := b.m
      exact ⟨r ++ s, by rw [e', e, List.append_assoc]⟩⟩
theorem Ext.get {g g' : G} {H H' : Hp} (e : Ext g H g' H') {r : Nat} {a : Addr} (h : g.m[r]? = some a) : g'.m[r]? = some a := by
  obtain ⟨s, e⟩ := e.m
  rw [e, List.getElem?_append_left (List.getElem?_eq_some_iff.mp h).1]
  exact h

section
variable {K : PySem.W.Frag} {fa : Fa} {g g' : G} {H H' : Hp}
theorem SqT.ext (e : Ext g H g' H') {a : Addr} {vs : List V} (h : SqT K H a vs) : SqT K H' a vs := by
  rcases h with (h | ⟨o, h⟩) | h
  · exact .inl (.inl (e.pers _ _ h rfl))
  · exact .inl (.inr ⟨o, e.pers _ _ h rfl⟩)
  · exact .inr h
theorem SqS.ext (e : Ext g H g' H') {a : Addr} {vs : List V} (h : SqS K g H a vs) : SqS K g' H' a vs := by
  rcases h with ⟨h, f⟩ | ⟨o, h⟩ | h
  · exact .inl ⟨(e.fz a f).2.trans h, (e.fz a f).1⟩
  · exact .inr (.inl ⟨o, e.pers _ _ h rfl⟩)
  · exact .inr (.inr h)
mutual
theorem Rep.ext (e : Ext g H g' H') : ∀ {d : D} {v : V}, Rep K fa g H d v → Rep K fa g' H' d v
  | _, _, .non => .non
  | _, _, .bl b => .bl b
  | _, _, .int b => .int b
  | _, _, .str b => .str b
  | _, _, .tup h r => .tup (SqT.ext e h) (Reps.ext e r)
  | _, _, .lst h f r => .lst ((e.fz _ f).2.trans h) (e.fz _ f).1 (Reps.ext e r)
  | _, _, .scr h => .scr (h.ext e)
  | _, _, .ref h => .ref (e.get h)
  | _, _, .fn h => .fn h
theorem Reps.ext (e : Ext g H g' H') : ∀ {d : List D} {v : List V}, Reps K fa g H d v → Reps K fa g' H' d v
  | _, _, .nil => .nil
  | _, _, .cons h t => .cons (Rep.ext e h) (Reps.ext e t)
end
theorem KD.imp {g2 : G} {H2 : Hp} : ∀ {xs : List (NestedKey × D)} {ys : List (Key × V)}, (∀ d v, d ∈ xs.map (·.2) → Rep K fa g H d v → Rep K fa g2 H2 d v) → KD K fa g H xs ys → KD K fa g2 H2 xs ys
  | _, _, _, .nil => .nil
  | _, _, f, .cons r t => .cons (f _ _ (by simp) r) (KD.imp (fun d v hd => f d v (by simp at hd ⊢; exact .inr hd)) t)
theorem XD.imp {g2 : G} {H2 : Hp} : ∀ {xs : List (NestedKey × D)} {ys : List (NestedKey × Addr × V)}, (∀ d v, d ∈ xs.map (·.2) → Rep K fa g H d v → Rep K fa g2 H2 d v) → XD K fa g H xs ys → XD K fa g2 H2 xs ys
  | _, _, _, .nil => .nil
  | _, _, f, .cons r t => .cons (f _ _ (by simp) r) (XD.imp (fun d v hd => f d v (by simp at hd ⊢; exact .inr hd)) t)
mutual
theorem NkV.ext (e : Ext g H g' H') : ∀ {k : NestedKey} {v : V}, NkV K H k v → NkV K H' k v
  | _, _, .non => .non
  | _, _, .int i => .int i
  | _, _, .bl b => .bl b
  | _, _, .str x => .str x
  | _, _, .tup h t => .tup (SqT.ext e h) (NkVs.ext e t)
theorem NkVs.ext (e : Ext g H g' H') : ∀ {k : List NestedKey} {v : List V}, NkVs K H k v → NkVs K H' k v
  | _, _, .nil => .nil
  | _, _, .cons h t => .cons (NkV.ext e h) (NkVs.ext e t)
end
theorem KeysOk.ext (e : Ext g H g' H') {xs : List (NestedKey × Addr × V)} (h : KeysOk K H xs) : KeysOk K H' xs := fun x hx => ⟨NkV.ext e (h x hx).1, (h x hx).2⟩
mutual
theorem Rep.nk : ∀ {d : D} {v : V} {k : NestedKey}, Rep K fa g H d v → d.nk = some k → NkV K H k v
  | _, _, _, .non, h => by cases h; exact .non
  | _, _, _, .bl b, h => by cases h; exact .bl b
  | _, _, _, .int b, h => by cases h; exact .int b
  | _, _, _, .str b, h => by cases h; exact .str b
  | _, _, _, .tup (ds := ds) a r, h => by
    simp only [D.nk] at h
    cases q : D.nks ds with
    | none => rw [q] at h; cases h
    | some ks =>
      rw [q] at h
      cases h
      exact .tup a (Reps.nks r q)
  | _, _, _, .lst _ _ _, h => by cases h
  | _, _, _, .scr _, h => by cases h
  | _, _, _, .ref _, h => by cases h
  | _, _, _, .fn _, h => by cases h
theorem Reps.nks : ∀ {ds : List D} {vs : List V} {ks : List NestedKey}, Reps K fa g H ds vs → D.nks ds = some ks → NkVs K H ks vs
  | _, _, _, .nil, h => by cases h; exact .nil
  | _, _, _, .cons (d := d) (ds := ds) a b, h => by
    simp only [D.nks] at h
    cases q : d.nk with
    | none => rw [q] at h; cases h
    | some p =>
      rw [q] at h
      cases q2 : D.nks ds with
      | none => rw [q2] at h; cases h
      | some ps =>
        rw [q2] at h
        cases h
        exact .cons (Rep.nk a q) (Reps.nks b q2)
end
theorem ORep.some {a : Addr} {o : O} (h : ORep K fa g H a o) : ∃ ho, H a = some ho ∧ pers ho = false := by
  cases o with
  | lst ds => obtain ⟨vs, h1, _⟩ := h; exact ⟨_, h1, rfl⟩
  | dic t kvs => cases t with
    | true => obtain ⟨xs, h1, _⟩ := h; exact ⟨_, h1, rfl⟩
    | false => obtain ⟨xs, h1, _⟩ := h; exact ⟨_, h1, rfl⟩
  | set ns => obtain ⟨s, h1, _⟩ := h; exact ⟨_, h1, rfl⟩
theorem Reps.length : ∀ {d : List D} {v : List V}, Reps K fa g H d v → d.length = v.length
  | _, _, .nil => rfl
  | _, _, .cons _ t => congrArg Nat.succ (Reps.length t)
theorem Reps.get : ∀ {ds : List D} {vs : List V} {i : Nat} {d : D}, Reps K fa g H ds vs → ds[i]? = some d → ∃ v, vs[i]? = some v ∧ Rep K fa g H d v
  | _, _, i, _, .nil, h => by simp at h
  | _, _, 0, _, .cons h t, e => by
    simp at e; subst e
    exact ⟨_, rfl, h⟩
  | _, _, i + 1, _, .cons h t, e => by
    obtain ⟨v, h1, h2⟩ := Reps.get (i := i) t (by simpa using e)
    exact ⟨v, by simpa using h1, h2⟩
theorem Reps.get' : ∀ {ds : List D} {vs : List V} {i : Nat} {v : V}, Reps K fa g H ds vs → vs[i]? = some v → ∃ d, ds[i]? = some d ∧ Rep K fa g H d v
  | _, _, i, _, .nil, h => by simp at h
  | _, _, 0, _, .cons h t, e => by
    simp at e; subst e
    exact ⟨_, rfl, h⟩
  | _, _, i + 1, _, .cons h t, e => by
    obtain ⟨v, h1, h2⟩ := Reps.get' (i := i) t (by simpa using e)
    exact ⟨v, by simpa using h1, h2⟩
theorem Reps.append : ∀ {ds es : List D} {vs ws : List V}, Reps K fa g H ds vs → Reps K fa g H es ws → Reps K fa g H (ds ++ es) (vs ++ ws)
  | _, _, _, _, .nil, h => h
  | _, _, _, _, .cons r t, h => .cons r (Reps.append t h)
theorem Reps.one {d : D} {v : V} (h : Rep K fa g H d v) : Reps K fa g H [d] [v] := .cons h .nil
theorem Reps.drop : ∀ {ds : List D} {vs : List V} (n : Nat), Reps K fa g H ds vs → Reps K fa g H (ds.drop n) (vs.drop n)
  | _, _, 0, h => h
  | _, _, n + 1, .nil => .nil
  | _, _, n + 1, .cons _ t => Reps.drop n t
theorem Reps.take : ∀ {ds : List D} {vs : List V} (n : Nat), Reps K fa g H ds vs → Reps K fa g H (ds.take n) (vs.take n)
  | _, _, 0, h => by simpa using .nil
  | _, _, n + 1, .nil => .nil
  | _, _, n + 1, .cons h t => .cons h (Reps.take n t)
theorem Reps.eraseIdx : ∀ {ds : List D} {vs : List V} (n : Nat), Reps K fa g H ds vs → Reps K fa g H (ds.eraseIdx n) (vs.eraseIdx n)
  | _, _, _, .nil => .nil
  | _, _, 0, .cons _ t => t
  | _, _, n + 1, .cons h t => .cons h (Reps.eraseIdx n t)
theorem Reps.set {d : D} {v : V} (r : Rep K fa g H d v) : ∀ {ds : List D} {vs : List V} (n : Nat), Reps K fa g H ds vs → Reps K fa g H (ds.set n d) (vs.set n v)
  | _, _, _, .nil => .nil
  | _, _, 0, .cons _ t => .cons r t
  | _, _, n + 1, .cons h t => .cons h (Reps.set r n t)
theorem Reps.dropLast {ds : List D} {vs : List V} (h : Reps K fa g H ds vs) : Reps K fa g H ds.dropLast vs.dropLast := by
  rw [List.dropLast_eq_take, List.dropLast_eq_take, h.length]
  exact h.take _
theorem Reps.reverse : ∀ {ds : List D} {vs : List V}, Reps K fa g H ds vs → Reps K fa g H ds.reverse vs.reverse
  | _, _, .nil => .nil
  | _, _, .cons h t => by
    rw [List.reverse_cons, List.reverse_cons]
    exact (Reps.reverse t).append (.one h)
theorem Reps.rep {ds : List D} {vs : List V} (h : Reps K fa g H ds vs) : ∀ k : Nat, Reps K fa g H (List.replicate k ds).flatten (List.replicate k vs).flatten
  | 0 => .nil
  | k + 1 => by
    rw [List.replicate_succ, List.replicate_succ, List.flatten_cons, List.flatten_cons]
    exact h.append (Reps.rep h k)
theorem Reps.ints (ns : List Int) : Reps K fa g H (ns.map .int) (ns.map .int) := by
  induction ns with
  | nil => exact .nil
  | cons n ns ih => exact .cons (.int n) ih

/-! ### the store -/
theorem RelS.addr {S : Store} (r : RelS K fa g S H) {i : Nat} {o : O} (h : S[i]? = some o) : ∃ a, g.m[i]? = some a ∧ ORep K fa g H a o := by
  have hi : i < g.m.length := by rw [r.len]; exact (List.getElem?_eq_some_iff.mp h).1
  exact ⟨g.m[i], List.getElem?_eq_getElem hi, r.obj i o _ h (List.getElem?_eq_getElem hi)⟩
theorem ORep.ext (e : Ext g H g' H') {a : Addr} {o : O} (ha : H' a = H a) (h : ORep K fa g H a o) : ORep K fa g' H' a o := by
  cases o with
  | lst ds =>
    obtain ⟨vs, h1, h2⟩ := h
    exact ⟨vs, ha.trans h1, h2.ext e⟩
  | dic t kvs => cases t with
    | true =>
      obtain ⟨xs, h1, h2, h3⟩ := h
      exact ⟨xs, ha.trans h1, h2.ext e, h3.imp fun _ _ _ r => r.ext e⟩
    | false =>
      obtain ⟨xs, h1, h3⟩ := h
      exact ⟨xs, ha.trans h1, h3.imp fun _ _ _ r => r.ext e⟩
  | set ns =>
    obtain ⟨s, h1, h2⟩ := h
    exact ⟨s, ha.trans h1, h2⟩
/-- something new is laid at p -/
theorem RelS.newExt {S : Store} (r : RelS K fa g S H) {p : Addr} {o : HO} (hp : H p = none) : Ext g H g (upd H p o) :=
  ⟨fun a f => ⟨f, upd_ne fun z => (r.sepf a f).2.2 (z ▸ hp)⟩, fun a f => ⟨f, upd_ne fun z => (r.sepk a f).2 (z ▸ hp)⟩, fun a u h _ => by rw [upd_ne (ne_of_none h hp)]; exact h, [], by simp⟩
theorem RelS.memne {S : Store} (r : RelS K fa g S H) {i : Nat} {a : Addr} (h : g.m[i]? = some a) : H a ≠ none := by
  have hi : i < S.length := by rw [← r.len]; exact (List.getElem?_eq_some_iff.mp h).1
  obtain ⟨ho, h1, _⟩ := (r.obj i S[i] a (List.getElem?_eq_getElem hi) h).some
  rw [h1]
  exact fun z => nomatch z
theorem RelS.new {S : Store} (r : RelS K fa g S H) {p : Addr} {o : HO} (hp : H p = none) : RelS K fa g S (upd H p o) where
  len := r.len
  inj := r.inj
  sepf := fun a f => ⟨(r.sepf a f).1, (r.sepf a f).2.1, by rw [upd_ne (show a ≠ p from fun z => (r.sepf a f).2.2 (z ▸ hp))]; exact (r.sepf a f).2.2⟩
  sepk := fun a f => ⟨(r.sepk a f).1, by rw [upd_ne (show a ≠ p from fun z => (r.sepk a f).2 (z ▸ hp))]; exact (r.sepk a f).2⟩
  obj := fun i u a h1 h2 => (r.obj i u a h1 h2).ext (r.newExt hp) (upd_ne fun z => r.memne h2 (z ▸ hp))
/-- a thing that is in nobody's hands -/
structure OwnO (g : G) (H : Hp) (p : Addr) (o : HO) : Prop where
  at_ : H p = some o
  nfz : ¬ g.fz p
  nkp : ¬ g.kp p
  nm : p ∉ g.m
abbrev Own (g : G) (H : Hp) (p : Addr) (vs : List V) : Prop := OwnO g H p (.lst vs)
theorem RelS.ownO {S : Store} (r : RelS K fa g S H) {p : Addr} {o : HO} (hp : H p = none) : OwnO g (upd H p o) p o :=
  ⟨upd_same, fun f => (r.sepf p f).2.2 hp, fun f => (r.sepk p f).2 hp, fun hm => by
    obtain ⟨i, hi⟩ := List.getElem?_of_mem hm
    exact r.memne hi hp⟩
theorem RelS.own {S : Store} (r : RelS K fa g S H) {p : Addr} {vs : List V} (hp : H p = none) : Own g (upd H p (.lst vs)) p vs :=
  ⟨upd_same, fun f => (r.sepf p f).2.2 hp, fun f => (r.sepk p f).2 hp, fun hm => by
    obtain ⟨i, hi⟩ := List.getElem?_of_mem hm
    exact r.memne hi hp⟩
/-- it is frozen -/
def G.freeze (g : G) (p : Addr) : G := { g with fz := fun a => g.fz a ∨ a = p }
theorem OwnO.freezeExt {p : Addr} {vs : List V} (o : Own g H p vs) : Ext g H (g.freeze p) H := ⟨fun _ f => ⟨.inl f, rfl⟩, fun _ f => ⟨f, rfl⟩, fun _ _ h _ => h, [], by simp [G.freeze]⟩
theorem OwnO.freeze {S : Store} {p : Addr} {vs : List V} (o : Own g H p vs) (r : RelS K fa g S H) : RelS K fa (g.freeze p) S H where
  len := r.len
  inj := r.inj
  sepf := fun a f => by
    rcases f with f | rfl
    · exact r.sepf a f
    · exact ⟨o.nm, o.nkp, by rw [o.at_]; exact fun z => nomatch z⟩
  sepk := r.sepk
  obj := fun i u a h1 h2 => (r.obj i u a h1 h2).ext o.freezeExt rfl
theorem OwnO.rep {p : Addr} {vs : List V} {ds : List D} (o : Own g H p vs) (h : Reps K fa g H ds vs) : Rep K fa (g.freeze p) H (.lst ds) (.ref p) := .lst o.at_ (.inr rfl) (h.ext o.freezeExt)
/-- it is kept for a while -/
def G.keep (g : G) (p : Addr) : G := { g with kp := fun a => g.kp a ∨ a = p }
theorem OwnO.keepExt {p : Addr} {ho : HO} (o : OwnO g H p ho) : Ext g H (g.keep p) H := ⟨fun _ f => ⟨f, rfl⟩, fun _ f => ⟨.inl f, rfl⟩, fun _ _ h _ => h, [], by simp [G.keep]⟩
theorem OwnO.keep {S : Store} {p : Addr} {ho : HO} (o : OwnO g H p ho) (r : RelS K fa g S H) : RelS K fa (g.keep p) S H where
  len := r.len
  inj := r.inj
  sepf := fun a f => ⟨(r.sepf a f).1, fun q => by
    rcases q with q | rfl
    · exact (r.sepf a f).2.1 q
    · exact o.nfz f, (r.sepf a f).2.2⟩
  sepk := fun a f => by
    rcases f with f | rfl
    · exact r.sepk a f
    · exact ⟨o.nm, by rw [o.at_]; exact fun z => nomatch z⟩
  obj := fun i u a h1 h2 => (r.obj i u a h1 h2).ext o.keepExt rfl
/-- .. and let go again, written anew -/
def G.drop (g : G) (p : Addr) : G := { g with kp := fun a => g.kp a ∧ a ≠ p }
theorem Rep.drop (p : Addr) : (∀ {d : D} {v : V}, Rep K fa g H d v → Rep K fa (g.drop p) H d v) := fun {d v} h => by
  refine Rep.rec (motive_1 := fun d v _ => Rep K fa (g.drop p) H d v) (motive_2 := fun ds vs _ => Reps K fa (g.drop p) H ds vs) ?_ ?_ ?_ ?_ ?_ ?_ ?_ ?_ ?_ ?_ ?_ h
  · exact .non
  · exact .bl
  · exact .int
  · exact .str
  · exact fun h _ r => .tup h r
  · exact fun h f _ r => .lst h f r
  · exact fun h => .scr h
  · exact fun h => .ref h
  · exact fun h => .fn h
  · exact .nil
  · exact fun _ _ a b => .cons a b
theorem Reps.dropK (p : Addr) {ds : List D} {vs : List V} (h : Reps K fa g H ds vs) : Reps K fa (g.drop p) H ds vs := by
  induction ds generalizing vs with
  | nil => cases h; exact .nil
  | cons d ds ih =>
    cases h with
    | cons a b => exact .cons (a.drop p) (ih b)
theorem RelS.drop {S : Store} {p : Addr} (r : RelS K fa g S H) : RelS K fa (g.drop p) S H where
  len := r.len
  inj := r.inj
  sepf := fun a f => ⟨(r.sepf a f).1, fun q => (r.sepf a f).2.1 q.1, (r.sepf a f).2.2⟩
  sepk := fun a f => r.sepk a f.1
  obj := fun i u a h1 h2 => by
    have := r.obj i u a h1 h2
    cases u with
    | lst ds =>
      obtain ⟨vs, h3, h4⟩ := this
      exact ⟨vs, h3, h4.dropK p⟩
    | dic t kvs => cases t with
      | true =>
        obtain ⟨xs, h1, h2, h3⟩ := this
        exact ⟨xs, h1, h2, h3.imp fun _ _ _ r => r.drop p⟩
      | false =>
        obtain ⟨xs, h1, h3⟩ := this
        exact ⟨xs, h1, h3.imp fun _ _ _ r => r.drop p⟩
    | set ns => exact this
theorem RelS.dropOwn {S : Store} {p : Addr} {ho : HO} (r : RelS K fa g S H) (hp : H p = some ho) (hk : g.kp p) : OwnO (g.drop p) H p ho :=
  ⟨hp, fun f => (r.sepf p f).2.1 hk, fun q => q.2 rfl, (r.sepk p hk).1⟩
/-- what is nobody's is written -/
theorem OwnO.writeExt {p : Addr} {vs ws : List V} (o : Own g H p vs) : Ext g H g (upd H p (.lst ws)) :=
  ⟨fun a f => ⟨f, upd_ne fun z => o.nfz (z ▸ f)⟩, fun a f => ⟨f, upd_ne fun z => o.nkp (z ▸ f)⟩, fun a u h q => (by
    rw [upd_ne]
    · exact h
    · rintro rfl
      rw [o.at_] at h
      cases h
      cases q), [], by simp⟩
theorem OwnO.write {S : Store} {p : Addr} {vs ws : List V} (o : Own g H p vs) (r : RelS K fa g S H) : RelS K fa g S (upd H p (.lst ws)) where
  len := r.len
  inj := r.inj
  sepf := fun a f => ⟨(r.sepf a f).1, (r.sepf a f).2.1, by rw [upd_ne (show a ≠ p from fun z => o.nfz (z ▸ f))]; exact (r.sepf a f).2.2⟩
  sepk := fun a f => ⟨(r.sepk a f).1, by rw [upd_ne (show a ≠ p from fun z => o.nkp (z ▸ f))]; exact (r.sepk a f).2⟩
  obj := fun i u a h1 h2 => (r.obj i u a h1 h2).ext o.writeExt (upd_ne fun z => o.nm (z ▸ List.mem_of_getElem? h2))
theorem OwnO.writeExtO {p : Addr} {ho ho' : HO} (o : OwnO g H p ho) (hp : pers ho = false) : Ext g H g (upd H p ho') :=
  ⟨fun a f => ⟨f, upd_ne fun z => o.nfz (z ▸ f)⟩, fun a f => ⟨f, upd_ne fun z => o.nkp (z ▸ f)⟩, fun a u h q => (by
    rw [upd_ne]
    · exact h
    · rintro rfl
      rw [o.at_] at h
      cases h
      rw [hp] at q
      cases q), [], by simp⟩
theorem OwnO.writeO {S : Store} {p : Addr} {ho ho' : HO} (o : OwnO g H p ho) (hp : pers ho = false) (r : RelS K fa g S H) : RelS K fa g S (upd H p ho') where
  len := r.len
  inj := r.inj
  sepf := fun a f => ⟨(r.sepf a f).1, (r.sepf a f).2.1, by rw [upd_ne (show a ≠ p from fun z => o.nfz (z ▸ f))]; exact (r.sepf a f).2.2⟩
  sepk := fun a f => ⟨(r.sepk a f).1, by rw [upd_ne (show a ≠ p from fun z => o.nkp (z ▸ f))]; exact (r.sepk a f).2⟩
  obj := fun i u a h1 h2 => (r.obj i u a h1 h2).ext (o.writeExtO hp) (upd_ne fun z => o.nm (z ▸ List.mem_of_getElem? h2))
theorem OwnO.againO {p : Addr} {ho ho' : HO} (o : OwnO g H p ho) : OwnO g (upd H p ho') p ho' := ⟨upd_same, o.nfz, o.nkp, o.nm⟩
theorem OwnO.again {p : Addr} {vs ws : List V} (o : Own g H p vs) : Own g (upd H p (.lst ws)) p ws := ⟨upd_same, o.nfz, o.nkp, o.nm⟩
/-- it goes into the store -/
def G.put (g : G) (p : Addr) : G := { g with m := g.m ++ [p] }
theorem OwnO.putExt {p : Addr} {ho : HO} (o : OwnO g H p ho) : Ext g H (g.put p) H := ⟨fun _ f => ⟨f, rfl⟩, fun _ f => ⟨f, rfl⟩, fun _ _ h _ => h, [p], rfl⟩
theorem OwnO.put {S : Store} {p : Addr} {ho : HO} {ob : O} (o : OwnO g H p ho) (r : RelS K fa g S H) (h : ORep K fa (g.put p) H p ob) : RelS K fa (g.put p) (S ++ [ob]) H where
  len := by simp [G.put, r.len]
  inj := fun i j a h1 h2 => by
    have k1 : (g.m ++ [p])[i]? = some a := h1
    have k2 : (g.m ++ [p])[j]? = some a := h2
    rw [List.getElem?_append] at k1 k2
    by_cases hi : i < g.m.length
    · rw [if_pos hi] at k1
      by_cases hj : j < g.m.length
      · rw [if_pos hj] at k2
        exact r.inj i j a k1 k2
      · rw [if_neg hj] at k2
        have : a = p := by
          cases q : j - g.m.length with
          | zero => rw [q] at k2; simpa using k2.symm
          | succ n => rw [q] at k2; simp at k2
        subst this
        exact absurd (List.mem_of_getElem? k1) o.nm
    · rw [if_neg hi] at k1
      have e1 : i = g.m.length ∧ a = p := by
        cases q : i - g.m.length with
        | zero => rw [q] at k1; exact ⟨by omega, by simpa using k1.symm⟩
        | succ n => rw [q] at k1; simp at k1
      by_cases hj : j < g.m.length
      · rw [if_pos hj] at k2
        rw [e1.2] at k2
        exact absurd (List.mem_of_getElem? k2) o.nm
      · rw [if_neg hj] at k2
        have e2 : j = g.m.length := by
          cases q : j - g.m.length with
          | zero => omega
          | succ n => rw [q] at k2; simp at k2
        omega
  sepf := fun a f => ⟨fun hm => by
    rcases List.mem_append.mp (show a ∈ g.m ++ [p] from hm) with q | q
    · exact (r.sepf a f).1 q
    · rw [List.mem_singleton.mp q] at f
      exact o.nfz f, (r.sepf a f).2⟩
  sepk := fun a f => ⟨fun hm => by
    rcases List.mem_append.mp (show a ∈ g.m ++ [p] from hm) with q | q
    · exact (r.sepk a f).1 q
    · rw [List.mem_singleton.mp q] at f
      exact o.nkp f, (r.sepk a f).2⟩
  obj := fun i u a h1 h2 => by
    have k2 : (g.m ++ [p])[i]? = some a := h2
    rw [List.getElem?_append] at h1 k2
    by_cases hi : i < S.length
    · rw [if_pos hi] at h1
      rw [if_pos (by rw [r.len]; exact hi)] at k2
      exact (r.obj i u a h1 k2).ext o.putExt rfl
    · rw [if_neg hi] at h1
      rw [if_neg (by rw [r.len]; exact hi), r.len] at k2
      cases q : i - S.length with
      | zero =>
        rw [q] at h1 k2
        have e1 : u = ob := by simpa using h1.symm
        have e2 : a = p := by simpa using k2.symm
        subst e1 e2
        exact h
      | succ n => rw [q] at h1; simp at h1
theorem Own.put {S : Store} {p : Addr} {vs : List V} {ds : List D} (o : Own g H p vs) (r : RelS K fa g S H) (h : Reps K fa g H ds vs) : RelS K fa (g.put p) (S ++ [.lst ds]) H :=
  OwnO.put o r ⟨vs, o.at_, h.ext (OwnO.putExt o)⟩
theorem put_get {S : Store} (r : RelS K fa g S H) (p : Addr) : (g.put p).m[S.length]? = some p := by
  show (g.m ++ [p])[S.length]? = some p
  rw [← r.len, List.getElem?_append_right (Nat.le_refl _), Nat.sub_self]
  rfl
/-- the store's list is written -/
theorem RelS.setExtO {S : Store} (r : RelS K fa g S H) {i : Nat} {a : Addr} {ho ho' : HO} (hi : g.m[i]? = some a) (ha : H a = some ho) (hp : pers ho = false) : Ext g H g (upd H a ho') :=
  ⟨fun b f => ⟨f, upd_ne fun z => (r.sepf b f).1 (z ▸ List.mem_of_getElem? hi)⟩, fun b f => ⟨f, upd_ne fun z => (r.sepk b f).1 (z ▸ List.mem_of_getElem? hi)⟩, fun b u h q => (by
    rw [upd_ne]
    · exact h
    · rintro rfl
      rw [ha] at h
      cases h
      rw [hp] at q
      cases q), [], by simp⟩
theorem RelS.setExt {S : Store} (r : RelS K fa g S H) {i : Nat} {a : Addr} {xs ws : List V} (hi : g.m[i]? = some a) (ha : H a = some (.lst xs)) : Ext g H g (upd H a (.lst ws)) := r.setExtO hi ha rfl
theorem RelS.setO {S : Store} (r : RelS K fa g S H) {i : Nat} {a : Addr} {ho ho' : HO} {ob : O} (hi : g.m[i]? = some a) (ha : H a = some ho) (hp : pers ho = false) (h : ORep K fa g (upd H a ho') a ob) : RelS K fa g (S.set i ob) (upd H a ho') where
  len := by rw [List.length_set]; exact r.len
  inj := r.inj
  sepf := fun b f => ⟨(r.sepf b f).1, (r.sepf b f).2.1, by rw [upd_ne (show b ≠ a from fun z => (r.sepf b f).1 (z ▸ List.mem_of_getElem? hi))]; exact (r.sepf b f).2.2⟩
  sepk := fun b f => ⟨(r.sepk b f).1, by rw [upd_ne (show b ≠ a from fun z => (r.sepk b f).1 (z ▸ List.mem_of_getElem? hi))]; exact (r.sepk b f).2⟩
  obj := fun j u b h1 h2 => by
    by_cases e : j = i
    · subst e
      rw [hi] at h2
      cases h2
      have hl : j < S.length := by rw [← r.len]; exact (List.getElem?_eq_some_iff.mp hi).1
      rw [List.getElem?_set_self hl] at h1
      cases h1
      exact h
    · rw [List.getElem?_set_ne (Ne.symm e)] at h1
      refine (r.obj j u b h1 h2).ext (r.setExtO hi ha hp) (upd_ne fun z => ?_)
      subst z
      exact e (r.inj j i b h2 hi)
theorem RelS.set {S : Store} (r : RelS K fa g S H) {i : Nat} {a : Addr} {xs ws : List V} {ds : List D} (hi : g.m[i]? = some a) (ha : H a = some (.lst xs)) (h : Reps K fa g H ds ws) : RelS K fa g (S.set i (.lst ds)) (upd H a (.lst ws)) :=
  r.setO hi ha rfl ⟨ws, upd_same, h.ext (r.setExt hi ha)⟩

/-! ### what refs a thing has -/
mutual
theorem Rep.cut {g2 : G} (hf : ∀ a, g.fz a → g2.fz a) {n : Nat} (hm : ∀ (r : Nat) a, r < n → g.m[r]? = some a → g2.m[r]? = some a) : ∀ {d : D} {v : V}, Rep K fa g H d v → D.undr n d = true → Rep K fa g2 H d v
  | _, _, .non, _ => .non
  | _, _, .bl b, _ => .bl b
  | _, _, .int b, _ => .int b
  | _, _, .str b, _ => .str b
  | _, _, .tup h r, e => .tup h (Reps.cut hf hm r (by simpa [D.undr] using e))
  | _, _, .lst h f r, e => .lst h (hf _ f) (Reps.cut hf hm r (by simpa [D.undr] using e))
  | _, _, .scr h, _ => .scr (by
    rcases h with ⟨h, f⟩ | h
    · exact .inl ⟨h, hf _ f⟩
    · exact .inr h)
  | _, _, .ref h, e => .ref (hm _ _ (by simpa [D.undr] using e) h)
  | _, _, .fn h, _ => .fn h
theorem Reps.cut {g2 : G} (hf : ∀ a, g.fz a → g2.fz a) {n : Nat} (hm : ∀ (r : Nat) a, r < n → g.m[r]? = some a → g2.m[r]? = some a) : ∀ {d : List D} {v : List V}, Reps K fa g H d v → D.undrs n d = true → Reps K fa g2 H d v
  | _, _, .nil, _ => .nil
  | _, _, .cons h t, e => by
    simp only [D.undrs, Bool.and_eq_true] at e
    exact .cons (Rep.cut hf hm h e.1) (Reps.cut hf hm t e.2)
end
theorem undrs_mem {n : Nat} : ∀ {ds : List D}, D.undrs n ds = true → ∀ d ∈ ds, D.undr n d = true
  | [], _, _, h => nomatch h
  | a :: as, h, d, hd => by
    simp only [D.undrs, Bool.and_eq_true] at h
    rcases List.mem_cons.mp hd with rfl | hd
    · exact h.1
    · exact undrs_mem h.2 d hd
def G.cut (g : G) (n : Nat) : G := { g with m := g.m.take n }
theorem G.cut_get {n r : Nat} {a : Addr} (hr : r < n) (h : g.m[r]? = some a) : (g.cut n).m[r]? = some a := by
  show (g.m.take n)[r]? = some a
  rw [List.getElem?_take_of_lt hr]
  exact h
theorem RelS.cut {S : Store} (r : RelS K fa g S H) {n : Nat} (h : (S.take n).all (O.undr n) = true) : RelS K fa (g.cut n) (S.take n) H where
  len := by show (g.m.take n).length = _; rw [List.length_take, List.length_take, r.len]
  inj := fun i j a h1 h2 => r.inj i j a (by
    have h1 : (g.m.take n)[i]? = some a := h1
    rw [List.getElem?_take] at h1
    split at h1
    · exact h1
    · cases h1) (by
    have h2 : (g.m.take n)[j]? = some a := h2
    rw [List.getElem?_take] at h2
    split at h2
    · exact h2
    · cases h2)
  sepf := fun a f => ⟨fun hm => (r.sepf a f).1 (List.mem_of_mem_take hm), (r.sepf a f).2⟩
  sepk := fun a f => ⟨fun hm => (r.sepk a f).1 (List.mem_of_mem_take hm), (r.sepk a f).2⟩
  obj := fun i u a h1 h2 => by
    have h2 : (g.m.take n)[i]? = some a := h2
    have hu : O.undr n u = true := List.all_eq_true.mp h u (List.mem_of_getElem? h1)
    rw [List.getElem?_take] at h1 h2
    by_cases hi : i < n
    · rw [if_pos hi] at h1 h2
      have := r.obj i u a h1 h2
      cases u with
      | lst ds =>
        obtain ⟨vs, h3, h4⟩ := this
        exact ⟨vs, h3, h4.cut (g := g) (g2 := g.cut n) (fun _ f => f) (fun _ _ hr e => G.cut_get (g := g) hr e) (by simpa [O.undr] using hu)⟩
      | dic t kvs =>
        have hc : ∀ d v, d ∈ kvs.map (·.2) → Rep K fa g H d v → Rep K fa (g.cut n) H d v := fun d v hd r => r.cut (g := g) (g2 := g.cut n) (fun _ f => f) (fun _ _ hr e => G.cut_get (g := g) hr e) (undrs_mem (by simpa [O.undr] using hu) d hd)
        cases t with
        | true =>
          obtain ⟨xs, h1, h2, h3⟩ := this
          exact ⟨xs, h1, h2, h3.imp hc⟩
        | false =>
          obtain ⟨xs, h1, h3⟩ := this
          exact ⟨xs, h1, h3.imp hc⟩
      | set ns => exact this
    · rw [if_neg hi] at h1; cases h1

/-! ### names -/
theorem ERel.ext (e : Ext g H g' H') {ρ : AEnv} {σ : L2.St} (h : ERel K fa g H ρ σ) : ERel K fa g' H' ρ σ := ⟨h.1, fun i d q => by
  obtain ⟨v, h1, h2⟩ := h.2 i d q
  exact ⟨v, h1, h2.ext e⟩⟩
theorem ERel.set {ρ : AEnv} {σ : L2.St} (h : ERel K fa g H ρ σ) {d : D} {v : V} (r : Rep K fa g H d v) (i : Nat) : ERel K fa g H (ρ.set i (some d)) (σ.set i (some v)) := by
  refine ⟨by rw [List.length_set, List.length_set]; exact h.1, fun j x q => ?_⟩
  by_cases e : i = j
  · subst e
    by_cases hi : i < ρ.length
    · rw [List.getElem?_set_self hi] at q
      cases q
      exact ⟨v, List.getElem?_set_self (by rw [← h.1]; exact hi), r⟩
    · rw [List.getElem?_eq_none (by simpa using hi)] at q
      cases q
  · rw [List.getElem?_set_ne e] at q ⊢
    exact h.2 j x q
theorem ERel.unset {ρ : AEnv} {σ : L2.St} (h : ERel K fa g H ρ σ) (i : Nat) : ERel K fa g H (ρ.set i none) (σ.set i none) := by
  refine ⟨by rw [List.length_set, List.length_set]; exact h.1, fun j x q => ?_⟩
  by_cases e : i = j
  · subst e
    by_cases hi : i < ρ.length
    · rw [List.getElem?_set_self hi] at q
      cases q
    · rw [List.getElem?_eq_none (by simpa using hi)] at q
      cases q
  · rw [List.getElem?_set_ne e] at q ⊢
    exact h.2 j x q
theorem ERel.wipe {ρ : AEnv} {σ : L2.St} (h : ERel K fa g H ρ σ) : ∀ vs : List Nat, ERel K fa g H (wipeA ρ vs) (L2.wipe σ vs)
  | [] => h
  | v :: vs => (ERel.wipe h vs).unset v
theorem ERel.start {ds : List D} {vs : List V} (h : Reps K fa g H ds vs) (N : List Str) : ERel K fa g H (startA N.length ds) (L2.start N vs) := by
  unfold startA L2.start
  refine ⟨by simp [h.length], fun i d q => ?_⟩
  rw [List.getElem?_append] at q ⊢
  by_cases hi : i < ds.length
  · rw [if_pos (by simpa using hi)] at q
    rw [if_pos (by rw [List.length_map, ← h.length]; exact hi)]
    rw [List.getElem?_map] at q ⊢
    cases e : ds[i]? with
    | none => rw [e] at q; cases q
    | some d' =>
      rw [e] at q
      cases q
      obtain ⟨v, h1, h2⟩ := h.get e
      exact ⟨v, by rw [h1]; rfl, h2⟩
  · rw [if_neg (by simpa using hi)] at q
    rw [List.getElem?_replicate] at q
    split at q <;> cases q
end
end Ab

/-! Ab3: operations on values. -/
namespace Ab
open PySem PySem.Spec PyProof.Rows L2

section
variable {K : PySem.W.Frag} {fa : Fa} {g g' : G} {H H' : Hp} {S : Store}
/-- what is wanted of a value behind an operation -/
def Fin (K : PySem.W.Frag) (fa : Fa) (g : G) (H : Hp) (S : Store) (d : D) (Q : VK) : Prop := ∀ g' v H', Ext g H g' H' → RelS K fa g' S H' → Rep K fa g' H' d v → Q v H'
theorem Fin.here {d : D} {v : V} {Q : VK} (f : Fin K fa g H S d Q) (r : RelS K fa g S H) (h : Rep K fa g H d v) : Q v H := f g v H (Ext.refl g H) r h
theorem Fin.tup {ds : List D} {vs : List V} {Q : VK} (f : Fin K fa g H S (.tup ds) Q) (r : RelS K fa g S H) (h : Reps K fa g H ds vs) {p : Addr} (hp : H p = none) : Q (.ref p) (upd H p (.tup vs)) :=
  f g _ _ (r.newExt hp) (r.new hp) (.tup (.inl (.inl upd_same)) (h.ext (r.newExt hp)))
theorem Fin.lst {ds : List D} {vs : List V} {Q : VK} (f : Fin K fa g H S (.lst ds) Q) (r : RelS K fa g S H) (h : Reps K fa g H ds vs) {p : Addr} (hp : H p = none) : Q (.ref p) (upd H p (.lst vs)) := by
  have o := r.own (vs := vs) hp
  exact f _ _ _ ((r.newExt hp).trans o.freezeExt) (o.freeze (r.new hp)) (o.rep (h.ext (r.newExt hp)))
/-- a list that is nobody's yet -/
def FinL (K : PySem.W.Frag) (fa : Fa) (g : G) (H : Hp) (S : Store) (ds : List D) (Q : VK) : Prop := ∀ g' p vs H', Ext g H g' H' → RelS K fa g' S H' → Own g' H' p vs → Reps K fa g' H' ds vs → Q (.ref p) H'
theorem FinL.new {ds : List D} {vs : List V} {Q : VK} (f : FinL K fa g H S ds Q) (r : RelS K fa g S H) (h : Reps K fa g H ds vs) {p : Addr} (hp : H p = none) : Q (.ref p) (upd H p (.lst vs)) :=
  f g p vs _ (r.newExt hp) (r.new hp) (r.own hp) (h.ext (r.newExt hp))
theorem Fin.ofL {ds : List D} {Q : VK} (f : Fin K fa g H S (.lst ds) Q) : FinL K fa g H S ds Q := fun g' p vs H' e r o h => f _ _ _ (e.trans o.freezeExt) (o.freeze r) (o.rep h)

/-! ### inverses -/
theorem Rep.int_inv {i : Int} {v : V} (h : Rep K fa g H (.int i) v) : v = .int i := by cases h; rfl
theorem Rep.bl_inv {i : Bool} {v : V} (h : Rep K fa g H (.bl i) v) : v = .bl i := by cases h; rfl
theorem Rep.str_inv {i : Str} {v : V} (h : Rep K fa g H (.str i) v) : v = .str i := by cases h; rfl
theorem Rep.non_inv {v : V} (h : Rep K fa g H .non v) : v = .non := by cases h; rfl
theorem Rep.tup_inv {ds : List D} {v : V} (h : Rep K fa g H (.tup ds) v) : ∃ a vs, v = .ref a ∧ SqT K H a vs ∧ Reps K fa g H ds vs := by
  cases h with
  | tup a b => exact ⟨_, _, rfl, a, b⟩
theorem items_sq {d : D} {ds : List D} {v : V} (r : RelS K fa g S H) (h : items S d = some ds) (rd : Rep K fa g H d v) : ∃ a vs, v = .ref a ∧ (SqL K H a vs ∨ SqT K H a vs) ∧ Reps K fa g H ds vs := by
  cases rd with
  | tup a b =>
    cases h
    exact ⟨_, _, rfl, .inr a, b⟩
  | lst a f b =>
    cases h
    exact ⟨_, _, rfl, .inl (.inl (.inl a)), b⟩
  | scr a =>
    cases h
    exact ⟨_, _, rfl, .inl a.sq, Reps.ints _⟩
  | @ref a i e =>
    unfold items at h
    dsimp only at h
    cases q : S[i]? with
    | none => rw [q] at h; cases h
    | some o =>
      rw [q] at h
      obtain ⟨a', h1, h2⟩ := r.addr q
      rw [e] at h1
      cases h1
      cases o with
      | lst xs =>
        cases h
        obtain ⟨vs, h3, h4⟩ := h2
        exact ⟨_, _, rfl, .inl (.inl (.inl h3)), h4⟩
      | _ => cases h
  | _ => cases h
theorem items_sqL {d : D} {ds : List D} {v : V} (r : RelS K fa g S H) (h : items S d = some ds) (rd : Rep K fa g H d v) (hd : ∀ xs, d ≠ .tup xs) : ∃ a vs, v = .ref a ∧ SqL K H a vs ∧ Reps K fa g H ds vs := by
  cases rd with
  | tup a b => exact absurd rfl (hd _)
  | lst a f b =>
    cases h
    exact ⟨_, _, rfl, (.inl (.inl a)), b⟩
  | scr a =>
    cases h
    exact ⟨_, _, rfl, a.sq, Reps.ints _⟩
  | @ref a i e =>
    unfold items at h
    dsimp only at h
    cases q : S[i]? with
    | none => rw [q] at h; cases h
    | some o =>
      rw [q] at h
      obtain ⟨a', h1, h2⟩ := r.addr q
      rw [e] at h1
      cases h1
      cases o with
      | lst xs =>
        cases h
        obtain ⟨vs, h3, h4⟩ := h2
        exact ⟨_, _, rfl, (.inl (.inl h3)), h4⟩
      | _ => cases h
  | _ => cases h
theorem listOf_sq {d : D} {ds : List D} {v : V} (r : RelS K fa g S H) (h : listOf S d = some ds) (rd : Rep K fa g H d v) : ∃ a vs, v = .ref a ∧ H a = some (.lst vs) ∧ Reps K fa g H ds vs := by
  cases rd with
  | lst a f b =>
    cases h
    exact ⟨_, _, rfl, a, b⟩
  | @ref a i e =>
    unfold listOf at h
    dsimp only at h
    cases q : S[i]? with
    | none => rw [q] at h; cases h
    | some o =>
      rw [q] at h
      obtain ⟨a', h1, h2⟩ := r.addr q
      rw [e] at h1
      cases h1
      cases o with
      | lst xs =>
        cases h
        obtain ⟨vs, h3, h4⟩ := h2
        exact ⟨_, _, rfl, h3, h4⟩
      | _ => cases h
  | _ => cases h
theorem Reps.ints_inv : ∀ {ds : List D} {ns : List Int} {vs : List V}, ints? ds = some ns → Reps K fa g H ds vs → vs = ns.map .int
  | [], ns, vs, h, r => by
    cases h
    cases r
    rfl
  | .int i :: ds, ns, vs, h, r => by
    unfold ints? at h
    cases q : ints? ds with
    | none => rw [q] at h; cases h
    | some ms =>
      rw [q] at h
      cases h
      cases r with
      | cons a b =>
        rw [a.int_inv, Reps.ints_inv q b]
        rfl
  | .non :: _, _, _, h, _ => by cases h
  | .bl _ :: _, _, _, h, _ => by cases h
  | .str _ :: _, _, _, h, _ => by cases h
  | .tup _ :: _, _, _, h, _ => by cases h
  | .lst _ :: _, _, _, h, _ => by cases h
  | .scr _ :: _, _, _, h, _ => by cases h
  | .ref _ :: _, _, _, h, _ => by cases h
  | .fn _ :: _, _, _, h, _ => by cases h
theorem Reps.bls_inv : ∀ {ds : List D} {ns : List Bool} {vs : List V}, bls? ds = some ns → Reps K fa g H ds vs → vs = ns.map .bl
  | [], ns, vs, h, r => by
    cases h
    cases r
    rfl
  | .bl i :: ds, ns, vs, h, r => by
    unfold bls? at h
    cases q : bls? ds with
    | none => rw [q] at h; cases h
    | some ms =>
      rw [q] at h
      cases h
      cases r with
      | cons a b =>
        rw [a.bl_inv, Reps.bls_inv q b]
        rfl
  | .non :: _, _, _, h, _ => by cases h
  | .int _ :: _, _, _, h, _ => by cases h
  | .str _ :: _, _, _, h, _ => by cases h
  | .tup _ :: _, _, _, h, _ => by cases h
  | .lst _ :: _, _, _, h, _ => by cases h
  | .scr _ :: _, _, _, h, _ => by cases h
  | .ref _ :: _, _, _, h, _ => by cases h
  | .fn _ :: _, _, _, h, _ => by cases h

/-! ### plain data -/
theorem SqS.ints_dp {a : Addr} : ∀ ns : List Int, DpAll K H (ns.map V.int) (ns.map PyData.int)
  | [] => .nil
  | n :: ns => .cons (.int n) (SqS.ints_dp (a := a) ns)
mutual
theorem Rep.dp : ∀ {d : D} {v : V} {p : PyData}, Rep K fa g H d v → d.py = some p → Dp K H v p
  | _, _, _, .non, h => by cases h; exact .non
  | _, _, _, .bl b, h => by cases h; exact .bl b
  | _, _, _, .int b, h => by cases h; exact .int b
  | _, _, _, .str b, h => by cases h; exact .str b
  | _, _, p, .tup (ds := ds) a r, h => by
    simp only [D.py] at h
    cases q : D.pys ds with
    | none => rw [q] at h; cases h
    | some ps =>
      rw [q] at h
      cases h
      exact .tup a (Reps.dp r q)
  | _, _, p, .lst (ds := ds) a f r, h => by
    simp only [D.py] at h
    cases q : D.pys ds with
    | none => rw [q] at h; cases h
    | some ps =>
      rw [q] at h
      cases h
      exact .lst (.inl (.inl a)) (Reps.dp r q)
  | _, _, _, .scr (a := a) h', h => by
    cases h
    exact .lst h'.sq (SqS.ints_dp (a := a) _)
  | _, _, _, .ref _, h => by cases h
  | _, _, _, .fn _, h => by cases h
theorem Reps.dp : ∀ {ds : List D} {vs : List V} {ps : List PyData}, Reps K fa g H ds vs → D.pys ds = some ps → DpAll K H vs ps
  | _, _, _, .nil, h => by cases h; exact .nil
  | _, _, _, .cons (d := d) (ds := ds) a b, h => by
    simp only [D.pys] at h
    cases q : d.py with
    | none => rw [q] at h; cases h
    | some p =>
      rw [q] at h
      cases q2 : D.pys ds with
      | none => rw [q2] at h; cases h
      | some ps =>
        rw [q2] at h
        cases h
        exact .cons (Rep.dp a q) (Reps.dp b q2)
end
theorem deref_dp {d : D} {v : V} {p : PyData} (r : RelS K fa g S H) (rd : Rep K fa g H d v) (h : (deref S d).py = some p) : Dp K H v p := by
  cases rd with
  | @ref a i e =>
    unfold deref at h
    dsimp only at h
    cases q : S[i]? with
    | none =>
      rw [q] at h
      cases h
    | some o =>
      rw [q] at h
      obtain ⟨a', h1, h2⟩ := r.addr q
      rw [e] at h1
      cases h1
      cases o with
      | lst xs =>
        obtain ⟨vs, h3, h4⟩ := h2
        dsimp only at h
        simp only [D.py] at h
        cases q2 : D.pys xs with
        | none => rw [q2] at h; cases h
        | some ps =>
          rw [q2] at h
          cases h
          exact .lst (.inl (.inl h3)) (h4.dp q2)
      | _ => cases h
  | non => exact Rep.dp (g := g) (fa := fa) .non h
  | bl b => exact Rep.dp (g := g) (fa := fa) (.bl b) h
  | int b => exact Rep.dp (g := g) (fa := fa) (.int b) h
  | str b => exact Rep.dp (g := g) (fa := fa) (.str b) h
  | tup a b => exact Rep.dp (.tup a b) h
  | lst a f b => exact Rep.dp (.lst a f b) h
  | scr a => exact Rep.dp (fa := fa) (.scr a) h
  | fn a => exact Rep.dp (g := g) (.fn a) h

end

/-! ### tuple * int: the small cases -/
section
theorem mulT_same (l : Addr) (xs : Array Value) (n : Nat) (dd : Option Addr) (sl : Array (Option Value)) (x : Int) (u : Tok) (c0 : (decide (x < -(2 ^ 63)) || decide (x ≥ 2 ^ 63)) = false) (c1 : (xs.isEmpty || x == 1) = true) :
    Meets (Builtin.«tuple.__mul__» ⟨[.ref l, .int x u], []⟩) (fun _ R s => s.heap.get? l = some { cls := .type "tuple", dict := dd, data := .seq xs n, slots := sl } ∧ R (.ok (.ret (Value.ref l))) s) :=
  .of_wp fun prog w A R s ⟨hl, h⟩ => by
    obtain ⟨hp, gs, dr, tk, os⟩ := s
    have f1 := AutoSeq1.idx_int
    wp_walk using wpAny_loadPart' hl
    repeat (first
      | (refine wpAny_ite_false (decide_eq_false (by rw [c0]; exact Bool.false_ne_true)) ?_; wp_walk using wpAny_loadPart' hl)
      | (refine wpAny_ite_true (decide_eq_true c1) ?_; wp_walk using wpAny_loadPart' hl))
    all_goals first
      | exact ⟨_, rfl, h⟩
      | skip
theorem mulT_none (l : Addr) (xs : Array Value) (n : Nat) (dd : Option Addr) (sl : Array (Option Value)) (x : Int) (u : Tok) (c0 : (decide (x < -(2 ^ 63)) || decide (x ≥ 2 ^ 63)) = false) (c1 : (xs.isEmpty || x == 1) = false) (c2 : (decide (x ≤ 0) || xs.isEmpty) = true) :
    Meets (Builtin.«tuple.__mul__» ⟨[.ref l, .int x u], []⟩) (fun _ R s => s.heap.get? l = some { cls := .type "tuple", dict := dd, data := .seq xs n, slots := sl } ∧
      R (.ok (.ret (Value.ref s.heap.objs.size))) { s with heap := s.heap.push { cls := Value.type "tuple", data := Data.seq #[] }, toks := s.toks }) :=
  .of_wp fun prog w A R s ⟨hl, h⟩ => by
    obtain ⟨hp, gs, dr, tk, os⟩ := s
    have f1 := AutoSeq1.idx_int
    wp_walk using wpAny_loadPart' hl
    repeat (first
      | (refine wpAny_ite_false (decide_eq_false (by rw [c0]; exact Bool.false_ne_true)) ?_; wp_walk using wpAny_loadPart' hl)
      | (refine wpAny_ite_false (decide_eq_false (by rw [c1]; exact Bool.false_ne_true)) ?_; wp_walk using wpAny_loadPart' hl)
      | (refine wpAny_ite_true (decide_eq_true c2) ?_; wp_walk using wpAny_loadPart' hl))
    all_goals first
      | exact ⟨_, rfl, h⟩
      | skip
end

section
variable {K : PySem.W.Frag} {fa : Fa} {X : Cx}
theorem divT_ok : OpR X (binaryOp .FloorDiv) (rI (fun _ j => j ≠ 0 ∧ j.natAbs.log2 < 9000) fun i j => .int (i.fdiv j)) := opI fun _ _ _ _ _ _ _ hc q => floordiv_int hc.1 q (.inl (PyProof.noPylong_of_log2 hc.2))
theorem mul_ok {i j : Int} (h : mulOk i j = true) : IntMulOk i j := by
  unfold mulOk at h
  simp only [Bool.or_eq_true, decide_eq_true_eq] at h
  rcases h with h | h | h
  · exact CMul.ok (.inl ⟨by omega, by omega⟩)
  · exact CMul.ok (.inr ⟨by omega, by omega⟩)
  · exact CMulW.ok h
theorem mulI_ok : OpR X (binaryOp .Mult) (rI (fun i j => mulOk i j = true) fun i j => .int (i * j)) := opI fun _ _ _ _ _ _ _ hc q => mul_int q (mul_ok hc)
theorem int_ok {op : Operator} {i j k : Int} (h : dInt op i j = some k) {pins : List (Addr × Obj)} {s : Shared} {σ : L2.St} {H : Hp} {v u : Value} {Q : VK} (I : Inv X pins σ H s) (rx : RelV (.int i) v) (ry : RelV (.int j) u) (q : Q (.int k) H) :
    wpAny (model X.prog X.w) X.A (binaryOp op v u) (EP X pins σ Q) X.xe s := by
  cases op with
  | Add => cases h; exact op_add pins s σ H _ _ v u Q I rx ry ⟨i, j, rfl, rfl, q⟩
  | Sub => cases h; exact op_sub pins s σ H _ _ v u Q I rx ry ⟨i, j, rfl, rfl, q⟩
  | Mult =>
    simp only [dInt] at h
    split at h
    · rename_i hc
      cases h
      exact mulI_ok pins s σ H _ _ v u Q I rx ry ⟨i, j, rfl, rfl, hc, q⟩
    · cases h
  | Mod =>
    simp only [dInt] at h
    split at h
    · rename_i hc
      cases h
      exact op_mod pins s σ H _ _ v u Q I rx ry ⟨i, j, rfl, rfl, hc, q⟩
    · split at h
      · rename_i hc
        cases h
        exact op_modN pins s σ H _ _ v u Q I rx ry ⟨i, j, rfl, rfl, hc, q⟩
      · cases h
  | FloorDiv =>
    simp only [dInt] at h
    split at h
    · rename_i h9
      have h9 : j.natAbs.log2 < 9000 := by simpa [divOk] using h9
      split at h
      · rename_i hc
        cases h
        refine divT_ok pins s σ H _ _ v u Q I rx ry ⟨i, j, rfl, rfl, ⟨by omega, h9⟩, ?_⟩
        show Q (.int (i.fdiv j)) H
        rw [Int.fdiv_eq_ediv_of_nonneg i (by omega)]
        exact q
      · split at h
        · rename_i hc
          cases h
          exact divT_ok pins s σ H _ _ v u Q I rx ry ⟨i, j, rfl, rfl, ⟨hc, h9⟩, q⟩
        · cases h
    · cases h
  | Pow =>
    simp only [dInt] at h
    split at h
    · rename_i hc
      cases h
      simp only [powOk, Bool.and_eq_true, decide_eq_true_eq] at hc
      exact op_pow pins s σ H _ _ v u Q I rx ry ⟨i, j, rfl, rfl, ⟨hc.1, by omega, hc.2.2⟩, q⟩
    · cases h
  | LShift =>
    simp only [dInt] at h
    split at h
    · rename_i hc
      cases h
      simp only [powOk, Bool.and_eq_true, decide_eq_true_eq] at hc
      exact op_shl pins s σ H _ _ v u Q I rx ry ⟨i, j, rfl, rfl, ⟨hc.1, by omega, hc.2.2⟩, q⟩
    · cases h
  | RShift =>
    simp only [dInt] at h
    split at h
    · rename_i hc
      cases h
      exact op_shr pins s σ H _ _ v u Q I rx ry ⟨i, j, rfl, rfl, hc, q⟩
    · cases h
  | BitAnd => cases h; exact op_and pins s σ H _ _ v u Q I rx ry ⟨i, j, rfl, rfl, q⟩
  | BitOr => cases h; exact op_or pins s σ H _ _ v u Q I rx ry ⟨i, j, rfl, rfl, q⟩
  | BitXor => cases h; exact op_xor pins s σ H _ _ v u Q I rx ry ⟨i, j, rfl, rfl, q⟩
  | MatMult => cases h
  | Div => cases h

/-! ### tuple * int -/
theorem repT_ok {l : Addr} {k : Int} {xs : List V} {pins : List (Addr × Obj)} {s : Shared} {σ : L2.St} {H : Hp} {v u : Value} {Q : VK} (I : Inv X pins σ H s) (rx : RelV (.ref l) v) (ry : RelV (.int k) u)
    (hT : SqT X.K H l xs) (hk : -(2 ^ 63) ≤ k) (h1 : k ≤ 1000) (hz : xs.length ≤ 1000) (q1 : (List.replicate k.toNat xs).flatten = xs → Q (.ref l) H) (q2 : ∀ p, H p = none → Q (.ref p) (upd H p (.tup (List.replicate k.toNat xs).flatten))) :
    wpAny (model X.prog X.w) X.A (binaryOp .Mult v u) (EP X pins σ Q) X.xe s := by
  by_cases hb : xs ≠ [] ∧ 2 ≤ k
  · exact op_repT pins s σ H _ _ v u Q I rx ry ⟨l, k, xs, rfl, rfl, hT, hb.1, hb.2, h1, hz, q2⟩
  · cases rx
    obtain ⟨t, rfl⟩ := ry
    obtain ⟨its, r, ⟨⟨cls, dd, data, sl⟩, ho, hc, n, hd⟩, hs⟩ := I.tuple hT
    simp only at hc hd
    subst hc hd
    have hle : its.length = xs.length := r.length.symm
    have c0 : (decide (k < -(2 ^ 63)) || decide (k ≥ 2 ^ 63)) = false := by
      rw [decide_eq_false (by omega), decide_eq_false (by omega)] <;> rfl
    by_cases hs1 : xs = [] ∨ k = 1
    · have c1 : (its.toArray.isEmpty || k == 1) = true := by
        rcases hs1 with e | e
        · subst e
          cases its with
          | nil => rfl
          | cons a b => cases hle
        · subst e
          simp
      have e : (List.replicate k.toNat xs).flatten = xs := by
        rcases hs1 with e | e
        · subst e
          simp
        · subst e
          simp
      exact wpAny_binaryOp_repeat_ref (T := "tuple") (U := "int") (by decide) ⟨_, ho, rfl⟩ (fun s' => typeIs_int s' k t) noFill_tuple_mul F.fills_int_mul F.slot_int_rmul repeat_tuple F.slot_int_index.lookup
        (call_meets F.slot_int_rmul (typeIs_int s k t) F.entry_int_rmul (F.args_int_rmul_2 _ _) (int_rmul_tuple k t l its.toArray n dd sl)
          ⟨ho, rfl, ⟨_, ho, rfl⟩, call_meets F.slot_tuple_mul ⟨_, ho, rfl⟩ F.entry_tuple_mul (F.args_tuple_mul_2 _ _) (mulT_same l its.toArray n dd sl k t c0 c1) ⟨ho, ⟨.ref l, H, I, rfl, q1 e⟩⟩⟩)
    · have hne : xs ≠ [] := fun z => hs1 (.inl z)
      have hk0 : k ≤ 0 := by
        have : ¬ 2 ≤ k := fun z => hb ⟨hne, z⟩
        have : k ≠ 1 := fun z => hs1 (.inr z)
        omega
      have hi : its.toArray.isEmpty = false := by
        cases its with
        | nil => exact absurd (List.eq_nil_of_length_eq_zero hle.symm) hne
        | cons a b => rfl
      have c1 : (its.toArray.isEmpty || k == 1) = false := by
        rw [hi, Bool.false_or]
        exact beq_eq_false_iff_ne.mpr (by omega)
      have c2 : (decide (k ≤ 0) || its.toArray.isEmpty) = true := by
        rw [decide_eq_true hk0]
        rfl
      have e : (List.replicate k.toNat xs).flatten = [] := by
        rw [show k.toNat = 0 by omega]
        rfl
      refine wpAny_binaryOp_repeat_ref (T := "tuple") (U := "int") (by decide) ⟨_, ho, rfl⟩ (fun s' => typeIs_int s' k t) noFill_tuple_mul F.fills_int_mul F.slot_int_rmul repeat_tuple F.slot_int_index.lookup
        (call_meets F.slot_int_rmul (typeIs_int s k t) F.entry_int_rmul (F.args_int_rmul_2 _ _) (int_rmul_tuple k t l its.toArray n dd sl)
          ⟨ho, rfl, ⟨_, ho, rfl⟩, call_meets F.slot_tuple_mul ⟨_, ho, rfl⟩ F.entry_tuple_mul (F.args_tuple_mul_2 _ _) (mulT_none l its.toArray n dd sl k t c0 c1 c2) ⟨ho, ?_⟩⟩)
      rw [e] at q2
      refine ⟨.ref s.heap.objs.size, _, I.laid (t' := s.toks) (o := .tup []) (fun b ob q => Heap.get?_push_of_some _ q) (Nat.le_refl _) ?_, rfl, q2 _ (I.hok.fresh (Nat.le_refl _))⟩
      exact ⟨Nat.zero_le _, [], .nil, IsTup.new _ _⟩
end
end Ab

/-! Ab4: operators, comparisons, subscripts, built-in functions, methods. -/
namespace Ab
open PySem PySem.Spec PyProof.Rows L2

section
variable {K : PySem.W.Frag} {fa : Fa} {X : Cx}
def rBin (K : PySem.W.Frag) (fa : Fa) (op : Operator) : R2 := fun x y H Q => ∃ g S a b d, RelS K fa g S H ∧ Rep K fa g H a x ∧ Rep K fa g H b y ∧ dBin S op a b = some d ∧ Fin K fa g H S d Q
theorem list_ok {op : Operator} {g : G} {S : Store} {a b : D} {ds : List D} {x y : V} {pins : List (Addr × Obj)} {s : Shared} {σ : L2.St} {H : Hp} {v u : Value} {Q : VK} (I : Inv X pins σ H s) (rx : RelV x v) (ry : RelV y u) (r : RelS K fa g S H) (ra : Rep K fa g H a x) (rb : Rep K fa g H b y)
    (e : dList S op a b = some ds) (f : FinL K fa g H S ds Q) : wpAny (model X.prog X.w) X.A (binaryOp op v u) (EP X pins σ Q) X.xe s := by
  cases op with
  | Add =>
    simp only [dList] at e
    cases q1 : listOf S a with
    | none => rw [q1] at e; cases e
    | some xs =>
      cases q2 : listOf S b with
      | none => rw [q1, q2] at e; cases e
      | some ys =>
        rw [q1, q2] at e
        simp only [Option.bind_some] at e
        split at e
        · rename_i hz
          cases e
          obtain ⟨p, vs, rfl, h1, h2⟩ := listOf_sq r q1 ra
          obtain ⟨p', ws, rfl, h1', h2'⟩ := listOf_sq r q2 rb
          exact op_cat pins s σ H _ _ v u Q I rx ry ⟨p, p', vs, ws, rfl, rfl, h1, h1', by rw [← h2.length, ← h2'.length]; exact hz, fun l hl => f.new r (h2.append h2') hl⟩
        · cases e
  | Mult =>
    simp only [dList] at e
    cases b with
    | int k =>
      simp only at e
      cases q1 : listOf S a with
      | none => rw [q1] at e; cases e
      | some xs =>
        rw [q1] at e
        simp only [Option.bind_some] at e
        split at e
        · rename_i hz
          cases e
          obtain ⟨p, vs, rfl, h1, h2⟩ := listOf_sq r q1 ra
          cases rb
          exact op_rep pins s σ H _ _ v u Q I rx ry ⟨p, k, vs, rfl, rfl, h1, by omega, by omega, by rw [← h2.length]; exact hz.2, fun l hl => f.new r (h2.rep _) hl⟩
        · cases e
    | _ => cases e
  | _ => cases e
theorem bin_ok (op : Operator) : OpR X (binaryOp op) (rBin X.K fa op) := by
  intro pins s σ H x y v u Q I rx ry ⟨g, S, a, b, d, r, ra, rb, e, f⟩
  unfold dBin at e
  split at e
  · rename_i i j
    cases q : dInt op i j with
    | none => rw [q] at e; cases e
    | some k =>
      rw [q] at e
      cases e
      cases ra
      cases rb
      exact int_ok q I rx ry (f.here r (.int k))
  · rename_i xs ys
    split at e
    · split at e
      · rename_i hz
        cases e
        obtain ⟨p, vs, rfl, h1, h2⟩ := ra.tup_inv
        obtain ⟨p', ws, rfl, h1', h2'⟩ := rb.tup_inv
        refine op_catA pins s σ H _ _ v u Q I rx ry ⟨p, p', vs, ws, rfl, rfl, h1, h1', by rw [← h2.length, ← h2'.length]; exact hz, fun z => ?_, fun _ z => ?_, fun _ _ l hl => f.tup r (h2.append h2') hl⟩
        · refine f.here r (.tup h1' ?_)
          have := h2.append h2'
          rw [z] at this
          exact this
        · refine f.here r (.tup h1 ?_)
          have := h2.append h2'
          rw [z, List.append_nil] at this
          exact this
      · cases e
    · cases e
  · rename_i xs k
    split at e
    · split at e
      · rename_i hz
        cases e
        obtain ⟨p, vs, rfl, h1, h2⟩ := ra.tup_inv
        cases rb
        refine repT_ok I rx ry h1 (by omega) (by omega) (by rw [← h2.length]; exact hz.2) (fun z => f.here r (.tup h1 ?_)) fun l hl => f.tup r (h2.rep _) hl
        have := h2.rep k.toNat
        rw [z] at this
        exact this
      · cases e
    · cases e
  · rename_i x' y'
    split at e
    · split at e
      · rename_i hz
        cases e
        cases ra
        cases rb
        exact op_add_str pins s σ H _ _ v u Q I rx ry ⟨x', y', rfl, rfl, hz, f.here r (.str _)⟩
      · cases e
    · cases e
  · cases q : dList S op a b with
    | none => rw [q] at e; cases e
    | some ds =>
      rw [q] at e
      cases e
      exact list_ok I rx ry r ra rb q f.ofL

def rUn (K : PySem.W.Frag) (fa : Fa) (op : UnaryOp) : V → Hp → VK → Prop := fun x H Q => ∃ g S a d, RelS K fa g S H ∧ Rep K fa g H a x ∧ dUn op a = some d ∧ Fin K fa g H S d Q
theorem un_ok {op : UnaryOp} (hop : op ≠ .Not) : UnR X (unaryOp op) (rUn X.K fa op) := by
  intro pins s σ H x v Q I rx ⟨g, S, a, d, r, ra, e, f⟩
  unfold dUn at e
  split at e
  · rename_i i
    cases e
    cases ra
    exact un_neg pins s σ H _ v Q I rx ⟨i, rfl, f.here r (.int _)⟩
  · rename_i i
    cases e
    cases ra
    exact un_inv pins s σ H _ v Q I rx ⟨i, rfl, f.here r (.int _)⟩
  · exact absurd rfl hop
  · cases e

/-! ### comparisons -/
def rCmp (K : PySem.W.Frag) (fa : Fa) (op : CmpOp) : R2 := fun x y H Q => ∃ g S a b c, RelS K fa g S H ∧ Rep K fa g H a x ∧ Rep K fa g H b y ∧ dCmp S op a b = some c ∧ (RelS K fa g S H → Q (.bl c) H)
theorem dEq_ok {S : Store} {g : G} {H : Hp} {a b : D} {x y : V} {c : Bool} (r : RelS K fa g S H) (ra : Rep K fa g H a x) (rb : Rep K fa g H b y) (e : dEq S a b = some c) : ∃ p q, Dp K H x p ∧ Dp K H y q ∧ SeqAt.shaped p = true ∧ SeqAt.shaped q = true ∧ PyData.eqv p q = c := by
  unfold dEq at e
  split at e
  · rename_i p q h1 h2
    split at e
    · rename_i hs
      cases e
      rw [Bool.and_eq_true] at hs
      exact ⟨p, q, deref_dp r ra h1, deref_dp r rb h2, hs.1, hs.2, rfl⟩
    · cases e
  · cases e
theorem dIn_ok {S : Store} {g : G} {H : Hp} {a b : D} {x y : V} {c : Bool} (r : RelS K fa g S H) (ra : Rep K fa g H a x) (rb : Rep K fa g H b y) (e : dIn S a b = some c) : ∃ p qs, Dp K H x p ∧ Dp K H y (.list qs) ∧ SeqAt.shaped p = true ∧ SeqAt.shaped (.list qs) = true ∧ (qs.any fun z => PyData.eqv z p) = c := by
  unfold dIn at e
  split at e
  · rename_i p q h1 h2
    split at e
    · rename_i hs
      cases e
      rw [Bool.and_eq_true] at hs
      exact ⟨p, q, deref_dp r ra h1, deref_dp r rb h2, hs.1, hs.2, rfl⟩
    · cases e
  · cases e
theorem isnon_of {g : G} {H : Hp} {a : D} {x : V} (ra : Rep K fa g H a x) : decide (x = .non) = a.isNon := by
  cases ra <;> simp [D.isNon]
theorem cmp_ok (op : CmpOp) {k : Nat} (hr : Room k X.A) : OpR X (compareOp op) (rCmp X.K fa op) := by
  have hu : X.A.units + 64 < cLine := by have := hr.un; omega
  intro pins s σ H x y v u Q I rx ry ⟨g, S, a, b, c, r, ra, rb, e, f⟩
  have q := f r
  cases op with
  | Eq =>
    obtain ⟨p, p', h1, h2, h3, h4, h5⟩ := dEq_ok r ra rb e
    exact op_eqD hu pins s σ H _ _ v u Q I rx ry ⟨p, p', h1, h2, h3, h4, by rw [h5]; exact q⟩
  | NotEq =>
    have e' : (dEq S a b).map (!·) = some c := e
    cases q1 : dEq S a b with
    | none => rw [q1] at e'; cases e'
    | some c' =>
      rw [q1] at e'
      cases e'
      obtain ⟨p, p', h1, h2, h3, h4, h5⟩ := dEq_ok r ra rb q1
      exact op_neD hu pins s σ H _ _ v u Q I rx ry ⟨p, p', h1, h2, h3, h4, by rw [h5]; exact q⟩
  | Is =>
    cases b with
    | non =>
      cases rb
      refine op_isN pins s σ H _ _ v u Q I rx ry ⟨rfl, ?_⟩
      rw [isnon_of ra]
      have e' : some a.isNon = some c := e
      rw [Option.some.inj e']
      exact q
    | _ => cases e
  | IsNot =>
    cases b with
    | non =>
      cases rb
      refine op_notN pins s σ H _ _ v u Q I rx ry ⟨rfl, ?_⟩
      rw [isnon_of ra]
      have e' : some (!a.isNon) = some c := e
      rw [Option.some.inj e']
      exact q
    | _ => cases e
  | Lt =>
    simp only [dCmp] at e
    split at e
    · cases e
      cases ra
      cases rb
      exact op_lt pins s σ H _ _ v u Q I rx ry ⟨_, _, rfl, rfl, q⟩
    · cases e
  | LtE =>
    simp only [dCmp] at e
    split at e
    · cases e
      cases ra
      cases rb
      exact op_le pins s σ H _ _ v u Q I rx ry ⟨_, _, rfl, rfl, q⟩
    · cases e
  | Gt =>
    simp only [dCmp] at e
    split at e
    · cases e
      cases ra
      cases rb
      exact op_gt pins s σ H _ _ v u Q I rx ry ⟨_, _, rfl, rfl, q⟩
    · cases e
  | GtE =>
    simp only [dCmp] at e
    split at e
    · cases e
      cases ra
      cases rb
      exact op_ge pins s σ H _ _ v u Q I rx ry ⟨_, _, rfl, rfl, q⟩
    · cases e
  | In =>
    obtain ⟨p, p', h1, h2, h3, h4, h5⟩ := dIn_ok r ra rb e
    exact op_inD (by have := hr.un; omega) pins s σ H _ _ v u Q I rx ry ⟨p, p', h1, h2, h3, h4, by rw [h5]; exact q⟩
  | NotIn =>
    have e' : (dIn S a b).map (!·) = some c := e
    cases q1 : dIn S a b with
    | none => rw [q1] at e'; cases e'
    | some c' =>
      rw [q1] at e'
      cases e'
      obtain ⟨p, p', h1, h2, h3, h4, h5⟩ := dIn_ok r ra rb q1
      exact op_notInD (by have := hr.un; omega) pins s σ H _ _ v u Q I rx ry ⟨p, p', h1, h2, h3, h4, by rw [h5]; exact q⟩

/-! ### truth -/
theorem truth_tru {S : Store} {g : G} {H : Hp} {a : D} {x : V} {b : Bool} (r : RelS K fa g S H) (ra : Rep K fa g H a x) (e : truth S a = some b) : TruV K x H b := by
  have seq : ∀ d : D, Rep K fa g H d x → (items S d).map (fun ds => !ds.isEmpty) = some b → TruV K x H b := fun d ra e => by
    cases q : items S d with
    | none => rw [q] at e; cases e
    | some ds =>
      rw [q] at e
      cases e
      obtain ⟨p, vs, rfl, h1, h2⟩ := items_sq r q ra
      have hv : (!ds.isEmpty) = !vs.isEmpty := by
        cases h2 <;> rfl
      show TruV K _ H (!ds.isEmpty)
      rw [hv]
      rcases h1 with h1 | h1
      · exact .inl ⟨vs, h1, rfl⟩
      · exact .inr (.inl ⟨vs, h1, rfl⟩)
  cases ra with
  | non => cases e; rfl
  | bl b => cases e; rfl
  | int i => cases e; rfl
  | str y =>
    simp only [truth] at e
    split at e
    · rename_i hz
      cases e
      exact ⟨hz, rfl⟩
    · cases e
  | tup a b => exact seq _ (.tup a b) e
  | lst a f b => exact seq _ (.lst a f b) e
  | scr a => exact seq _ (.scr a) e
  | ref a => exact seq _ (.ref a) e
  | fn a => exact seq _ (.fn a) e

/-! ### subscripts -/
def rIxA (K : PySem.W.Frag) (fa : Fa) : R2 := fun x y H Q => ∃ g S a b d, RelS K fa g S H ∧ Rep K fa g H a x ∧ Rep K fa g H b y ∧ dIx S a b = some d ∧ Fin K fa g H S d Q
theorem at_rep {g : G} {H : Hp} {ds : List D} {vs : List V} {i : Int} {d : D} (h : Reps K fa g H ds vs) (e : at_ ds i = some d) : ∃ v, atI vs i = some v ∧ Rep K fa g H d v := by
  unfold at_ atI at e
  unfold atI
  rw [← h.length]
  cases q : ixN ds.length i with
  | none => rw [q] at e; cases e
  | some j =>
    rw [q] at e
    obtain ⟨v, h1, h2⟩ := h.get e
    exact ⟨v, h1, h2⟩
theorem ix_ok : IxR X (rIxA X.K fa) := by
  intro value slice pins s σ H x y v u Q I rx ry ⟨g, S, a, b, d, r, ra, rb, e, f⟩ hs
  unfold dIx at e
  split at e
  · rename_i i
    cases q : items S a with
    | none => rw [q] at e; cases e
    | some ds =>
      rw [q] at e
      simp only [Option.bind_some] at e
      obtain ⟨p, vs, rfl, h1, h2⟩ := items_sq r q ra
      obtain ⟨z, h3, h4⟩ := at_rep h2 e
      cases rb
      rcases h1 with h1 | h1
      · exact ix_list value slice pins s σ H _ _ v u Q I rx ry ⟨p, vs, i, z, rfl, rfl, h1, h3, f.here r h4⟩ hs
      · exact ix_tup value slice pins s σ H _ _ v u Q I rx ry ⟨p, vs, i, z, rfl, rfl, h1, h3, f.here r h4⟩ hs
  · cases e
def rSlA' (K : PySem.W.Frag) (fa : Fa) : V → Option Int → Option Int → Hp → VK → Prop := fun x lo hi H Q => ∃ g S a d, RelS K fa g S H ∧ Rep K fa g H a x ∧ dSl S a lo hi = some d ∧ Fin K fa g H S d Q
theorem cut_rep {g : G} {H : Hp} {ds : List D} {vs : List V} (lo hi : Option Int) (h : Reps K fa g H ds vs) : Reps K fa g H (cut ds lo hi) (cutV vs lo hi) := by
  unfold cut cutV
  rw [← h.length]
  exact (h.drop _).take _
theorem sl_ok : SlR X (rSlA' X.K fa) := by
  intro pins s σ H x v vl vu lo hi sl Q I rx hs pl pu ⟨g, S, a, d, r, ra, e, f⟩
  unfold dSl at e
  split at e
  · rename_i ds
    cases e
    obtain ⟨p, vs, rfl, h1, h2⟩ := ra.tup_inv
    refine sl_tupA pins s σ H _ v vl vu lo hi sl Q I rx hs pl pu ⟨p, vs, rfl, h1, fun hw => ?_, fun hw q hq => f.tup r (cut_rep lo hi h2) hq⟩
    refine f.here r (.tup h1 ?_)
    have h3 := cut_rep lo hi h2
    have e : cutV vs lo hi = vs := by
      unfold cutV
      rw [hw.1, hw.2]
      simp
    rw [e] at h3
    exact h3
  · cases q : items S a with
    | none => rw [q] at e; cases e
    | some ds =>
      rw [q] at e
      cases e
      rename_i hne
      obtain ⟨p, vs, rfl, h1, h2⟩ := items_sqL r q ra fun xs z => hne xs z
      exact sl_list pins s σ H _ v vl vu lo hi sl Q I rx hs pl pu ⟨p, vs, rfl, h1, fun q hq => f.lst r (cut_rep lo hi h2) hq⟩
end
end Ab

/-! Ab5: built-in functions and methods. -/
namespace Ab
open PySem PySem.Spec PyProof.Rows L2

def Bi.nm : Bi → Str
  | .len => "len" | .abs => "abs" | .int => "int" | .tuple => "tuple" | .min => "min" | .max => "max" | .sum => "sum" | .all => "all" | .any => "any" | .gcd => "gcd"
def Bi.isTy : Bi → Bool
  | .int => true | .tuple => true | _ => false
def Bi.id : Bi → String
  | .len => "len" | .abs => "abs" | .int => "int" | .tuple => "tuple" | .min => "min" | .max => "max" | .sum => "sum" | .all => "all" | .any => "any" | .gcd => "math.gcd"
def Bi.val (b : Bi) : Value := if b.isTy then .type b.id else .builtin b.id

section
variable {K : PySem.W.Frag} {fa : Fa} {X : Cx}
def rBi (K : PySem.W.Frag) (fa : Fa) (b : Bi) : List V → Hp → VK → Prop := fun vs H Q => ∃ g S ds d, RelS K fa g S H ∧ Reps K fa g H ds vs ∧ dBi S b ds = some d ∧ Fin K fa g H S d Q
theorem Reps.one_inv {g : G} {H : Hp} {d : D} {vs : List V} (h : Reps K fa g H [d] vs) : ∃ v, vs = [v] ∧ Rep K fa g H d v := by
  cases h with
  | cons a b => cases b; exact ⟨_, rfl, a⟩
theorem Reps.two_inv {g : G} {H : Hp} {d e : D} {vs : List V} (h : Reps K fa g H [d, e] vs) : ∃ v w, vs = [v, w] ∧ Rep K fa g H d v ∧ Rep K fa g H e w := by
  cases h with
  | cons a b =>
    obtain ⟨w, rfl, c⟩ := b.one_inv
    exact ⟨_, _, rfl, a, c⟩
theorem bi_ok (b : Bi) (hc : X.calm = true) : CallR X b.val (rBi X.K fa b) := by
  intro pins s σ H vs us Q I rx ⟨g, S, ds, d, r, rd, e, f⟩
  unfold dBi at e
  split at e
  · rename_i x
    split at e
    · rename_i hz
      cases e
      obtain ⟨v, rfl, h⟩ := rd.one_inv
      cases h
      exact call_len_str pins s σ H _ us Q I rx ⟨x, rfl, hz, f.here r (.int _)⟩
    · cases e
  · rename_i d' hd
    cases q : items S d' with
    | none => rw [q] at e; cases e
    | some xs =>
      rw [q] at e
      cases e
      obtain ⟨v, rfl, h⟩ := rd.one_inv
      obtain ⟨p, ws, rfl, h1, h2⟩ := items_sq r q h
      refine call_len_seq pins s σ H _ us Q I rx ⟨p, ws, rfl, h1, f.here r ?_⟩
      rw [← h2.length]
      exact .int _
  · rename_i i
    cases e
    obtain ⟨v, rfl, h⟩ := rd.one_inv
    cases h
    exact call_abs pins s σ H _ us Q I rx ⟨i, rfl, f.here r (.int _)⟩
  · rename_i i
    cases e
    obtain ⟨v, rfl, h⟩ := rd.one_inv
    cases h
    exact call_int1 pins s σ H _ us Q I rx (.inl ⟨i, rfl, f.here r (.int _)⟩)
  · rename_i i
    cases e
    obtain ⟨v, rfl, h⟩ := rd.one_inv
    cases h
    exact call_int1 pins s σ H _ us Q I rx (.inr ⟨i, rfl, f.here r (.int _)⟩)
  · rename_i d'
    cases q : items S d' with
    | none => rw [q] at e; cases e
    | some xs =>
      rw [q] at e
      cases e
      obtain ⟨v, rfl, h⟩ := rd.one_inv
      by_cases hd : ∃ ys, d' = .tup ys
      · obtain ⟨ys, rfl⟩ := hd
        cases q
        obtain ⟨p, ws, rfl, h1, h2⟩ := h.tup_inv
        exact call_tuple_of pins s σ H _ us Q I rx ⟨p, ws, rfl, .inr ⟨h1, f.here r (.tup h1 h2)⟩⟩
      · obtain ⟨p, ws, rfl, h1, h2⟩ := items_sqL r q h fun ys z => hd ⟨ys, z⟩
        exact call_tuple_of pins s σ H _ us Q I rx ⟨p, ws, rfl, .inl ⟨h1, fun l hl => f.tup r h2 hl⟩⟩
  · rename_i i j
    cases e
    obtain ⟨v, w, rfl, h, h'⟩ := rd.two_inv
    cases h
    cases h'
    exact call_min2 hc pins s σ H _ us Q I rx ⟨i, j, rfl, f.here r (.int _)⟩
  · rename_i i j
    cases e
    obtain ⟨v, w, rfl, h, h'⟩ := rd.two_inv
    cases h
    cases h'
    exact call_max2 hc pins s σ H _ us Q I rx ⟨i, j, rfl, f.here r (.int _)⟩
  · rename_i d'
    cases q : listOf S d' with
    | none => rw [q] at e; cases e
    | some xs =>
      rw [q] at e
      simp only [Option.bind_some] at e
      cases q2 : ints? xs with
      | none => rw [q2] at e; cases e
      | some ns =>
        rw [q2] at e
        cases e
        obtain ⟨v, rfl, h⟩ := rd.one_inv
        obtain ⟨p, ws, rfl, h1, h2⟩ := listOf_sq r q h
        have := h2.ints_inv q2
        subst this
        exact cr_sum hc pins s σ H _ us Q I rx ⟨p, ns, rfl, .inl (.inl h1), f.here r (.int _)⟩
  · rename_i d'
    cases q : listOf S d' with
    | none => rw [q] at e; cases e
    | some xs =>
      rw [q] at e
      simp only [Option.bind_some] at e
      cases q2 : bls? xs with
      | none => rw [q2] at e; cases e
      | some ns =>
        rw [q2] at e
        cases e
        obtain ⟨v, rfl, h⟩ := rd.one_inv
        obtain ⟨p, ws, rfl, h1, h2⟩ := listOf_sq r q h
        have := h2.bls_inv q2
        subst this
        exact cr_all hc pins s σ H _ us Q I rx ⟨p, ns, rfl, .inl (.inl h1), f.here r (.bl _)⟩
  · rename_i d'
    cases q : listOf S d' with
    | none => rw [q] at e; cases e
    | some xs =>
      rw [q] at e
      simp only [Option.bind_some] at e
      cases q2 : bls? xs with
      | none => rw [q2] at e; cases e
      | some ns =>
        rw [q2] at e
        cases e
        obtain ⟨v, rfl, h⟩ := rd.one_inv
        obtain ⟨p, ws, rfl, h1, h2⟩ := listOf_sq r q h
        have := h2.bls_inv q2
        subst this
        exact cr_any hc pins s σ H _ us Q I rx ⟨p, ns, rfl, .inl (.inl h1), f.here r (.bl _)⟩
  · rename_i i j
    cases e
    obtain ⟨v, w, rfl, h, h'⟩ := rd.two_inv
    cases h
    cases h'
    exact cr_gcd pins s σ H _ us Q I rx ⟨i, j, rfl, f.here r (.int _)⟩
  · cases e

/-! ### list(x) -/
def rLi (K : PySem.W.Frag) (fa : Fa) : List V → Hp → VK → Prop := fun vs H Q => ∃ g S d ds, RelS K fa g S H ∧ Reps K fa g H [d] vs ∧ items S d = some ds ∧ FinL K fa g H S ds Q
theorem li_ok : CallR X (.type "list") (rLi X.K fa) := by
  intro pins s σ H vs us Q I rx ⟨g, S, d, ds, r, rd, e, f⟩
  obtain ⟨v, rfl, h⟩ := rd.one_inv
  obtain ⟨p, ws, rfl, h1, h2⟩ := items_sq r e h
  exact call_list_of pins s σ H _ us Q I rx ⟨p, ws, rfl, h1, fun l hl => f.new r h2 hl⟩

/-! ### isinstance -/
def Ty.nm : Ty → String
  | .bool => "bool" | .int => "int" | .str => "str" | .tuple => "tuple" | .list => "list"
theorem ty_tup {H : Hp} {a : Addr} {vs : List V} (h : SqT K H a vs) : TyX K H (.ref a) (.type "tuple") := by
  rcases h with (h | ⟨o, h⟩) | ⟨o, its, n, h1, h2, _⟩
  · exact .base (.tup h)
  · exact .fTuple h
  · exact .kTuple h1 h2
theorem isi_ty {S : Store} {g : G} {H : Hp} {t : Ty} {d : D} {v : V} {b : Bool} (rd : Rep K fa g H d v) (e : dIsi S t d = some b) : ∃ u, TyX K H v u ∧ PySem.W.kitOne K u (.type t.nm) = some b := by
  cases rd with
  | non => cases e; exact ⟨_, .base .non, by cases t <;> exact kit_ty (by decide +kernel)⟩
  | bl x => cases e; exact ⟨_, .base (.bl x), by cases t <;> exact kit_ty (by decide +kernel)⟩
  | int x => cases e; exact ⟨_, .base (.int x), by cases t <;> exact kit_ty (by decide +kernel)⟩
  | str x => cases e; exact ⟨_, .base (.str x), by cases t <;> exact kit_ty (by decide +kernel)⟩
  | tup h _ => cases e; exact ⟨_, ty_tup h, by cases t <;> exact kit_ty (by decide +kernel)⟩
  | lst h _ _ => cases e; exact ⟨_, .base (.lst h), by cases t <;> exact kit_ty (by decide +kernel)⟩
  | _ => cases e

/-! ### methods -/
def Me.nm : Me → Str
  | .append => "append" | .pop => "pop" | .reverse => "reverse" | .index => "index" | .insert => "insert"
def Me.id : Me → String
  | .append => "list.append" | .pop => "list.pop" | .reverse => "list.reverse" | .index => "list.index" | .insert => "list.insert"
def rMe (K : PySem.W.Frag) (fa : Fa) (m : Me) : V → List V → Hp → VK → Prop := fun x vs H Q => ∃ g S o ds d S', RelS K fa g S H ∧ Rep K fa g H o x ∧ Reps K fa g H ds vs ∧ dMe m o ds S = some (d, S') ∧ Fin K fa g H S' d Q
theorem seq_of_ix {n : Nat} {i : Int} {j : Nat} (h : ixN n i = some j) (hn : n ≤ sizeLine) : seqIndex? i n = some j ∧ -(2 ^ 63) ≤ i ∧ i < 2 ^ 63 := by
  obtain ⟨h1, h2, h3, h4⟩ := ixN_seq h
  have := line63
  exact ⟨h1, by omega, by omega⟩
theorem me_idx (hu : X.A.units + 65 < cLine) : MtR X "list.index" (rMe X.K fa .index) := by
  intro pins s σ H x vs v us Q I rx rs ⟨g, S, o, ds, d, S', r, ro, rd, e, f⟩
  simp only [dMe] at e
  split at e
  · rename_i y
    cases q : dFind S o y with
    | none => rw [q] at e; cases e
    | some j =>
      rw [q] at e
      cases e
      obtain ⟨w, rfl, hw⟩ := rd.one_inv
      unfold dFind at q
      split at q
      · rename_i qs p h1 h2
        split at q
        · rename_i hs
          rw [Bool.and_eq_true] at hs
          obtain ⟨hj, h3, h4⟩ := List.findIdx?_eq_some_iff_getElem.mp q
          have hd := deref_dp r ro h1
          have hx : ∃ a, x = V.ref a := by
            cases hd with
            | lst _ _ => exact ⟨_, rfl⟩
          obtain ⟨a, rfl⟩ := hx
          refine mt_indexD hu pins s σ H _ _ v us Q I rx rs ⟨a, w, p, qs, j, qs[j], rfl, rfl, hd, deref_dp r hw h2, hs.1, hs.2, List.getElem?_eq_getElem hj, h3, fun m z' hm hz => ?_, f.here r (.int _)⟩
          obtain ⟨hm', rfl⟩ := List.getElem?_eq_some_iff.mp hz
          exact Bool.eq_false_iff.mpr (h4 m hm)
        · cases q
      · cases q
  · cases e
theorem me_ok0 (m : Me) (hm0 : m ≠ .index) : MtR X m.id (rMe X.K fa m) := by
  intro pins s σ H x vs v us Q I rx rs ⟨g, S, o, ds, d, S', r, ro, rd, e0, f⟩
  have e : dMe0 m o ds S = some (d, S') := by
    cases m <;> first | exact e0 | exact absurd rfl hm0
  clear e0
  unfold dMe0 at e
  cases ro with
  | @ref a i hm =>
    dsimp only at e
    cases q : S[i]? with
    | none => rw [q] at e; cases e
    | some ob =>
      rw [q] at e
      obtain ⟨a', h1, h2⟩ := r.addr q
      rw [hm] at h1
      cases h1
      cases ob with
      | lst xs =>
        obtain ⟨ws, h3, h4⟩ := h2
        dsimp only at e
        have fin : ∀ {ys : List D} {zs : List V} {y : D} {z : V}, Fin X.K fa g H (S.set i (.lst ys)) y Q → Reps X.K fa g H ys zs → Rep X.K fa g H y z → Q z (upd H a (.lst zs)) := fun {ys zs y z} f h5 h6 =>
          f g _ _ (r.setExt hm h3) (r.set hm h3 h5) (h6.ext (r.setExt hm h3))
        have hz : ws.length ≤ sizeLine := by
          obtain ⟨hz, _⟩ := (show ObjOk X.prog X.w H s.heap a (.lst ws) from I.hok a _ h3)
          exact hz
        split at e
        · rename_i d'
          split at e
          · rename_i hl
            cases e
            obtain ⟨w, rfl, hw⟩ := rd.one_inv
            exact mt_append pins s σ H _ _ v us Q I rx rs ⟨a, ws, w, rfl, rfl, h3, by rw [← h4.length]; exact hl, fin f (h4.append (.one hw)) .non⟩
          · cases e
        · split at e
          · rename_i d' hd
            cases e
            cases rd
            obtain ⟨w, hw, rw'⟩ := h4.get hd
            exact mt_pop pins s σ H _ _ v us Q I rx rs ⟨a, ws, w, rfl, rfl, h3, by rw [← h4.length]; exact hw, fin f h4.dropLast rw'⟩
          · cases e
        · rename_i k
          split at e
          · rename_i j hj
            split at e
            · rename_i d' hd
              cases e
              obtain ⟨w, rfl, hw⟩ := rd.one_inv
              cases hw
              obtain ⟨z, hz', rz⟩ := h4.get hd
              rw [h4.length] at hj
              obtain ⟨k1, k2, k3⟩ := seq_of_ix hj hz
              exact mt_popAt pins s σ H _ _ v us Q I rx rs ⟨a, ws, k, j, z, rfl, rfl, h3, k2, k3, k1, hz', fin f (h4.eraseIdx j) rz⟩
            · cases e
          · cases e
        · cases e
          cases rd
          exact mt_reverse pins s σ H _ _ v us Q I rx rs ⟨a, ws, rfl, rfl, h3, fin f h4.reverse .non⟩
        · rename_i k d'
          split at e
          · rename_i hk
            cases e
            obtain ⟨w, w', rfl, hw, hw'⟩ := rd.two_inv
            cases hw
            exact mt_insert pins s σ H _ _ v us Q I rx rs ⟨a, ws, k, w', rfl, rfl, h3, by rw [← h4.length]; exact hk.2.2, hk.1, by omega, fin f (((h4.take _).append (.one hw')).append (h4.drop _)) .non⟩
          · cases e
        · cases e
      | _ => cases e
  | _ => cases e
theorem me_ok (hu : X.A.units + 65 < cLine) (m : Me) : MtR X m.id (rMe X.K fa m) := by
  cases m with
  | index => exact me_idx hu
  | append => exact me_ok0 _ (fun h => nomatch h)
  | pop => exact me_ok0 _ (fun h => nomatch h)
  | reverse => exact me_ok0 _ (fun h => nomatch h)
  | insert => exact me_ok0 _ (fun h => nomatch h)
theorem me_ty {m : Me} {S : Store} {g : G} {H : Hp} {o : D} {x : V} (r : RelS K fa g S H) (ro : Rep K fa g H o x) (e : recvOk m o S = true) : tyV K "list" x H := by
  unfold recvOk at e
  cases ro with
  | @ref a i hm =>
    dsimp only at e
    cases q : S[i]? with
    | none => rw [q] at e; cases e
    | some ob =>
      obtain ⟨a', h1, h2⟩ := r.addr q
      rw [hm] at h1
      cases h1
      cases ob with
      | lst xs =>
        obtain ⟨ws, h3, h4⟩ := h2
        exact .inl ⟨rfl, ws, .inl (.inl h3)⟩
      | _ =>
        rw [q] at e
        cases e
  | lst h _ _ => exact .inl ⟨rfl, _, .inl (.inl h)⟩
  | _ => cases e
theorem me_slot (m : Me) : Slot "list" m.nm m.id := by
  cases m
  · exact PySem.F.slot_list_append
  · exact PySem.F.slot_list_pop
  · exact PySem.F.slot_list_reverse
  · exact PySem.F.slot_list_index
  · exact PySem.F.slot_list_insert
theorem me_type (m : Me) : typeOf (.builtin m.id) = pure (.type "method_descriptor") := by
  cases m
  · exact PySem.F.type_list_append
  · exact PySem.F.type_list_pop
  · exact PySem.F.type_list_reverse
  · exact PySem.F.type_list_index
  · exact PySem.F.type_list_insert
end
end Ab

/-! Ab6: small code and the text: when the one is written for the other. -/
namespace Ab
open PySem PySem.Spec PyProof.Rows L2

structure Cfg where
  N : List Str
  T : Nat → Option FD
  gl : Str → Option D
  gcd : Bool

def notStar : Expr → Bool
  | .Starred .. => false | _ => true
def notSlice : Expr → Bool
  | .Slice .. => false | _ => true
def notSet : Expr → Bool
  | .Set .. => false | _ => true
def notCall : Expr → Bool
  | .Call .. => false | _ => true
/-- the text of -1 -/
def isM1 : Expr → Bool
  | .UnaryOp .USub (.Constant (.int j) _ _) _ => decide (j = 1)
  | _ => false
def notComp : Expr → Bool
  | .ListComp .. => false | .SetComp .. => false | .DictComp .. => false | _ => true
def visB (sc : Scope) (x : Str) : Bool := match sc.names.lookup x with
  | some .local => true | some .cell => true | some .free => true | _ => false
def glB (sc : Scope) (x : Str) : Bool := match sc.names.lookup x with
  | some .globalImplicit => true | _ => false
def locB (sc : Scope) (x : Str) : Bool := match sc.names.lookup x with
  | some .local => true | some .cell => true | _ => false
def plainB (x : Str) : Bool := !(x == ("__debug__" : Str)) && (!(x == ("__classdict__" : Str)) && decide (x ≠ ("__name__" : Str)))
def ownN (N : List Str) (own : List Nat) : List (Str × Nat) := own.map fun i => ((N[i]?).getD ("" : Str), i)
mutual
def Tg.slots : Tg → List Nat
  | .name i => [i]
  | .tup ts => Tg.slotss ts
def Tg.slotss : List Tg → List Nat
  | [] => []
  | t :: ts => Tg.slots t ++ Tg.slotss ts
end
mutual
def mG (N : List Str) (st : Str → Bool) : Tg → Expr → Bool
  | .name i, .Name x _ => decide (N[i]? = some x) && st x
  | .tup ts, .Tuple es _ _ => mGs N st ts es
  | _, _ => false
def mGs (N : List Str) (st : Str → Bool) : List Tg → List Expr → Bool
  | [], [] => true
  | t :: ts, e :: es => notStar e && (mG N st t e && mGs N st ts es)
  | _, _ => false
end

/-- what is walked: a range's ends (rg), or a value -/
def iterArgs (sc : Scope) : Bool → Expr → Option (List Expr)
  | true, .Call (.Name x _) es' [] _ => if decide (x = ("range" : Str)) && (glB sc x && decide (es'.length = 1 ∨ es'.length = 2)) then some es' else none
  | false, .Starred .. => none
  | false, e => some [e]
  | _, _ => none
mutual
def mE (C : Cfg) (sc : Scope) : IE → Expr → Bool
  | .lit (.int i), .Constant (.int j) _ _ => decide (i = j)
  | .lit (.bl i), .Constant (.bool j) _ _ => decide (i = j)
  | .lit .non, .Constant .none _ _ => true
  | .lit (.str i), .Constant (.str j) _ _ => decide (i = j)
  | .var i, .Name x _ => decide (C.N[i]? = some x) && (visB sc x && plainB x)
  | .glob x, .Name y _ => decide (x = y) && (glB sc x && plainB x)
  | .tup es, .Tuple es' _ _ => mEs C sc es es'
  | .lst es, .List es' _ => mEs C sc es es'
  | .bin op a b, .BinOp a' op' b' _ => decide (op = op') && (mE C sc a a' && mE C sc b b')
  | .un op a, .UnaryOp op' a' _ => decide (op = op') && mE C sc a a'
  | .bop op es, .BoolOp op' es' _ => decide (op = op') && mEs C sc es es'
  | .cmp op a b, .Compare a' [op'] [b'] _ => decide (op = op') && (notSet b' && (mE C sc a a' && mE C sc b b'))
  | .chain op1 op2 a b c, .Compare a' [op1', op2'] [b', c'] _ => decide (op1 = op1') && (decide (op2 = op2') && (notSet c' && (mE C sc a a' && (mE C sc b b' && mE C sc c c'))))
  | .ite c a b, .IfExp c' a' b' _ => mE C sc c c' && (mE C sc a a' && mE C sc b b')
  | .ix a b, .Subscript a' b' _ => notSlice b' && (mE C sc a a' && mE C sc b b')
  | .slc a lo hi, .Subscript a' (.Slice lo' hi' none _) _ => mE C sc a a' && (mO C sc lo lo' && mO C sc hi hi')
  | .call f es, .Call (.Name x _) es' [] _ => (match C.T f with
    | some fd => decide (fd.name = x) && decide (x ≠ ("" : Str))
    | none => false) && (glB sc x && (plainB x && (!es.isEmpty && mEs C sc es es')))
  | .bi b es, .Call (.Name x _) es' [] _ => decide (b.nm = x) && ((decide (b ≠ .gcd) || C.gcd) && (glB sc x && (!es.isEmpty && mEs C sc es es')))
  | .isi t a, .Call (.Name x _) [a', .Name y _] [] _ => decide (x = ("isinstance" : Str)) && (decide (y = (t.nm : Str)) && (glB sc x && (glB sc y && (notStar a' && mE C sc a a'))))
  | .meth m o es, .Call (.Attribute o' n apos) es' [] cpos => decide (m.nm = n) && ((apos.endLine == cpos.line) && (notCall o' && (decide (es'.length < 20) && (mE C sc o o' && mEs C sc es es'))))
  | .list1 a, .Call (.Name x _) [a'] [] _ => decide (x = ("list" : Str)) && (glB sc x && (notStar a' && mE C sc a a'))
  | .lc own tg rg it ifs elt, .ListComp elt' [⟨tg', iter', ifs', asy⟩] scope _ => decide (asy = 0) && (blkC C.N sc scope (ownN C.N own) && (notSet iter' && ((match iterArgs sc rg iter' with | some es' => mEs C sc it es' | none => false) && (tg.slots.all (own.contains ·) && (mG C.N (locB scope) tg tg' &&
      (mEs C (relS scope sc) ifs ifs' && (decide (ifs.length ≤ 1) && mE C (relS scope sc) elt elt')))))))
  | .rev a, .Subscript a' (.Slice none none (some st) _) _ => isM1 st && mE C sc a a'
  | .dget a b, .Subscript a' b' _ => notSlice b' && (mE C sc a a' && mE C sc b b')
  | .din neg i a, .Compare i' [op] [a'] _ => decide (op = if neg then .NotIn else .In) && (notSet a' && (mE C sc i i' && mE C sc a a'))
  | .dlen a, .Call (.Name x _) [a'] [] _ => decide (x = ("len" : Str)) && (glB sc x && (notStar a' && mE C sc a a'))
  | .sin neg i a, .Compare i' [op] [a'] _ => decide (op = if neg then .NotIn else .In) && (notSet a' && (mE C sc i i' && mE C sc a a'))
  | .sadd o i, .Call (.Attribute o' n apos) [i'] [] cpos => decide (n = ("add" : Str)) && ((apos.endLine == cpos.line) && (notCall o' && (notStar i' && (mE C sc o o' && mE C sc i i'))))
  | .slen a, .Call (.Name x _) [.Call (.Name y _) [a'] [] _] [] _ => decide (x = ("len" : Str)) && (decide (y = ("set" : Str)) && (glB sc x && (glB sc y && (notStar a' && mE C sc a a'))))
  | .bad, e => notStar e
  | _, _ => false
def mEs (C : Cfg) (sc : Scope) : List IE → List Expr → Bool
  | [], [] => true
  | a :: as, e :: es => notStar e && (mE C sc a e && mEs C sc as es)
  | _, _ => false
def mO (C : Cfg) (sc : Scope) : Option IE → Option Expr → Bool
  | none, none => true
  | some a, some e => mE C sc a e
  | _, _ => false
end

/-! ### statements -/
def swB (sc : Scope) (x : Str) (line : Nat) (scope : Scope) (line2 : Nat) : Bool := (match sc.names.lookup x with | some .local => true | _ => false) && ((line == line2) && !(scope.names.any fun (n, k) => n == x && (k == .local || k == .cell)))
def freshB : IE → Bool
  | .lst _ => true
  | .bin _ _ _ => true
  | .list1 _ => true
  | .lc .. => true
  | _ => false
def isComp : IE → Bool
  | .lc .. => true
  | _ => false
/-- a, b = x, y whose stores are swapped -/
def parB (sc : Scope) : Expr → Expr → Expr → Expr → Bool
  | .Name x px, .Name y py, a, b => (match sc.names.lookup x with | some .local => true | _ => false) && ((match sc.names.lookup y with | some .local => true | _ => false) && (decide (x ≠ y) && ((px.line == py.line) && (!([a, b].all (foldedForSure 8)) && !([a, b].all (constantsAlone 8))))))
  | _, _, _, _ => false
/-- a tuple's stores are not swapped -/
def noSwapB (sc : Scope) (t e : Expr) : Bool := match t, e with
  | .Tuple ts _ _, .Tuple vs _ _ => !(ts.length == 2 || ts.length == 3) || ts.any fun | .Name x _ => !(sc.names.lookup x == some .local) | _ => true
  | .List _ _, _ => false
  | _, _ => true
mutual
def mS (C : Cfg) (sc : Scope) : IS → Stmt → Bool
  | .asg (.name i) e, .Assign [.Name x px] e' pos => decide (C.N[i]? = some x) && (locB sc x && ((notComp e' || isComp e) && mE C sc e e'))
  | .asg (.tup ts) e, .Assign [.Tuple es k pt] e' pos => notComp e' && (noSwapB sc (.Tuple es k pt) e' && (mGs C.N (locB sc) ts es && mE C sc e e'))
  | .new i e, .Assign [.Name x px] e' pos => decide (C.N[i]? = some x) && (freshB e && (locB sc x && ((notComp e' || isComp e) && mE C sc e e')))
  | .par i j a b, .Assign [.Tuple [.Name x px, .Name y py] _ _] (.Tuple [a', b'] _ _) pos => decide (C.N[i]? = some x) && (decide (C.N[j]? = some y) && (decide (i ≠ j) && (parB sc (.Name x px) (.Name y py) a' b' && (notStar a' && (notStar b' && (mE C sc a a' && mE C sc b b'))))))
  | .seti o i e, .Assign [.Subscript o' i' _] e' _ => notComp e' && (notSlice i' && (mE C sc e e' && (mE C sc o o' && mE C sc i i')))
  | .aug i op e, .AugAssign (.Name x _) op' e' _ => decide (C.N[i]? = some x) && (locB sc x && (decide (op = op') && mE C sc e e'))
  | .ex e, .Expr e' _ => notComp e' && mE C sc e e'
  | .ret e, .Return (some e') _ => mE C sc e e'
  | .retN, .Return none _ => true
  | .ite c a b, .If c' a' b' _ => mE C sc c c' && (mSs C sc a a' && mSs C sc b b')
  | .whl _ c b, .While c' b' [] _ => mE C sc c c' && mSs C sc b b'
  | .for_ tg rg it b, .For tg' it' b' [] _ => notSet it' && ((match iterArgs sc rg it' with | some es' => mEs C sc it es' | none => false) && (mG C.N (locB sc) tg tg' && mSs C sc b b'))
  | .dnew i, .Assign [.Name x _] (.Dict [] [] _) _ => decide (C.N[i]? = some x) && locB sc x
  | .ddisp i k v, .Assign [.Name x _] (.Dict [some k'] [v'] _) _ => decide (C.N[i]? = some x) && (locB sc x && (mE C sc k k' && mE C sc v v'))
  | .snew i e, .Assign [.Name x _] (.Set [e'] k _) _ => decide (C.N[i]? = some x) && (locB sc x && (decide (k = 0) && (notStar e' && mE C sc e e')))
  | .dput o i e, .Assign [.Subscript o' i' _] e' _ => notComp e' && (notSlice i' && (mE C sc e e' && (mE C sc o o' && mE C sc i i')))
  | .pass, .Pass _ => true
  | .brk, .Break _ => true
  | .cont, .Continue _ => true
  | .bad, _ => true
  | _, _ => false
def mSs (C : Cfg) (sc : Scope) : List IS → List Stmt → Bool
  | [], [] => true
  | a :: as, e :: es => mS C sc a e && mSs C sc as es
  | _, _ => false
end

/-! ### the text's small facts -/
theorem star_cons {e : Expr} {es : List Expr} {env : Env} (h : notStar e = true) : starEach (e :: es) env = (false, eval e env) :: starEach es env := by
  cases e <;> first | rfl | cases h
theorem star_any (pos : Pos) (env : Env) : ∀ {es : List Expr}, es.all notStar = true → (backTo pos (starEach es env)).any (·.1) = false
  | [], _ => rfl
  | e :: es, h => by
    rw [List.all_cons, Bool.and_eq_true] at h
    rw [star_cons h.1]
    show (false || (backTo pos (starEach es env)).any (·.1)) = false
    rw [star_any pos env h.2]
    rfl
theorem star_all (pos : Pos) (env : Env) : ∀ {es : List Expr}, es.all notStar = true → (backTo pos (starEach es env)).all (fun x => !x.1) = true
  | [], _ => rfl
  | e :: es, h => by
    rw [List.all_cons, Bool.and_eq_true] at h
    rw [star_cons h.1]
    show (!false && (backTo pos (starEach es env)).all (fun x => !x.1)) = true
    rw [star_all pos env h.2]
    rfl
theorem mEs_star {C : Cfg} {sc : Scope} : ∀ {as : List IE} {es : List Expr}, mEs C sc as es = true → es.all notStar = true
  | [], [], _ => rfl
  | [], _ :: _, h => by simp [mEs] at h
  | _ :: _, [], h => by simp [mEs] at h
  | a :: as, e :: es, h => by
    simp only [mEs, Bool.and_eq_true] at h
    rw [List.all_cons, h.1, mEs_star h.2.2]
    rfl
theorem mEs_len {C : Cfg} {sc : Scope} : ∀ {as : List IE} {es : List Expr}, mEs C sc as es = true → as.length = es.length
  | [], [], _ => rfl
  | [], _ :: _, h => by simp [mEs] at h
  | _ :: _, [], h => by simp [mEs] at h
  | a :: as, e :: es, h => by
    simp only [mEs, Bool.and_eq_true] at h
    exact congrArg Nat.succ (mEs_len h.2.2)
theorem nomark_of {op : CmpOp} {b : Expr} (h : notSet b = true) : behindInMarks op b = false := by
  cases b <;> first | rfl | cases h
theorem nomark2 {op op' : CmpOp} {b c : Expr} (h : notSet c = true) : lastMarks [op, op'] [b, c] = false := nomark_of h
theorem plain_ix {b : Expr} (h : notSlice b = true) : PlainIx b := by
  intro o i
  cases b <;> first | rfl | cases h
theorem attr_base {o : Expr} {n : Str} {env : Env} (w : Sem Value) (h : notCall o = true) : attributeBase o n env w = w := by
  cases o <;> first | rfl | cases h
theorem folded_of {e : Expr} {env : Env} (h : notSet e = true) (x : Value) : foldedSetIterable e env x = pure x := by
  cases e <;> first | rfl | cases h
theorem swaps_of {e : Expr} {t : Option Expr} {l : Nat} {env : Env} (h : notComp e = true) : swapsWith e t l env = pure false := by
  cases e <;> first | rfl | cases h
theorem vis_of {sc : Scope} {x : Str} (h : visB sc x = true) : Vis sc x := by
  unfold visB at h
  unfold Vis
  cases q : sc.names.lookup x with
  | none => rw [q] at h; cases h
  | some k => rw [q] at h; cases k <;> first | exact .inl rfl | exact .inr (.inl rfl) | exact .inr (.inr rfl) | cases h
theorem gl_of {X : Cx} {x : Str} (h : glB X.env.scope x = true) : Gl X x := by
  unfold glB at h
  show X.env.scope.names.lookup x = _
  cases q : X.env.scope.names.lookup x with
  | none => rw [q] at h; cases h
  | some k => rw [q] at h; cases k <;> first | rfl | cases h
theorem loc_of {sc : Scope} {x : Str} (h : locB sc x = true) : L2.Loc sc x := by
  unfold locB at h
  unfold L2.Loc
  cases q : sc.names.lookup x with
  | none => rw [q] at h; cases h
  | some k => rw [q] at h; cases k <;> first | exact .inl rfl | exact .inr rfl | cases h
theorem plain_of {x : Str} (h : plainB x = true) : (x == ("__debug__" : Str)) = false ∧ (x == ("__classdict__" : Str)) = false ∧ x ≠ ("__name__" : Str) := by
  unfold plainB at h
  simp only [Bool.and_eq_true, Bool.not_eq_true', decide_eq_true_eq] at h
  exact h
end Ab

/-! Ab7: readings by evaluation; what evaluation is made of. -/
namespace Ab
open PySem PySem.Spec PyProof.Rows L2

section
variable (K : PySem.W.Frag) (fa : Fa)
def tA (f : AEnv → Store → Option (D × Store)) : TE := fun σ H Q => ∃ g ρ S d S', RelS K fa g S H ∧ ERel K fa g H ρ σ ∧ f ρ S = some (d, S') ∧ Fin K fa g H S' d Q
/-- a list that is nobody's -/
def tL (f : AEnv → Store → Option (D × Store)) : TE := fun σ H Q => ∃ g ρ S ds S', RelS K fa g S H ∧ ERel K fa g H ρ σ ∧ f ρ S = some (.lst ds, S') ∧ FinL K fa g H S' ds Q
def FinT (g : G) (H : Hp) (S : Store) (b : Bool) (Q : Bool → Hp → Prop) : Prop := ∀ g' H', Ext g H g' H' → RelS K fa g' S H' → Q b H'
def tT (f : AEnv → Store → Option (Bool × Store)) : TT := fun σ H Q => ∃ g ρ S b S', RelS K fa g S H ∧ ERel K fa g H ρ σ ∧ f ρ S = some (b, S') ∧ FinT K fa g H S' b Q
def FinS (g : G) (H : Hp) (S : Store) (ds : List D) (Q : List V → Hp → Prop) : Prop := ∀ g' vs H', Ext g H g' H' → RelS K fa g' S H' → Reps K fa g' H' ds vs → Q vs H'
def tAs (f : AEnv → Store → Option (List D × Store)) : TA := fun σ H Q => ∃ g ρ S ds S', RelS K fa g S H ∧ ERel K fa g H ρ σ ∧ f ρ S = some (ds, S') ∧ FinS K fa g H S' ds Q
def tO (f : AEnv → Store → Option (Option Int × Store)) : TO := fun σ H Q => ∃ g ρ S o S', RelS K fa g S H ∧ ERel K fa g H ρ σ ∧ f ρ S = some (o, S') ∧ ∀ g' H', Ext g H g' H' → RelS K fa g' S' H' → Q o H'
end

section
variable {K : PySem.W.Frag} {fa : Fa} {g : G} {H : Hp} {S S1 S2 : Store} {ρ : AEnv} {σ : L2.St}
theorem seq1 {f : AEnv → Store → Option (D × Store)} {x : D} (rs : RelS K fa g S H) (er : ERel K fa g H ρ σ) (e1 : f ρ S = some (x, S1)) {R : V → Hp → Prop}
    (k : ∀ g' v H', Ext g H g' H' → RelS K fa g' S1 H' → ERel K fa g' H' ρ σ → Rep K fa g' H' x v → R v H') : tA K fa f σ H R :=
  ⟨g, ρ, S, x, S1, rs, er, e1, fun g' v H' x1 r1 p1 => k g' v H' x1 r1 (er.ext x1) p1⟩
theorem seq2 {f f' : AEnv → Store → Option (D × Store)} {x y : D} (rs : RelS K fa g S H) (er : ERel K fa g H ρ σ) (e1 : f ρ S = some (x, S1)) (e2 : f' ρ S1 = some (y, S2)) {R : V → V → Hp → Prop}
    (k : ∀ g' v w H', Ext g H g' H' → RelS K fa g' S2 H' → ERel K fa g' H' ρ σ → Rep K fa g' H' x v → Rep K fa g' H' y w → R v w H') : tA K fa f σ H fun v H1 => tA K fa f' σ H1 fun w H2 => R v w H2 :=
  seq1 rs er e1 fun g1 v H1 x1 r1 er1 p1 => seq1 r1 er1 e2 fun g2 w H2 x2 r2 er2 p2 => k g2 v w H2 (x1.trans x2) r2 er2 (p1.ext x2) p2
theorem seqS {f : AEnv → Store → Option (List D × Store)} {xs : List D} (rs : RelS K fa g S H) (er : ERel K fa g H ρ σ) (e1 : f ρ S = some (xs, S1)) {R : List V → Hp → Prop}
    (k : ∀ g' v H', Ext g H g' H' → RelS K fa g' S1 H' → ERel K fa g' H' ρ σ → Reps K fa g' H' xs v → R v H') : tAs K fa f σ H R :=
  ⟨g, ρ, S, xs, S1, rs, er, e1, fun g' v H' x1 r1 p1 => k g' v H' x1 r1 (er.ext x1) p1⟩
theorem seqT {f : AEnv → Store → Option (Bool × Store)} {x : Bool} (rs : RelS K fa g S H) (er : ERel K fa g H ρ σ) (e1 : f ρ S = some (x, S1)) {R : Bool → Hp → Prop}
    (k : ∀ g' H', Ext g H g' H' → RelS K fa g' S1 H' → ERel K fa g' H' ρ σ → R x H') : tT K fa f σ H R :=
  ⟨g, ρ, S, x, S1, rs, er, e1, fun g' H' x1 r1 => k g' H' x1 r1 (er.ext x1)⟩
theorem Fin.after {d : D} {Q : VK} (f : Fin K fa g H S d Q) {g' : G} {H' : Hp} (e : Ext g H g' H') : Fin K fa g' H' S d Q := fun g2 v H2 x r p => f g2 v H2 (e.trans x) r p
theorem FinL.after {d : List D} {Q : VK} (f : FinL K fa g H S d Q) {g' : G} {H' : Hp} (e : Ext g H g' H') : FinL K fa g' H' S d Q := fun g2 p v H2 x r o q => f g2 p v H2 (e.trans x) r o q
theorem FinT.after {d : Bool} {Q : Bool → Hp → Prop} (f : FinT K fa g H S d Q) {g' : G} {H' : Hp} (e : Ext g H g' H') : FinT K fa g' H' S d Q := fun g2 H2 x r => f g2 H2 (e.trans x) r
theorem FinS.after {d : List D} {Q : List V → Hp → Prop} (f : FinS K fa g H S d Q) {g' : G} {H' : Hp} (e : Ext g H g' H') : FinS K fa g' H' S d Q := fun g2 v H2 x r p => f g2 v H2 (e.trans x) r p
end

/-! ### what evaluation is made of -/
section
variable {cf : CallF} {gl : Str → Option D} {ρ : AEnv} {S S' : Store} {d : D} {a b c : IE} {es : List IE}
theorem ev_var {i : Nat} (h : ev cf gl (.var i) ρ S = some (d, S')) : ρ[i]? = some (some d) ∧ S' = S := by
  simp only [ev] at h
  split at h
  · rename_i d' e
    cases h
    exact ⟨e, rfl⟩
  · cases h
theorem ev_tup (h : ev cf gl (.tup es) ρ S = some (d, S')) : ∃ ds, evs cf gl es ρ S = some (ds, S') ∧ ds.length ≤ sizeLine ∧ d = .tup ds := by
  simp only [ev] at h
  split at h
  · rename_i ds S1 e
    split at h
    · rename_i hz
      cases h
      exact ⟨ds, e, hz, rfl⟩
    · cases h
  · cases h
theorem ev_lst (h : ev cf gl (.lst es) ρ S = some (d, S')) : ∃ ds, evs cf gl es ρ S = some (ds, S') ∧ ds.length ≤ sizeLine ∧ d = .lst ds := by
  simp only [ev] at h
  split at h
  · rename_i ds S1 e
    split at h
    · rename_i hz
      cases h
      exact ⟨ds, e, hz, rfl⟩
    · cases h
  · cases h
theorem ev_bin {op : Operator} (h : ev cf gl (.bin op a b) ρ S = some (d, S')) : ∃ x S1 y, ev cf gl a ρ S = some (x, S1) ∧ ev cf gl b ρ S1 = some (y, S') ∧ dBin S' op x y = some d := by
  simp only [ev] at h
  split at h
  · rename_i x S1 h1
    split at h
    · rename_i y S2 h2
      rw [Option.map_eq_some_iff] at h
      obtain ⟨z, h3, h4⟩ := h
      cases h4
      exact ⟨x, S1, y, h1, h2, h3⟩
    · cases h
  · cases h
theorem ev_un {op : UnaryOp} (h : ev cf gl (.un op a) ρ S = some (d, S')) : ∃ x, ev cf gl a ρ S = some (x, S') ∧ dUn op x = some d := by
  simp only [ev] at h
  split at h
  · rename_i x S1 h1
    rw [Option.map_eq_some_iff] at h
    obtain ⟨z, h3, h4⟩ := h
    cases h4
    exact ⟨x, h1, h3⟩
  · cases h
theorem ev_cmp {op : CmpOp} (h : ev cf gl (.cmp op a b) ρ S = some (d, S')) : ∃ x S1 y c, ev cf gl a ρ S = some (x, S1) ∧ ev cf gl b ρ S1 = some (y, S') ∧ dCmp S' op x y = some c ∧ d = .bl c := by
  simp only [ev] at h
  split at h
  · rename_i x S1 h1
    split at h
    · rename_i y S2 h2
      rw [Option.map_eq_some_iff] at h
      obtain ⟨z, h3, h4⟩ := h
      cases h4
      exact ⟨x, S1, y, z, h1, h2, h3, rfl⟩
    · cases h
  · cases h
theorem ev_chain {op op' : CmpOp} (h : ev cf gl (.chain op op' a b c) ρ S = some (d, S')) : ∃ x S1 y S2, ev cf gl a ρ S = some (x, S1) ∧ ev cf gl b ρ S1 = some (y, S2) ∧
    ((dCmp S2 op x y = some true ∧ ∃ z r, ev cf gl c ρ S2 = some (z, S') ∧ dCmp S' op' y z = some r ∧ d = .bl r) ∨ (dCmp S2 op x y = some false ∧ S' = S2 ∧ d = .bl false)) := by
  simp only [ev] at h
  split at h
  · rename_i x S1 h1
    split at h
    · rename_i y S2 h2
      split at h
      · rename_i h3
        split at h
        · rename_i z S3 h4
          rw [Option.map_eq_some_iff] at h
          obtain ⟨r, h5, h6⟩ := h
          cases h6
          exact ⟨x, S1, y, S2, h1, h2, .inl ⟨h3, z, r, h4, h5, rfl⟩⟩
        · cases h
      · rename_i h3
        cases h
        exact ⟨x, S1, y, _, h1, h2, .inr ⟨h3, rfl, rfl⟩⟩
      · cases h
    · cases h
  · cases h
theorem ev_ite (h : ev cf gl (.ite c a b) ρ S = some (d, S')) : ∃ t S1, evT cf gl c ρ S = some (t, S1) ∧ (if t = true then ev cf gl a ρ S1 else ev cf gl b ρ S1) = some (d, S') := by
  simp only [ev] at h
  split at h
  · rename_i S1 h1
    exact ⟨true, S1, h1, h⟩
  · rename_i S1 h1
    exact ⟨false, S1, h1, h⟩
  · cases h
theorem ev_ix (h : ev cf gl (.ix a b) ρ S = some (d, S')) : ∃ x S1 y, ev cf gl a ρ S = some (x, S1) ∧ ev cf gl b ρ S1 = some (y, S') ∧ dIx S' x y = some d := by
  simp only [ev] at h
  split at h
  · rename_i x S1 h1
    split at h
    · rename_i y S2 h2
      rw [Option.map_eq_some_iff] at h
      obtain ⟨z, h3, h4⟩ := h
      cases h4
      exact ⟨x, S1, y, h1, h2, h3⟩
    · cases h
  · cases h
theorem ev_slc {lo hi : Option IE} (h : ev cf gl (.slc a lo hi) ρ S = some (d, S')) : ∃ x S1 l S2 u, ev cf gl a ρ S = some (x, S1) ∧ evO cf gl lo ρ S1 = some (l, S2) ∧ evO cf gl hi ρ S2 = some (u, S') ∧ dSl S' x l u = some d := by
  simp only [ev] at h
  split at h
  · rename_i x S1 h1
    split at h
    · rename_i y S2 h2
      split at h
      · rename_i z S3 h3
        rw [Option.map_eq_some_iff] at h
        obtain ⟨r, h4, h5⟩ := h
        cases h5
        exact ⟨x, S1, y, S2, z, h1, h2, h3, h4⟩
      · cases h
    · cases h
  · cases h
theorem ev_call {f : Nat} (h : ev cf gl (.call f es) ρ S = some (d, S')) : ∃ ds S1, evs cf gl es ρ S = some (ds, S1) ∧ cf f ds S1 = some (d, S') := by
  simp only [ev] at h
  split at h
  · rename_i ds S1 h1
    exact ⟨ds, S1, h1, h⟩
  · cases h
theorem ev_bi {f : Bi} (h : ev cf gl (.bi f es) ρ S = some (d, S')) : ∃ ds, evs cf gl es ρ S = some (ds, S') ∧ dBi S' f ds = some d := by
  simp only [ev] at h
  split at h
  · rename_i ds S1 h1
    rw [Option.map_eq_some_iff] at h
    obtain ⟨r, h4, h5⟩ := h
    cases h5
    exact ⟨ds, h1, h4⟩
  · cases h
theorem ev_isi {t : Ty} (h : ev cf gl (.isi t a) ρ S = some (d, S')) : ∃ x c, ev cf gl a ρ S = some (x, S') ∧ dIsi S' t x = some c ∧ d = .bl c := by
  simp only [ev] at h
  split at h
  · rename_i ds S1 h1
    rw [Option.map_eq_some_iff] at h
    obtain ⟨r, h4, h5⟩ := h
    cases h5
    exact ⟨ds, r, h1, h4, rfl⟩
  · cases h
theorem ev_meth {m : Me} (h : ev cf gl (.meth m a es) ρ S = some (d, S')) : ∃ x S1 ds S2, ev cf gl a ρ S = some (x, S1) ∧ recvOk m x S1 = true ∧ evs cf gl es ρ S1 = some (ds, S2) ∧ dMe m x ds S2 = some (d, S') := by
  simp only [ev] at h
  split at h
  · rename_i x S1 h1
    split at h
    · rename_i hr
      split at h
      · rename_i ds S2 h2
        exact ⟨x, S1, ds, S2, h1, hr, h2, h⟩
      · cases h
    · cases h
  · cases h
theorem ev_list1 (h : ev cf gl (.list1 a) ρ S = some (d, S')) : ∃ x ds, ev cf gl a ρ S = some (x, S') ∧ items S' x = some ds ∧ d = .lst ds := by
  simp only [ev] at h
  split at h
  · rename_i ds S1 h1
    rw [Option.map_eq_some_iff] at h
    obtain ⟨r, h4, h5⟩ := h
    cases h5
    exact ⟨ds, r, h1, h4, rfl⟩
  · cases h
/-- a comprehension's turn -/
def lcF (cf : CallF) (gl : Str → Option D) (own : List Nat) (tg : Tg) (ifs : List IE) (elt : IE) (ρ : AEnv) (d : D) (S : Store) : Option (Option D × Store) := match Tg.bind tg d (wipeA ρ own) with
  | some ρ' => match evTs cf gl ifs ρ' S with
    | some (true, S2) => (ev cf gl elt ρ' S2).map fun p => (some p.1, p.2)
    | some (false, S2) => some (none, S2)
    | none => none
  | none => none
theorem ev_lc {own : List Nat} {tg : Tg} {rg : Bool} {ifs : List IE} (h : ev cf gl (.lc own tg rg es ifs a) ρ S = some (d, S')) : ∃ ds S1 xs ys, evs cf gl es ρ S = some (ds, S1) ∧ walk rg ds S1 = some xs ∧
    evLc (stays rg ds xs) (lcF cf gl own tg ifs a ρ) xs [] S1 = some (ys, S') ∧ d = .lst ys := by
  simp only [ev] at h
  split at h
  · rename_i ds S1 h1
    split at h
    · rename_i xs h2
      rw [Option.map_eq_some_iff] at h
      obtain ⟨r, h4, h5⟩ := h
      cases h5
      exact ⟨ds, S1, xs, r.1, h1, h2, h4, rfl⟩
    · cases h
  · cases h
theorem evs_cons {ds : List D} (h : evs cf gl (a :: es) ρ S = some (ds, S')) : ∃ x S1 xs, ev cf gl a ρ S = some (x, S1) ∧ evs cf gl es ρ S1 = some (xs, S') ∧ ds = x :: xs := by
  simp only [evs] at h
  split at h
  · rename_i x S1 h1
    split at h
    · rename_i ys S2 h2
      cases h
      exact ⟨x, S1, ys, h1, h2, rfl⟩
    · cases h
  · cases h
theorem evB_one {op : BoolOp} (h : evB cf gl op [a] ρ S = some (d, S')) : ev cf gl a ρ S = some (d, S') := by
  simp only [evB] at h
  split at h
  · rename_i x S1 h1
    simp only [List.isEmpty_nil, if_true] at h
    cases h
    exact h1
  · cases h
theorem evB_cons {op : BoolOp} (h : evB cf gl op (a :: b :: es) ρ S = some (d, S')) : ∃ t S1, ev cf gl a ρ S = some (.bl t, S1) ∧ ((t = isAnd op ∧ evB cf gl op (b :: es) ρ S1 = some (d, S')) ∨ (t = !isAnd op ∧ d = .bl t ∧ S' = S1)) := by
  rw [evB.eq_def] at h
  dsimp only at h
  split at h
  · rename_i x S1 h1
    simp only [List.isEmpty_cons, Bool.false_eq_true, if_false] at h
    split at h
    · rename_i t
      split at h
      · rename_i ht
        exact ⟨t, S1, h1, .inl ⟨ht, h⟩⟩
      · rename_i ht
        cases h
        refine ⟨t, _, h1, .inr ⟨?_, rfl, rfl⟩⟩
        cases op <;> cases t <;> simp_all [isAnd]
    · cases h
  · cases h
variable {t : Bool}
theorem evBT_one {op : BoolOp} (h : evBT cf gl op [a] ρ S = some (t, S')) : evT cf gl a ρ S = some (t, S') := by
  rw [evBT.eq_def] at h
  dsimp only at h
  split at h
  · rename_i x S1 h1
    split at h
    · rename_i hx
      rw [evBT.eq_def] at h
      cases h
      rw [h1, hx]
    · cases h
      exact h1
  · cases h
theorem evBT_cons {op : BoolOp} (h : evBT cf gl op (a :: b :: es) ρ S = some (t, S')) : ∃ x S1, evT cf gl a ρ S = some (x, S1) ∧ ((x = isAnd op ∧ evBT cf gl op (b :: es) ρ S1 = some (t, S')) ∨ (x = !isAnd op ∧ t = x ∧ S' = S1)) := by
  rw [evBT.eq_def] at h
  dsimp only at h
  split at h
  · rename_i x S1 h1
    split at h
    · rename_i hx
      exact ⟨x, S1, h1, .inl ⟨hx, h⟩⟩
    · rename_i hx
      cases h
      refine ⟨_, _, h1, .inr ⟨?_, rfl, rfl⟩⟩
      revert hx
      cases op <;> simp [isAnd]
  · cases h
end
end Ab

/-! Ab8: targets, walks, comprehensions. -/
namespace Ab
open PySem PySem.Spec PyProof.Rows L2

/-! ### targets -/
section
variable (K : PySem.W.Frag) (fa : Fa)
def GEnd (g : G) (H : Hp) (ρ' : AEnv) (σ : L2.St) (sl : List Nat) (Q : L2.St → Hp → Prop) : Prop := ∀ σ', ERel K fa g H ρ' σ' → (∀ j, j ∉ sl → σ'[j]? = σ[j]?) → σ'.length = σ.length → Q σ' H
def tG (tg : Tg) : TG := fun v σ H Q => ∃ g ρ d ρ', ERel K fa g H ρ σ ∧ Rep K fa g H d v ∧ Tg.bind tg d ρ = some ρ' ∧ GEnd K fa g H ρ' σ tg.slots Q
def tGs (ts : List Tg) : TGs := fun vs σ H Q => ∃ g ρ ds ρ', ERel K fa g H ρ σ ∧ Reps K fa g H ds vs ∧ Tg.binds ts ds ρ = some ρ' ∧ GEnd K fa g H ρ' σ (Tg.slotss ts) Q
end
theorem assign_star {es : List Expr} {env : Env} (h : es.all notStar = true) : (assignEach es env).length = es.length ∧ (assignEach es env).findIdx? (·.1) = none := by
  induction es with
  | nil => exact ⟨rfl, rfl⟩
  | cons e es ih =>
    rw [List.all_cons, Bool.and_eq_true] at h
    have q : assignEach (e :: es) env = (false, assign e env) :: assignEach es env := by
      cases e <;> first | rfl | cases h.1
    rw [q]
    refine ⟨congrArg Nat.succ (ih h.2).1, ?_⟩
    rw [List.findIdx?_cons]
    simp [(ih h.2).2]
theorem mGs_star {N : List Str} {st : Str → Bool} : ∀ {ts : List Tg} {es : List Expr}, mGs N st ts es = true → es.all notStar = true ∧ ts.length = es.length
  | [], [], _ => ⟨rfl, rfl⟩
  | [], _ :: _, h => by simp [mGs] at h
  | _ :: _, [], h => by simp [mGs] at h
  | t :: ts, e :: es, h => by
    simp only [mGs, Bool.and_eq_true] at h
    obtain ⟨h1, h2⟩ := mGs_star h.2.2
    exact ⟨by rw [List.all_cons, h.1, h1]; rfl, congrArg Nat.succ h2⟩
theorem binds_len : ∀ {ts : List Tg} {ds : List D} {ρ ρ' : AEnv}, Tg.binds ts ds ρ = some ρ' → ts.length = ds.length
  | [], [], _, _, _ => rfl
  | [], _ :: _, _, _, h => by simp [Tg.binds] at h
  | _ :: _, [], _, _, h => by simp [Tg.binds] at h
  | t :: ts, d :: ds, ρ, ρ', h => by
    simp only [Tg.binds, Option.bind_eq_some_iff] at h
    obtain ⟨_, _, h⟩ := h
    exact congrArg Nat.succ (binds_len h)
section
variable {fa : Fa} {X : Cx} {N : List Str} {st : Str → Bool}
mutual
theorem sG (hN : X.N = N) (nd : N.Nodup) (hc : X.calm = true) (hst : ∀ x, st x = true → L2.Loc X.env.scope x ∧ (X.fn x = true ∨ X.env.scope.names.lookup x = some .local)) : ∀ (tg : Tg) (e : Expr), mG N st tg e = true → PG X e (tG X.K fa tg)
  | .name i, e, h => by
    cases e with
    | Name x pos =>
      simp only [mG, Bool.and_eq_true, decide_eq_true_eq] at h
      obtain ⟨hl, hf⟩ := hst x h.2
      refine ⟨fun pins s σ H v u Q I r hw => ?_⟩
      obtain ⟨g, ρ, d, ρ', er, rd, hb, q⟩ := hw
      refine (pg_name (i := i) (by rw [hN]; exact nd) (by rw [hN]; exact h.1) hl hf).run pins s σ H v u Q I r ?_
      simp only [Tg.bind] at hb
      split at hb
      · cases hb
        refine q _ (er.set rd i) (fun j hj => ?_) (by rw [List.length_set])
        have : i ≠ j := fun z => hj (by simp [Tg.slots, z])
        rw [List.getElem?_set_ne this]
      · cases hb
    | _ => simp [mG] at h
  | .tup ts, e, h => by
    cases e with
    | Tuple es k pos =>
      simp only [mG] at h
      obtain ⟨h1, h2⟩ := mGs_star h
      obtain ⟨h3, h4⟩ := assign_star (env := X.env) h1
      refine ⟨fun pins s σ H v u Q I r hw => ?_⟩
      obtain ⟨g, ρ, d, ρ', er, rd, hb, q⟩ := hw
      refine (pg_tup hc (sGs hN nd hc hst ts es h) h3 h4).run pins s σ H v u Q I r ?_
      cases d with
      | tup ds =>
        obtain ⟨a, vs, rfl, k1, k2⟩ := rd.tup_inv
        simp only [Tg.bind] at hb
        refine ⟨a, vs, rfl, k1, ?_, g, ρ, ds, ρ', er, k2, hb, q⟩
        rw [← k2.length, ← binds_len hb, h2]
      | _ => simp [Tg.bind] at hb
    | _ => simp [mG] at h
theorem sGs (hN : X.N = N) (nd : N.Nodup) (hc : X.calm = true) (hst : ∀ x, st x = true → L2.Loc X.env.scope x ∧ (X.fn x = true ∨ X.env.scope.names.lookup x = some .local)) : ∀ (ts : List Tg) (es : List Expr), mGs N st ts es = true → PGs X es (tGs X.K fa ts)
  | [], es, h => by
    cases es with
    | nil =>
      refine ⟨fun pins s σ H vs us Q I r hw => ?_⟩
      obtain ⟨g, ρ, ds, ρ', er, rd, hb, q⟩ := hw
      refine pgs_nil.run pins s σ H vs us Q I r ?_
      cases ds with
      | nil =>
        simp only [Tg.binds] at hb
        cases hb
        cases rd
        exact ⟨rfl, q σ er (fun _ _ => rfl) rfl⟩
      | cons d ds => simp [Tg.binds] at hb
    | cons e es => simp [mGs] at h
  | t :: ts, es, h => by
    cases es with
    | nil => simp [mGs] at h
    | cons e es =>
      simp only [mGs, Bool.and_eq_true] at h
      have hs : (assignEach (e :: es) X.env).map (·.2) = assign e X.env :: (assignEach es X.env).map (·.2) := by
        have := h.1
        cases e <;> first | rfl | cases this
      refine ⟨fun pins s σ H vs us Q I r hw => ?_⟩
      obtain ⟨g, ρ, ds, ρ', er, rd, hb, q⟩ := hw
      refine (pgs_cons (sG hN nd hc hst t e h.2.1) (sGs hN nd hc hst ts es h.2.2) hs).run pins s σ H vs us Q I r ?_
      cases ds with
      | nil => simp [Tg.binds] at hb
      | cons d ds =>
        simp only [Tg.binds, Option.bind_eq_some_iff] at hb
        obtain ⟨ρ1, hb1, hb2⟩ := hb
        cases rd with
        | cons rd1 rd2 =>
          refine ⟨_, _, rfl, g, ρ, d, ρ1, er, rd1, hb1, fun σ1 er1 k1 l1 => ⟨g, ρ1, ds, ρ', er1, rd2, hb2, fun σ2 er2 k2 l2 => q σ2 er2 (fun j hj => ?_) (l2.trans l1)⟩⟩
          have hj' : j ∉ t.slots ∧ j ∉ Tg.slotss ts := by
            simp only [Tg.slotss, List.mem_append, not_or] at hj
            exact hj
          rw [k2 j hj'.2, k1 j hj'.1]
end
end

/-! ### slots forgotten -/
theorem wipe_get (σ : L2.St) (j : Nat) : ∀ vs : List Nat, (L2.wipe σ vs)[j]? = if j ∈ vs then (if j < σ.length then some none else none) else σ[j]?
  | [] => by simp [L2.wipe]
  | v :: vs => by
    unfold L2.wipe
    have ih := wipe_get σ j vs
    by_cases e : v = j
    · subst e
      rw [if_pos List.mem_cons_self]
      by_cases hv : v < σ.length
      · rw [List.getElem?_set_self (by rw [wipe_length]; exact hv), if_pos hv]
      · rw [if_neg hv, List.getElem?_eq_none (by rw [List.length_set, wipe_length]; omega)]
    · rw [List.getElem?_set_ne e, ih]
      by_cases h : j ∈ vs
      · rw [if_pos h, if_pos (List.mem_cons_of_mem _ h)]
      · rw [if_neg h, if_neg (by simp only [List.mem_cons, not_or]; exact ⟨fun z => e z.symm, h⟩)]
theorem wipe_same {σ σ' : L2.St} {vs : List Nat} (h : ∀ j, j ∉ vs → σ'[j]? = (L2.wipe σ vs)[j]?) (l : σ'.length = (L2.wipe σ vs).length) : L2.wipe σ' vs = L2.wipe σ vs := by
  apply List.ext_getElem?
  intro j
  rw [wipe_get, wipe_get, l, wipe_length]
  by_cases hj : j ∈ vs
  · rw [if_pos hj, if_pos hj]
  · rw [if_neg hj, if_neg hj, h j hj, wipe_get, if_neg hj]

/-! ### walks -/
section
variable (K : PySem.W.Frag) (fa : Fa)
def WalkJ (J : It) (rg : Bool) (ds xs : List D) (g : G) (H : Hp) : Prop := ∀ (i : Nat) g2 H2 S2, Ext g H g2 H2 → RelS K fa g2 S2 H2 → stays rg ds xs S2 = true →
  (∀ d, xs[i]? = some d → J.go i H2 ∧ ∀ x H3, J.yld i H2 x H3 → ∃ g3, Ext g2 H2 g3 H3 ∧ RelS K fa g3 S2 H3 ∧ Rep K fa g3 H3 d x) ∧ (xs.length ≤ i → J.stop i H2)
def iA (f : AEnv → Store → Option (List D × Store)) (rg : Bool) : TI := fun σ H R => ∃ g ρ S ds S1 xs, RelS K fa g S H ∧ ERel K fa g H ρ σ ∧ f ρ S = some (ds, S1) ∧ walk rg ds S1 = some xs ∧
  ∀ g' J H', Ext g H g' H' → RelS K fa g' S1 H' → WalkJ K fa J rg ds xs g' H' → R J H'
end
theorem stays_items {d : D} {xs : List D} {S S2 : Store} (h : items S d = some xs) (h2 : stays false [d] xs S2 = true) : items S2 d = some xs := by
  cases d with
  | ref r =>
    simp only [stays] at h2
    unfold items
    dsimp only
    cases q : S2[r]? with
    | none => rw [q] at h2; cases h2
    | some o =>
      rw [q] at h2
      cases o with
      | lst ys =>
        have h2 : D.sames ys xs = true := h2
        rw [D.sames_eq h2]
      | _ => cases h2
  | _ => exact h
section
variable {K : PySem.W.Frag} {fa : Fa}
theorem walk_seq {g : G} {H : Hp} {S : Store} {d : D} {xs : List D} {a : Addr} (h : items S d = some xs) (rd : Rep K fa g H d (.ref a)) : ((∃ ds, d = .tup ds) → WalkJ K fa (Itt K a) false [d] xs g H) ∧ ((∀ ds, d ≠ .tup ds) → WalkJ K fa (Itl K a) false [d] xs g H) := by
  refine ⟨fun ⟨ds, e⟩ => ?_, fun hd => ?_⟩
  · subst e
    cases h
    intro i g2 H2 S2 x r2 _
    obtain ⟨a', vs, e, h1, h2⟩ := (rd.ext x).tup_inv
    cases e
    refine ⟨fun d hd => ?_, fun hi => ⟨vs, h1, by rw [← h2.length]; exact hi⟩⟩
    obtain ⟨v, h3, h4⟩ := h2.get hd
    refine ⟨⟨vs, v, h1, h3⟩, fun z H3 hy => ?_⟩
    obtain ⟨e, hy⟩ := hy
    subst e
    have := hy vs h1
    rw [h3] at this
    cases this
    exact ⟨g2, Ext.refl _ _, r2, h4⟩
  · intro i g2 H2 S2 x r2 hs
    obtain ⟨a', vs, e, h1, h2⟩ := items_sqL r2 (stays_items h hs) (rd.ext x) hd
    cases e
    refine ⟨fun d hd => ?_, fun hi => ⟨vs, h1, by rw [← h2.length]; exact hi⟩⟩
    obtain ⟨v, h3, h4⟩ := h2.get hd
    refine ⟨⟨vs, v, h1, h3⟩, fun z H3 hy => ?_⟩
    obtain ⟨e, hy⟩ := hy
    subst e
    have := hy vs h1
    rw [h3] at this
    cases this
    exact ⟨g2, Ext.refl _ _, r2, h4⟩
theorem walk_rng {g : G} {H : Hp} {lo hi' : Int} {xs ds : List D} (h : rangeD lo hi' = some xs) : WalkJ K fa (Itr lo (hi' - lo).toNat) true ds xs g H := by
  unfold rangeD at h
  split at h
  · cases h
    intro i g2 H2 S2 x r2 _
    refine ⟨fun d hd => ?_, fun hi => (by simpa using hi : (hi' - lo).toNat ≤ i)⟩
    rw [List.getElem?_map] at hd
    by_cases hi : i < (hi' - lo).toNat
    · rw [List.getElem?_range hi] at hd
      cases hd
      refine ⟨hi, fun z H3 hy => ?_⟩
      obtain ⟨e, rfl⟩ := hy
      subst e
      exact ⟨g2, Ext.refl _ _, r2, .int _⟩
    · rw [List.getElem?_eq_none (by simpa using hi)] at hd
      cases hd
  · cases h
variable {X : Cx} {tg e : Expr} {cf : CallF} {gl : Str → Option D} {ie : IE} {es : List IE}
theorem pi_val (h : PE X e (tA X.K fa (ev cf gl ie))) : PI X tg e (iA X.K fa (evs cf gl [ie]) false) := by
  refine ⟨fun pins s σ H R I hw => ?_⟩
  obtain ⟨g, ρ, S, ds, S1, xs, rs, er, e1, hwk, k⟩ := hw
  obtain ⟨x, S2, ys, e2, e3, rfl⟩ := evs_cons e1
  simp only [evs] at e3
  cases e3
  have hwk : items S1 x = some xs := hwk
  by_cases hd : ∃ zs, x = .tup zs
  · refine (pi_tup h).run pins s σ H R I (seq1 rs er e2 fun g' v H' x1 r1 er1 p1 => ?_)
    obtain ⟨zs, rfl⟩ := hd
    obtain ⟨a, vs, rfl, h1, h2⟩ := p1.tup_inv
    exact ⟨a, rfl, ⟨vs, h1⟩, k g' _ H' x1 r1 ((walk_seq hwk p1).1 ⟨zs, rfl⟩)⟩
  · refine (pi_list h).run pins s σ H R I (seq1 rs er e2 fun g' v H' x1 r1 er1 p1 => ?_)
    have hd : ∀ zs, x ≠ .tup zs := fun zs z => hd ⟨zs, z⟩
    obtain ⟨a, vs, rfl, h1, h2⟩ := items_sqL r1 hwk p1 hd
    exact ⟨a, rfl, ⟨vs, h1⟩, k g' _ H' x1 r1 ((walk_seq hwk p1).2 hd)⟩
theorem evs_len {es : List IE} : ∀ {ρ : AEnv} {S S' : Store} {ds : List D}, evs cf gl es ρ S = some (ds, S') → ds.length = es.length := by
  induction es with
  | nil =>
    intro ρ S S' ds h
    simp only [evs] at h
    cases h
    rfl
  | cons a es ih =>
    intro ρ S S' ds h
    obtain ⟨x, S1, xs, _, h2, rfl⟩ := evs_cons h
    exact congrArg Nat.succ (ih h2)
theorem pi_r1 {a : Expr} {p pos : Pos} (hg : Gl X "range") (hm : X.mg "range" = none) (hs : notStar a = true) (hl : es.length = 1) (h : PA X [a] (tAs X.K fa (evs cf gl es))) : PI X tg (.Call (.Name "range" p) [a] [] pos) (iA X.K fa (evs cf gl es) true) := by
  refine ⟨fun pins s σ H R I hw => ?_⟩
  obtain ⟨g, ρ, S, ds, S1, xs, rs, er, e1, hwk, k⟩ := hw
  have hn := (evs_len e1).trans hl
  unfold walk at hwk
  split at hwk
  · rename_i j h0
    refine (pi_range1 hg hm h (star_cons hs)).run pins s σ H R I (seqS rs er e1 fun g' v H' x1 r1 er1 p1 => ?_)
    obtain ⟨w, rfl, hw⟩ := p1.one_inv
    cases hw
    have hb := hwk
    unfold rangeD at hb
    split at hb
    · rename_i hb'
      refine ⟨j, rfl, by omega, by omega, k g' _ H' x1 r1 ?_⟩
      have := walk_rng (K := X.K) (fa := fa) (g := g') (H := H') (ds := [.int j]) hwk
      rw [Int.sub_zero] at this
      exact this
    · cases hb
  · cases hn
  · contradiction
  · cases hwk
theorem pi_r2 {a b : Expr} {p pos : Pos} (hg : Gl X "range") (hm : X.mg "range" = none) (hs : notStar a = true) (hs2 : notStar b = true) (hl : es.length = 2) (h : PA X [a, b] (tAs X.K fa (evs cf gl es))) : PI X tg (.Call (.Name "range" p) [a, b] [] pos) (iA X.K fa (evs cf gl es) true) := by
  refine ⟨fun pins s σ H R I hw => ?_⟩
  obtain ⟨g, ρ, S, ds, S1, xs, rs, er, e1, hwk, k⟩ := hw
  have hn := (evs_len e1).trans hl
  unfold walk at hwk
  split at hwk
  · cases hn
  · rename_i i j h0
    have q : starEach [b] X.env = [(false, eval b X.env)] := star_cons hs2
    refine (pi_range2 hg hm h ((star_cons hs).trans (by rw [q])) q).run pins s σ H R I (seqS rs er e1 fun g' v H' x1 r1 er1 p1 => ?_)
    obtain ⟨w, w', rfl, hw, hw'⟩ := p1.two_inv
    cases hw
    cases hw'
    have hb := hwk
    unfold rangeD at hb
    split at hb
    · rename_i hb'
      exact ⟨i, j, rfl, ⟨by omega, by omega, by omega, by omega⟩, k g' _ H' x1 r1 (walk_rng hwk)⟩
    · cases hb
  · contradiction
  · cases hwk

/-! ### a comprehension's reading -/
theorem OwnO.turn {g g5 : G} {H H5 : Hp} {S : Store} {p : Addr} {ho : HO} (o : OwnO g H p ho) (e : Ext (g.keep p) H g5 H5) (r : RelS K fa g5 S H5) : OwnO (g5.drop p) H5 p ho ∧ Ext g H (g5.drop p) H5 ∧ RelS K fa (g5.drop p) S H5 := by
  have hk := e.kp p (.inr rfl)
  refine ⟨r.dropOwn (hk.2.trans o.at_) hk.1, ⟨fun a f => e.fz a f, fun a f => ⟨⟨(e.kp a (.inl f)).1, fun z => o.nkp (z ▸ f)⟩, (e.kp a (.inl f)).2⟩, e.pers, e.m⟩, r.drop⟩
/-- the rest of a comprehension's walk -/
theorem lc_imp {own : List Nat} {tg : Tg} {rg : Bool} {it ifs : List IE} {elt : IE} {σ : L2.St} {H : Hp} {Q : VK} (hsl : tg.slots.all (own.contains ·) = true)
    (h : tL K fa (ev cf gl (.lc own tg rg it ifs elt)) σ H Q) : tLc (iA K fa (evs cf gl it) rg) (tG K fa tg) (tT K fa (evTs cf gl ifs)) (tA K fa (ev cf gl elt)) own σ H Q := by
  obtain ⟨g0, ρ, S, ds, S', rs, er, e, fin⟩ := h
  obtain ⟨zs, S1, xs, ys, e1, e2, e3, e4⟩ := ev_lc e
  cases e4
  refine ⟨g0, ρ, S, zs, S1, xs, rs, er, e1, e2, fun g1 J H1 x1 r1 wj => ?_⟩
  intro p hp
  refine ⟨fun i m H' => m = xs.length - i ∧ i ≤ xs.length ∧ ∃ gk Sk acc vs, Ext g1 H1 gk H' ∧ RelS K fa gk Sk H' ∧ Own gk H' p vs ∧ Reps K fa gk H' acc vs ∧ evLc (stays rg zs xs) (lcF cf gl own tg ifs elt ρ) (xs.drop i) acc Sk = some (ds, S'),
    ⟨_, rfl, Nat.zero_le _, g1, S1, [], [], r1.newExt hp, r1.new hp, r1.own hp, .nil, e3⟩, ?_⟩
  rintro i m H' ⟨rfl, hi, gk, Sk, acc, vs, xk, rk, ok, ak, ek⟩
  by_cases hlt : i < xs.length
  · rw [List.drop_eq_getElem_cons hlt] at ek
    simp only [evLc] at ek
    split at ek
    · rename_i hst
      obtain ⟨hgo, hyld⟩ := (wj i gk H' Sk xk rk hst).1 xs[i] (List.getElem?_eq_getElem hlt)
      refine .inr ⟨hgo, fun H2 => ∃ g2 S2 acc2 vs2, Ext g1 H1 g2 H2 ∧ RelS K fa g2 S2 H2 ∧ Own g2 H2 p vs2 ∧ Reps K fa g2 H2 acc2 vs2 ∧ evLc (stays rg zs xs) (lcF cf gl own tg ifs elt ρ) (xs.drop (i + 1)) acc2 S2 = some (ds, S'),
        fun H2 hn => ⟨xs.length - (i + 1), by omega, rfl, hlt, hn⟩, fun x H3 hy => ?_⟩
      obtain ⟨hgo', hyld'⟩ := (wj i (gk.keep p) H' Sk (xk.trans ok.keepExt) (ok.keep rk) hst).1 xs[i] (List.getElem?_eq_getElem hlt)
      obtain ⟨g3, x3, r3, p3⟩ := hyld' x H3 hy
      cases hf : lcF cf gl own tg ifs elt ρ xs[i] Sk with
      | none => rw [hf] at ek; cases ek
      | some out =>
        rw [hf] at ek
        unfold lcF at hf
        split at hf
        · rename_i ρ' hb
          have er3 : ERel K fa g3 H3 ρ σ := er.ext (x1.trans (xk.trans (ok.keepExt.trans x3)))
          refine ⟨g3, wipeA ρ own, xs[i], ρ', er3.wipe own, p3, hb, fun σ2 er2 k2 l2 => ⟨?_, ?_⟩⟩
          · refine wipe_same (fun j hj => k2 j fun z => hj ?_) l2
            have := List.all_eq_true.mp hsl j z
            simpa using this
          · split at hf
            · rename_i S2 ht
              rw [Option.map_eq_some_iff] at hf
              obtain ⟨⟨y, S5⟩, h5, h6⟩ := hf
              subst h6
              refine seqT r3 er2 ht fun g4 H4 x4 r4 er4 => ?_
              rw [if_pos rfl]
              refine seq1 r4 er4 h5 fun g5 v H5 x5 r5 er5 p5 => ?_
              dsimp only at ek
              split at ek
              · rename_i hz
                obtain ⟨o6, x6, r6⟩ := ok.turn (x3.trans (x4.trans x5)) r5
                refine ⟨vs, o6.at_, by rw [← ak.length]; exact hz, _, S5, acc ++ [y], vs ++ [v], xk.trans (x6.trans o6.writeExt), o6.write r6, o6.again, ?_, ek⟩
                exact ((ak.ext x6).append (.one (p5.drop p))).ext o6.writeExt
              · cases ek
            · rename_i S2 ht
              cases hf
              refine seqT r3 er2 ht fun g4 H4 x4 r4 er4 => ?_
              rw [if_neg Bool.false_ne_true]
              obtain ⟨o6, x6, r6⟩ := ok.turn (x3.trans x4) r4
              exact ⟨_, _, acc, vs, xk.trans x6, r6, o6, ak.ext x6, ek⟩
            · cases hf
        · cases hf
    · cases ek
  · have hi' : i = xs.length := by omega
    subst hi'
    rw [List.drop_length] at ek
    simp only [evLc] at ek
    split at ek
    · rename_i hst
      cases ek
      exact .inl ⟨(wj _ gk H' _ xk rk hst).2 (Nat.le_refl _), fin gk p vs H' (x1.trans xk) rk ok ak⟩
    · cases ek
end
end Ab

/-! Ab9: evaluation is sound, construct by construct. -/
namespace Ab
open PySem PySem.Spec PyProof.Rows L2

def bltNames : List Str := ["len", "abs", "int", "tuple", "min", "max", "sum", "all", "any", "isinstance", "list", "range", "bool", "str", "set"]
section
variable (K : PySem.W.Frag) (fa : Fa)
def spF (C : Cfg) (k f : Nat) : Sp := fun vs H Q _ => ∃ g S ds d S', RelS K fa g S H ∧ Reps K fa g H ds vs ∧ call C.T C.gl k f ds S = some (d, S') ∧ Fin K fa g H S' d Q
end
structure Top (P : Program) (w : World) (K : PySem.W.Frag) (mg : Str → Option Value) (base : Heap) (fa : Fa) (C : Cfg) (k : Nat) : Prop where
  pw : fa.P = P ∧ fa.w = w
  blt : ∀ x : Str, x ∈ bltNames → mg x = none
  gcd : C.gcd = true → mg "gcd" = some (.builtin "math.gcd")
  gl : ∀ x d, C.gl x = some d → ∃ v u, mg x = some u ∧ RelV v u ∧ ∀ g H, Rep K fa g H d v
  fn : ∀ f fd, C.T f = some fd → fd.name ≠ ("" : Str) → ∃ a fdat, fa f = some a ∧ mg fd.name = some (.ref a) ∧ PySem.W.keepIn K (.ref a) = true ∧ Binds K fdat fd.ps [] ∧ FnOk P w K mg base CX0 k a fdat fd.ps (spF K fa C k f)
abbrev TopX (X : Cx) (fa : Fa) (C : Cfg) (k : Nat) : Prop := Top X.prog X.w X.K X.mg X.base fa C k
structure Ctx (C : Cfg) (k : Nat) (sc : Scope) (X : Cx) : Prop where
  N : X.N = C.N
  nd : C.N.Nodup
  calm : X.calm = true
  room : Room k X.A
  xe : X.xe = fun _ _ => False
  sc : X.env.scope = sc

theorem PE.imp {X : Cx} {e : Expr} {t t' : TE} (h : PE X e t) (i : ∀ σ H Q, t' σ H Q → t σ H Q) : PE X e t' := ⟨fun pins s σ H Q I hw => h.run pins s σ H Q I (i σ H Q hw)⟩
theorem PT.imp {X : Cx} {e : Expr} {t t' : TT} (h : PT X e t) (i : ∀ σ H Q, t' σ H Q → t σ H Q) : PT X e t' := ⟨fun pins s σ H Q I hw => h.run pins s σ H Q I (i σ H Q hw)⟩
theorem PW.imp {X : Cx} {e : Expr} {t t' : TT} (h : PW X e t) (i : ∀ σ H Q, t' σ H Q → t σ H Q) : PW X e t' := ⟨fun wh pins s σ H Q I hw => h.run wh pins s σ H Q I (i σ H Q hw)⟩
theorem PS.imp {X : Cx} {e : Stmt} {t t' : TS} (h : PS X e t) (i : ∀ D σ H, t' D σ H → t D σ H) : PS X e t' := ⟨fun pins s σ H D I hw => h.run pins s σ H D I (i D σ H hw)⟩
theorem PSs.imp {X : Cx} {e : List Stmt} {t t' : TS} (h : PSs X e t) (i : ∀ D σ H, t' D σ H → t D σ H) : PSs X e t' := ⟨fun pins s σ H D I hw => h.run pins s σ H D I (i D σ H hw)⟩

section
variable {fa : Fa} {X : Cx} {cf : CallF} {gl : Str → Option D} {pos : Pos} {a b c : IE} {a' b' c' : Expr} {es : List IE} {es' : List Expr} {k : Nat}
theorem tA_L {f : AEnv → Store → Option (D × Store)} (hf : ∀ ρ S d S', f ρ S = some (d, S') → ∃ ds, d = .lst ds) {e : Expr} (h : PE X e (tL X.K fa f)) : PE X e (tA X.K fa f) := by
  refine PE.imp h fun σ H Q ⟨g, ρ, S, d, S', rs, er, e1, fin⟩ => ?_
  obtain ⟨ds, rfl⟩ := hf _ _ _ _ e1
  exact ⟨g, ρ, S, ds, S', rs, er, e1, fin.ofL⟩
theorem snd_lit {d : D} {v : V} (hr : ∀ g H, Rep X.K fa g H d v) (h : PE X a' (tC v)) : PE X a' (tA X.K fa (ev cf gl (.lit d))) :=
  PE.imp h fun σ H Q ⟨g, ρ, S, d', S', rs, er, e1, fin⟩ => by
    simp only [ev] at e1
    cases e1
    exact fin.here rs (hr g H)
theorem snd_var {i : Nat} {x : Str} (hN : X.N[i]? = some x) (hv : Vis X.env.scope x) (h1 : (x == ("__debug__" : Str)) = false) (h2 : (x == ("__classdict__" : Str)) = false) : PE X (.Name x pos) (tA X.K fa (ev cf gl (.var i))) :=
  PE.imp (pe_var hN hv h1 h2) fun σ H Q ⟨g, ρ, S, d', S', rs, er, e1, fin⟩ => by
    obtain ⟨e2, rfl⟩ := ev_var e1
    obtain ⟨v, h3, h4⟩ := er.2 _ _ e2
    exact ⟨v, h3, fin.here rs h4⟩
theorem snd_glob {x : Str} {d : D} {v : V} {u : Value} (hg : Gl X x) (hm : X.mg x = some u) (rv : RelV v u) (hr : ∀ g H, Rep X.K fa g H d v) (hd : gl x = some d) (h1 : (x == ("__debug__" : Str)) = false) : PE X (.Name x pos) (tA X.K fa (ev cf gl (.glob x))) :=
  PE.imp (pe_glob hg hm rv h1) fun σ H Q ⟨g, ρ, S, d', S', rs, er, e1, fin⟩ => by
    simp only [ev, hd, Option.map_some] at e1
    cases e1
    exact fin.here rs (hr g H)
theorem snd_tup {n : Nat} (h : PA X es' (tAs X.K fa (evs cf gl es))) : PE X (.Tuple es' n pos) (tA X.K fa (ev cf gl (.tup es))) :=
  PE.imp (pe_tup h) fun σ H Q ⟨g, ρ, S, d, S', rs, er, e1, fin⟩ => by
    obtain ⟨ds, e2, hz, rfl⟩ := ev_tup e1
    exact seqS rs er e2 fun g' vs H' x r er' p => ⟨by rw [← p.length]; exact hz, fun q hq => (fin.after x).tup r p hq⟩
theorem snd_lst (h : PA X es' (tAs X.K fa (evs cf gl es))) : PE X (.List es' pos) (tL X.K fa (ev cf gl (.lst es))) :=
  PE.imp (pe_lst h) fun σ H Q ⟨g, ρ, S, d, S', rs, er, e1, fin⟩ => by
    obtain ⟨ds, e2, hz, e3⟩ := ev_lst e1
    cases e3
    exact seqS rs er e2 fun g' vs H' x r er' p => ⟨by rw [← p.length]; exact hz, fun q hq => (fin.after x).new r p hq⟩
theorem snd_bin {op : Operator} (ha : PE X a' (tA X.K fa (ev cf gl a))) (hb : PE X b' (tA X.K fa (ev cf gl b))) : PE X (.BinOp a' op b' pos) (tA X.K fa (ev cf gl (.bin op a b))) :=
  PE.imp (pe_op (bin_ok (fa := fa) op) ha hb) fun σ H Q ⟨g, ρ, S, d, S', rs, er, e1, fin⟩ => by
    obtain ⟨x, S1, y, e2, e3, e4⟩ := ev_bin e1
    exact seq2 rs er e2 e3 fun g' v w H' x1 r1 er1 p1 p2 => ⟨g', S', x, y, d, r1, p1, p2, e4, fin.after x1⟩
theorem bin_list {op : Operator} {S : Store} {x y : D} {ds : List D} (h : dBin S op x y = some (.lst ds)) : dList S op x y = some ds := by
  unfold dBin at h
  split at h
  · rename_i i j
    cases q : dInt op i j with
    | none => rw [q] at h; cases h
    | some k => rw [q] at h; cases h
  · split at h
    · split at h <;> cases h
    · cases h
  · split at h
    · split at h <;> cases h
    · cases h
  · split at h
    · split at h <;> cases h
    · cases h
  · cases q : dList S op x y with
    | none => rw [q] at h; cases h
    | some k => rw [q] at h; cases h; rfl
def rBinL (K : PySem.W.Frag) (fa : Fa) (op : Operator) : R2 := fun x y H Q => ∃ g S a b d, RelS K fa g S H ∧ Rep K fa g H a x ∧ Rep K fa g H b y ∧ dList S op a b = some d ∧ FinL K fa g H S d Q
theorem snd_binL {op : Operator} (ha : PE X a' (tA X.K fa (ev cf gl a))) (hb : PE X b' (tA X.K fa (ev cf gl b))) : PE X (.BinOp a' op b' pos) (tL X.K fa (ev cf gl (.bin op a b))) :=
  PE.imp (pe_op (r := rBinL X.K fa op) (fun pins s σ H x y v u Q I rx ry ⟨g, S, a, b, d, r, ra, rb, e, f⟩ => list_ok I rx ry r ra rb e f) ha hb) fun σ H Q ⟨g, ρ, S, d, S', rs, er, e1, fin⟩ => by
    obtain ⟨x, S1, y, e2, e3, e4⟩ := ev_bin e1
    exact seq2 rs er e2 e3 fun g' v w H' x1 r1 er1 p1 p2 => ⟨g', S', x, y, d, r1, p1, p2, bin_list e4, fin.after x1⟩
theorem snd_un {op : UnaryOp} (hop : op ≠ .Not) (ha : PE X a' (tA X.K fa (ev cf gl a))) : PE X (.UnaryOp op a' pos) (tA X.K fa (ev cf gl (.un op a))) :=
  PE.imp (pe_un (un_ok (fa := fa) hop) ha) fun σ H Q ⟨g, ρ, S, d, S', rs, er, e1, fin⟩ => by
    obtain ⟨x, e2, e3⟩ := ev_un e1
    exact seq1 rs er e2 fun g' v H' x1 r1 er1 p1 => ⟨g', S', x, d, r1, p1, e3, fin.after x1⟩
theorem snd_not (ha : PE X a' (tA X.K fa (ev cf gl a))) : PE X (.UnaryOp .Not a' pos) (tA X.K fa (ev cf gl (.un .Not a))) :=
  PE.imp (pe_not ha) fun σ H Q ⟨g, ρ, S, d, S', rs, er, e1, fin⟩ => by
    obtain ⟨x, e2, e3⟩ := ev_un e1
    refine seq1 rs er e2 fun g' v H' x1 r1 er1 p1 => ?_
    cases x with
    | bl t =>
      cases p1
      cases e3
      exact ⟨t, rfl, (fin.after x1).here r1 (.bl _)⟩
    | _ => cases e3
theorem snd_cmp {op : CmpOp} (hr : Room k X.A) (hn : notSet b' = true) (ha : PE X a' (tA X.K fa (ev cf gl a))) (hb : PE X b' (tA X.K fa (ev cf gl b))) : PE X (.Compare a' [op] [b'] pos) (tA X.K fa (ev cf gl (.cmp op a b))) :=
  PE.imp (pe_cmpR (cmp_ok (fa := fa) op hr) ha hb (nomark_of hn)) fun σ H Q ⟨g, ρ, S, d, S', rs, er, e1, fin⟩ => by
    obtain ⟨x, S1, y, c, e2, e3, e4, rfl⟩ := ev_cmp e1
    exact seq2 rs er e2 e3 fun g' v w H' x1 r1 er1 p1 p2 => ⟨g', S', x, y, c, r1, p1, p2, e4, fun r2 => (fin.after x1).here r2 (.bl _)⟩
theorem snd_chain {op op' : CmpOp} (hr : Room k X.A) (hn : notSet c' = true) (ha : PE X a' (tA X.K fa (ev cf gl a))) (hb : PE X b' (tA X.K fa (ev cf gl b))) (hc : PE X c' (tA X.K fa (ev cf gl c))) :
    PE X (.Compare a' [op, op'] [b', c'] pos) (tA X.K fa (ev cf gl (.chain op op' a b c))) :=
  PE.imp (pe_chain (cmp_ok (fa := fa) op hr) (cmp_ok (fa := fa) op' hr) ha hb hc (nomark2 hn)) fun σ H Q ⟨g, ρ, S, d, S', rs, er, e1, fin⟩ => by
    obtain ⟨x, S1, y, S2, e2, e3, e4⟩ := ev_chain e1
    refine seq2 rs er e2 e3 fun g' v w H' x1 r1 er1 p1 p2 => ?_
    rcases e4 with ⟨e4, z, r, e5, e6, rfl⟩ | ⟨e4, rfl, rfl⟩
    · exact ⟨g', S2, x, y, true, r1, p1, p2, e4, fun r2 => ⟨true, rfl, by
        rw [if_pos rfl]
        exact seq1 r2 er1 e5 fun g2 z' H2 x2 r3 er2 p3 => ⟨g2, S', y, z, r, r3, p2.ext x2, p3, e6, fun r4 => (fin.after (x1.trans x2)).here r4 (.bl _)⟩⟩⟩
    · exact ⟨g', _, x, y, false, r1, p1, p2, e4, fun r2 => ⟨false, rfl, by
        rw [if_neg Bool.false_ne_true]
        exact (fin.after x1).here r2 (.bl _)⟩⟩
theorem snd_ite (hc : PT X c' (tT X.K fa (evT cf gl c))) (ha : PE X a' (tA X.K fa (ev cf gl a))) (hb : PE X b' (tA X.K fa (ev cf gl b))) : PE X (.IfExp c' a' b' pos) (tA X.K fa (ev cf gl (.ite c a b))) :=
  PE.imp (pe_ifExp hc ha hb) fun σ H Q ⟨g, ρ, S, d, S', rs, er, e1, fin⟩ => by
    obtain ⟨t, S1, e2, e3⟩ := ev_ite e1
    refine seqT rs er e2 fun g' H' x1 r1 er1 => ?_
    cases t with
    | true =>
      rw [if_pos rfl] at e3 ⊢
      exact ⟨g', ρ, S1, d, S', r1, er1, e3, fin.after x1⟩
    | false =>
      rw [if_neg Bool.false_ne_true] at e3 ⊢
      exact ⟨g', ρ, S1, d, S', r1, er1, e3, fin.after x1⟩
theorem snd_ix (hn : notSlice b' = true) (ha : PE X a' (tA X.K fa (ev cf gl a))) (hb : PE X b' (tA X.K fa (ev cf gl b))) : PE X (.Subscript a' b' pos) (tA X.K fa (ev cf gl (.ix a b))) :=
  PE.imp (pe_ix (ix_ok (fa := fa)) ha hb (plain_ix hn)) fun σ H Q ⟨g, ρ, S, d, S', rs, er, e1, fin⟩ => by
    obtain ⟨x, S1, y, e2, e3, e4⟩ := ev_ix e1
    exact seq2 rs er e2 e3 fun g' v w H' x1 r1 er1 p1 p2 => ⟨g', S', x, y, d, r1, p1, p2, e4, fin.after x1⟩
theorem snd_slc {lo hi : Option IE} {lo' hi' : Option Expr} {p2 : Pos} (ha : PE X a' (tA X.K fa (ev cf gl a))) (hl : PO X lo' (tO X.K fa (evO cf gl lo))) (hh : PO X hi' (tO X.K fa (evO cf gl hi))) :
    PE X (.Subscript a' (.Slice lo' hi' none p2) pos) (tA X.K fa (ev cf gl (.slc a lo hi))) :=
  PE.imp (pe_slice (sl_ok (fa := fa)) ha hl hh) fun σ H Q ⟨g, ρ, S, d, S', rs, er, e1, fin⟩ => by
    obtain ⟨x, S1, l, S2, u, e2, e3, e4, e5⟩ := ev_slc e1
    refine seq1 rs er e2 fun g1 v H1 x1 r1 er1 p1 => ?_
    refine ⟨g1, ρ, S1, l, S2, r1, er1, e3, fun g2 H2 x2 r2 => ?_⟩
    refine ⟨g2, ρ, S2, u, S', r2, er1.ext x2, e4, fun g3 H3 x3 r3 => ?_⟩
    exact ⟨g3, S', x, d, r3, p1.ext (x2.trans x3), e5, fin.after (x1.trans (x2.trans x3))⟩
theorem pa_nil' : PA X [] (tAs X.K fa (evs cf gl [])) := ⟨fun ps pins s σ H Q I ⟨g, ρ, S, ds, S', rs, er, e1, fin⟩ => pa_nil.run ps pins s σ H Q I (by
  simp only [evs] at e1
  cases e1
  exact fin g [] H (Ext.refl g H) rs .nil)⟩
theorem pa_cons' (hs : notStar a' = true) (ha : PE X a' (tA X.K fa (ev cf gl a))) (h : PA X es' (tAs X.K fa (evs cf gl es))) : PA X (a' :: es') (tAs X.K fa (evs cf gl (a :: es))) :=
  ⟨fun ps pins s σ H Q I ⟨g, ρ, S, ds, S', rs, er, e1, fin⟩ => (pa_cons ha h (star_cons hs)).run ps pins s σ H Q I (by
    obtain ⟨x, S1, xs, e2, e3, rfl⟩ := evs_cons e1
    exact seq1 rs er e2 fun g1 v H1 x1 r1 er1 p1 => seqS r1 er1 e3 fun g2 vs H2 x2 r2 er2 p2 => fin g2 _ H2 (x1.trans x2) r2 (.cons (p1.ext x2) p2))⟩
theorem po_none' : PO X none (tO X.K fa (evO cf gl none)) := ⟨fun pins s σ H Q I ⟨g, ρ, S, o, S', rs, er, e1, fin⟩ => po_none.run pins s σ H Q I (by
  simp only [evO] at e1
  cases e1
  exact fin g H (Ext.refl g H) rs)⟩
theorem po_some' (ha : PE X a' (tA X.K fa (ev cf gl a))) : PO X (some a') (tO X.K fa (evO cf gl (some a))) := ⟨fun pins s σ H Q I ⟨g, ρ, S, o, S', rs, er, e1, fin⟩ => (po_some ha).run pins s σ H Q I (by
  simp only [evO] at e1
  split at e1
  · rename_i i S1 e2
    cases e1
    refine seq1 rs er e2 fun g1 v H1 x1 r1 er1 p1 => ?_
    cases p1
    exact ⟨i, rfl, fin g1 H1 x1 r1⟩
  · cases e1)⟩

/-! ### calls -/
theorem snd_call {C : Cfg} {f : Nat} {fd : FD} {x : Str} {p : Pos} (T : TopX X fa C k) (hr : Room k X.A) (hT : C.T f = some fd) (hx : fd.name = x) (hx0 : x ≠ ("" : Str)) (hg : Gl X x) (hd : (x == ("__debug__" : Str)) = false) (hne : es ≠ []) (hs : es'.all notStar = true) (hl : es.length = es'.length)
    (h : PA X es' (tAs X.K fa (evs cf gl es))) (hcf : cf = call C.T C.gl k) : PE X (.Call (.Name x p) es' [] pos) (tA X.K fa (ev cf gl (.call f es))) := by
  subst hcf hx
  obtain ⟨ad, fdat, h1, h2, h3, h4, h5⟩ := T.fn f fd hT hx0
  cases es' with
  | nil =>
    cases es with
    | nil => exact absurd rfl hne
    | cons _ _ => cases hl
  | cons e' es' =>
    rw [List.all_cons, Bool.and_eq_true] at hs
    refine PE.imp (pe_call h5 hr hg h2 h3 h4 .nil pass0 h hd (star_cons hs.1) (star_any pos X.env hs.2)) fun σ H Q ⟨g, ρ, S, d, S', rs, er, e1, fin⟩ => ?_
    obtain ⟨ds, S1, e2, e3⟩ := ev_call e1
    refine seqS rs er e2 fun g' vs H' x1 r1 er1 p1 => ?_
    rw [List.append_nil]
    exact ⟨g', S1, ds, d, S', r1, p1, e3, fin.after x1⟩
theorem boot_bi (b : Bi) (hb : b ≠ .gcd) : bootBuiltins b.nm = some b.val := by
  cases b <;> first | exact absurd rfl hb | decide +kernel
theorem bi_in (b : Bi) (hb : b ≠ .gcd) : b.nm ∈ bltNames := by
  cases b <;> first | exact absurd rfl hb | decide +kernel
theorem bi_plain (b : Bi) : (b.nm == ("__debug__" : Str)) = false ∧ b.nm ≠ ("__name__" : Str) := by
  cases b <;> decide +kernel
theorem snd_bi {C : Cfg} {b : Bi} {p : Pos} (T : TopX X fa C k) (hc : X.calm = true) (hb : b ≠ .gcd ∨ C.gcd = true) (hg : Gl X b.nm) (hne : es ≠ []) (hs : es'.all notStar = true) (hl : es.length = es'.length)
    (h : PA X es' (tAs X.K fa (evs cf gl es))) : PE X (.Call (.Name b.nm p) es' [] pos) (tA X.K fa (ev cf gl (.bi b es))) := by
  cases es' with
  | nil =>
    cases es with
    | nil => exact absurd rfl hne
    | cons _ _ => cases hl
  | cons e' es' =>
    rw [List.all_cons, Bool.and_eq_true] at hs
    have imp : ∀ σ H Q, tA X.K fa (ev cf gl (.bi b es)) σ H Q → tCB (rBi X.K fa b) (tAs X.K fa (evs cf gl es)) σ H Q := fun σ H Q ⟨g, ρ, S, d, S', rs, er, e1, fin⟩ => by
      obtain ⟨ds, e2, e3⟩ := ev_bi e1
      exact seqS rs er e2 fun g' vs H' x1 r1 er1 p1 => ⟨g', S', ds, d, r1, p1, e3, fin.after x1⟩
    have ok := bi_ok (fa := fa) (X := X) b hc
    by_cases hgc : b = .gcd
    · subst hgc
      have hm : X.mg "gcd" = some (.builtin "math.gcd") := T.gcd (hb.elim (fun z => absurd rfl z) id)
      exact PE.imp (pe_callBfun (id := "math.gcd") ok hg hm h (bi_plain .gcd).1 (star_cons hs.1) (star_any pos X.env hs.2)) imp
    · have hm := T.blt _ (bi_in b hgc)
      have hv := boot_bi b hgc
      unfold Bi.val at ok hv
      by_cases ht : b.isTy = true
      · rw [if_pos ht] at ok hv
        exact PE.imp (pe_callTy ok hg hm hv h (bi_plain b).2 (bi_plain b).1 (star_cons hs.1) (star_any pos X.env hs.2)) imp
      · rw [if_neg ht] at ok hv
        exact PE.imp (pe_callB ok hg hm hv h (bi_plain b).2 (bi_plain b).1 (star_cons hs.1) (star_any pos X.env hs.2)) imp
theorem snd_list1 {C : Cfg} {p : Pos} (T : TopX X fa C k) (hg : Gl X "list") (hs : notStar a' = true) (ha : PE X a' (tA X.K fa (ev cf gl a))) : PE X (.Call (.Name "list" p) [a'] [] pos) (tL X.K fa (ev cf gl (.list1 a))) :=
  PE.imp (pe_callTy (li_ok (fa := fa)) hg (T.blt _ (by decide +kernel)) boot_list (pa_cons' hs ha (pa_nil' (cf := cf) (gl := gl))) (by decide +kernel) (by decide +kernel) (star_cons hs) rfl) fun σ H Q ⟨g, ρ, S, d, S', rs, er, e1, fin⟩ => by
    obtain ⟨x, ds, e2, e3, e4⟩ := ev_list1 e1
    cases e4
    have e5 : evs cf gl [a] ρ S = some ([x], S') := by
      simp only [evs, e2]
    exact seqS rs er e5 fun g' vs H' x1 r1 er1 p1 => ⟨g', S', x, d, r1, p1, e3, fin.after x1⟩
theorem ty_boot (t : Ty) : bootBuiltins (t.nm : Str) = some (.type t.nm) := by
  cases t <;> decide +kernel
theorem ty_in (t : Ty) : (t.nm : Str) ∈ bltNames := by
  cases t <;> decide +kernel
theorem ty_plain (t : Ty) : ((t.nm : Str) == ("__debug__" : Str)) = false ∧ (t.nm : Str) ≠ ("__name__" : Str) := by
  cases t <;> decide +kernel
theorem snd_isi {C : Cfg} {t : Ty} {p p2 : Pos} (T : TopX X fa C k) (hg : Gl X "isinstance") (hg2 : Gl X (t.nm : Str)) (hs : notStar a' = true) (ha : PE X a' (tA X.K fa (ev cf gl a))) :
    PE X (.Call (.Name "isinstance" p) [a', .Name (t.nm : Str) p2] [] pos) (tA X.K fa (ev cf gl (.isi t a))) := by
  have q : starEach [.Name (t.nm : Str) p2] X.env = [(false, eval (.Name (t.nm : Str) p2) X.env)] := rfl
  refine PE.imp (pe_callB call_isi hg (T.blt _ (by decide +kernel)) boot_isinstance (pa_cons ha (pa_cons (pe_bltn (v := .ty t.nm) hg2 (T.blt _ (ty_in t)) (ty_boot t) rfl (ty_plain t).2 (ty_plain t).1) pa_nil) (star_cons hs)) (by decide +kernel) (by decide +kernel) (star_cons hs) rfl) fun σ H Q ⟨g, ρ, S, d, S', rs, er, e1, fin⟩ => ?_
  obtain ⟨x, c, e2, e3, rfl⟩ := ev_isi e1
  refine seq1 rs er e2 fun g' v H' x1 r1 er1 p1 => ?_
  obtain ⟨u, h1, h2⟩ := isi_ty p1 e3
  exact ⟨v, .ty t.nm, u, .type t.nm, c, rfl, .ty _, h1, h2, (fin.after x1).here r1 (.bl _)⟩
theorem snd_meth (hr : Room k X.A) {m : Me} {n : Str} {apos : Pos} (hm : m.nm = n) (hln : (apos.endLine == pos.line) = true) (hnc : notCall a' = true) (hfew : es'.length < 20) (hs : es'.all notStar = true)
    (ha : PE X a' (tA X.K fa (ev cf gl a))) (h : PA X es' (tAs X.K fa (evs cf gl es))) (hl : es.length = es'.length) : PE X (.Call (.Attribute a' n apos) es' [] pos) (tA X.K fa (ev cf gl (.meth m a es))) := by
  subst hm
  cases es' with
  | nil =>
    cases es with
    | cons _ _ => cases hl
    | nil =>
      refine PE.imp (pe_bm0 PySem.F.plainAttrs_list (me_slot m) (me_type m) (me_ok (fa := fa) (by have := hr.un; omega) m) ha (attr_base _ hnc) hln) fun σ H Q ⟨g, ρ, S, d, S', rs, er, e1, fin⟩ => ?_
      obtain ⟨x, S1, ds, S2, e2, e0, e3, e4⟩ := ev_meth e1
      simp only [evs] at e3
      cases e3
      exact seq1 rs er e2 fun g' v H' x1 r1 er1 p1 => ⟨me_ty r1 p1 e0, g', S1, x, [], d, S', r1, p1, .nil, e4, fin.after x1⟩
  | cons e' es' =>
    have hs' := hs
    rw [List.all_cons, Bool.and_eq_true] at hs
    refine PE.imp (pe_bm PySem.F.plainAttrs_list (me_slot m) (me_type m) (me_ok (fa := fa) (by have := hr.un; omega) m) ha h (attr_base _ hnc) ?_ hln (star_cons hs.1) (star_any pos X.env hs.2)) fun σ H Q ⟨g, ρ, S, d, S', rs, er, e1, fin⟩ => ?_
    · rw [star_all pos X.env hs']
      show (true && true && decide ((e' :: es').length + 0 + 0 < 30)) = true
      rw [decide_eq_true (by omega)]
      rfl
    · obtain ⟨x, S1, ds, S2, e2, e0, e3, e4⟩ := ev_meth e1
      exact seq1 rs er e2 fun g' v H' x1 r1 er1 p1 => ⟨me_ty r1 p1 e0, seqS r1 er1 e3 fun g2 vs H2 x2 r2 er2 p2 => ⟨g2, S2, x, ds, d, S', r2, p1.ext x2, p2, e4, fin.after (x1.trans x2)⟩⟩

end
end Ab

/-! Ab10: all expressions. -/
namespace Ab
open PySem PySem.Spec PyProof.Rows L2

section
variable {fa : Fa} {X : Cx} {cf : CallF} {gl : Str → Option D} {pos : Pos} {a b c : IE} {a' b' c' : Expr} {es : List IE} {es' : List Expr} {k : Nat}
/-! ### tests -/
theorem tst_no {e : Expr} {f : AEnv → Store → Option (Bool × Store)} (hf : ∀ ρ S, f ρ S = none) : PT X e (tT X.K fa f) := ⟨fun pins s σ H Q I ⟨g, ρ, S, b, S', rs, er, e1, fin⟩ => by rw [hf] at e1; cases e1⟩
theorem tst_not (ha : PT X a' (tT X.K fa (evT cf gl a))) : PT X (.UnaryOp .Not a' pos) (tT X.K fa (evT cf gl (.un .Not a))) :=
  PT.imp (pt_not ha) fun σ H Q ⟨g, ρ, S, b, S', rs, er, e1, fin⟩ => by
    simp only [evT] at e1
    split at e1
    · rename_i x S1 e2
      cases e1
      exact seqT rs er e2 fun g' H' x1 r1 er1 => fin g' H' x1 r1
    · cases e1
theorem tst_ite (hc : PT X c' (tT X.K fa (evT cf gl c))) (ha : PT X a' (tT X.K fa (evT cf gl a))) (hb : PT X b' (tT X.K fa (evT cf gl b))) : PT X (.IfExp c' a' b' pos) (tT X.K fa (evT cf gl (.ite c a b))) := by
  refine ⟨fun pins s σ H Q I ⟨g, ρ, S, t, S', rs, er, e1, fin⟩ => ?_⟩
  have arm : isTrue (.IfExp c' a' b' pos) X.env (eval (.IfExp c' a' b' pos) X.env) = (do if ← isTrue c' X.env (eval c' X.env) then isTrue a' X.env (eval a' X.env) else isTrue b' X.env (eval b' X.env)) := rfl
  rw [arm]
  simp only [evT] at e1
  split at e1
  · rename_i S1 e2
    refine wpAny_bind (thn (hc.run pins s σ H _ I (seqT rs er e2 (R := fun t H' => t = true ∧ tT X.K fa (evT cf gl a) σ H' Q) fun g' H' x1 r1 er1 => ⟨rfl, g', ρ, S1, t, S', r1, er1, e1, fun g2 H2 x2 r2 => fin g2 H2 (x1.trans x2) r2⟩)) fun t' s1 ⟨H1, I1, ht, q⟩ => ?_)
    subst ht
    exact ha.run pins s1 σ H1 Q I1 q
  · rename_i S1 e2
    refine wpAny_bind (thn (hc.run pins s σ H _ I (seqT rs er e2 (R := fun t H' => t = false ∧ tT X.K fa (evT cf gl b) σ H' Q) fun g' H' x1 r1 er1 => ⟨rfl, g', ρ, S1, t, S', r1, er1, e1, fun g2 H2 x2 r2 => fin g2 H2 (x1.trans x2) r2⟩)) fun t' s1 ⟨H1, I1, ht, q⟩ => ?_)
    subst ht
    exact hb.run pins s1 σ H1 Q I1 q
  · cases e1
theorem tst_var {i : Nat} {x : Str} (h : PE X (.Name x pos) (tA X.K fa (ev cf gl (.var i)))) : PT X (.Name x pos) (tT X.K fa (evT cf gl (.var i))) :=
  PT.imp (pt_truth h (by intro _; rfl)) fun σ H Q ⟨g, ρ, S, b, S', rs, er, e1, fin⟩ => by
    simp only [evT] at e1
    split at e1
    · rename_i d e2
      rw [Option.map_eq_some_iff] at e1
      obtain ⟨t, e3, e4⟩ := e1
      cases e4
      have e5 : ev cf gl (.var i) ρ S = some (d, S) := by simp only [ev, e2]
      exact seq1 rs er e5 fun g' v H' x1 r1 er1 p1 => ⟨_, truth_tru r1 p1 e3, fin g' H' x1 r1⟩
    · cases e1
theorem tst_cmp {op : CmpOp} (hr : Room k X.A) (hn : notSet b' = true) (ha : PE X a' (tA X.K fa (ev cf gl a))) (hb : PE X b' (tA X.K fa (ev cf gl b))) : PT X (.Compare a' [op] [b'] pos) (tT X.K fa (evT cf gl (.cmp op a b))) :=
  PT.imp (pt_cmpR (cmp_ok (fa := fa) op hr) ha hb (nomark_of hn)) fun σ H Q ⟨g, ρ, S, t, S', rs, er, e1, fin⟩ => by
    simp only [evT] at e1
    split at e1
    · rename_i x S1 e2
      split at e1
      · rename_i y S2 e3
        rw [Option.map_eq_some_iff] at e1
        obtain ⟨c, e4, e5⟩ := e1
        cases e5
        exact seq2 rs er e2 e3 fun g' v w H' x1 r1 er1 p1 p2 => ⟨g', S', x, y, t, r1, p1, p2, e4, fun r2 => ⟨t, rfl, fin g' H' x1 r2⟩⟩
      · cases e1
    · cases e1
theorem tst_chain {op op' : CmpOp} (hr : Room k X.A) (hn : notSet c' = true) (ha : PE X a' (tA X.K fa (ev cf gl a))) (hb : PE X b' (tA X.K fa (ev cf gl b))) (hc : PE X c' (tA X.K fa (ev cf gl c))) :
    PT X (.Compare a' [op, op'] [b', c'] pos) (tT X.K fa (evT cf gl (.chain op op' a b c))) :=
  PT.imp (pt_chain (cmp_ok (fa := fa) op hr) (cmp_ok (fa := fa) op' hr) ha hb hc (nomark2 hn)) fun σ H Q ⟨g, ρ, S, t, S', rs, er, e1, fin⟩ => by
    simp only [evT] at e1
    split at e1
    · rename_i x S1 e2
      split at e1
      · rename_i y S2 e3
        split at e1
        · rename_i e4
          split at e1
          · rename_i z S3 e5
            rw [Option.map_eq_some_iff] at e1
            obtain ⟨c, e6, e7⟩ := e1
            cases e7
            refine seq2 rs er e2 e3 fun g' v w H' x1 r1 er1 p1 p2 => ⟨g', S2, x, y, true, r1, p1, p2, e4, fun r2 => ⟨true, rfl, ?_⟩⟩
            rw [if_pos rfl]
            exact seq1 r2 er1 e5 fun g2 z' H2 x2 r3 er2 p3 => ⟨g2, S', y, z, t, r3, p2.ext x2, p3, e6, fun r4 => ⟨t, rfl, fin g2 H2 (x1.trans x2) r4⟩⟩
          · cases e1
        · rename_i e4
          cases e1
          refine seq2 rs er e2 e3 fun g' v w H' x1 r1 er1 p1 p2 => ⟨g', _, x, y, false, r1, p1, p2, e4, fun r2 => ⟨false, rfl, ?_⟩⟩
          rw [if_neg Bool.false_ne_true]
          exact ⟨false, rfl, fin g' H' x1 r2⟩
        · cases e1
      · cases e1
    · cases e1
/-- a value that is a bool, as a test -/
theorem tst_val {e : Expr} (h : PE X e (tA X.K fa (ev cf gl a))) (he : ∀ whole, isTrue e X.env whole = (do let v ← whole; standAt e.pos; holding [v] (truthy v)))
    (hf : ∀ ρ S t S', evT cf gl a ρ S = some (t, S') → ev cf gl a ρ S = some (.bl t, S')) : PT X e (tT X.K fa (evT cf gl a)) :=
  PT.imp (pt_val h he) fun σ H Q ⟨g, ρ, S, t, S', rs, er, e1, fin⟩ => seq1 rs er (hf _ _ _ _ e1) fun g' v H' x1 r1 er1 p1 => by
    cases p1
    exact ⟨t, rfl, fin g' H' x1 r1⟩
theorem tst_ix (h : PE X (.Subscript a' b' pos) (tA X.K fa (ev cf gl (.ix a b)))) : PT X (.Subscript a' b' pos) (tT X.K fa (evT cf gl (.ix a b))) :=
  PT.imp (pt_truth h (by intro _; rfl)) fun σ H Q ⟨g, ρ, S, t, S', rs, er, e1, fin⟩ => by
    simp only [evT] at e1
    split at e1
    · rename_i x S1 e2
      split at e1
      · rename_i y S2 e3
        split at e1
        · rename_i d e4
          rw [Option.map_eq_some_iff] at e1
          obtain ⟨c, e6, e7⟩ := e1
          cases e7
          have e5 : ev cf gl (.ix a b) ρ S = some (d, S') := by simp only [ev, e2, e3, e4, Option.map_some]
          exact seq1 rs er e5 fun g' v H' x1 r1 er1 p1 => ⟨t, truth_tru r1 p1 e6, fin g' H' x1 r1⟩
        · cases e1
      · cases e1
    · cases e1
theorem evT_call {f : Nat} (ρ : AEnv) (S : Store) (t : Bool) (S' : Store) (h : evT cf gl (.call f es) ρ S = some (t, S')) : ev cf gl (.call f es) ρ S = some (.bl t, S') := by
  simp only [evT] at h
  simp only [ev]
  split at h
  · rename_i ds S1 h1
    split at h
    · rename_i h2
      cases h
      exact h2
    · cases h
  · cases h
theorem evT_bi {f : Bi} (ρ : AEnv) (S : Store) (t : Bool) (S' : Store) (h : evT cf gl (.bi f es) ρ S = some (t, S')) : ev cf gl (.bi f es) ρ S = some (.bl t, S') := by
  simp only [evT] at h
  simp only [ev]
  split at h
  · rename_i ds S1 h1
    split at h
    · rename_i h2
      cases h
      simp only [h2, Option.map_some]
    · cases h
  · cases h
theorem evT_isi {f : Ty} (ρ : AEnv) (S : Store) (t : Bool) (S' : Store) (h : evT cf gl (.isi f a) ρ S = some (t, S')) : ev cf gl (.isi f a) ρ S = some (.bl t, S') := by
  simp only [evT] at h
  simp only [ev]
  split at h
  · rename_i ds S1 h1
    rw [Option.map_eq_some_iff] at h
    obtain ⟨c, e6, e7⟩ := h
    cases e7
    simp only [e6, Option.map_some]
  · cases h

/-! ### and, or -/
theorem bop_one {op : BoolOp} (h : PE X a' (tA X.K fa (ev cf gl a))) : PE X (.BoolOp op [a'] pos) (tA X.K fa (evB cf gl op [a])) :=
  PE.imp (pe_one h) fun σ H Q ⟨g, ρ, S, d, S', rs, er, e1, fin⟩ => ⟨g, ρ, S, d, S', rs, er, evB_one e1, fin⟩
theorem bop_cons {op : BoolOp} (h : PE X a' (tA X.K fa (ev cf gl a))) (h2 : PE X (.BoolOp op (b' :: es') pos) (tA X.K fa (evB cf gl op (b :: es)))) : PE X (.BoolOp op (a' :: b' :: es') pos) (tA X.K fa (evB cf gl op (a :: b :: es))) := by
  cases op with
  | And =>
    refine PE.imp (pe_and h h2) fun σ H Q ⟨g, ρ, S, d, S', rs, er, e1, fin⟩ => ?_
    obtain ⟨t, S1, e2, e3⟩ := evB_cons e1
    refine seq1 rs er e2 fun g' v H' x1 r1 er1 p1 => ?_
    cases p1
    refine ⟨t, rfl, ?_⟩
    rcases e3 with ⟨rfl, e3⟩ | ⟨rfl, rfl, rfl⟩
    · exact ⟨g', ρ, S1, d, S', r1, er1, e3, fin.after x1⟩
    · exact (fin.after x1).here r1 (.bl _)
  | Or =>
    refine PE.imp (pe_or h h2) fun σ H Q ⟨g, ρ, S, d, S', rs, er, e1, fin⟩ => ?_
    obtain ⟨t, S1, e2, e3⟩ := evB_cons e1
    refine seq1 rs er e2 fun g' v H' x1 r1 er1 p1 => ?_
    cases p1
    refine ⟨t, rfl, ?_⟩
    rcases e3 with ⟨rfl, e3⟩ | ⟨rfl, rfl, rfl⟩
    · exact ⟨g', ρ, S1, d, S', r1, er1, e3, fin.after x1⟩
    · exact (fin.after x1).here r1 (.bl _)
theorem bopT_one {op : BoolOp} (h : PT X a' (tT X.K fa (evT cf gl a))) : PW X (.BoolOp op [a'] pos) (tT X.K fa (evBT cf gl op [a])) := by
  have imp : ∀ σ H Q, tT X.K fa (evBT cf gl op [a]) σ H Q → tT X.K fa (evT cf gl a) σ H Q := fun σ H Q ⟨g, ρ, S, d, S', rs, er, e1, fin⟩ => ⟨g, ρ, S, d, S', rs, er, evBT_one e1, fin⟩
  cases op with
  | And => exact PW.imp (pw_and1 h) imp
  | Or => exact PW.imp (pw_or1 h) imp
theorem bopT_cons {op : BoolOp} (h : PT X a' (tT X.K fa (evT cf gl a))) (h2 : PW X (.BoolOp op (b' :: es') pos) (tT X.K fa (evBT cf gl op (b :: es)))) : PW X (.BoolOp op (a' :: b' :: es') pos) (tT X.K fa (evBT cf gl op (a :: b :: es))) := by
  cases op with
  | And =>
    refine PW.imp (pw_and h h2) fun σ H Q ⟨g, ρ, S, d, S', rs, er, e1, fin⟩ => ?_
    obtain ⟨t, S1, e2, e3⟩ := evBT_cons e1
    refine seqT rs er e2 fun g' H' x1 r1 er1 => ?_
    rcases e3 with ⟨rfl, e3⟩ | ⟨rfl, rfl, rfl⟩
    · exact iteT ⟨g', ρ, S1, d, S', r1, er1, e3, FinT.after fin x1⟩
    · exact iteF (fin g' H' x1 r1)
  | Or =>
    refine PW.imp (pw_or h h2) fun σ H Q ⟨g, ρ, S, d, S', rs, er, e1, fin⟩ => ?_
    obtain ⟨t, S1, e2, e3⟩ := evBT_cons e1
    refine seqT rs er e2 fun g' H' x1 r1 er1 => ?_
    rcases e3 with ⟨rfl, e3⟩ | ⟨rfl, rfl, rfl⟩
    · exact iteF ⟨g', ρ, S1, d, S', r1, er1, e3, FinT.after fin x1⟩
    · exact iteT (fin g' H' x1 r1)
/-! ### a clause's tests -/
theorem tsts_nil : PTs X [] (tT X.K fa (evTs cf gl [])) := ⟨fun pins s σ H Q I ⟨g, ρ, S, b, S', rs, er, e1, fin⟩ => pts_nil.run pins s σ H Q I (by
  simp only [evTs] at e1
  cases e1
  exact fin g H (Ext.refl g H) rs)⟩
theorem tsts_one (h : PT X a' (tT X.K fa (evT cf gl a))) : PTs X [a'] (tT X.K fa (evTs cf gl [a])) := ⟨fun pins s σ H Q I ⟨g, ρ, S, b, S', rs, er, e1, fin⟩ => (pts_one h).run pins s σ H Q I (by
  refine ⟨g, ρ, S, b, S', rs, er, ?_, fin⟩
  simp only [evTs] at e1
  split at e1
  · rename_i S1 h1
    cases e1
    exact h1
  · rename_i S1 h1
    cases e1
    exact h1
  · cases e1)⟩

/-! ### a block's context -/
theorem blk_ctx {C : Cfg} {sc scope : Scope} (hX : Ctx C k sc X) (s : Shared) (H : Hp) (Cc : Addr) (cl : List (Str × Addr)) (fp : List Addr) : Ctx C k (relS scope sc) (X.blk s H scope (compEnvC scope cl Cc X.env) fp) :=
  ⟨hX.N, hX.nd, hX.calm, hX.room, rfl, by rw [← hX.sc]; rfl⟩
theorem blk_st {scope : Scope} (s : Shared) (H : Hp) (Cc : Addr) (cl : List (Str × Addr)) (fp : List Addr) (x : Str) (h : locB scope x = true) :
    L2.Loc (X.blk s H scope (compEnvC scope cl Cc X.env) fp).env.scope x ∧ ((X.blk s H scope (compEnvC scope cl Cc X.env) fp).fn x = true ∨ (X.blk s H scope (compEnvC scope cl Cc X.env) fp).env.scope.names.lookup x = some .local) := by
  unfold locB at h
  have keep : ∀ {kk : NameKind}, kk ≠ .free → scope.names.lookup x = some kk → (X.blk s H scope (compEnvC scope cl Cc X.env) fp).env.scope.names.lookup x = some kk := fun hk e => lookup_relS_keep (sc := X.env.scope) hk e
  cases q : scope.names.lookup x with
  | none => rw [q] at h; cases h
  | some kk =>
    rw [q] at h
    cases kk with
    | «local» => exact ⟨.inl (keep (by decide) q), .inr (keep (by decide) q)⟩
    | cell => exact ⟨.inr (keep (by decide) q), .inl (by show (scope.names.lookup x == some .cell) = true; rw [q]; rfl)⟩
    | _ => cases h
theorem own_names {N : List Str} {own : List Nat} : (ownN N own).map (·.2) = own := by
  unfold ownN
  rw [List.map_map]
  show own.map (fun i => i) = own
  rw [List.map_id']
end

/-! ### what a comprehension's rule asks -/
structure LcH (X : Cx) (fa : Fa) (cf : CallF) (gl : Str → Option D) (own : List Nat) (tg : Tg) (rg : Bool) (it ifs : List IE) (elt : IE) (elt' tg' iter' : Expr) (ifs' : List Expr) (scope : Scope) : Prop where
  calm : X.calm = true
  nd : X.N.Nodup
  pi : PI X tg' iter' (iA X.K fa (evs cf gl it) rg)
  blk : BlkOk X.N X.env.scope scope (ownN X.N own)
  sl : tg.slots.all (own.contains ·) = true
  pg : ∀ (s : Shared) (H : Hp) (C : Addr) (cl : List (Str × Addr)) (fp : List Addr), PG (X.blk s H scope (compEnvC scope cl C X.env) fp) tg' (tG X.K fa tg)
  pt : ∀ (s : Shared) (H : Hp) (C : Addr) (cl : List (Str × Addr)) (fp : List Addr), PTs (X.blk s H scope (compEnvC scope cl C X.env) fp) ifs' (tT X.K fa (evTs cf gl ifs))
  pe : ∀ (s : Shared) (H : Hp) (C : Addr) (cl : List (Str × Addr)) (fp : List Addr), PE (X.blk s H scope (compEnvC scope cl C X.env) fp) elt' (tA X.K fa (ev cf gl elt))
  fs : ∀ x, foldedSetIterable iter' X.env x = pure x
theorem LcH.ok {X : Cx} {fa : Fa} {cf : CallF} {gl : Str → Option D} {own : List Nat} {tg : Tg} {rg : Bool} {it ifs : List IE} {elt : IE} {elt' tg' iter' : Expr} {ifs' : List Expr} {scope : Scope} {pos : Pos}
    (h : LcH X fa cf gl own tg rg it ifs elt elt' tg' iter' ifs' scope) : PE X (.ListComp elt' [⟨tg', iter', ifs', 0⟩] scope pos) (tL X.K fa (ev cf gl (.lc own tg rg it ifs elt))) :=
  PE.imp (pe_lc h.calm h.nd h.pi h.blk h.pg h.pt h.pe h.fs) fun σ H Q q => by
    rw [own_names]
    exact lc_imp h.sl q

/-! ### all expressions -/
section
variable {fa : Fa} {C : Cfg} {k : Nat}
theorem lc_lst {cf : CallF} {gl : Str → Option D} {own : List Nat} {tg : Tg} {rg : Bool} {it ifs : List IE} {elt : IE} (ρ : AEnv) (S : Store) (d : D) (S' : Store) (h : ev cf gl (.lc own tg rg it ifs elt) ρ S = some (d, S')) : ∃ ds, d = .lst ds := by
  obtain ⟨_, _, _, ys, _, _, _, e⟩ := ev_lc h
  exact ⟨ys, e⟩
/-- what is walked -/
theorem pi_of {X : Cx} {sc : Scope} {rg : Bool} {it : List IE} {tg' iter' : Expr} (hX : Ctx C k sc X) (T : TopX X fa C k) {es' : List Expr} (he : iterArgs sc rg iter' = some es') (hm : mEs C sc it es' = true)
    (hPA : PA X es' (tAs X.K fa (evs (call C.T C.gl k) C.gl it))) (hPE : ∀ a, it = [a] → rg = false → PE X iter' (tA X.K fa (ev (call C.T C.gl k) C.gl a))) : PI X tg' iter' (iA X.K fa (evs (call C.T C.gl k) C.gl it) rg) := by
  cases rg with
  | true =>
    unfold iterArgs at he
    split at he
    · rename_i x p es'' pos h0
      split at he
      · rename_i hc
        cases he
        simp only [Bool.and_eq_true, decide_eq_true_eq] at hc
        obtain ⟨hx, hg, hl⟩ := hc
        subst hx
        rw [← hX.sc] at hg
        have hst := mEs_star hm
        have hlen := mEs_len hm
        rcases hl with hl | hl
        · cases es' with
          | nil => cases hl
          | cons a r =>
            cases r with
            | cons _ _ => cases hl
            | nil =>
              rw [List.all_cons, Bool.and_eq_true] at hst
              exact pi_r1 (gl_of hg) (T.blt _ (by decide +kernel)) hst.1 (hlen.trans hl) hPA
        · cases es' with
          | nil => cases hl
          | cons a r =>
            cases r with
            | nil => cases hl
            | cons b r =>
              cases r with
              | cons _ _ => cases hl
              | nil =>
                rw [List.all_cons, Bool.and_eq_true, List.all_cons, Bool.and_eq_true] at hst
                exact pi_r2 (gl_of hg) (T.blt _ (by decide +kernel)) hst.1 hst.2.1 (hlen.trans hl) hPA
      · cases he
    · contradiction
    · contradiction
    · cases he
  | false =>
    have hl : es'.length = 1 := by
      unfold iterArgs at he
      split at he
      · contradiction
      · cases he
      · cases he; rfl
      · cases he
    have hlen := (mEs_len hm).trans hl
    cases it with
    | nil => cases hlen
    | cons a r =>
      cases r with
      | cons _ _ => cases hlen
      | nil => exact pi_val (hPE a rfl rfl)
end
end Ab

/-! Ab10b: dicts and sets. -/
namespace Ab
open PySem PySem.Spec PyProof.Rows L2
/-! ### entries -/
section
variable {K : PySem.W.Frag} {fa : Fa} {g : G} {H : Hp}
theorem KD.at_ {i : Int} : ∀ {xs : List (NestedKey × D)} {ys : List (Key × V)}, KD K fa g H xs ys → (∀ d, kAt xs (.num i) = some d → ∃ v, valV ys (.inl i) = some v ∧ Rep K fa g H d v) ∧ (kAt xs (.num i) = none → valV ys (.inl i) = none)
  | _, _, .nil => ⟨(fun d h => nomatch h), fun _ => rfl⟩
  | _, _, .cons (i := j) (d := d0) (v := v0) r t => by
    by_cases e : j = i
    · subst e
      refine ⟨fun d h => ?_, fun h => ?_⟩
      · simp only [kAt, List.find?_cons, decide_true, Option.map_some] at h
        cases h
        exact ⟨v0, valV_pos rfl, r⟩
      · simp only [kAt, List.find?_cons, decide_true, Option.map_some] at h
        cases h
    · have e1 : ¬ ((NestedKey.num j) = NestedKey.num i) := fun z => e (by injection z)
      have e2 : ¬ ((Sum.inl j : Key) = Sum.inl i) := fun z => e (by injection z)
      have ih := KD.at_ (i := i) t
      refine ⟨fun d h => ?_, fun h => ?_⟩
      · simp only [kAt, List.find?_cons, e1, decide_false] at h
        obtain ⟨v, h1, h2⟩ := ih.1 d h
        exact ⟨v, by rw [valV_neg e2]; exact h1, h2⟩
      · simp only [kAt, List.find?_cons, e1, decide_false] at h
        rw [valV_neg e2]
        exact ih.2 h
theorem XD.at_ {k : NestedKey} : ∀ {xs : List (NestedKey × D)} {ys : List (NestedKey × Addr × V)}, XD K fa g H xs ys → (∀ d, kAt xs k = some d → ∃ v, atX ys k = some v ∧ Rep K fa g H d v) ∧ (kAt xs k = none → atX ys k = none)
  | _, _, .nil => ⟨(fun d h => nomatch h), fun _ => rfl⟩
  | _, _, .cons (k := j) (d := d0) (v := v0) r t => by
    by_cases e : j = k
    · subst e
      refine ⟨fun d h => ?_, fun h => ?_⟩
      · simp only [kAt, List.find?_cons, decide_true, Option.map_some] at h
        cases h
        exact ⟨v0, by simp [atX, List.find?_cons], r⟩
      · simp only [kAt, List.find?_cons, decide_true, Option.map_some] at h
        cases h
    · have ih := XD.at_ (k := k) t
      refine ⟨fun d h => ?_, fun h => ?_⟩
      · simp only [kAt, List.find?_cons, e, decide_false] at h
        obtain ⟨v, h1, h2⟩ := ih.1 d h
        refine ⟨v, ?_, h2⟩
        simp only [atX, List.find?_cons, e, decide_false] at h1 ⊢
        exact h1
      · simp only [kAt, List.find?_cons, e, decide_false] at h
        have := ih.2 h
        simp only [atX, List.find?_cons, e, decide_false] at this ⊢
        exact this
theorem KD.isSome {i : Int} {xs : List (NestedKey × D)} {ys : List (Key × V)} (h : KD K fa g H xs ys) : (kAt xs (.num i)).isSome = (valV ys (.inl i)).isSome := by
  cases q : kAt xs (.num i) with
  | none => rw [h.at_.2 q] <;> rfl
  | some d =>
    obtain ⟨v, h1, _⟩ := h.at_.1 d q
    rw [h1] <;> rfl
theorem XD.isSome {k : NestedKey} {xs : List (NestedKey × D)} {ys : List (NestedKey × Addr × V)} (h : XD K fa g H xs ys) : (kAt xs k).isSome = (atX ys k).isSome := by
  cases q : kAt xs k with
  | none => rw [h.at_.2 q] <;> rfl
  | some d =>
    obtain ⟨v, h1, _⟩ := h.at_.1 d q
    rw [h1] <;> rfl
theorem KD.length : ∀ {xs : List (NestedKey × D)} {ys : List (Key × V)}, KD K fa g H xs ys → xs.length = ys.length
  | _, _, .nil => rfl
  | _, _, .cons _ t => congrArg Nat.succ (KD.length t)
theorem XD.length : ∀ {xs : List (NestedKey × D)} {ys : List (NestedKey × Addr × V)}, XD K fa g H xs ys → xs.length = ys.length
  | _, _, .nil => rfl
  | _, _, .cons _ t => congrArg Nat.succ (XD.length t)
theorem KD.snoc {i : Int} {d : D} {v : V} (r : Rep K fa g H d v) : ∀ {xs : List (NestedKey × D)} {ys : List (Key × V)}, KD K fa g H xs ys → KD K fa g H (xs ++ [(.num i, d)]) (ys ++ [(.inl i, v)])
  | _, _, .nil => .cons r .nil
  | _, _, .cons r' t => .cons r' (KD.snoc r t)
theorem XD.snoc {k : NestedKey} {b : Addr} {d : D} {v : V} (r : Rep K fa g H d v) : ∀ {xs : List (NestedKey × D)} {ys : List (NestedKey × Addr × V)}, XD K fa g H xs ys → XD K fa g H (xs ++ [(k, d)]) (ys ++ [(k, b, v)])
  | _, _, .nil => .cons r .nil
  | _, _, .cons r' t => .cons r' (XD.snoc r t)
theorem KD.repl {i : Int} {d : D} {v : V} (r : Rep K fa g H d v) : ∀ {xs : List (NestedKey × D)} {ys : List (Key × V)}, KD K fa g H xs ys → KD K fa g H (xs.map fun p => if p.1 = .num i then (p.1, d) else p) (ys.map fun kv => if kv.1 = .inl i then (kv.1, v) else kv)
  | _, _, .nil => .nil
  | _, _, .cons (i := j) r' t => by
    by_cases e : j = i
    · subst e
      simp only [List.map_cons, if_true]
      exact .cons r (KD.repl r t)
    · have e1 : ¬ ((NestedKey.num j) = NestedKey.num i) := fun z => e (by injection z)
      have e2 : ¬ ((Sum.inl j : Key) = Sum.inl i) := fun z => e (by injection z)
      simp only [List.map_cons, e1, e2, if_false]
      exact .cons r' (KD.repl r t)
theorem XD.repl {k : NestedKey} {d : D} {v : V} (r : Rep K fa g H d v) : ∀ {xs : List (NestedKey × D)} {ys : List (NestedKey × Addr × V)}, XD K fa g H xs ys → XD K fa g H (xs.map fun p => if p.1 = k then (p.1, d) else p) (ys.map fun x => if x.1 = k then (x.1, x.2.1, v) else x)
  | _, _, .nil => .nil
  | _, _, .cons (k := j) r' t => by
    by_cases e : j = k
    · subst e
      simp only [List.map_cons, if_true]
      exact .cons r (XD.repl r t)
    · simp only [List.map_cons, e, if_false]
      exact .cons r' (XD.repl r t)
theorem KD.put {i : Int} {d : D} {v : V} (r : Rep K fa g H d v) {xs : List (NestedKey × D)} {ys : List (Key × V)} (h : KD K fa g H xs ys) : KD K fa g H (kPut xs (.num i) d) (putK ys (.inl i) v) := by
  unfold kPut putK
  have e : (ys.any fun kv => decide (kv.1 = .inl i)) = (kAt xs (.num i)).isSome := by rw [valV_any, h.isSome]
  rw [e]
  split
  · exact h.repl r
  · exact h.snoc r
theorem XD.put {k : NestedKey} {b : Addr} {d : D} {v : V} (r : Rep K fa g H d v) {xs : List (NestedKey × D)} {ys : List (NestedKey × Addr × V)} (h : XD K fa g H xs ys) : XD K fa g H (kPut xs k d) (putX ys k b v) := by
  unfold kPut putX
  rw [h.isSome]
  split
  · exact h.repl r
  · exact h.snoc r
theorem KeysOk.put {k : NestedKey} {b : Addr} {v : V} {ys : List (NestedKey × Addr × V)} (h : KeysOk K H ys) (kb : NkV K H k (.ref b)) (kd : k.depth ≤ 8) : KeysOk K H (putX ys k b v) := by
  unfold putX
  split
  · intro x hx
    obtain ⟨y, hy, e⟩ := List.mem_map.mp hx
    split at e
    · subst e
      exact h y hy
    · subst e
      exact h y hy
  · intro x hx
    rcases List.mem_append.mp hx with hx | hx
    · exact h x hx
    · rw [List.mem_singleton] at hx
      subst hx
      exact ⟨kb, kd⟩
/-- what a key of that kind is -/
theorem dKey_inv {t emp t' : Bool} {y : D} {k : NestedKey} (h : dKey t emp y = some (t', k)) : (∃ i, y = .int i ∧ k = .num i ∧ t' = false ∧ (t = true → emp = true)) ∨ (∃ ds ks, y = .tup ds ∧ D.nks ds = some ks ∧ k = .tup ks ∧ k.depth ≤ 8 ∧ t = true ∧ t' = true) := by
  unfold dKey at h
  split at h
  · rename_i i
    split at h
    · cases h
    · rename_i hc
      cases h
      refine .inl ⟨i, rfl, rfl, rfl, fun ht => ?_⟩
      subst ht
      simpa using hc
  · rename_i ds
    split at h
    · rename_i ht
      split at h
      · rename_i ks hks
        split at h
        · rename_i hd
          cases h
          exact .inr ⟨ds, ks, rfl, hks, rfl, hd, ht, rfl⟩
        · cases h
      · cases h
    · cases h
  · cases h
theorem dicOf_inv {S : Store} {x : D} {v : V} {t : Bool} {kvs : List (NestedKey × D)} (r : RelS K fa g S H) (h : dicOf S x = some (t, kvs)) (p : Rep K fa g H x v) : ∃ a rr, x = .ref rr ∧ v = .ref a ∧ g.m[rr]? = some a ∧ S[rr]? = some (.dic t kvs) ∧ ORep K fa g H a (.dic t kvs) := by
  unfold dicOf at h
  split at h
  · rename_i rr
    split at h
    · rename_i t2 kvs2 e
      cases h
      cases p with
      | @ref a i hm =>
        obtain ⟨a', h1, h2⟩ := r.addr e
        rw [hm] at h1
        cases h1
        exact ⟨a, rr, rfl, rfl, hm, e, h2⟩
    · cases h
  · cases h
/-- an empty dict of no ints -/
theorem XD.nil_inv {ys : List (NestedKey × Addr × V)} {xs : List (NestedKey × D)} (h : XD K fa g H xs ys) (e : xs.isEmpty = true) : xs = [] ∧ ys = [] := by
  cases h with
  | nil => exact ⟨rfl, rfl⟩
  | cons _ _ => cases e
end
section
variable {fa : Fa} {X : Cx} {cf : CallF} {gl : Str → Option D} {pos : Pos} {a b c e : IE} {a' b' c' e' : Expr} {es : List IE} {es' : List Expr} {k : Nat} {C : Cfg}
theorem nosl_of {e : Expr} (h : notSlice e = true) : NoSl e := by
  intro ov iv
  cases e <;> first | rfl | cases h
theorem snd_rev {st : Expr} {p2 : Pos} (hm : isM1 st = true) (ha : PE X a' (tA X.K fa (ev cf gl a))) : PE X (.Subscript a' (.Slice none none (some st) p2) pos) (tA X.K fa (ev cf gl (.rev a))) := by
  unfold isM1 at hm
  split at hm
  · rename_i j u p p3
    have hj := of_decide_eq_true hm
    subst hj
    refine PE.imp (pe_revA ha) fun σ H Q ⟨g, ρ, S, d, S', rs, er, e1, fin⟩ => ?_
    simp only [ev] at e1
    split at e1
    · rename_i x S1 e2
      rw [Option.map_eq_some_iff] at e1
      obtain ⟨d', e3, e4⟩ := e1
      cases e4
      refine seq1 rs er e2 fun g' v H' x1 r1 er1 p1 => ?_
      unfold dRev at e3
      split at e3
      · rename_i ds
        cases e3
        obtain ⟨ad, vs, rfl, h1, h2⟩ := p1.tup_inv
        exact ⟨ad, vs, rfl, .inr ⟨h1, fun p hp => (fin.after x1).tup r1 h2.reverse hp⟩⟩
      · rename_i hne
        rw [Option.map_eq_some_iff] at e3
        obtain ⟨ds, e5, e6⟩ := e3
        subst e6
        obtain ⟨ad, vs, rfl, h1, h2⟩ := items_sqL r1 e5 p1 fun xs z => hne xs z
        exact ⟨ad, vs, rfl, .inl ⟨h1, fun p hp => (fin.after x1).lst r1 h2.reverse hp⟩⟩
    · cases e1
  · cases hm
theorem snd_dget (T : TopX X fa C k) (hr : Room k X.A) (hn : notSlice b' = true) (ha : PE X a' (tA X.K fa (ev cf gl a))) (hb : PE X b' (tA X.K fa (ev cf gl b))) : PE X (.Subscript a' b' pos) (tA X.K fa (ev cf gl (.dget a b))) := by
  have hu : X.A.units + 64 < cLine := by have := hr.un; omega
  obtain ⟨tp, tw⟩ := T.pw
  refine ⟨fun pins s σ H Q I ⟨g, ρ, S, d, S', rs, er, e1, fin⟩ => ?_⟩
  simp only [ev] at e1
  split at e1
  · rename_i x S1 e2
    split at e1
    · rename_i y S2 e3
      split at e1
      · rename_i d' e4
        cases e1
        refine subD_of PySem.F.slot_dict_getitem.lookup (nosl_of hn) (thn (ha.run pins s σ H _ I (seq1 rs er e2 (R := fun v H1 => ∃ g1, Ext g H g1 H1 ∧ RelS X.K fa g1 S1 H1 ∧ ERel X.K fa g1 H1 ρ σ ∧ Rep X.K fa g1 H1 x v) fun g1 v H1 x1 r1 er1 p1 => ⟨g1, x1, r1, er1, p1⟩)) fun u s1 ⟨v, H1, I1, r1, g1, x1, rs1, er1, p1⟩ =>
          thn (hb.run pins s1 σ H1 _ I1 (seq1 rs1 er1 e3 (R := fun w H2 => ∃ g2, Ext g1 H1 g2 H2 ∧ RelS X.K fa g2 S' H2 ∧ Rep X.K fa g2 H2 y w) fun g2 w H2 x2 r2 er2 p2 => ⟨g2, x2, r2, p2⟩)) fun iv s2 ⟨w, H2, I2, r2, g2, x2, rs2, p2⟩ => ?_)
        have p1 := p1.ext x2
        have fin2 := fin.after (x1.trans x2)
        unfold dicLook at e4
        split at e4
        · rename_i t kvs hdo
          split at e4
          · rename_i t' kk hk
            have e4 : kAt kvs kk = some d := Option.some.inj e4
            obtain ⟨ad, rr, rfl, rfl, hm, hS, ho⟩ := dicOf_inv rs2 hdo p1
            obtain rfl : u = Value.ref ad := r1
            rcases dKey_inv hk with ⟨i, rfl, rfl, rfl, hemp⟩ | ⟨ds, ks, rfl, hks, rfl, hd8, rfl, rfl⟩
            · cases t with
              | true =>
                have := hemp rfl
                cases kvs with
                | nil => cases e4
                | cons _ _ => cases this
              | false =>
                obtain ⟨ys, h1, h2⟩ := ho
                obtain ⟨v', h3, h4⟩ := h2.at_.1 d e4
                cases p2
                have gd : DGet H2 ad (kV (.inl i)) (some v') := by
                  rw [← h3]
                  exact DGet.k h1
                exact ⟨dict_typeIs I2 gd, d_getItem (by omega) I2 gd r2 fun w' s' I' rw' => ⟨v', H2, I', rw', fin2.here rs2 h4⟩⟩
            · obtain ⟨xs, h1, h2, h3⟩ := ho
              obtain ⟨v', h4, h5⟩ := h3.at_.1 d e4
              rw [tp, tw] at h1
              obtain ⟨bd, vs, rfl, hT, hR⟩ := p2.tup_inv
              obtain rfl : iv = Value.ref bd := r2
              exact ⟨dicX_typeIs I2 h1, dx_get hu I2 h1 h2 (Rep.nk (k := .tup ks) p2 (by simp only [D.nk, hks, Option.map_some])) hd8 h4 (fin2.here rs2 h5)⟩
          · cases e4
        · cases e4
      · cases e1
    · cases e1
  · cases e1
/-! ### tests -/
def rDin (K : PySem.W.Frag) (fa : Fa) (neg : Bool) : R2 := fun y x H Q => ∃ g S dy dx o, RelS K fa g S H ∧ Rep K fa g H dy y ∧ Rep K fa g H dx x ∧ dicLook S dx dy = some o ∧ Q (.bl (neg != o.isSome)) H
theorem op_din (T : TopX X fa C k) (hr : Room k X.A) (neg : Bool) : OpR X (compareOp (if neg then .NotIn else .In)) (rDin X.K fa neg) := by
  have hu : X.A.units + 64 < cLine := by have := hr.un; omega
  obtain ⟨tp, tw⟩ := T.pw
  intro pins s σ H y x u v Q I ry rx ⟨g, S, dy, dx, o, rs, py, px, e, q⟩
  unfold dicLook at e
  split at e
  · rename_i t kvs hdo
    split at e
    · rename_i t' kk hk
      have e : kAt kvs kk = o := Option.some.inj e
      obtain ⟨ad, rr, rfl, rfl, hm, hS, ho⟩ := dicOf_inv rs hdo px
      obtain rfl : v = Value.ref ad := rx
      rcases dKey_inv hk with ⟨i, rfl, rfl, rfl, hemp⟩ | ⟨ds, ks, rfl, hks, rfl, hd8, rfl, rfl⟩
      · cases py
        cases t with
        | true =>
          obtain ⟨xs, h1, h2, h3⟩ := ho
          obtain ⟨e1, e2⟩ := h3.nil_inv (hemp rfl)
          subst e1 e2
          rw [tp, tw] at h1
          have e' : o = none := e.symm
          subst e'
          cases neg
          · exact dx0_in I h1 ry q
          · exact dx0_notin I h1 ry q
        | false =>
          obtain ⟨ys, h1, h2⟩ := ho
          have hs := h2.isSome (i := i)
          rw [e] at hs
          have gd : DGet H ad (kV (.inl i)) (valV ys (.inl i)) := DGet.k h1
          cases neg
          · refine d_in (by omega) I gd ry fun s' I' => ⟨.bl _, H, I', rfl, ?_⟩
            rw [← hs]
            simpa using q
          · refine d_notIn (by omega) I gd ry fun s' I' => ⟨.bl _, H, I', rfl, ?_⟩
            rw [← hs]
            simpa using q
      · obtain ⟨xs, h1, h2, h3⟩ := ho
        rw [tp, tw] at h1
        have hs := h3.isSome (k := .tup ks)
        rw [e] at hs
        have kn := Rep.nk (k := .tup ks) py (by simp only [D.nk, hks, Option.map_some])
        obtain ⟨bd, vs, rfl, hT, hR⟩ := py.tup_inv
        obtain rfl : u = Value.ref bd := ry
        cases neg
        · refine dx_in hu I h1 h2 kn hd8 ?_
          rw [← hs]
          simpa using q
        · refine dx_notin hu I h1 h2 kn hd8 ?_
          rw [← hs]
          simpa using q
    · cases e
  · cases e
theorem tst_din (T : TopX X fa C k) (hr : Room k X.A) {neg : Bool} {op : CmpOp} (hop : op = if neg then .NotIn else .In) (hn : notSet a' = true) (hb : PE X b' (tA X.K fa (ev cf gl b))) (ha : PE X a' (tA X.K fa (ev cf gl a))) :
    PT X (.Compare b' [op] [a'] pos) (tT X.K fa (evT cf gl (.din neg b a))) := by
  subst hop
  refine PT.imp (pt_cmpR (op_din (fa := fa) T hr neg) hb ha (nomark_of hn)) fun σ H Q ⟨g, ρ, S, t, S', rs, er, e1, fin⟩ => ?_
  simp only [evT] at e1
  split at e1
  · rename_i y S1 e2
    split at e1
    · rename_i x S2 e3
      rw [Option.map_eq_some_iff] at e1
      obtain ⟨o, e4, e5⟩ := e1
      cases e5
      exact seq2 rs er e2 e3 fun g' v w H' x1 r1 er1 p1 p2 => ⟨g', S', y, x, o, r1, p1, p2, e4, _, rfl, fin g' H' x1 r1⟩
    · cases e1
  · cases e1
def rSin (K : PySem.W.Frag) (fa : Fa) (neg : Bool) : R2 := fun y x H Q => ∃ g S i dx ns, RelS K fa g S H ∧ y = .int i ∧ Rep K fa g H dx x ∧ setOf S dx = some ns ∧ Q (.bl (neg != ns.contains i)) H
theorem setOf_inv {K : PySem.W.Frag} {g : G} {H : Hp} {S : Store} {x : D} {v : V} {ns : List Int} (r : RelS K fa g S H) (h : setOf S x = some ns) (p : Rep K fa g H x v) : ∃ a rr, x = .ref rr ∧ v = .ref a ∧ g.m[rr]? = some a ∧ S[rr]? = some (.set ns) ∧ ORep K fa g H a (.set ns) := by
  unfold setOf at h
  split at h
  · rename_i rr
    split at h
    · rename_i ns2 e
      cases h
      cases p with
      | @ref a i hm =>
        obtain ⟨a', h1, h2⟩ := r.addr e
        rw [hm] at h1
        cases h1
        exact ⟨a, rr, rfl, rfl, hm, e, h2⟩
    · cases h
  · cases h
theorem op_sin (neg : Bool) : OpR X (compareOp (if neg then .NotIn else .In)) (rSin X.K fa neg) := by
  intro pins s σ H y x u v Q I ry rx ⟨g, S, i, dx, ns, rs, py, px, e, q⟩
  subst py
  obtain ⟨ad, rr, rfl, rfl, hm, hS, sf, h1, h2⟩ := setOf_inv rs e px
  obtain rfl : v = Value.ref ad := rx
  cases neg
  · refine si_in I h1 ry ?_
    rw [h2]
    simpa using q
  · refine si_notin I h1 ry ?_
    rw [h2]
    simpa using q
theorem tst_sin {neg : Bool} {op : CmpOp} (hop : op = if neg then .NotIn else .In) (hn : notSet a' = true) (hb : PE X b' (tA X.K fa (ev cf gl b))) (ha : PE X a' (tA X.K fa (ev cf gl a))) :
    PT X (.Compare b' [op] [a'] pos) (tT X.K fa (evT cf gl (.sin neg b a))) := by
  subst hop
  refine PT.imp (pt_cmpR (op_sin (fa := fa) neg) hb ha (nomark_of hn)) fun σ H Q ⟨g, ρ, S, t, S', rs, er, e1, fin⟩ => ?_
  simp only [evT] at e1
  split at e1
  · rename_i n S1 e2
    split at e1
    · rename_i x S2 e3
      rw [Option.map_eq_some_iff] at e1
      obtain ⟨o, e4, e5⟩ := e1
      cases e5
      exact seq2 rs er e2 e3 fun g' v w H' x1 r1 er1 p1 p2 => ⟨g', S', n, x, o, r1, p1.int_inv, p2, e4, _, rfl, fin g' H' x1 r1⟩
    · cases e1
  · cases e1
/-! ### len(d), len(set(xs)), s.add(x) -/
def rDlen (K : PySem.W.Frag) (fa : Fa) : List V → Hp → VK → Prop := fun vs H Q => ∃ g S x v t kvs, vs = [v] ∧ RelS K fa g S H ∧ Rep K fa g H x v ∧ dicOf S x = some (t, kvs) ∧ Q (.int ((kvs.length : Nat) : Int)) H
theorem cr_dlen (T : TopX X fa C k) : CallR X (.builtin "len") (rDlen X.K fa) := by
  obtain ⟨tp, tw⟩ := T.pw
  intro pins s σ H vs us Q I r ⟨g, S, x, v, t, kvs, e, rs, p, hd, q⟩
  subst e
  obtain ⟨ad, rr, rfl, rfl, hm, hS, ho⟩ := dicOf_inv rs hd p
  rw [Vals.ref1 r]
  cases t with
  | true =>
    obtain ⟨xs, h1, h2, h3⟩ := ho
    rw [tp, tw] at h1
    refine dx_len I h1 h2 ?_
    rw [← h3.length]
    exact q
  | false =>
    obtain ⟨ys, h1, h3⟩ := ho
    refine d_len I (.inl h1) fun t s' I' => ⟨.int _, H, I', ⟨t, rfl⟩, ?_⟩
    rw [← h3.length]
    exact q
theorem snd_dlen {p : Pos} (T : TopX X fa C k) (hg : Gl X "len") (hs : notStar a' = true) (ha : PE X a' (tA X.K fa (ev cf gl a))) : PE X (.Call (.Name "len" p) [a'] [] pos) (tA X.K fa (ev cf gl (.dlen a))) :=
  PE.imp (pe_callB (cr_dlen (fa := fa) T) hg (T.blt _ (by decide +kernel)) boot_len (pa_cons' hs ha (pa_nil' (cf := cf) (gl := gl))) (by decide +kernel) (by decide +kernel) (star_cons hs) rfl) fun σ H Q ⟨g, ρ, S, d, S', rs, er, e1, fin⟩ => by
    simp only [ev] at e1
    split at e1
    · rename_i x S1 e2
      rw [Option.map_eq_some_iff] at e1
      obtain ⟨o, e4, e5⟩ := e1
      cases e5
      have e5 : evs cf gl [a] ρ S = some ([x], S') := by
        simp only [evs, e2]
      refine seqS rs er e5 fun g' vs H' x1 r1 er1 p1 => ?_
      obtain ⟨v, rfl, p2⟩ := p1.one_inv
      exact ⟨g', S', x, v, o.1, o.2, rfl, r1, p2, e4, (fin.after x1).here r1 (.int _)⟩
    · cases e1
theorem firstMet_dist (ns : List Int) : ∀ i, i ≤ ns.length → firstMet (fun i => ns.getD i 0) i = dist (ns.take i)
  | 0, _ => rfl
  | i + 1, hi => by
    have hlt : i < ns.length := hi
    rw [firstMet_succ, firstMet_dist ns i (Nat.le_of_lt hlt), List.take_succ, List.getElem?_eq_getElem hlt]
    unfold dist
    rw [List.foldl_append]
    show step_dedup _ _ = addTo _ _
    unfold step_dedup addTo
    have e : ns.getD i 0 = ns[i] := by rw [List.getD_eq_getElem?_getD, List.getElem?_eq_getElem hlt] <;> rfl
    rw [e, ← List.any_beq' ]
theorem snd_slen {p p2 q : Pos} (T : TopX X fa C k) (hc : X.calm = true) (hg : Gl X "len") (hg2 : Gl X "set") (hs : notStar a' = true) (ha : PE X a' (tA X.K fa (ev cf gl a))) :
    PE X (.Call (.Name "len" p) [.Call (.Name "set" p2) [a'] [] q] [] pos) (tA X.K fa (ev cf gl (.slen a))) :=
  PE.imp (pe_slen hg (T.blt _ (by decide +kernel)) hg2 (T.blt _ (by decide +kernel)) ha hc (star_cons hs)) fun σ H Q ⟨g, ρ, S, d, S', rs, er, e1, fin⟩ => by
    simp only [ev] at e1
    split at e1
    · rename_i x S1 e2
      split at e1
      · rename_i ds e3
        split at e1
        · rename_i ns e4
          split at e1
          · rename_i hl
            cases e1
            refine seq1 rs er e2 fun g' v H' x1 r1 er1 p1 => ?_
            obtain ⟨ad, vs, rfl, h1, h2⟩ := listOf_sq r1 e3 p1
            have := h2.ints_inv e4
            subst this
            refine ⟨ad, ns, rfl, .inl (.inl h1), by omega, ?_⟩
            rw [firstMet_dist ns ns.length (Nat.le_refl _), List.take_length]
            exact (fin.after x1).here r1 (.int _)
          · cases e1
        · cases e1
      · cases e1
    · cases e1
theorem addTo_rep {ns : List Int} {s : Int → Bool} (h : ∀ k, s k = ns.contains k) (n : Int) : (if s n = true then ns.length else ns.length + 1) = (addTo ns n).length ∧ ∀ k, (s k || decide (k = n)) = (addTo ns n).contains k := by
  unfold addTo
  rw [h n]
  by_cases c : ns.contains n = true
  · rw [if_pos c, if_pos c]
    refine ⟨rfl, fun k => ?_⟩
    rw [h k]
    by_cases e : k = n
    · subst e
      rw [c]
      rfl
    · simp [e]
  · rw [if_neg c, if_neg c]
    refine ⟨by simp, fun k => ?_⟩
    rw [h k, List.contains_eq_any_beq, List.contains_eq_any_beq, List.any_append]
    congr 1
    by_cases e : k = n <;> simp [e]
theorem snd_sadd {apos : Pos} (hln : (apos.endLine == pos.line) = true) (hnc : notCall a' = true) (hs : notStar b' = true) (ha : PE X a' (tA X.K fa (ev cf gl a))) (hb : PE X b' (tA X.K fa (ev cf gl b))) :
    PE X (.Call (.Attribute a' "add" apos) [b'] [] pos) (tA X.K fa (ev cf gl (.sadd a b))) := by
  refine PE.imp (pe_bm PySem.F.plainAttrs_set PySem.F.slot_set_add PySem.F.type_set_add (mt_si (X := X)) ha (pa_cons' hs hb (pa_nil' (cf := cf) (gl := gl))) (attr_base _ hnc) ?_ hln (star_cons hs) rfl) fun σ H Q ⟨g, ρ, S, d, S', rs, er, e1, fin⟩ => ?_
  · rw [star_all pos X.env (es := [b']) (by rw [List.all_cons, hs]; rfl)]
    rfl
  · simp only [ev] at e1
    split at e1
    · rename_i r S1 e2
      split at e1
      · rename_i ns0 e0
        split at e1
        · rename_i n S2 e3
          split at e1
          · rename_i ns e4
            split at e1
            · rename_i hl
              cases e1
              refine seq1 rs er e2 fun g1 v H1 x1 r1 er1 p1 => ?_
              obtain ⟨ad, rr, er2, rfl, hm, hS, sf0, h1, h2⟩ := setOf_inv (x := .ref r) (ns := ns0) r1 (by simp only [setOf, e0]) p1
              refine ⟨.inr (.inr (.inr ⟨rfl, _, _, h1⟩)), ?_⟩
              have e5 : evs cf gl [b] ρ S1 = some ([.int n], S2) := by
                simp only [evs, e3]
              refine seqS r1 er1 e5 fun g2 vs H2 x2 r2 er2 p2 => ?_
              obtain ⟨w, rfl, p3⟩ := p2.one_inv
              have p3 := p3.int_inv
              subst p3
              obtain ⟨ad2, rr2, erz, ev2, hm2, hS2, sf, h3, h4⟩ := setOf_inv (x := .ref r) (ns := ns) r2 (by simp only [setOf, e4]) (p1.ext x2)
              cases ev2
              cases erz
              obtain ⟨k1, k2⟩ := addTo_rep h4 n
              refine ⟨ad, n, sf, ns.length, rfl, rfl, h3, by show ns.length + 1 < scanBound; unfold scanBound; omega, ?_⟩
              refine (fin.after (x1.trans x2)) g2 _ _ (r2.setExtO hm2 h3 rfl) (r2.setO hm2 h3 rfl ⟨_, ?_, k2⟩) .non
              rw [upd_same, k1]
            · cases e1
          · cases e1
        · cases e1
      · cases e1
    · cases e1
end
end Ab

/-! Ab11: evaluation is sound. -/
namespace Ab
open PySem PySem.Spec PyProof.Rows L2
section
variable {fa : Fa} {C : Cfg} {k : Nat}
mutual
theorem sE : ∀ (ie : IE) (e : Expr) (sc : Scope) (X : Cx), Ctx C k sc X → TopX X fa C k → mE C sc ie e = true → PE X e (tA X.K fa (ev (call C.T C.gl k) C.gl ie))
  | .lit d, e, sc, X, hX, T, h => by
    cases e with
    | Constant v j pos =>
      cases d with
      | int i => cases v with
        | int i' =>
          have : i = i' := by simpa [mE] using h
          subst this
          exact snd_lit (fun g H => .int i) pe_int
        | _ => simp [mE] at h
      | bl i => cases v with
        | bool i' =>
          have : i = i' := by simpa [mE] using h
          subst this
          exact snd_lit (fun g H => .bl i) pe_bl
        | _ => simp [mE] at h
      | non => cases v with
        | none => exact snd_lit (fun g H => .non) pe_non
        | _ => simp [mE] at h
      | str i => cases v with
        | str i' =>
          have : i = i' := by simpa [mE] using h
          subst this
          exact snd_lit (fun g H => .str i) pe_str
        | _ => simp [mE] at h
      | _ => simp [mE] at h
    | _ => simp [mE] at h
  | .var i, e, sc, X, hX, T, h => by
    cases e with
    | Name x pos =>
      simp only [mE, Bool.and_eq_true, decide_eq_true_eq] at h
      obtain ⟨h1, h2, h3⟩ := plain_of h.2.2
      exact snd_var (by rw [hX.N]; exact h.1) (by rw [hX.sc]; exact vis_of h.2.1) h1 h2
    | _ => simp [mE] at h
  | .glob x, e, sc, X, hX, T, h => by
    cases e with
    | Name y pos =>
      simp only [mE, Bool.and_eq_true, decide_eq_true_eq] at h
      obtain ⟨rfl, hg, hp⟩ := h
      obtain ⟨h1, h2, h3⟩ := plain_of hp
      cases q : C.gl x with
      | none => exact ⟨fun pins s σ H Q I ⟨g, ρ, S, d, S', rs, er, e1, fin⟩ => by
          simp only [ev, q, Option.map_none] at e1
          cases e1⟩
      | some d =>
        obtain ⟨v, u, k1, k2, k3⟩ := T.gl x d q
        rw [← hX.sc] at hg
        exact snd_glob (gl_of hg) k1 k2 k3 q h1
    | _ => simp [mE] at h
  | .tup es, e, sc, X, hX, T, h => by
    cases e with
    | Tuple es' n pos => exact snd_tup (sEs es es' sc X hX T (by simpa only [mE] using h))
    | _ => simp [mE] at h
  | .lst es, e, sc, X, hX, T, h => by
    cases e with
    | List es' pos => exact tA_L (fun ρ S d S' q => by obtain ⟨ds, _, _, e⟩ := ev_lst q; exact ⟨ds, e⟩) (snd_lst (sEs es es' sc X hX T (by simpa only [mE] using h)))
    | _ => simp [mE] at h
  | .bin op a b, e, sc, X, hX, T, h => by
    cases e with
    | BinOp a' op' b' pos =>
      simp only [mE, Bool.and_eq_true, decide_eq_true_eq] at h
      obtain ⟨rfl, h1, h2⟩ := h
      exact snd_bin (sE a a' sc X hX T h1) (sE b b' sc X hX T h2)
    | _ => simp [mE] at h
  | .un op a, e, sc, X, hX, T, h => by
    cases e with
    | UnaryOp op' a' pos =>
      simp only [mE, Bool.and_eq_true, decide_eq_true_eq] at h
      obtain ⟨rfl, h1⟩ := h
      by_cases hop : op = .Not
      · subst hop
        exact snd_not (sE a a' sc X hX T h1)
      · exact snd_un hop (sE a a' sc X hX T h1)
    | _ => simp [mE] at h
  | .bop op es, e, sc, X, hX, T, h => by
    cases e with
    | BoolOp op' es' pos =>
      simp only [mE, Bool.and_eq_true, decide_eq_true_eq] at h
      obtain ⟨rfl, h1⟩ := h
      exact PE.imp (sB es es' op pos sc X hX T h1) fun σ H Q ⟨g, ρ, S, d, S', rs, er, e1, fin⟩ => ⟨g, ρ, S, d, S', rs, er, by simpa only [ev] using e1, fin⟩
    | _ => simp [mE] at h
  | .cmp op a b, e, sc, X, hX, T, h => by
    cases e with
    | Compare a' ops bs pos =>
      cases ops with
      | nil => simp [mE] at h
      | cons op' r =>
        cases bs with
        | nil => cases r <;> simp [mE] at h
        | cons b' r2 =>
          cases r with
          | cons _ _ => cases r2 <;> simp [mE] at h
          | nil =>
            cases r2 with
            | cons _ _ => simp [mE] at h
            | nil =>
              simp only [mE, Bool.and_eq_true, decide_eq_true_eq] at h
              obtain ⟨rfl, h0, h1, h2⟩ := h
              exact snd_cmp hX.room h0 (sE a a' sc X hX T h1) (sE b b' sc X hX T h2)
    | _ => simp [mE] at h
  | .chain op1 op2 a b c, e, sc, X, hX, T, h => by
    cases e with
    | Compare a' ops bs pos =>
      match ops, bs, h with
      | [o1, o2], [b', c'], h =>
        simp only [mE, Bool.and_eq_true, decide_eq_true_eq] at h
        obtain ⟨rfl, rfl, h0, h1, h2, h3⟩ := h
        exact snd_chain hX.room h0 (sE a a' sc X hX T h1) (sE b b' sc X hX T h2) (sE c c' sc X hX T h3)
      | [], _, h => simp [mE] at h
      | [_], _, h => simp [mE] at h
      | _ :: _ :: _ :: _, _, h => simp [mE] at h
      | [_, _], [], h => simp [mE] at h
      | [_, _], [_], h => simp [mE] at h
      | [_, _], _ :: _ :: _ :: _, h => simp [mE] at h
    | _ => simp [mE] at h
  | .ite c a b, e, sc, X, hX, T, h => by
    cases e with
    | IfExp c' a' b' pos =>
      simp only [mE, Bool.and_eq_true, decide_eq_true_eq] at h
      exact snd_ite (sT c c' sc X hX T h.1) (sE a a' sc X hX T h.2.1) (sE b b' sc X hX T h.2.2)
    | _ => simp [mE] at h
  | .ix a b, e, sc, X, hX, T, h => by
    cases e with
    | Subscript a' b' pos =>
      simp only [mE, Bool.and_eq_true, decide_eq_true_eq] at h
      exact snd_ix h.1 (sE a a' sc X hX T h.2.1) (sE b b' sc X hX T h.2.2)
    | _ => simp [mE] at h
  | .slc a lo hi, e, sc, X, hX, T, h => by
    cases e with
    | Subscript a' s pos =>
      cases s with
      | Slice lo' hi' st p2 =>
        cases st with
        | some _ => simp [mE] at h
        | none =>
          simp only [mE, Bool.and_eq_true, decide_eq_true_eq] at h
          exact snd_slc (sE a a' sc X hX T h.1) (sO lo lo' sc X hX T h.2.1) (sO hi hi' sc X hX T h.2.2)
      | _ => simp [mE] at h
    | _ => simp [mE] at h
  | .call f es, e, sc, X, hX, T, h => by
    cases e with
    | Call fn es' kws pos =>
      cases kws with
      | cons _ _ => cases fn <;> simp [mE] at h
      | nil =>
        cases fn with
        | Name x p =>
          simp only [mE, Bool.and_eq_true] at h
          obtain ⟨h0, hg, hp, hne, h1⟩ := h
          cases q : C.T f with
          | none => rw [q] at h0; cases h0
          | some fd =>
            rw [q] at h0
            rw [← hX.sc] at hg
            exact snd_call T hX.room q (of_decide_eq_true (Bool.and_eq_true_iff.mp h0).1) (of_decide_eq_true (Bool.and_eq_true_iff.mp h0).2) (gl_of hg) (plain_of hp).1 (fun z => by rw [z] at hne; cases hne) (mEs_star h1) (mEs_len h1) (sEs es es' sc X hX T h1) rfl
        | _ => simp [mE] at h
    | _ => simp [mE] at h
  | .bi b es, e, sc, X, hX, T, h => by
    cases e with
    | Call fn es' kws pos =>
      cases kws with
      | cons _ _ => cases fn <;> simp [mE] at h
      | nil =>
        cases fn with
        | Name x p =>
          simp only [mE, Bool.and_eq_true, Bool.or_eq_true, decide_eq_true_eq] at h
          obtain ⟨rfl, hgc, hg, hne, h1⟩ := h
          rw [← hX.sc] at hg
          exact snd_bi T hX.calm hgc (gl_of hg) (fun z => by rw [z] at hne; cases hne) (mEs_star h1) (mEs_len h1) (sEs es es' sc X hX T h1)
        | _ => simp [mE] at h
    | _ => simp [mE] at h
  | .isi t a, e, sc, X, hX, T, h => by
    cases e with
    | Call fn es' kws pos =>
      cases kws with
      | cons _ _ => cases fn <;> simp [mE] at h
      | nil =>
        cases fn with
        | Name x p =>
          match es', h with
          | [a', .Name y p2], h =>
            simp only [mE, Bool.and_eq_true, decide_eq_true_eq] at h
            obtain ⟨rfl, rfl, hg, hg2, hs, h1⟩ := h
            rw [← hX.sc] at hg hg2
            exact snd_isi T (gl_of hg) (gl_of hg2) hs (sE a a' sc X hX T h1)
          | [], h => simp [mE] at h
          | [_], h => simp [mE] at h
          | _ :: _ :: _ :: _, h => simp [mE] at h
        | _ => simp [mE] at h
    | _ => simp [mE] at h
  | .meth m o es, e, sc, X, hX, T, h => by
    cases e with
    | Call fn es' kws pos =>
      cases kws with
      | cons _ _ => cases fn <;> simp [mE] at h
      | nil =>
        cases fn with
        | Attribute o' n apos =>
          simp only [mE, Bool.and_eq_true, decide_eq_true_eq] at h
          obtain ⟨h1, h2, h3, h4, h5, h6⟩ := h
          exact snd_meth hX.room h1 h2 h3 h4 (mEs_star h6) (sE o o' sc X hX T h5) (sEs es es' sc X hX T h6) (mEs_len h6)
        | _ => simp [mE] at h
    | _ => simp [mE] at h
  | .list1 a, e, sc, X, hX, T, h => by
    cases e with
    | Call fn es' kws pos =>
      cases kws with
      | cons _ _ => cases fn <;> simp [mE] at h
      | nil =>
        cases fn with
        | Name x p =>
          match es', h with
          | [a'], h =>
            simp only [mE, Bool.and_eq_true, decide_eq_true_eq] at h
            obtain ⟨rfl, hg, hs, h1⟩ := h
            rw [← hX.sc] at hg
            exact tA_L (fun ρ S d S' q => by obtain ⟨_, ds, _, _, e⟩ := ev_list1 q; exact ⟨ds, e⟩) (snd_list1 T (gl_of hg) hs (sE a a' sc X hX T h1))
          | [], h => simp [mE] at h
          | _ :: _ :: _, h => simp [mE] at h
        | _ => simp [mE] at h
    | _ => simp [mE] at h
  | .lc own tg rg it ifs elt, e, sc, X, hX, T, h => by
    cases e with
    | ListComp elt' gens scope pos =>
      match gens, h with
      | [⟨tg', iter', ifs', asy⟩], h =>
        simp only [mE, Bool.and_eq_true, decide_eq_true_eq] at h
        obtain ⟨rfl, hb, hs, hi, hsl, hg, hifs, hl, helt⟩ := h
        cases q : iterArgs sc rg iter' with
        | none => rw [q] at hi; cases hi
        | some es' =>
          rw [q] at hi
          refine tA_L lc_lst (LcH.ok ⟨hX.calm, by rw [hX.N]; exact hX.nd, pi_of hX T q hi (sEs it es' sc X hX T hi) (fun a ha hr => ?_), ?_, hsl, fun s H Cc cl fp => ?_, fun s H Cc cl fp => ?_, fun s H Cc cl fp => ?_, folded_of hs⟩)
          · exact sIt it a ha iter' es' sc X hX T hi (by
              subst hr
              unfold iterArgs at q
              split at q
              · contradiction
              · cases q
              · cases q; rfl
              · cases q)
          · rw [hX.N, hX.sc]
            exact blkOk_by hb
          · exact sG (X := X.blk s H scope (compEnvC scope cl Cc X.env) fp) hX.N hX.nd hX.calm (blk_st s H Cc cl fp) tg tg' hg
          · exact sTs ifs ifs' (relS scope sc) _ (blk_ctx hX s H Cc cl fp) T hifs hl
          · exact sE elt elt' (relS scope sc) _ (blk_ctx hX s H Cc cl fp) T helt
      | [], h => simp [mE] at h
      | _ :: _ :: _, h => simp [mE] at h
    | _ => simp [mE] at h
  | .rev a, e, sc, X, hX, T, h => by
    cases e with
    | Subscript a' s pos =>
      cases s with
      | Slice lo' hi' st p2 =>
        cases lo' with
        | some _ => simp [mE] at h
        | none =>
          cases hi' with
          | some _ => simp [mE] at h
          | none =>
            cases st with
            | none => simp [mE] at h
            | some st =>
              simp only [mE, Bool.and_eq_true] at h
              exact snd_rev h.1 (sE a a' sc X hX T h.2)
      | _ => simp [mE] at h
    | _ => simp [mE] at h
  | .dget a b, e, sc, X, hX, T, h => by
    cases e with
    | Subscript a' b' pos =>
      simp only [mE, Bool.and_eq_true] at h
      exact snd_dget T hX.room h.1 (sE a a' sc X hX T h.2.1) (sE b b' sc X hX T h.2.2)
    | _ => simp [mE] at h
  | .din _ _ _, e, sc, X, hX, T, h => ⟨fun pins s σ H Q I ⟨g, ρ, S, d, S', rs, er, e1, fin⟩ => by simp only [ev] at e1; cases e1⟩
  | .sin _ _ _, e, sc, X, hX, T, h => ⟨fun pins s σ H Q I ⟨g, ρ, S, d, S', rs, er, e1, fin⟩ => by simp only [ev] at e1; cases e1⟩
  | .dlen a, e, sc, X, hX, T, h => by
    cases e with
    | Call fn es' kws pos =>
      cases kws with
      | cons _ _ => cases fn <;> simp [mE] at h
      | nil =>
        cases fn with
        | Name x p =>
          match es', h with
          | [a'], h =>
            simp only [mE, Bool.and_eq_true, decide_eq_true_eq] at h
            obtain ⟨rfl, hg, hs, h1⟩ := h
            rw [← hX.sc] at hg
            exact snd_dlen T (gl_of hg) hs (sE a a' sc X hX T h1)
          | [], h => simp [mE] at h
          | _ :: _ :: _, h => simp [mE] at h
        | _ => simp [mE] at h
    | _ => simp [mE] at h
  | .sadd o i, e, sc, X, hX, T, h => by
    cases e with
    | Call fn es' kws pos =>
      cases kws with
      | cons _ _ => cases fn <;> simp [mE] at h
      | nil =>
        cases fn with
        | Attribute o' n apos =>
          match es', h with
          | [i'], h =>
            simp only [mE, Bool.and_eq_true, decide_eq_true_eq] at h
            obtain ⟨rfl, h2, h3, h4, h5, h6⟩ := h
            exact snd_sadd h2 h3 h4 (sE o o' sc X hX T h5) (sE i i' sc X hX T h6)
          | [], h => simp [mE] at h
          | _ :: _ :: _, h => simp [mE] at h
        | _ => simp [mE] at h
    | _ => simp [mE] at h
  | .slen a, e, sc, X, hX, T, h => by
    unfold mE at h
    split at h <;> first | contradiction | skip
    rename_i heq
    cases heq
    simp only [Bool.and_eq_true, decide_eq_true_eq] at h
    obtain ⟨rfl, rfl, hg, hg2, hs, h1⟩ := h
    rw [← hX.sc] at hg hg2
    exact snd_slen T hX.calm (gl_of hg) (gl_of hg2) hs (sE a _ sc X hX T h1)
  | .bad, e, sc, X, hX, T, h => ⟨fun pins s σ H Q I ⟨g, ρ, S, d, S', rs, er, e1, fin⟩ => by simp only [ev] at e1; cases e1⟩
theorem sIt : ∀ (it : List IE) (a : IE), it = [a] → ∀ (e : Expr) (es' : List Expr) (sc : Scope) (X : Cx), Ctx C k sc X → TopX X fa C k → mEs C sc it es' = true → es' = [e] → PE X e (tA X.K fa (ev (call C.T C.gl k) C.gl a))
  | [], _, q, _, _, _, _, _, _, _, _ => by cases q
  | b :: r, a, q, e, es', sc, X, hX, T, h, he => by
    subst he
    simp only [mEs, Bool.and_eq_true] at h
    have : b = a := by cases q; rfl
    rw [← this]
    exact sE b e sc X hX T h.2.1
theorem sEs : ∀ (es : List IE) (es' : List Expr) (sc : Scope) (X : Cx), Ctx C k sc X → TopX X fa C k → mEs C sc es es' = true → PA X es' (tAs X.K fa (evs (call C.T C.gl k) C.gl es))
  | [], [], sc, X, hX, T, h => pa_nil'
  | [], _ :: _, sc, X, hX, T, h => by simp [mEs] at h
  | _ :: _, [], sc, X, hX, T, h => by simp [mEs] at h
  | a :: es, e :: es', sc, X, hX, T, h => by
    simp only [mEs, Bool.and_eq_true] at h
    exact pa_cons' h.1 (sE a e sc X hX T h.2.1) (sEs es es' sc X hX T h.2.2)
theorem sB : ∀ (es : List IE) (es' : List Expr) (op : BoolOp) (pos : Pos) (sc : Scope) (X : Cx), Ctx C k sc X → TopX X fa C k → mEs C sc es es' = true → PE X (.BoolOp op es' pos) (tA X.K fa (evB (call C.T C.gl k) C.gl op es))
  | [], es', op, pos, sc, X, hX, T, h => ⟨fun pins s σ H Q I ⟨g, ρ, S, d, S', rs, er, e1, fin⟩ => by simp only [evB] at e1; cases e1⟩
  | _ :: _, [], op, pos, sc, X, hX, T, h => by simp [mEs] at h
  | [a], [e], op, pos, sc, X, hX, T, h => by
    simp only [mEs, Bool.and_eq_true] at h
    exact bop_one (sE a e sc X hX T h.2.1)
  | [a], e :: _ :: _, op, pos, sc, X, hX, T, h => by simp [mEs] at h
  | a :: b :: es, [e], op, pos, sc, X, hX, T, h => by simp [mEs] at h
  | a :: b :: es, e :: e2 :: es', op, pos, sc, X, hX, T, h => by
    rw [mEs.eq_def] at h
    dsimp only at h
    simp only [Bool.and_eq_true] at h
    exact bop_cons (sE a e sc X hX T h.2.1) (sB (b :: es) (e2 :: es') op pos sc X hX T h.2.2)
theorem sT : ∀ (ie : IE) (e : Expr) (sc : Scope) (X : Cx), Ctx C k sc X → TopX X fa C k → mE C sc ie e = true → PT X e (tT X.K fa (evT (call C.T C.gl k) C.gl ie))
  | .lit d, e, sc, X, hX, T, h => tst_no fun ρ S => by simp only [evT]
  | .var i, e, sc, X, hX, T, h => by
    cases e with
    | Name x pos =>
      simp only [mE, Bool.and_eq_true, decide_eq_true_eq] at h
      obtain ⟨h1, h2, h3⟩ := plain_of h.2.2
      exact tst_var (snd_var (by rw [hX.N]; exact h.1) (by rw [hX.sc]; exact vis_of h.2.1) h1 h2)
    | _ => simp [mE] at h
  | .glob x, e, sc, X, hX, T, h => tst_no fun ρ S => by simp only [evT]
  | .tup es, e, sc, X, hX, T, h => tst_no fun ρ S => by simp only [evT]
  | .lst es, e, sc, X, hX, T, h => tst_no fun ρ S => by simp only [evT]
  | .bin op a b, e, sc, X, hX, T, h => tst_no fun ρ S => by simp only [evT]
  | .un op a, e, sc, X, hX, T, h => by
    by_cases hop : op = .Not
    · subst hop
      cases e with
      | UnaryOp op' a' pos =>
        simp only [mE, Bool.and_eq_true, decide_eq_true_eq] at h
        obtain ⟨rfl, h1⟩ := h
        exact tst_not (sT a a' sc X hX T h1)
      | _ => simp [mE] at h
    · exact tst_no fun ρ S => by cases op <;> first | exact absurd rfl hop | simp only [evT]
  | .bop op es, e, sc, X, hX, T, h => by
    cases e with
    | BoolOp op' es' pos =>
      simp only [mE, Bool.and_eq_true, decide_eq_true_eq] at h
      obtain ⟨rfl, h1⟩ := h
      cases es with
      | nil =>
        cases es' with
        | cons _ _ => simp [mEs] at h1
        | nil =>
          refine ⟨fun pins s σ H Q I ⟨g, ρ, S, t, S', rs, er, e1, fin⟩ => ?_⟩
          simp only [evT, evBT] at e1
          cases e1
          have q := fin g H (Ext.refl g H) rs
          cases op with
          | And => exact isTrue_and_nil ⟨H, I, q⟩
          | Or => exact isTrue_or_nil ⟨H, I, q⟩
      | cons a r => exact PT.imp (sBT (a :: r) es' op pos sc X hX T h1 (by simp)).pt fun σ H Q ⟨g, ρ, S, d, S', rs, er, e1, fin⟩ => ⟨g, ρ, S, d, S', rs, er, by rw [evT] at e1; exact e1, fin⟩
    | _ => simp [mE] at h
  | .cmp op a b, e, sc, X, hX, T, h => by
    cases e with
    | Compare a' ops bs pos =>
      match ops, bs, h with
      | [o1], [b'], h =>
        simp only [mE, Bool.and_eq_true, decide_eq_true_eq] at h
        obtain ⟨rfl, h0, h1, h2⟩ := h
        exact tst_cmp hX.room h0 (sE a a' sc X hX T h1) (sE b b' sc X hX T h2)
      | [], _, h => simp [mE] at h
      | [_], [], h => simp [mE] at h
      | [_], _ :: _ :: _, h => simp [mE] at h
      | _ :: _ :: _, _, h => simp [mE] at h
    | _ => simp [mE] at h
  | .chain op1 op2 a b c, e, sc, X, hX, T, h => by
    cases e with
    | Compare a' ops bs pos =>
      match ops, bs, h with
      | [o1, o2], [b', c'], h =>
        simp only [mE, Bool.and_eq_true, decide_eq_true_eq] at h
        obtain ⟨rfl, rfl, h0, h1, h2, h3⟩ := h
        exact tst_chain hX.room h0 (sE a a' sc X hX T h1) (sE b b' sc X hX T h2) (sE c c' sc X hX T h3)
      | [], _, h => simp [mE] at h
      | [_], _, h => simp [mE] at h
      | _ :: _ :: _ :: _, _, h => simp [mE] at h
      | [_, _], [], h => simp [mE] at h
      | [_, _], [_], h => simp [mE] at h
      | [_, _], _ :: _ :: _ :: _, h => simp [mE] at h
    | _ => simp [mE] at h
  | .ite c a b, e, sc, X, hX, T, h => by
    cases e with
    | IfExp c' a' b' pos =>
      simp only [mE, Bool.and_eq_true, decide_eq_true_eq] at h
      exact tst_ite (sT c c' sc X hX T h.1) (sT a a' sc X hX T h.2.1) (sT b b' sc X hX T h.2.2)
    | _ => simp [mE] at h
  | .ix a b, e, sc, X, hX, T, h => by
    cases e with
    | Subscript a' b' pos =>
      simp only [mE, Bool.and_eq_true, decide_eq_true_eq] at h
      exact tst_ix (snd_ix h.1 (sE a a' sc X hX T h.2.1) (sE b b' sc X hX T h.2.2))
    | _ => simp [mE] at h
  | .slc a lo hi, e, sc, X, hX, T, h => tst_no fun ρ S => by simp only [evT]
  | .call f es, e, sc, X, hX, T, h => by
    cases e with
    | Call fn es' kws pos =>
      cases kws with
      | cons _ _ => cases fn <;> simp [mE] at h
      | nil =>
        cases fn with
        | Name x p =>
          simp only [mE, Bool.and_eq_true] at h
          obtain ⟨h0, hg, hp, hne, h1⟩ := h
          cases q : C.T f with
          | none => rw [q] at h0; cases h0
          | some fd =>
            rw [q] at h0
            rw [← hX.sc] at hg
            exact tst_val (snd_call T hX.room q (of_decide_eq_true (Bool.and_eq_true_iff.mp h0).1) (of_decide_eq_true (Bool.and_eq_true_iff.mp h0).2) (gl_of hg) (plain_of hp).1 (fun z => by rw [z] at hne; cases hne) (mEs_star h1) (mEs_len h1) (sEs es es' sc X hX T h1) rfl) (by intro _; rfl) evT_call
        | _ => simp [mE] at h
    | _ => simp [mE] at h
  | .bi b es, e, sc, X, hX, T, h => by
    cases e with
    | Call fn es' kws pos =>
      cases kws with
      | cons _ _ => cases fn <;> simp [mE] at h
      | nil =>
        cases fn with
        | Name x p =>
          simp only [mE, Bool.and_eq_true, Bool.or_eq_true, decide_eq_true_eq] at h
          obtain ⟨rfl, hgc, hg, hne, h1⟩ := h
          rw [← hX.sc] at hg
          exact tst_val (snd_bi T hX.calm hgc (gl_of hg) (fun z => by rw [z] at hne; cases hne) (mEs_star h1) (mEs_len h1) (sEs es es' sc X hX T h1)) (by intro _; rfl) evT_bi
        | _ => simp [mE] at h
    | _ => simp [mE] at h
  | .isi t a, e, sc, X, hX, T, h => by
    cases e with
    | Call fn es' kws pos =>
      cases kws with
      | cons _ _ => cases fn <;> simp [mE] at h
      | nil =>
        cases fn with
        | Name x p =>
          match es', h with
          | [a', .Name y p2], h =>
            simp only [mE, Bool.and_eq_true, decide_eq_true_eq] at h
            obtain ⟨rfl, rfl, hg, hg2, hs, h1⟩ := h
            rw [← hX.sc] at hg hg2
            exact tst_val (snd_isi T (gl_of hg) (gl_of hg2) hs (sE a a' sc X hX T h1)) (by intro _; rfl) evT_isi
          | [], h => simp [mE] at h
          | [_], h => simp [mE] at h
          | _ :: _ :: _ :: _, h => simp [mE] at h
        | _ => simp [mE] at h
    | _ => simp [mE] at h
  | .meth m o es, e, sc, X, hX, T, h => tst_no fun ρ S => by simp only [evT]
  | .list1 a, e, sc, X, hX, T, h => tst_no fun ρ S => by simp only [evT]
  | .lc own tg rg it ifs elt, e, sc, X, hX, T, h => tst_no fun ρ S => by simp only [evT]
  | .rev a, e, sc, X, hX, T, h => tst_no fun ρ S => by simp only [evT]
  | .dget a b, e, sc, X, hX, T, h => tst_no fun ρ S => by simp only [evT]
  | .dlen a, e, sc, X, hX, T, h => tst_no fun ρ S => by simp only [evT]
  | .sadd a b, e, sc, X, hX, T, h => tst_no fun ρ S => by simp only [evT]
  | .slen a, e, sc, X, hX, T, h => tst_no fun ρ S => by simp only [evT]
  | .din neg i a, e, sc, X, hX, T, h => by
    cases e with
    | Compare i' ops bs pos =>
      match ops, bs, h with
      | [o1], [a'], h =>
        simp only [mE, Bool.and_eq_true, decide_eq_true_eq] at h
        exact tst_din T hX.room h.1 h.2.1 (sE i i' sc X hX T h.2.2.1) (sE a a' sc X hX T h.2.2.2)
      | [], _, h => simp [mE] at h
      | [_], [], h => simp [mE] at h
      | [_], _ :: _ :: _, h => simp [mE] at h
      | _ :: _ :: _, _, h => simp [mE] at h
    | _ => simp [mE] at h
  | .sin neg i a, e, sc, X, hX, T, h => by
    cases e with
    | Compare i' ops bs pos =>
      match ops, bs, h with
      | [o1], [a'], h =>
        simp only [mE, Bool.and_eq_true, decide_eq_true_eq] at h
        exact tst_sin h.1 h.2.1 (sE i i' sc X hX T h.2.2.1) (sE a a' sc X hX T h.2.2.2)
      | [], _, h => simp [mE] at h
      | [_], [], h => simp [mE] at h
      | [_], _ :: _ :: _, h => simp [mE] at h
      | _ :: _ :: _, _, h => simp [mE] at h
    | _ => simp [mE] at h
  | .bad, e, sc, X, hX, T, h => tst_no fun ρ S => by simp only [evT]
theorem sBT : ∀ (es : List IE) (es' : List Expr) (op : BoolOp) (pos : Pos) (sc : Scope) (X : Cx), Ctx C k sc X → TopX X fa C k → mEs C sc es es' = true → es ≠ [] → PW X (.BoolOp op es' pos) (tT X.K fa (evBT (call C.T C.gl k) C.gl op es))
  | [], es', op, pos, sc, X, hX, T, h, hne => absurd rfl hne
  | _ :: _, [], op, pos, sc, X, hX, T, h, _ => by simp [mEs] at h
  | [a], [e], op, pos, sc, X, hX, T, h, _ => by
    simp only [mEs, Bool.and_eq_true] at h
    exact bopT_one (sT a e sc X hX T h.2.1)
  | [a], e :: _ :: _, op, pos, sc, X, hX, T, h, _ => by simp [mEs] at h
  | a :: b :: es, [e], op, pos, sc, X, hX, T, h, _ => by simp [mEs] at h
  | a :: b :: es, e :: e2 :: es', op, pos, sc, X, hX, T, h, _ => by
    rw [mEs.eq_def] at h
    dsimp only at h
    simp only [Bool.and_eq_true] at h
    exact bopT_cons (sT a e sc X hX T h.2.1) (sBT (b :: es) (e2 :: es') op pos sc X hX T h.2.2 (by simp))
theorem sTs : ∀ (es : List IE) (es' : List Expr) (sc : Scope) (X : Cx), Ctx C k sc X → TopX X fa C k → mEs C sc es es' = true → es.length ≤ 1 → PTs X es' (tT X.K fa (evTs (call C.T C.gl k) C.gl es))
  | [], [], sc, X, hX, T, h, _ => tsts_nil
  | [], _ :: _, sc, X, hX, T, h, _ => by simp [mEs] at h
  | _ :: _, [], sc, X, hX, T, h, _ => by simp [mEs] at h
  | [a], [e], sc, X, hX, T, h, _ => by
    simp only [mEs, Bool.and_eq_true] at h
    exact tsts_one (sT a e sc X hX T h.2.1)
  | [a], e :: _ :: _, sc, X, hX, T, h, _ => by simp [mEs] at h
  | a :: b :: es, e :: es', sc, X, hX, T, h, hl => by simp at hl
theorem sO : ∀ (o : Option IE) (o' : Option Expr) (sc : Scope) (X : Cx), Ctx C k sc X → TopX X fa C k → mO C sc o o' = true → PO X o' (tO X.K fa (evO (call C.T C.gl k) C.gl o))
  | none, none, sc, X, hX, T, h => po_none'
  | none, some _, sc, X, hX, T, h => by simp [mO] at h
  | some _, none, sc, X, hX, T, h => by simp [mO] at h
  | some a, some e, sc, X, hX, T, h => po_some' (sE a e sc X hX T (by simpa only [mO] using h))
end
end
end Ab

/-! Ab12: statements. -/
namespace Ab
open PySem PySem.Spec PyProof.Rows L2

section
variable (K : PySem.W.Frag) (fa : Fa)
def REnd (g : G) (H : Hp) (r : Fl × AEnv × Store) (Dn : Ends) : Prop := match r with
  | (.next, ρ', S') => ∀ g' σ' H', Ext g H g' H' → RelS K fa g' S' H' → ERel K fa g' H' ρ' σ' → Dn.nx σ' H'
  | (.brk, ρ', S') => ∀ g' σ' H', Ext g H g' H' → RelS K fa g' S' H' → ERel K fa g' H' ρ' σ' → Dn.bk σ' H'
  | (.cont, ρ', S') => ∀ g' σ' H', Ext g H g' H' → RelS K fa g' S' H' → ERel K fa g' H' ρ' σ' → Dn.ct σ' H'
  | (.ret d, _, S') => Fin K fa g H S' d Dn.rt
def tSt (f : AEnv → Store → RS) : TS := fun Dn σ H => ∃ g ρ S r, RelS K fa g S H ∧ ERel K fa g H ρ σ ∧ f ρ S = some r ∧ REnd K fa g H r Dn
end
section
variable {K : PySem.W.Frag} {fa : Fa}
theorem REnd.after {g g' : G} {H H' : Hp} {r : Fl × AEnv × Store} {Dn : Ends} (h : REnd K fa g H r Dn) (e : Ext g H g' H') : REnd K fa g' H' r Dn := by
  obtain ⟨fl, ρ, S⟩ := r
  cases fl with
  | next => exact fun g2 σ2 H2 x => h g2 σ2 H2 (e.trans x)
  | brk => exact fun g2 σ2 H2 x => h g2 σ2 H2 (e.trans x)
  | cont => exact fun g2 σ2 H2 x => h g2 σ2 H2 (e.trans x)
  | ret d => exact Fin.after h e
/-- the end of a body within a loop: what the loop makes of it -/
theorem noSwap_of {env : Env} {t e : Expr} (h : noSwapB env.scope t e = true) : swappedStores [t] e env = pure none := by
  cases t with
  | Tuple ts tk tp =>
    cases e with
    | Tuple vs vk vp =>
      have names_le : ∀ (line : Nat) (l : List Expr), (l.filterMap fun | .Name id pos => if env.kindOf id == some .local && pos.line == line then some id else none | _ => none).length ≤ l.length := fun line l => List.length_filterMap_le _ _
      have names_lt : ∀ (line : Nat) (l : List Expr), (l.any fun | .Name x _ => !(env.scope.names.lookup x == some .local) | _ => true) = true →
          (l.filterMap fun | .Name id pos => if env.kindOf id == some .local && pos.line == line then some id else none | _ => none).length < l.length := fun line l hl => by
        induction l with
        | nil => cases hl
        | cons a l ih =>
          rw [List.any_cons, Bool.or_eq_true] at hl
          rw [List.filterMap_cons]
          rcases hl with hl | hl
          · have hn : (match a with | .Name id pos => if env.kindOf id == some .local && pos.line == line then some id else none | _ => (none : Option Str)) = none := by
              cases a with
              | Name x p =>
                have hx : (env.kindOf x == some .local) = false := by
                  have hl : (!(env.scope.names.lookup x == some .local)) = true := hl
                  show (env.scope.names.lookup x == some .local) = false
                  simpa using hl
                show (if (env.kindOf x == some .local && p.line == line) = true then some x else none) = none
                rw [hx]
                rfl
              | _ => rfl
            have := names_le line l
            split
            · rw [List.length_cons]; omega
            · rename_i b hb
              have := hn.symm.trans hb
              cases this
          · have := ih hl
            split
            · rw [List.length_cons]; omega
            · rw [List.length_cons, List.length_cons]; omega
      unfold swappedStores
      simp only [noSwapB, Bool.or_eq_true] at h
      dsimp only
      split
      · rfl
      · rename_i hlen
        split
        · rfl
        · have hx := h.resolve_left (fun z => hlen (by simp only [z, Bool.true_or]))
          have := names_lt ((ts.head?.map (·.pos.line)).getD 0) ts hx
          refine if_pos ?_
          rw [Bool.or_eq_true]
          exact .inl (bne_iff_ne.mpr (Nat.ne_of_lt this))
    | _ => rfl
  | List es p => simp [noSwapB] at h
  | _ => rfl
end
section
variable {fa : Fa} {X : Cx} {cf : CallF} {gl : Str → Option D} {pos : Pos} {a b c e : IE} {a' b' c' e' : Expr} {ss tt : List IS} {ss' tt' : List Stmt} {k : Nat}
theorem st_next {i : Nat} {g : G} {H : Hp} {S : Store} {ρ : AEnv} {Dn : Ends} {σ : L2.St} (q : REnd X.K fa g H (.next, ρ, S) Dn) (r : RelS X.K fa g S H) (er : ERel X.K fa g H ρ σ) : Dn.nx σ H := q g σ H (Ext.refl g H) r er

/-! ### assignment -/
theorem sole_of {t ex : Expr} {l : Nat} {env : Env} (h : notComp ex = true) : swapsWithSole [t] ex l env = pure false := swaps_of h
theorem st_set {i : Nat} {x : Str} {px : Pos} (nd : X.N.Nodup) (hi : X.N[i]? = some x) (hx : L2.Loc X.env.scope x) (hf : X.fn x = true ∨ X.env.scope.names.lookup x = some .local) (he : PE X e' (tA X.K fa (ev cf gl e))) (hs : swapsWith e' (some (.Name x px)) pos.line X.env = pure false) :
    PS X (.Assign [.Name x px] e' pos) (tSt X.K fa (evS cf gl (.asg (.name i) e))) :=
  PS.imp (ps_set (i := i) nd hi hx he hs hf) fun Dn σ H ⟨g, ρ, S, r, rs, er, e1, q⟩ => by
    simp only [evS] at e1
    split at e1
    · rename_i d S1 e2
      rw [Option.map_eq_some_iff] at e1
      obtain ⟨ρ', e3, e4⟩ := e1
      subst e4
      simp only [Tg.bind] at e3
      split at e3
      · cases e3
        exact seq1 rs er e2 fun g' v H' x1 r1 er1 p1 => q g' _ H' x1 r1 (er1.set p1 i)
      · cases e3
    · cases e1
theorem st_new {i : Nat} {x : Str} {px : Pos} (nd : X.N.Nodup) (hi : X.N[i]? = some x) (hx : L2.Loc X.env.scope x) (hf : X.fn x = true ∨ X.env.scope.names.lookup x = some .local) (he : PE X e' (tL X.K fa (ev cf gl e))) (hs : swapsWith e' (some (.Name x px)) pos.line X.env = pure false) :
    PS X (.Assign [.Name x px] e' pos) (tSt X.K fa (evS cf gl (.new i e))) :=
  PS.imp (ps_set (i := i) nd hi hx he hs hf) fun Dn σ H ⟨g, ρ, S, r, rs, er, e1, q⟩ => by
    simp only [evS] at e1
    split at e1
    · rename_i ds S1 e2
      split at e1
      · cases e1
        refine ⟨g, ρ, S, ds, S1, rs, er, e2, fun g' p vs H' x1 r1 o1 p1 => ?_⟩
        refine q (g'.put p) _ H' (x1.trans o1.putExt) (o1.put r1 p1) ?_
        exact (er.ext (x1.trans o1.putExt)).set (.ref (put_get r1 p)) i
      · cases e1
    · cases e1
theorem swaps_lc {elt : Expr} {gens : List Comprehension} {scope : Scope} {p px : Pos} {x : Str} {l : Nat} {env : Env} : swapsWith (.ListComp elt gens scope p) (some (.Name x px)) l env =
    pure (env.blockKind == .function && env.kindOf x == some .local && px.line == p.line && !(scope.names.any fun (n, k) => n == x && (k == .local || k == .cell))) := rfl
theorem st_setLc {i : Nat} {x : Str} {px p : Pos} {own : List Nat} {tg : Tg} {rg : Bool} {it ifs : List IE} {elt : IE} {elt' tg' iter' : Expr} {ifs' : List Expr} {scope : Scope} (nd : X.N.Nodup) (hi : X.N[i]? = some x) (hx : L2.Loc X.env.scope x) (hf : X.fn x = true ∨ X.env.scope.names.lookup x = some .local)
    (h : LcH X fa cf gl own tg rg it ifs elt elt' tg' iter' ifs' scope) : PS X (.Assign [.Name x px] (.ListComp elt' [⟨tg', iter', ifs', 0⟩] scope p) pos) (tSt X.K fa (evS cf gl (.asg (.name i) (.lc own tg rg it ifs elt)))) ∧
      PS X (.Assign [.Name x px] (.ListComp elt' [⟨tg', iter', ifs', 0⟩] scope p) pos) (tSt X.K fa (evS cf gl (.new i (.lc own tg rg it ifs elt)))) := by
  have hL := h.ok (pos := p)
  cases hb : (X.env.blockKind == .function && X.env.kindOf x == some .local && px.line == p.line && !(scope.names.any fun (n, k) => n == x && (k == .local || k == .cell))) with
  | false =>
    have hs : swapsWith (.ListComp elt' [⟨tg', iter', ifs', 0⟩] scope p) (some (.Name x px)) pos.line X.env = pure false := by rw [swaps_lc, hb]
    exact ⟨st_set nd hi hx hf (tA_L lc_lst hL) hs, st_new nd hi hx hf hL hs⟩
  | true =>
    have hs : swapsWith (.ListComp elt' [⟨tg', iter', ifs', 0⟩] scope p) (some (.Name x px)) pos.line X.env = pure true := by rw [swaps_lc, hb]
    have hyl : X.env.scope.names.lookup x = some .local := by
      simp only [Bool.and_eq_true, beq_iff_eq] at hb
      exact hb.1.1.2
    have base := ps_setLc (i := i) (spos := pos) h.calm nd hi hyl hs h.pi h.blk h.pg h.pt h.pe h.fs
    rw [own_names] at base
    refine ⟨PS.imp base fun Dn σ H ⟨g, ρ, S, r, rs, er, e1, q⟩ => ?_, PS.imp base fun Dn σ H ⟨g, ρ, S, r, rs, er, e1, q⟩ => ?_⟩
    · refine lc_imp h.sl ?_
      simp only [evS] at e1
      split at e1
      · rename_i d S1 e2
        rw [Option.map_eq_some_iff] at e1
        obtain ⟨ρ', e3, e4⟩ := e1
        subst e4
        simp only [Tg.bind] at e3
        split at e3
        · cases e3
          obtain ⟨ds, rfl⟩ := lc_lst _ _ _ _ e2
          refine ⟨g, ρ, S, ds, S1, rs, er, e2, fun g' p vs H' x1 r1 o1 p1 => ?_⟩
          exact q _ _ H' (x1.trans o1.freezeExt) (o1.freeze r1) ((er.ext (x1.trans o1.freezeExt)).set (o1.rep p1) i)
        · cases e3
      · cases e1
    · refine lc_imp h.sl ?_
      simp only [evS] at e1
      split at e1
      · rename_i ds S1 e2
        split at e1
        · cases e1
          refine ⟨g, ρ, S, ds, S1, rs, er, e2, fun g' p vs H' x1 r1 o1 p1 => ?_⟩
          exact q (g'.put p) _ H' (x1.trans o1.putExt) (o1.put r1 p1) ((er.ext (x1.trans o1.putExt)).set (.ref (put_get r1 p)) i)
        · cases e1
      · cases e1
theorem st_tup {ts : List Tg} {es : List Expr} {n : Nat} {p : Pos} (he : PE X e' (tA X.K fa (ev cf gl e))) (hg : PG X (.Tuple es n p) (tG X.K fa (.tup ts))) (hs : notComp e' = true) (hw : swappedStores [.Tuple es n p] e' X.env = pure none) :
    PS X (.Assign [.Tuple es n p] e' pos) (tSt X.K fa (evS cf gl (.asg (.tup ts) e))) :=
  PS.imp (ps_asg he hg (sole_of hs) hw rfl) fun Dn σ H ⟨g, ρ, S, r, rs, er, e1, q⟩ => by
    simp only [evS] at e1
    split at e1
    · rename_i d S1 e2
      rw [Option.map_eq_some_iff] at e1
      obtain ⟨ρ', e3, e4⟩ := e1
      subst e4
      exact seq1 rs er e2 fun g' v H' x1 r1 er1 p1 => ⟨g', ρ, d, ρ', er1, p1, e3, fun σ' er2 _ _ => q g' σ' H' x1 r1 er2⟩
    · cases e1
theorem st_par {i j n m : Nat} {x y : Str} {px py p1 p2 : Pos} (hc : X.calm = true) (nd : X.N.Nodup) (hi : X.N[i]? = some x) (hj : X.N[j]? = some y) (hij : i ≠ j) (hx : X.env.scope.names.lookup x = some .local) (hy : X.env.scope.names.lookup y = some .local) (sa : notStar a' = true) (sb : notStar b' = true)
    (ha : PE X a' (tA X.K fa (ev cf gl a))) (hb : PE X b' (tA X.K fa (ev cf gl b))) (hw : swappedStores [.Tuple [.Name x px, .Name y py] n p1] (.Tuple [a', b'] m p2) X.env = pure (some [x, y])) :
    PS X (.Assign [.Tuple [.Name x px, .Name y py] n p1] (.Tuple [a', b'] m p2) pos) (tSt X.K fa (evS cf gl (.par i j a b))) :=
  PS.imp (ps_par hc nd hi hj hij hx hy (pa_cons ha (pa_cons hb pa_nil (star_cons sb)) (star_cons sa)) hw rfl) fun Dn σ H ⟨g, ρ, S, r, rs, er, e1, q⟩ => by
    simp only [evS] at e1
    split at e1
    · rename_i x1 S1 e2
      split at e1
      · rename_i y1 S2 e3
        split at e1
        · cases e1
          exact seq2 rs er e2 e3 fun g' v w H' x1 r1 er1 p1 p2 => ⟨v, w, rfl, q g' _ H' x1 r1 ((er1.set p1 i).set p2 j)⟩
        · cases e1
      · cases e1
    · cases e1
theorem sub_assign {o i : Expr} {p : Pos} (h : notSlice i = true) : ∀ v, assign (.Subscript o i p) X.env v = (do
      let ov ← holding [v] (eval o X.env)
      let iv ← holding [v, ov] (eval i X.env)
      standAt p
      holding [v, ov, iv] (setItem ov iv v)
      release [v, ov, iv] []) := by
  intro v
  cases i <;> first | rfl | cases h
theorem st_seti {o i : IE} {o' i' : Expr} {p : Pos} (hs : notComp e' = true) (hn : notSlice i' = true) (he : PE X e' (tA X.K fa (ev cf gl e))) (ho : PE X o' (tA X.K fa (ev cf gl o))) (hi : PE X i' (tA X.K fa (ev cf gl i))) :
    PS X (.Assign [.Subscript o' i' p] e' pos) (tSt X.K fa (evS cf gl (.seti o i e))) :=
  PS.imp (ps_asg he (pg_sub ho hi set_list (sub_assign hn)) (sole_of hs) rfl rfl) fun Dn σ H ⟨g, ρ, S, r, rs, er, e1, q⟩ => by
    simp only [evS] at e1
    split at e1
    · rename_i d S1 e2
      split at e1
      · rename_i n S2 e3
        split at e1
        · rename_i kk S3 e4
          split at e1
          · rename_i xs e5
            split at e1
            · rename_i j e6
              cases e1
              refine seq1 rs er e2 fun g1 v H1 x1 r1 er1 p1 => seq1 r1 er1 e3 fun g2 w H2 x2 r2 er2 p2 => seq1 r2 er2 e4 fun g3 z H3 x3 r3 er3 p3 => ?_
              cases p3
              cases p2 with
              | @ref ad _ hm =>
                have hm := x3.get hm
                obtain ⟨a2, h1, h2⟩ := r3.addr e5
                rw [hm] at h1
                cases h1
                obtain ⟨vs, h3, h4⟩ := h2
                refine ⟨_, vs, kk, j, rfl, rfl, h3, by rw [← h4.length]; exact e6, ?_⟩
                have p1' := p1.ext (x2.trans x3)
                exact q g3 _ _ (x1.trans (x2.trans (x3.trans (r3.setExt hm h3)))) (r3.set hm h3 (Reps.set p1' j h4)) (er3.ext (r3.setExt hm h3))
            · cases e1
          · cases e1
        · cases e1
      · cases e1
    · cases e1
theorem aug_ok {op : Operator} : PIp X op (fun x y H Q => ∃ i j z, x = .int i ∧ y = .int j ∧ augOp op i j = some z ∧ Q (.int z) H) := by
  intro pins s σ H x y v u Q I r1 r2 ⟨i, j, z, e1, e2, e3, q⟩
  subst e1 e2
  cases op with
  | Add =>
    cases e3
    exact ip_add pins s σ H _ _ v u Q I r1 r2 ⟨i, j, rfl, rfl, q⟩
  | Sub =>
    cases e3
    exact ip_sub pins s σ H _ _ v u Q I r1 r2 ⟨i, j, rfl, rfl, q⟩
  | _ => cases e3
theorem st_aug {i : Nat} {x : Str} {px : Pos} {op : Operator} (nd : X.N.Nodup) (hi : X.N[i]? = some x) (hx : L2.Loc X.env.scope x) (hf : X.fn x = true ∨ X.env.scope.names.lookup x = some .local) (he : PE X e' (tA X.K fa (ev cf gl e))) :
    PS X (.AugAssign (.Name x px) op e' pos) (tSt X.K fa (evS cf gl (.aug i op e))) :=
  PS.imp (ps_aug (i := i) nd hi hx he aug_ok hf) fun Dn σ H ⟨g, ρ, S, r, rs, er, e1, q⟩ => by
    simp only [evS] at e1
    split at e1
    · rename_i m e2
      split at e1
      · rename_i n S1 e3
        rw [Option.map_eq_some_iff] at e1
        obtain ⟨z, e4, e5⟩ := e1
        subst e5
        obtain ⟨v, h1, h2⟩ := er.2 _ _ e2
        cases h2
        refine ⟨_, h1, seq1 rs er e3 fun g' w H' x1 r1 er1 p1 => ?_⟩
        cases p1
        exact ⟨m, n, z, rfl, rfl, e4, q g' _ H' x1 r1 (er1.set (.int _) i)⟩
      · cases e1
    · cases e1

/-! ### the small ones -/
theorem st_ex (hs : notComp e' = true) (he : PE X e' (tA X.K fa (ev cf gl e))) : PS X (.Expr e' pos) (tSt X.K fa (evS cf gl (.ex e))) :=
  PS.imp (ps_expr he (swaps_of hs)) fun Dn σ H ⟨g, ρ, S, r, rs, er, e1, q⟩ => by
    simp only [evS] at e1
    split at e1
    · rename_i d S1 e2
      cases e1
      exact seq1 rs er e2 fun g' v H' x1 r1 er1 p1 => q g' _ H' x1 r1 er1
    · cases e1
theorem st_ret (he : PE X e' (tA X.K fa (ev cf gl e))) : PS X (.Return (some e') pos) (tSt X.K fa (evS cf gl (.ret e))) :=
  PS.imp (ps_ret he) fun Dn σ H ⟨g, ρ, S, r, rs, er, e1, q⟩ => by
    simp only [evS] at e1
    split at e1
    · rename_i d S1 e2
      cases e1
      exact ⟨g, ρ, S, d, S1, rs, er, e2, q⟩
    · cases e1
theorem st_retN : PS X (.Return none pos) (tSt X.K fa (evS cf gl .retN)) :=
  PS.imp ps_retN fun Dn σ H ⟨g, ρ, S, r, rs, er, e1, q⟩ => by
    simp only [evS] at e1
    cases e1
    exact Fin.here q rs .non
theorem st_pass : PS X (.Pass pos) (tSt X.K fa (evS cf gl .pass)) :=
  PS.imp ps_pass fun Dn σ H ⟨g, ρ, S, r, rs, er, e1, q⟩ => by
    simp only [evS] at e1
    cases e1
    exact q g σ H (Ext.refl g H) rs er
theorem st_brk : PS X (.Break pos) (tSt X.K fa (evS cf gl .brk)) :=
  PS.imp ps_break fun Dn σ H ⟨g, ρ, S, r, rs, er, e1, q⟩ => by
    simp only [evS] at e1
    cases e1
    exact q g σ H (Ext.refl g H) rs er
theorem st_cont : PS X (.Continue pos) (tSt X.K fa (evS cf gl .cont)) :=
  PS.imp ps_continue fun Dn σ H ⟨g, ρ, S, r, rs, er, e1, q⟩ => by
    simp only [evS] at e1
    cases e1
    exact q g σ H (Ext.refl g H) rs er
theorem st_bad {s' : Stmt} : PS X s' (tSt X.K fa (evS cf gl .bad)) := ⟨fun pins s σ H Dn I ⟨g, ρ, S, r, rs, er, e1, q⟩ => by
  simp only [evS] at e1
  cases e1⟩
theorem sts_nil : PSs X [] (tSt X.K fa (evSs cf gl [])) :=
  PSs.imp pss_nil fun Dn σ H ⟨g, ρ, S, r, rs, er, e1, q⟩ => by
    simp only [evSs] at e1
    cases e1
    exact q g σ H (Ext.refl g H) rs er
theorem sts_cons {s : IS} {s' : Stmt} (h : PS X s' (tSt X.K fa (evS cf gl s))) (hs : PSs X ss' (tSt X.K fa (evSs cf gl ss))) : PSs X (s' :: ss') (tSt X.K fa (evSs cf gl (s :: ss))) :=
  PSs.imp (pss_cons h hs) fun Dn σ H ⟨g, ρ, S, r, rs, er, e1, q⟩ => by
    simp only [evSs] at e1
    split at e1
    · rename_i ρ' S' e2
      exact ⟨g, ρ, S, _, rs, er, e2, fun g' σ' H' x1 r1 er1 => ⟨g', ρ', S', r, r1, er1, e1, q.after x1⟩⟩
    · rename_i r' hr
      refine ⟨g, ρ, S, r, rs, er, e1, ?_⟩
      obtain ⟨fl, ρ', S'⟩ := r
      cases fl with
      | next => exact absurd e1 (hr ρ' S')
      | brk => exact q
      | cont => exact q
      | ret d => exact q
theorem st_ite (hc : PT X c' (tT X.K fa (evT cf gl c))) (ha : PSs X ss' (tSt X.K fa (evSs cf gl ss))) (hb : PSs X tt' (tSt X.K fa (evSs cf gl tt))) : PS X (.If c' ss' tt' pos) (tSt X.K fa (evS cf gl (.ite c ss tt))) :=
  PS.imp (ps_if hc ha hb) fun Dn σ H ⟨g, ρ, S, r, rs, er, e1, q⟩ => by
    simp only [evS] at e1
    split at e1
    · rename_i S1 e2
      exact seqT rs er e2 fun g' H' x1 r1 er1 => iteT ⟨g', ρ, S1, r, r1, er1, e1, q.after x1⟩
    · rename_i S1 e2
      exact seqT rs er e2 fun g' H' x1 r1 er1 => iteF ⟨g', ρ, S1, r, r1, er1, e1, q.after x1⟩
    · cases e1

/-! ### loops -/
theorem st_whl {n : Nat} (hxe : X.xe = fun _ _ => False) (hc : PT X c' (tT X.K fa (evT cf gl c))) (hb : PSs X ss' (tSt X.K fa (evSs cf gl ss))) : PS X (.While c' ss' [] pos) (tSt X.K fa (evS cf gl (.whl n c ss))) :=
  PS.imp (ps_while (by rw [hxe]; exact PassesOwn.never) hc hb) fun Dn σ H ⟨g, ρ, S, r, rs, er, e1, q⟩ => by
    simp only [evS] at e1
    refine ⟨fun m σ1 H1 => ∃ g1 ρ1 S1, Ext g H g1 H1 ∧ RelS X.K fa g1 S1 H1 ∧ ERel X.K fa g1 H1 ρ1 σ1 ∧ evWh (evT cf gl c) (evSs cf gl ss) m ρ1 S1 = some r, ⟨n, g, ρ, S, Ext.refl g H, rs, er, e1⟩, ?_⟩
    rintro m σ1 H1 ⟨g1, ρ1, S1, x1, r1, er1, e2⟩
    cases m with
    | zero => simp only [evWh] at e2; cases e2
    | succ m =>
      simp only [evWh] at e2
      split at e2
      · rename_i S2 e3
        refine seqT r1 er1 e3 fun g2 H2 x2 r2 er2 => iteT ?_
        refine ⟨fun σ3 H3 => ∃ g3 ρ3 S3, Ext g H g3 H3 ∧ RelS X.K fa g3 S3 H3 ∧ ERel X.K fa g3 H3 ρ3 σ3 ∧ evWh (evT cf gl c) (evSs cf gl ss) m ρ3 S3 = some r, fun σ3 H3 h3 => ⟨m, Nat.lt_succ_self m, h3⟩, ?_⟩
        cases hbody : evSs cf gl ss ρ1 S2 with
        | none => rw [hbody] at e2; cases e2
        | some out =>
          rw [hbody] at e2
          refine ⟨g2, ρ1, S2, out, r2, er2, hbody, ?_⟩
          obtain ⟨fl, ρ', S'⟩ := out
          cases fl with
          | next => exact fun g3 σ3 H3 x3 r3 er3 => ⟨g3, ρ', S', x1.trans (x2.trans x3), r3, er3, e2⟩
          | cont => exact fun g3 σ3 H3 x3 r3 er3 => ⟨g3, ρ', S', x1.trans (x2.trans x3), r3, er3, e2⟩
          | brk =>
            cases e2
            exact fun g3 σ3 H3 x3 r3 er3 => q g3 σ3 H3 (x1.trans (x2.trans x3)) r3 er3
          | ret d =>
            cases e2
            exact Fin.after (Fin.after q x1) x2
      · rename_i S2 e3
        cases e2
        exact seqT r1 er1 e3 fun g2 H2 x2 r2 er2 => iteF (q g2 _ H2 (x1.trans x2) r2 er2)
      · cases e2
theorem st_for {tg : Tg} {rg : Bool} {it : List IE} {tg' it' : Expr} (hxe : X.xe = fun _ _ => False) (hcalm : X.calm = true) (hn : notSet it' = true) (hi : PI X tg' it' (iA X.K fa (evs cf gl it) rg)) (hg : PG X tg' (tG X.K fa tg)) (hb : PSs X ss' (tSt X.K fa (evSs cf gl ss))) :
    PS X (.For tg' it' ss' [] pos) (tSt X.K fa (evS cf gl (.for_ tg rg it ss))) :=
  PS.imp (ps_for (by rw [hxe]; exact PassesOwn.never) hcalm hi hg hb (folded_of hn)) fun Dn σ H ⟨g, ρ, S, r, rs, er, e1, q⟩ => by
    simp only [evS] at e1
    split at e1
    · rename_i ds S1 e2
      split at e1
      · rename_i xs e3
        refine ⟨g, ρ, S, ds, S1, xs, rs, er, e2, e3, fun g1 J H1 x1 r1 wj => ?_⟩
        refine ⟨fun i m σ2 H2 => m = xs.length - i ∧ i ≤ xs.length ∧ ∃ g2 ρ2 S2, Ext g1 H1 g2 H2 ∧ RelS X.K fa g2 S2 H2 ∧ ERel X.K fa g2 H2 ρ2 σ2 ∧ evFor (stays rg ds xs) (fun d ρ S => match Tg.bind tg d ρ with
            | some ρ' => evSs cf gl ss ρ' S
            | none => none) (xs.drop i) ρ2 S2 = some r, ⟨_, rfl, Nat.zero_le _, g1, ρ, S1, Ext.refl g1 H1, r1, er.ext x1, e1⟩, ?_⟩
        rintro i m σ2 H2 ⟨rfl, hi, g2, ρ2, S2, x2, r2, er2, e4⟩
        by_cases hlt : i < xs.length
        · rw [List.drop_eq_getElem_cons hlt] at e4
          simp only [evFor] at e4
          split at e4
          · rename_i hst
            obtain ⟨hgo, hyld⟩ := (wj i g2 H2 S2 x2 r2 hst).1 xs[i] (List.getElem?_eq_getElem hlt)
            refine .inr ⟨hgo, fun σ3 H3 => ∃ g3 ρ3 S3, Ext g1 H1 g3 H3 ∧ RelS X.K fa g3 S3 H3 ∧ ERel X.K fa g3 H3 ρ3 σ3 ∧ evFor (stays rg ds xs) (fun d ρ S => match Tg.bind tg d ρ with
              | some ρ' => evSs cf gl ss ρ' S
              | none => none) (xs.drop (i + 1)) ρ3 S3 = some r, fun σ3 H3 h3 => ⟨xs.length - (i + 1), by omega, rfl, hlt, h3⟩, fun x H3 hy => ?_⟩
            obtain ⟨g3, x3, r3, p3⟩ := hyld x H3 hy
            cases hbind : Tg.bind tg xs[i] ρ2 with
            | none => rw [hbind] at e4; cases e4
            | some ρ' =>
              rw [hbind] at e4
              dsimp only at e4
              refine ⟨g3, ρ2, xs[i], ρ', er2.ext x3, p3, hbind, fun σ4 er4 _ _ => ?_⟩
              cases hbody : evSs cf gl ss ρ' S2 with
              | none => rw [hbody] at e4; cases e4
              | some out =>
                rw [hbody] at e4
                refine ⟨g3, ρ', S2, out, r3, er4, hbody, ?_⟩
                obtain ⟨fl, ρ5, S5⟩ := out
                cases fl with
                | next => exact fun g4 σ5 H5 x5 r5 er5 => ⟨g4, ρ5, S5, x2.trans (x3.trans x5), r5, er5, e4⟩
                | cont => exact fun g4 σ5 H5 x5 r5 er5 => ⟨g4, ρ5, S5, x2.trans (x3.trans x5), r5, er5, e4⟩
                | brk =>
                  cases e4
                  exact fun g4 σ5 H5 x5 r5 er5 => q g4 σ5 H5 (x1.trans (x2.trans (x3.trans x5))) r5 er5
                | ret d =>
                  cases e4
                  exact Fin.after (Fin.after (Fin.after q x1) x2) x3
          · cases e4
        · have hi' : i = xs.length := by omega
          subst hi'
          rw [List.drop_length] at e4
          simp only [evFor] at e4
          split at e4
          · rename_i hst
            cases e4
            exact .inl ⟨(wj _ g2 H2 S2 x2 r2 hst).2 (Nat.le_refl _), q g2 _ H2 (x1.trans x2) r2 er2⟩
          · cases e4
      · cases e1
    · cases e1
end
end Ab

/-! Ab12b: dicts and sets made and written. -/
namespace Ab
open PySem PySem.Spec PyProof.Rows L2
section
variable {fa : Fa} {X : Cx} {cf : CallF} {gl : Str → Option D} {pos : Pos} {a b c e : IE} {a' b' c' e' : Expr} {k : Nat} {C : Cfg}
theorem st_dnew {i : Nat} {x : Str} {px p : Pos} (T : TopX X fa C k) (nd : X.N.Nodup) (hi : X.N[i]? = some x) (hx : L2.Loc X.env.scope x) (hf : X.fn x = true ∨ X.env.scope.names.lookup x = some .local) :
    PS X (.Assign [.Name x px] (.Dict [] [] p) pos) (tSt X.K fa (evS cf gl (.dnew i))) := by
  obtain ⟨tp, tw⟩ := T.pw
  refine PS.imp (ps_set (i := i) nd hi hx pe_dnewX (swaps_of rfl) hf) fun Dn σ H ⟨g, ρ, S, r, rs, er, e1, q⟩ => ?_
  simp only [evS] at e1
  split at e1
  · cases e1
    intro p hp
    have o := rs.ownO (o := DicX X.prog X.w p []) hp
    have x1 := (rs.newExt (o := DicX X.prog X.w p []) hp).trans o.putExt
    refine q (g.put p) _ _ x1 (o.put (rs.new hp) ⟨[], by rw [tp, tw]; exact upd_same, (fun x hx => nomatch hx), .nil⟩) ?_
    exact (er.ext x1).set (.ref (put_get (rs.new (o := DicX X.prog X.w p []) hp) p)) i
  · cases e1
/-- what was kept is written and goes into the store -/
theorem put_kept {K : PySem.W.Frag} {g g5 : G} {H H5 : Hp} {S S5 : Store} {p : Addr} {ho ho' : HO} {ob : O} (rs : RelS K fa g S H) (hp : H p = none) (hpe : pers ho = false) (e : Ext (g.keep p) (upd H p ho) g5 H5) (r : RelS K fa g5 S5 H5)
    (hob : (∀ d v, Rep K fa g5 H5 d v → Rep K fa ((g5.drop p).put p) (upd H5 p ho') d v) → (∀ k v, NkV K H5 k v → NkV K (upd H5 p ho') k v) → ORep K fa ((g5.drop p).put p) (upd H5 p ho') p ob) :
    H5 p = some ho ∧ Ext g H ((g5.drop p).put p) (upd H5 p ho') ∧ RelS K fa ((g5.drop p).put p) (S5 ++ [ob]) (upd H5 p ho') ∧ ((g5.drop p).put p).m[S5.length]? = some p := by
  have o := rs.ownO (o := ho) hp
  obtain ⟨o2, x2, r2⟩ := o.turn e r
  have xw := o2.writeExtO (ho' := ho') hpe
  have rw' := o2.writeO (ho' := ho') hpe r2
  have o3 := o2.againO (ho' := ho')
  refine ⟨o2.at_, (rs.newExt hp).trans (x2.trans (xw.trans o3.putExt)), o3.put rw' (hob (fun d v r => ((r.drop p).ext xw).ext o3.putExt) fun k v r => NkV.ext xw r), put_get rw' p⟩
theorem st_ddisp {i : Nat} {x : Str} {px p : Pos} (T : TopX X fa C k) (hr : Room k X.A) (nd : X.N.Nodup) (hi : X.N[i]? = some x) (hx : L2.Loc X.env.scope x) (hf : X.fn x = true ∨ X.env.scope.names.lookup x = some .local)
    (ha : PE X a' (tA X.K fa (ev cf gl a))) (hb : PE X b' (tA X.K fa (ev cf gl b))) : PS X (.Assign [.Name x px] (.Dict [some a'] [b'] p) pos) (tSt X.K fa (evS cf gl (.ddisp i a b))) := by
  have hu : X.A.units + 64 < cLine := by have := hr.un; omega
  obtain ⟨tp, tw⟩ := T.pw
  refine ⟨fun pins s σ H Dn I ⟨g, ρ, S, r, rs, er, e1, q⟩ => ?_⟩
  simp only [evS] at e1
  split at e1
  · rename_i kd S1 e2
    split at e1
    · rename_i d S2 e3
      split at e1
      · rename_i t kk e4
        split at e1
        · cases e1
          rcases dKey_inv e4 with ⟨n, rfl, rfl, rfl, _⟩ | ⟨ds, ks, rfl, hks, rfl, hd8, _, rfl⟩
          · refine (ps_set (i := i) nd hi hx (pe_disp (pps_cons ha hb pps_nil) rfl rfl (by simp) (by simp)) (swaps_of rfl) hf).run pins s σ H Dn I ?_
            intro p hp
            have o := rs.ownO (o := .dK []) hp
            have x0 := (rs.newExt (o := .dK []) hp).trans o.keepExt
            refine seq2 (o.keep (rs.new hp)) (er.ext x0) e2 e3 fun g' v w H' x1 r2 er2 p1 p2 => ?_
            cases p1
            obtain ⟨k1, k2, k3, k4⟩ := put_kept (ho' := .dK [(.inl n, w)]) (ob := .dic false [(.num n, d)]) rs hp rfl x1 r2 fun f _ => ⟨[(.inl n, w)], upd_same, .cons (f _ _ p2) .nil⟩
            exact ⟨k1, [(.inl n, w)], rfl, by simp, q _ _ _ k2 k3 ((er.ext k2).set (.ref k4) i)⟩
          · refine (ps_set (i := i) nd hi hx (pe_dispX hu ha hb) (swaps_of rfl) hf).run pins s σ H Dn I ?_
            intro p hp
            have o := rs.ownO (o := DicX X.prog X.w p []) hp
            have x0 := (rs.newExt (o := DicX X.prog X.w p []) hp).trans o.keepExt
            refine seq2 (o.keep (rs.new hp)) (er.ext x0) e2 e3 fun g' v w H' x1 r2 er2 p1 p2 => ?_
            have kn := Rep.nk (k := .tup ks) p1 (by simp only [D.nk, hks, Option.map_some])
            obtain ⟨bd, vs, rfl, hT, hR⟩ := p1.tup_inv
            obtain ⟨k1, k2, k3, k4⟩ := put_kept (ho' := DicX X.prog X.w p [(.tup ks, bd, w)]) (ob := .dic true [(.tup ks, d)]) rs hp rfl x1 r2 fun f f2 => ⟨[(.tup ks, bd, w)], by rw [tp, tw]; exact upd_same, (fun x hx => by
              rw [List.mem_singleton] at hx
              subst hx
              exact ⟨f2 _ _ kn, hd8⟩), .cons (f _ _ p2) .nil⟩
            exact ⟨k1, bd, .tup ks, rfl, kn, hd8, q _ _ _ k2 k3 ((er.ext k2).set (.ref k4) i)⟩
        · cases e1
      · cases e1
    · cases e1
  · cases e1
theorem kds_plain {e : Expr} (h : notStar e = true) : PySem.W.kdsPlain e = true := by
  cases e <;> first | rfl | cases h
theorem st_snew {i n : Nat} {x : Str} {px p : Pos} (hcd : PySem.W.kdsCode X.K X.env.code = true) (nd : X.N.Nodup) (hi : X.N[i]? = some x) (hx : L2.Loc X.env.scope x) (hf : X.fn x = true ∨ X.env.scope.names.lookup x = some .local)
    (hn : n = 0) (hs : notStar a' = true) (ha : PE X a' (tA X.K fa (ev cf gl a))) : PS X (.Assign [.Name x px] (.Set [a'] n p) pos) (tSt X.K fa (evS cf gl (.snew i a))) := by
  refine PS.imp (ps_set (i := i) nd hi hx (pe_set1 hcd hn (kds_plain hs) ha) (swaps_of rfl) hf) fun Dn σ H ⟨g, ρ, S, r, rs, er, e1, q⟩ => ?_
  simp only [evS] at e1
  split at e1
  · rename_i m S1 e2
    split at e1
    · cases e1
      intro p hp
      have o := rs.ownO (o := .set (fun _ => false) 0) hp
      have x0 := (rs.newExt (o := .set (fun _ => false) 0) hp).trans o.keepExt
      refine seq1 (o.keep (rs.new hp)) (er.ext x0) e2 fun g' v H' x1 r2 er2 p1 => ?_
      cases p1
      obtain ⟨k1, k2, k3, k4⟩ := put_kept (ho' := .set (fun j => decide (j = m)) 1) (ob := .set [m]) rs hp rfl x1 r2 fun f _ => ⟨fun j => decide (j = m), upd_same, fun j => by by_cases e : j = m <;> simp [e]⟩
      exact ⟨m, rfl, k1, q _ _ _ k2 k3 ((er.ext k2).set (.ref k4) i)⟩
    · cases e1
  · cases e1
def rSetA (K : PySem.W.Frag) (fa : Fa) : TSet := fun o i v H Q => ∃ g S x y d S', RelS K fa g S H ∧ Rep K fa g H x o ∧ Rep K fa g H y i ∧ Rep K fa g H d v ∧ dicPut S x y d = some S' ∧ (∀ H', Ext g H g H' → RelS K fa g S' H' → Q H')
theorem set_dA (T : TopX X fa C k) (hr : Room k X.A) : PSet X (rSetA X.K fa) := by
  have hu : X.A.units + 64 < cLine := by have := hr.un; omega
  obtain ⟨tp, tw⟩ := T.pw
  intro pins s σ H o i v ov iv u Q I ro ri rv ⟨g, S, x, y, d, S', rs, px, py, pd, e, q⟩
  unfold dicPut at e
  split at e
  · rename_i r
    split at e
    · rename_i t kvs hS
      split at e
      · rename_i t' kk hk
        split at e
        · rename_i hl
          cases e
          obtain ⟨ad, rr, er, rfl, hm, hS2, ho⟩ := dicOf_inv (t := t) (kvs := kvs) rs (by simp only [dicOf, hS]) px
          cases er
          obtain rfl : ov = Value.ref ad := ro
          rcases dKey_inv hk with ⟨n, rfl, rfl, rfl, hemp⟩ | ⟨ds, ks, rfl, hks, rfl, hd8, rfl, rfl⟩
          · cases py
            cases t with
            | true =>
              obtain ⟨xs, h1, h2, h3⟩ := ho
              obtain ⟨e1, e2⟩ := h3.nil_inv (hemp rfl)
              subst e1 e2
              have h1' := h1
              rw [tp, tw] at h1'
              refine dx0_set I h1' ri rv fun s' I' => ⟨_, I', ?_⟩
              have xe := rs.setExtO (ho' := .dK [(.inl n, v)]) hm h1 rfl
              exact q _ xe (rs.setO hm h1 rfl ⟨_, upd_same, .cons (pd.ext xe) .nil⟩)
            | false =>
              obtain ⟨ys, h1, h2⟩ := ho
              refine d_setItem (by omega) I (DPut.k (k := .inl n) h1 (by rw [← h2.length]; exact hl)) ri rv fun s' I' => ⟨_, I', ?_⟩
              have xe := rs.setExtO (ho' := .dK (putK ys (.inl n) v)) hm h1 rfl
              exact q _ xe (rs.setO hm h1 rfl ⟨_, upd_same, KD.put (pd.ext xe) (h2.imp fun _ _ _ r => r.ext xe)⟩)
          · obtain ⟨xs, h1, h2, h3⟩ := ho
            have kn := Rep.nk (k := .tup ks) py (by simp only [D.nk, hks, Option.map_some])
            obtain ⟨bd, vs, rfl, hT, hR⟩ := py.tup_inv
            have h1' := h1
            rw [tp, tw] at h1'
            obtain rfl : iv = Value.ref bd := ri
            refine dx_set hu I h1' h2 kn hd8 rv (by rw [← h3.length]; exact hl) fun s' I' => ⟨_, I', ?_⟩
            have xe := rs.setExtO (ho' := DicX X.prog X.w ad (putX xs (.tup ks) bd v)) hm h1 rfl
            exact q _ xe (rs.setO hm h1 rfl ⟨_, by rw [tp, tw]; exact upd_same, (h2.ext xe).put (NkV.ext xe kn) hd8, XD.put (pd.ext xe) (h3.imp fun _ _ _ r => r.ext xe)⟩)
        · cases e
      · cases e
    · cases e
  · cases e
theorem st_dput {o i : IE} {o' i' : Expr} {p : Pos} (T : TopX X fa C k) (hr : Room k X.A) (hs : notComp e' = true) (hn : notSlice i' = true) (he : PE X e' (tA X.K fa (ev cf gl e))) (ho : PE X o' (tA X.K fa (ev cf gl o))) (hi : PE X i' (tA X.K fa (ev cf gl i))) :
    PS X (.Assign [.Subscript o' i' p] e' pos) (tSt X.K fa (evS cf gl (.dput o i e))) :=
  PS.imp (ps_asg he (pg_sub ho hi (set_dA (fa := fa) T hr) (sub_assign hn)) (sole_of hs) rfl rfl) fun Dn σ H ⟨g, ρ, S, r, rs, er, e1, q⟩ => by
    simp only [evS] at e1
    split at e1
    · rename_i d S1 e2
      split at e1
      · rename_i x S2 e3
        split at e1
        · rename_i y S3 e4
          rw [Option.map_eq_some_iff] at e1
          obtain ⟨S4, e5, e6⟩ := e1
          cases e6
          refine seq1 rs er e2 fun g1 v H1 x1 r1 er1 p1 => seq1 r1 er1 e3 fun g2 w H2 x2 r2 er2 p2 => seq1 r2 er2 e4 fun g3 z H3 x3 r3 er3 p3 => ?_
          exact ⟨g3, S3, x, y, d, S4, r3, p2.ext x3, p3, p1.ext (x2.trans x3), e5, fun H' x4 r4 => q g3 _ _ (x1.trans (x2.trans (x3.trans x4))) r4 (er3.ext x4)⟩
        · cases e1
      · cases e1
    · cases e1
end
end Ab

/-! Ab13: all statements, defs, the table. -/
namespace Ab
open PySem PySem.Spec PyProof.Rows L2
theorem par_of {env : Env} {x y : Str} {px py p1 p2 : Pos} {a b : Expr} {n m : Nat} (hk : env.scope.kind = .function) (sa : notStar a = true) (sb : notStar b = true) (h : parB env.scope (.Name x px) (.Name y py) a b = true) :
    swappedStores [.Tuple [.Name x px, .Name y py] n p1] (.Tuple [a, b] m p2) env = pure (some [x, y]) ∧ env.scope.names.lookup x = some .local ∧ env.scope.names.lookup y = some .local := by
  simp only [parB, Bool.and_eq_true, Bool.not_eq_true', decide_eq_true_eq] at h
  obtain ⟨h1, h2, h3, h4, h5, h6⟩ := h
  have l1 : env.scope.names.lookup x = some .local := by
    cases q : env.scope.names.lookup x with
    | none => rw [q] at h1; cases h1
    | some kk => rw [q] at h1; cases kk <;> first | rfl | cases h1
  have l2 : env.scope.names.lookup y = some .local := by
    cases q : env.scope.names.lookup y with
    | none => rw [q] at h2; cases h2
    | some kk => rw [q] at h2; cases kk <;> first | rfl | cases h2
  refine ⟨?_, l1, l2⟩
  have hb : env.blockKind = .function := by unfold Env.blockKind; rw [hk]; rfl
  have k1 : env.kindOf x = some .local := l1
  have k2 : env.kindOf y = some .local := l2
  have hl : (py.line == px.line) = true := by
    have := beq_iff_eq.mp h4
    exact beq_iff_eq.mpr this.symm
  have hd : [x, y].eraseDups.length = 2 := by
    have hne : (y == x) = false := beq_eq_false_iff_ne.mpr (Ne.symm h3)
    simp [List.eraseDups_cons, List.filter_cons, hne]
  unfold swappedStores
  dsimp only
  split
  · rename_i h
    rw [hb] at h
    simp at h
  · split
    · rename_i h
      exfalso
      simp only [List.any_cons, List.any_nil, Bool.or_false, Bool.or_eq_true] at h
      rcases h with h | h
      · cases a <;> first | (cases sa; done) | (cases h; done)
      · cases b <;> first | (cases sb; done) | (cases h; done)
    · simp only [List.filterMap_cons, List.filterMap_nil, List.head?_cons, Option.map_some, Option.getD_some, Expr.pos, k1, k2, hl, beq_self_eq_true, Bool.and_self, if_true]
      rw [if_neg (by rw [hd]; simp), if_neg (by rw [h5]; exact Bool.false_ne_true), if_neg (by rw [h6]; exact Bool.false_ne_true)]

section
variable {fa : Fa} {C : Cfg} {k : Nat}
/-- a list comprehension's premises -/
theorem lcH {own : List Nat} {tg : Tg} {rg : Bool} {it ifs : List IE} {elt : IE} {elt' : Expr} {gens : List Comprehension} {scope sc : Scope} {pos : Pos} {X : Cx} (hX : Ctx C k sc X) (T : TopX X fa C k) (h : mE C sc (.lc own tg rg it ifs elt) (.ListComp elt' gens scope pos) = true) :
    ∃ tg' iter' ifs', gens = [⟨tg', iter', ifs', 0⟩] ∧ LcH X fa (call C.T C.gl k) C.gl own tg rg it ifs elt elt' tg' iter' ifs' scope := by
  match gens, h with
  | [⟨tg', iter', ifs', asy⟩], h =>
    simp only [mE, Bool.and_eq_true, decide_eq_true_eq] at h
    obtain ⟨rfl, hb, hs, hi, hsl, hg, hifs, hl, helt⟩ := h
    refine ⟨tg', iter', ifs', rfl, ?_⟩
    cases q : iterArgs sc rg iter' with
    | none => rw [q] at hi; cases hi
    | some es' =>
      rw [q] at hi
      refine ⟨hX.calm, by rw [hX.N]; exact hX.nd, pi_of hX T q hi (sEs it es' sc X hX T hi) (fun a ha hr => ?_), ?_, hsl, fun s H Cc cl fp => ?_, fun s H Cc cl fp => ?_, fun s H Cc cl fp => ?_, folded_of hs⟩
      · exact sIt it a ha iter' es' sc X hX T hi (by
          subst hr
          unfold iterArgs at q
          split at q
          · contradiction
          · cases q
          · cases q; rfl
          · cases q)
      · rw [hX.N, hX.sc]
        exact blkOk_by hb
      · exact sG (X := X.blk s H scope (compEnvC scope cl Cc X.env) fp) hX.N hX.nd hX.calm (blk_st s H Cc cl fp) tg tg' hg
      · exact sTs ifs ifs' (relS scope sc) _ (blk_ctx hX s H Cc cl fp) T hifs hl
      · exact sE elt elt' (relS scope sc) _ (blk_ctx hX s H Cc cl fp) T helt
  | [], h => simp [mE] at h
  | _ :: _ :: _, h => simp [mE] at h
/-- fresh lists -/
theorem sL (ie : IE) (e : Expr) (sc : Scope) (X : Cx) (hX : Ctx C k sc X) (T : TopX X fa C k) (hf : freshB ie = true) (hc : isComp ie = false) (h : mE C sc ie e = true) : PE X e (tL X.K fa (ev (call C.T C.gl k) C.gl ie)) := by
  cases ie with
  | lst es =>
    cases e with
    | List es' pos => exact snd_lst (sEs es es' sc X hX T (by simpa only [mE] using h))
    | _ => simp [mE] at h
  | bin op a b =>
    cases e with
    | BinOp a' op' b' pos =>
      simp only [mE, Bool.and_eq_true, decide_eq_true_eq] at h
      obtain ⟨rfl, h1, h2⟩ := h
      exact snd_binL (sE a a' sc X hX T h1) (sE b b' sc X hX T h2)
    | _ => simp [mE] at h
  | list1 a =>
    cases e with
    | Call fn es' kws pos =>
      cases kws with
      | cons _ _ => cases fn <;> simp [mE] at h
      | nil =>
        cases fn with
        | Name x p =>
          match es', h with
          | [a'], h =>
            simp only [mE, Bool.and_eq_true, decide_eq_true_eq] at h
            obtain ⟨rfl, hg, hs, h1⟩ := h
            rw [← hX.sc] at hg
            exact snd_list1 T (gl_of hg) hs (sE a a' sc X hX T h1)
          | [], h => simp [mE] at h
          | _ :: _ :: _, h => simp [mE] at h
        | _ => simp [mE] at h
    | _ => simp [mE] at h
  | lc => cases hc
  | _ => cases hf

/-- a def's own context -/
structure Ctx0 (C : Cfg) (k : Nat) (s0 : Scope) (X : Cx) : Prop extends Ctx C k s0 X where
  kind : s0.kind = .function
  fn : ∀ x, X.fn x = true
  code : PySem.W.kdsCode X.K X.env.code = true
theorem sAsg (X : Cx) (sc : Scope) (hX : Ctx0 C k sc X) (T : TopX X fa C k) (i : Nat) (e : IE) (s' : Stmt) (h : mS C sc (.asg (.name i) e) s' = true) : PS X s' (tSt X.K fa (evS (call C.T C.gl k) C.gl (.asg (.name i) e))) := by
  cases s' with
  | Assign ts e' pos =>
    cases ts with
    | nil => simp [mS] at h
    | cons t r =>
      cases r with
      | cons _ _ => cases t <;> simp [mS] at h
      | nil =>
        cases t with
        | Name x px =>
          simp only [mS, Bool.and_eq_true, decide_eq_true_eq, Bool.or_eq_true] at h
          obtain ⟨h1, h2, h3, h4⟩ := h
          have nd : X.N.Nodup := by rw [hX.N]; exact hX.nd
          have hi : X.N[i]? = some x := by rw [hX.N]; exact h1
          have hl : L2.Loc X.env.scope x := by rw [hX.sc]; exact loc_of h2
          by_cases hn : notComp e' = true
          · exact st_set nd hi hl (.inl (hX.fn x)) (sE e e' sc X hX.toCtx T h4) (swaps_of hn)
          · have hc := h3.resolve_left hn
            cases e with
            | lc own tg rg it ifs elt =>
              cases e' with
              | ListComp elt' gens scope p =>
                obtain ⟨tg', iter', ifs', rfl, hh⟩ := lcH hX.toCtx T h4
                exact (st_setLc nd hi hl (.inl (hX.fn x)) hh).1
              | _ => simp [mE] at h4
            | _ => cases hc
        | _ => simp [mS] at h
  | _ => simp [mS] at h
theorem sTup (X : Cx) (sc : Scope) (hX : Ctx0 C k sc X) (T : TopX X fa C k) (tgs : List Tg) (e : IE) (s' : Stmt) (h : mS C sc (.asg (.tup tgs) e) s' = true) : PS X s' (tSt X.K fa (evS (call C.T C.gl k) C.gl (.asg (.tup tgs) e))) := by
  cases s' with
  | Assign ts e' pos =>
    cases ts with
    | nil => simp [mS] at h
    | cons t r =>
      cases r with
      | cons _ _ => cases t <;> simp [mS] at h
      | nil =>
        cases t with
        | Tuple es n p =>
          simp only [mS, Bool.and_eq_true, decide_eq_true_eq, Bool.or_eq_true] at h
          obtain ⟨h1, h2, h3, h4⟩ := h
          rw [← hX.sc] at h2
          exact st_tup (sE e e' sc X hX.toCtx T h4) (sG (st := locB sc) hX.N hX.nd hX.calm (fun x hx => ⟨by rw [hX.sc]; exact loc_of hx, .inl (hX.fn x)⟩) (.tup tgs) (.Tuple es n p) (by simpa only [mG] using h3)) h1 (noSwap_of h2)
        | _ => simp [mS] at h
  | _ => simp [mS] at h
theorem sNew (X : Cx) (sc : Scope) (hX : Ctx0 C k sc X) (T : TopX X fa C k) (i : Nat) (e : IE) (s' : Stmt) (h : mS C sc (.new i e) s' = true) : PS X s' (tSt X.K fa (evS (call C.T C.gl k) C.gl (.new i e))) := by
  cases s' with
  | Assign ts e' pos =>
    cases ts with
    | nil => simp [mS] at h
    | cons t r =>
      cases r with
      | cons _ _ => cases t <;> simp [mS] at h
      | nil =>
        cases t with
        | Name x px =>
          simp only [mS, Bool.and_eq_true, decide_eq_true_eq, Bool.or_eq_true] at h
          obtain ⟨h1, hf, h2, h3, h4⟩ := h
          have nd : X.N.Nodup := by rw [hX.N]; exact hX.nd
          have hi : X.N[i]? = some x := by rw [hX.N]; exact h1
          have hl : L2.Loc X.env.scope x := by rw [hX.sc]; exact loc_of h2
          cases hic : isComp e with
          | true =>
            cases e with
            | lc own tg rg it ifs elt =>
              cases e' with
              | ListComp elt' gens scope p =>
                obtain ⟨tg', iter', ifs', rfl, hh⟩ := lcH hX.toCtx T h4
                exact (st_setLc nd hi hl (.inl (hX.fn x)) hh).2
              | _ => simp [mE] at h4
            | _ => cases hic
          | false =>
            have hn : notComp e' = true := h3.resolve_right (by rw [hic]; exact Bool.false_ne_true)
            exact st_new nd hi hl (.inl (hX.fn x)) (sL e e' sc X hX.toCtx T hf hic h4) (swaps_of hn)
        | _ => simp [mS] at h
  | _ => simp [mS] at h
theorem sPar (X : Cx) (sc : Scope) (hX : Ctx0 C k sc X) (T : TopX X fa C k) (i j : Nat) (a b : IE) (s' : Stmt) (h : mS C sc (.par i j a b) s' = true) : PS X s' (tSt X.K fa (evS (call C.T C.gl k) C.gl (.par i j a b))) := by
  unfold mS at h
  split at h
  · rename_i heq; cases heq
  · rename_i heq; cases heq
  · rename_i heq; cases heq
  · rename_i i j a b x px y py n p1 a' b' m p2 pos heq
    cases heq
    simp only [Bool.and_eq_true, decide_eq_true_eq] at h
    obtain ⟨h1, h2, h3, h4, h5, h6, h7, h8⟩ := h
    have nd : X.N.Nodup := by rw [hX.N]; exact hX.nd
    rw [← hX.sc] at h4
    obtain ⟨k1, k2, k3⟩ := par_of (p1 := p1) (p2 := p2) (n := n) (m := m) (by rw [hX.sc]; exact hX.kind) h5 h6 h4
    exact st_par hX.calm nd (by rw [hX.N]; exact h1) (by rw [hX.N]; exact h2) h3 k2 k3 h5 h6 (sE a a' sc X hX.toCtx T h7) (sE b b' sc X hX.toCtx T h8) k1
  all_goals first | (rename_i heq _; cases heq; done) | (rename_i heq; cases heq; done) | cases h
theorem sSeti (X : Cx) (sc : Scope) (hX : Ctx0 C k sc X) (T : TopX X fa C k) (o i e : IE) (s' : Stmt) (h : mS C sc (.seti o i e) s' = true) : PS X s' (tSt X.K fa (evS (call C.T C.gl k) C.gl (.seti o i e))) := by
  cases s' with
  | Assign ts e' pos =>
    cases ts with
    | nil => simp [mS] at h
    | cons t r =>
      cases r with
      | cons _ _ => cases t <;> simp [mS] at h
      | nil =>
        cases t with
        | Subscript o' i' p =>
          simp only [mS, Bool.and_eq_true, decide_eq_true_eq] at h
          obtain ⟨h1, h2, h3, h4, h5⟩ := h
          exact st_seti h1 h2 (sE e e' sc X hX.toCtx T h3) (sE o o' sc X hX.toCtx T h4) (sE i i' sc X hX.toCtx T h5)
        | _ => simp [mS] at h
  | _ => simp [mS] at h
theorem sAug (X : Cx) (sc : Scope) (hX : Ctx0 C k sc X) (T : TopX X fa C k) (i : Nat) (op : Operator) (e : IE) (s' : Stmt) (h : mS C sc (.aug i op e) s' = true) : PS X s' (tSt X.K fa (evS (call C.T C.gl k) C.gl (.aug i op e))) := by
  cases s' with
  | AugAssign t op' e' pos =>
    cases t with
    | Name x px =>
      simp only [mS, Bool.and_eq_true, decide_eq_true_eq] at h
      obtain ⟨h1, h2, rfl, h4⟩ := h
      exact st_aug (by rw [hX.N]; exact hX.nd) (by rw [hX.N]; exact h1) (by rw [hX.sc]; exact loc_of h2) (.inl (hX.fn x)) (sE e e' sc X hX.toCtx T h4)
    | _ => simp [mS] at h
  | _ => simp [mS] at h
theorem sDnew (X : Cx) (sc : Scope) (hX : Ctx0 C k sc X) (T : TopX X fa C k) (i : Nat) (s' : Stmt) (h : mS C sc (.dnew i) s' = true) : PS X s' (tSt X.K fa (evS (call C.T C.gl k) C.gl (.dnew i))) := by
  unfold mS at h
  split at h <;> first | (rename_i heq _; cases heq; done) | (rename_i heq; cases heq; done) | contradiction | skip
  rename_i heq
  cases heq
  simp only [Bool.and_eq_true, decide_eq_true_eq] at h
  exact st_dnew T (by rw [hX.N]; exact hX.nd) (by rw [hX.N]; exact h.1) (by rw [hX.sc]; exact loc_of h.2) (.inl (hX.fn _))
theorem sDdisp (X : Cx) (sc : Scope) (hX : Ctx0 C k sc X) (T : TopX X fa C k) (i : Nat) (a b : IE) (s' : Stmt) (h : mS C sc (.ddisp i a b) s' = true) : PS X s' (tSt X.K fa (evS (call C.T C.gl k) C.gl (.ddisp i a b))) := by
  unfold mS at h
  split at h <;> first | (rename_i heq _; cases heq; done) | (rename_i heq; cases heq; done) | contradiction | skip
  rename_i heq
  cases heq
  simp only [Bool.and_eq_true, decide_eq_true_eq] at h
  exact st_ddisp T hX.room (by rw [hX.N]; exact hX.nd) (by rw [hX.N]; exact h.1) (by rw [hX.sc]; exact loc_of h.2.1) (.inl (hX.fn _)) (sE a _ sc X hX.toCtx T h.2.2.1) (sE b _ sc X hX.toCtx T h.2.2.2)
theorem sSnew (X : Cx) (sc : Scope) (hX : Ctx0 C k sc X) (T : TopX X fa C k) (i : Nat) (a : IE) (s' : Stmt) (h : mS C sc (.snew i a) s' = true) : PS X s' (tSt X.K fa (evS (call C.T C.gl k) C.gl (.snew i a))) := by
  unfold mS at h
  split at h <;> first | (rename_i heq _; cases heq; done) | (rename_i heq; cases heq; done) | contradiction | skip
  rename_i heq
  cases heq
  simp only [Bool.and_eq_true, decide_eq_true_eq] at h
  exact st_snew hX.code (by rw [hX.N]; exact hX.nd) (by rw [hX.N]; exact h.1) (by rw [hX.sc]; exact loc_of h.2.1) (.inl (hX.fn _)) h.2.2.1 h.2.2.2.1 (sE a _ sc X hX.toCtx T h.2.2.2.2)
theorem sDput (X : Cx) (sc : Scope) (hX : Ctx0 C k sc X) (T : TopX X fa C k) (o i e : IE) (s' : Stmt) (h : mS C sc (.dput o i e) s' = true) : PS X s' (tSt X.K fa (evS (call C.T C.gl k) C.gl (.dput o i e))) := by
  unfold mS at h
  split at h <;> first | (rename_i heq _; cases heq; done) | (rename_i heq; cases heq; done) | contradiction | skip
  rename_i heq
  cases heq
  simp only [Bool.and_eq_true, decide_eq_true_eq] at h
  exact st_dput T hX.room h.1 h.2.1 (sE e _ sc X hX.toCtx T h.2.2.1) (sE o _ sc X hX.toCtx T h.2.2.2.1) (sE i _ sc X hX.toCtx T h.2.2.2.2)
mutual
theorem sS (X : Cx) (sc : Scope) (hX : Ctx0 C k sc X) (T : TopX X fa C k) : ∀ (s : IS) (s' : Stmt), mS C sc s s' = true → PS X s' (tSt X.K fa (evS (call C.T C.gl k) C.gl s))
  | .asg (.name i) e, s', h => sAsg X sc hX T i e s' h
  | .asg (.tup tgs) e, s', h => sTup X sc hX T tgs e s' h
  | .new i e, s', h => sNew X sc hX T i e s' h
  | .par i j a b, s', h => sPar X sc hX T i j a b s' h
  | .seti o i e, s', h => sSeti X sc hX T o i e s' h
  | .aug i op e, s', h => sAug X sc hX T i op e s' h
  | .ex e, s', h => by
    cases s' with
    | Expr e' pos =>
      simp only [mS, Bool.and_eq_true] at h
      exact st_ex h.1 (sE e e' sc X hX.toCtx T h.2)
    | _ => simp [mS] at h
  | .ret e, s', h => by
    cases s' with
    | Return o pos =>
      cases o with
      | none => simp [mS] at h
      | some e' => exact st_ret (sE e e' sc X hX.toCtx T (by simpa only [mS] using h))
    | _ => simp [mS] at h
  | .retN, s', h => by
    cases s' with
    | Return o pos =>
      cases o with
      | none => exact st_retN
      | some e' => simp [mS] at h
    | _ => simp [mS] at h
  | .ite c a b, s', h => by
    cases s' with
    | If c' a' b' pos =>
      simp only [mS, Bool.and_eq_true] at h
      exact st_ite (sT c c' sc X hX.toCtx T h.1) (sSs X sc hX T a a' h.2.1) (sSs X sc hX T b b' h.2.2)
    | _ => simp [mS] at h
  | .whl n c b, s', h => by
    cases s' with
    | While c' b' els pos =>
      cases els with
      | cons _ _ => simp [mS] at h
      | nil =>
        simp only [mS, Bool.and_eq_true] at h
        exact st_whl hX.xe (sT c c' sc X hX.toCtx T h.1) (sSs X sc hX T b b' h.2)
    | _ => simp [mS] at h
  | .for_ tg rg it b, s', h => by
    cases s' with
    | For tg' it' b' els pos =>
      cases els with
      | cons _ _ => simp [mS] at h
      | nil =>
        simp only [mS, Bool.and_eq_true] at h
        obtain ⟨h1, h2, h3, h4⟩ := h
        cases q : iterArgs sc rg it' with
        | none => rw [q] at h2; cases h2
        | some es' =>
          rw [q] at h2
          refine st_for hX.xe hX.calm h1 (pi_of hX.toCtx T q h2 (sEs it es' sc X hX.toCtx T h2) fun a ha hr => ?_) (sG (st := locB sc) hX.N hX.nd hX.calm (fun x hx => ⟨by rw [hX.sc]; exact loc_of hx, .inl (hX.fn x)⟩) tg tg' h3) (sSs X sc hX T b b' h4)
          exact sIt it a ha it' es' sc X hX.toCtx T h2 (by
            subst hr
            unfold iterArgs at q
            split at q
            · contradiction
            · cases q
            · cases q; rfl
            · cases q)
    | _ => simp [mS] at h
  | .dnew i, s', h => sDnew X sc hX T i s' h
  | .ddisp i k v, s', h => sDdisp X sc hX T i k v s' h
  | .snew i e, s', h => sSnew X sc hX T i e s' h
  | .dput o i e, s', h => sDput X sc hX T o i e s' h
  | .pass, s', h => by
    cases s' with
    | Pass pos => exact st_pass
    | _ => simp [mS] at h
  | .brk, s', h => by
    cases s' with
    | Break pos => exact st_brk
    | _ => simp [mS] at h
  | .cont, s', h => by
    cases s' with
    | Continue pos => exact st_cont
    | _ => simp [mS] at h
  | .bad, s', h => st_bad
theorem sSs (X : Cx) (sc : Scope) (hX : Ctx0 C k sc X) (T : TopX X fa C k) : ∀ (ss : List IS) (ss' : List Stmt), mSs C sc ss ss' = true → PSs X ss' (tSt X.K fa (evSs (call C.T C.gl k) C.gl ss))
  | [], [], _ => sts_nil
  | [], _ :: _, h => by simp [mSs] at h
  | _ :: _, [], h => by simp [mSs] at h
  | s :: ss, s' :: ss', h => by
    simp only [mSs, Bool.and_eq_true] at h
    exact sts_cons (sS X sc hX T s s' h.1) (sSs X sc hX T ss ss' h.2)
end
end
end Ab

/-! Ab14: defs keep what their code says; the law. -/
namespace Ab
open PySem PySem.Spec PyProof.Rows L2
section
variable {P : Program} {w : World} {K : PySem.W.Frag} {mg : Str → Option Value} {base : Heap} {fa : Fa} {C : Cfg} {k : Nat}
theorem Top.n (t : Top P w K mg base fa C k) (N : List Str) : Top P w K mg base fa { C with N := N } k := ⟨t.pw, t.blt, t.gcd, t.gl, t.fn⟩
theorem trunc_fin {g g' : G} {H H' : Hp} {n : Nat} {d d' : D} {S1 S' : Store} {v : V} {Q : VK} (hn : g.m.length = n) (ht : trunc n d S1 = (d', S')) (fin : Fin K fa g H S' d' Q) (e : Ext g H g' H') (r : RelS K fa g' S1 H') (p : Rep K fa g' H' d v) : Q v H' := by
  unfold trunc at ht
  split at ht
  · rename_i hc
    rw [Bool.and_eq_true] at hc
    cases ht
    refine fin (g'.cut n) v H' ⟨e.fz, e.kp, e.pers, [], ?_⟩ (r.cut hc.2) (Rep.cut (g := g') (g2 := g'.cut n) (fun _ f => f) (fun _ _ hr q => G.cut_get (g := g') hr q) p hc.1)
    obtain ⟨s, hs⟩ := e.m
    show g'.m.take n = g.m ++ []
    rw [hs, ← hn, List.take_left, List.append_nil]
  · cases ht
    exact fin g' v H' e r p
theorem kds_of {cdv : Value} {qual : Str} (h : PySem.W.codeIn K cdv qual = true) : PySem.W.kdsCode K cdv = true := by
  unfold PySem.W.codeIn at h
  unfold PySem.W.kdsCode
  split at h
  · split at h
    · rename_i e
      dsimp only
      rw [e]
    · cases h
  · cases h
theorem fn_ok {f : Nat} {fd : FD} {qual : Str} {params : Arguments} {body : List Stmt} {scope : Scope} {a : Addr} {fdat : FuncData} (hT : C.T f = some fd) (F : FunD K fd.name qual params body scope [] [] a fdat) (S : FnScope fd.N fd.ps scope)
    (hm : mSs { C with N := fd.N } scope fd.body body = true) (top : Top P w K mg base fa C k) : FnOk P w K mg base CX0 (k + 1) a fdat fd.ps (spF K fa C (k + 1) f) := by
  obtain ⟨oc, od, dV, kV, doc, pm, an, cdv, ct, osl, rfl, lk, hcd, _, _⟩ := F.ex
  refine fn_of lk hcd S (fun vs H Q E h => ?_) fun A outer s H vs Q E hr h => ?_
  · obtain ⟨g, S0, ds, d, S', rs, rp, hc, fin⟩ := h
    rw [← rp.length]
    simp only [call, hT, runF] at hc
    split at hc
    · assumption
    · cases hc
  · obtain ⟨g, S0, ds, d, S', rs, rp, hc, fin⟩ := h
    simp only [call, hT, runF] at hc
    split at hc
    · have hX : Ctx0 { C with N := fd.N } k scope (cxOf CX0 P w K mg base fd.N qual scope a cdv A outer s H E).nox := ⟨⟨rfl, S.nd, rfl, hr, rfl, rfl⟩, S.kind, fun _ => rfl, kds_of hcd⟩
      have body := (sSs (fa := fa) (C := { C with N := fd.N }) (k := k) _ scope hX (top.n fd.N) fd.body body hm).nox
      refine ⟨_, body, ?_⟩
      split at hc
      · rename_i d0 ρ1 S1 he
        refine ⟨g, startA fd.N.length ds, S0, _, rs, ERel.start rp fd.N, he, ?_⟩
        exact fun g' v H' e r p => trunc_fin rs.len (Option.some.inj hc) fin e r p
      · rename_i ρ1 S1 he
        refine ⟨g, startA fd.N.length ds, S0, _, rs, ERel.start rp fd.N, he, ?_⟩
        exact fun g' σ' H' e r er => trunc_fin rs.len (Option.some.inj hc) fin e r .non
      · cases hc
    · cases hc
/-- a def of the table, as it stands behind the top -/
structure DefOk (K : PySem.W.Frag) (mg : Str → Option Value) (fa : Fa) (C : Cfg) (f : Nat) (fd : FD) : Prop where
  ex : ∃ (qual : Str) (params : Arguments) (body : List Stmt) (scope : Scope) (a : Addr) (fdat : FuncData), fa f = some a ∧ mg fd.name = some (.ref a) ∧ FunD K fd.name qual params body scope [] [] a fdat ∧ Binds K fdat fd.ps [] ∧ FnScope fd.N fd.ps scope ∧ mSs { C with N := fd.N } scope fd.body body = true
/-- a special def: its promise is met by a proof of its own -/
structure SpOk (P : Program) (w : World) (K : PySem.W.Frag) (mg : Str → Option Value) (base : Heap) (fa : Fa) (C : Cfg) (f : Nat) (fd : FD) : Prop where
  ex : ∃ (a : Addr) (fdat : FuncData), fa f = some a ∧ mg fd.name = some (.ref a) ∧ PySem.W.keepIn K (.ref a) = true ∧ Binds K fdat fd.ps [] ∧ ∀ k, Top P w K mg base fa C k → (∀ j, k = j + 1 → Top P w K mg base fa C j) → FnOk P w K mg base CX0 (k + 1) a fdat fd.ps (spF K fa C (k + 1) f)
theorem all_okS (pw : fa.P = P ∧ fa.w = w) (hd : ∀ f fd, C.T f = some fd → fd.name ≠ ("" : Str) → DefOk K mg fa C f fd ∨ SpOk P w K mg base fa C f fd) (blt : ∀ x : Str, x ∈ bltNames → mg x = none) (gcd : C.gcd = true → mg "gcd" = some (.builtin "math.gcd"))
    (gl : ∀ x d, C.gl x = some d → ∃ v u, mg x = some u ∧ RelV v u ∧ ∀ g H, Rep K fa g H d v) : ∀ k, Top P w K mg base fa C k ∧ ∀ j, k = j + 1 → Top P w K mg base fa C j
  | 0 => ⟨⟨pw, blt, gcd, gl, fun f fd hT hn => by
    have triv : ∀ a fdat, FnOk P w K mg base CX0 0 a fdat fd.ps (spF K fa C 0 f) := fun a fdat => by
      refine ⟨fun vs H Q E h => ?_, fun A outer s H args us vs Q E _ _ _ _ h => ?_⟩
      · obtain ⟨g, S0, ds, d, S', rs, rp, hc, fin⟩ := h
        cases hc
      · obtain ⟨g, S0, ds, d, S', rs, rp, hc, fin⟩ := h
        cases hc
    rcases hd f fd hT hn with h | h
    · obtain ⟨qual, params, body, scope, a, fdat, h1, h2, h3, h4, h5, h6⟩ := h.ex
      exact ⟨a, fdat, h1, h2, h3.kp, h4, triv a fdat⟩
    · obtain ⟨a, fdat, h1, h2, h3, h4, _⟩ := h.ex
      exact ⟨a, fdat, h1, h2, h3, h4, triv a fdat⟩⟩, fun j h => nomatch h⟩
  | k + 1 => by
    obtain ⟨top, low⟩ := all_okS pw hd blt gcd gl k
    refine ⟨⟨pw, blt, gcd, gl, fun f fd hT hn => ?_⟩, fun j h => by cases h; exact top⟩
    rcases hd f fd hT hn with h | h
    · obtain ⟨qual, params, body, scope, a, fdat, h1, h2, h3, h4, h5, h6⟩ := h.ex
      exact ⟨a, fdat, h1, h2, h3.kp, h4, fn_ok hT h3 h5 h6 top⟩
    · obtain ⟨a, fdat, h1, h2, h3, h4, h5⟩ := h.ex
      exact ⟨a, fdat, h1, h2, h3, h4, h5 k top low⟩
theorem all_ok (pw : fa.P = P ∧ fa.w = w) (hd : ∀ f fd, C.T f = some fd → DefOk K mg fa C f fd) (blt : ∀ x : Str, x ∈ bltNames → mg x = none) (gcd : C.gcd = true → mg "gcd" = some (.builtin "math.gcd"))
    (gl : ∀ x d, C.gl x = some d → ∃ v u, mg x = some u ∧ RelV v u ∧ ∀ g H, Rep K fa g H d v) (k : Nat) : Top P w K mg base fa C k :=
  (all_okS pw (fun f fd hT _ => .inl (hd f fd hT)) blt gcd gl k).1
/-- the law's promise is met -/
theorem law_sp {fL : Nat} {ns : List Int} {S' : Store} {a : Addr} {H : Hp} (hc : call C.T C.gl k fL [.scr ns] [] = some (.bl true, S')) (h : SqL K H a (ns.map V.int)) :
    spF K fa C k fL [.ref a] H (fun v _ => v = .bl true) (fun _ _ _ => False) := by
  have hs : SqS K ⟨fun b => b = a ∧ H a = some (.lst (ns.map V.int)), fun _ => False, []⟩ H a (ns.map V.int) := by
    rcases h with (h | ⟨o, h⟩) | h
    · exact .inl ⟨h, rfl, h⟩
    · exact .inr (.inl ⟨o, h⟩)
    · exact .inr (.inr h)
  refine ⟨⟨fun b => b = a ∧ H a = some (.lst (ns.map V.int)), fun _ => False, []⟩, [], [.scr ns], .bl true, S', ⟨rfl, fun i j b hb => by simp at hb, fun b hb => ⟨by simp, fun z => z, ?_⟩, fun b hb => hb.elim, fun r o b hr => by simp at hr⟩, .one (.scr hs), hc, fun g' v H' e r p => p.bl_inv⟩
  obtain ⟨rfl, hb⟩ := hb
  rw [hb]
  exact fun z => nomatch z
end
end Ab

/-! Ab15: what the top leaves, read by one look. -/
namespace Ab
open PySem PySem.Spec PyProof.Rows L2
/-! a value of the written part that is such data -/
mutual
def repB (K : PySem.W.Frag) : D → Value → Bool
  | .non, .none => true
  | .bl b, .bool c => b == c
  | .int i, .int j _ => decide (i = j)
  | .str x, .str y _ => decide (x = y)
  | .tup ds, .ref a => (match K.lookup a with
    | some ⟨.type c, _, .seq its _, _⟩ => decide (c = "tuple") && (decide (its.size ≤ sizeLine) && repsB K ds its.toList)
    | _ => false)
  | _, _ => false
def repsB (K : PySem.W.Frag) : List D → List Value → Bool
  | [], [] => true
  | d :: ds, u :: us => repB K d u && repsB K ds us
  | _, _ => false
end
section
variable {K : PySem.W.Frag} {fa : Fa}
mutual
theorem repB_ok : ∀ {d : D} {u : Value}, repB K d u = true → ∃ v, RelV v u ∧ ∀ g H, Rep K fa g H d v
  | .non, u, h => by
    cases u with
    | none => exact ⟨.non, rfl, fun _ _ => .non⟩
    | _ => simp [repB] at h
  | .bl b, u, h => by
    cases u with
    | bool c =>
      have e : b = c := by simpa [repB] using h
      subst e
      exact ⟨.bl b, rfl, fun _ _ => .bl b⟩
    | _ => simp [repB] at h
  | .int i, u, h => by
    cases u with
    | int j t =>
      have e : i = j := by simpa [repB] using h
      subst e
      exact ⟨.int i, ⟨t, rfl⟩, fun _ _ => .int i⟩
    | _ => simp [repB] at h
  | .str i, u, h => by
    cases u with
    | str j t =>
      have e : i = j := by simpa [repB] using h
      subst e
      exact ⟨.str i, ⟨t, rfl⟩, fun _ _ => .str i⟩
    | _ => simp [repB] at h
  | .tup ds, u, h => by
    cases u with
    | ref a =>
      simp only [repB] at h
      cases q : K.lookup a with
      | none => rw [q] at h; cases h
      | some o =>
        obtain ⟨oc, od, dt, osl⟩ := o
        rw [q] at h
        cases oc with
        | type c =>
          cases dt with
          | seq its n =>
            simp only [Bool.and_eq_true, decide_eq_true_eq] at h
            obtain ⟨rfl, hz, h3⟩ := h
            obtain ⟨vs, h4, h5⟩ := repsB_ok h3
            exact ⟨.ref a, rfl, fun g H => .tup (.inr ⟨_, its, n, q, rfl, rfl, hz, h4⟩) (h5 g H)⟩
          | _ => simp at h
        | _ => simp at h
    | _ => simp [repB] at h
  | .lst _, u, h => by simp [repB] at h
  | .scr _, u, h => by simp [repB] at h
  | .ref _, u, h => by simp [repB] at h
  | .fn _, u, h => by simp [repB] at h
theorem repsB_ok : ∀ {ds : List D} {us : List Value}, repsB K ds us = true → ∃ vs, Vals vs us ∧ ∀ g H, Reps K fa g H ds vs
  | [], [], _ => ⟨[], .nil, fun _ _ => .nil⟩
  | [], _ :: _, h => by simp [repsB] at h
  | _ :: _, [], h => by simp [repsB] at h
  | d :: ds, u :: us, h => by
    simp only [repsB, Bool.and_eq_true] at h
    obtain ⟨v, h1, h2⟩ := repB_ok h.1
    obtain ⟨vs, h3, h4⟩ := repsB_ok h.2
    exact ⟨v :: vs, .cons h1 h3, fun g H => .cons (h2 g H) (h4 g H)⟩
end
end
/-- a def of the table: its number, its code, where it stands in the top -/
structure TD where
  id : Nat
  fd : FD
  st : Stmt
def TD.dd (t : TD) : He.DefD := ⟨(t.fd.name, none), t.fd.name, t.fd.name, defArgs t.st, defBody t.st, defScope t.st, [], []⟩
def glB' (K : PySem.W.Frag) (p : Str × D) : Bool := match PySem.W.nsIn K mainGlobals p.1 with
  | some (some u) => repB K p.2 u
  | _ => false
/-- all that is looked at beside the defs -/
def exB (gcd : Bool) (gls : List (Str × D)) (ts : List TD) (K : PySem.W.Frag) : Bool :=
  (bltNames.all fun x => (He.Fa.free x).ok K) && ((!gcd || (match PySem.W.nsIn K mainGlobals "gcd" with | some (some (.builtin b)) => decide (b = "math.gcd") | _ => false)) && (gls.all (glB' K) && ts.all fun t => (He.Fa.glo t.fd.name).ok K))
abbrev AlX : Type := Bool × List He.FnW
def obsX (gcd : Bool) (gls : List (Str × D)) (ts : List TD) (K : PySem.W.Frag) : AlX := (exB gcd gls ts K && ts.all fun t => t.dd.ok K, ts.map fun t => He.fnW K t.dd.at_)
def valX (ts : List TD) : AlX := (true, ts.map fun t => t.dd.val)
def SaysX (gcd : Bool) (gls : List (Str × D)) (ts : List TD) (K : PySem.W.Frag) : Prop := obsX gcd gls ts K = valX ts
def obsXG (n : Nat) (gcd : Bool) (gls : List (Str × D)) (ts : List TD) (g : Addr → Option Obj) : AlX := obsX gcd gls ts (He.frG g (He.asD g n))
def hookX (n : Nat) (gcd : Bool) (gls : List (Str × D)) (ts : List TD) : PySem.W.Hook where
  α := AlX
  obs := fun s => obsXG n gcd gls ts s.heap.get?
  val := fun _ => valX ts
  says := fun _ h => ∃ K : PySem.W.Frag, K.In h ∧ SaysX gcd gls ts K
  of := fun _ _ e => ⟨_, He.frG_in, e⟩
  keeps := fun _ _ _ ⟨K, hK, c⟩ k => ⟨K, PySem.W.Frag.In.keeps hK k, c⟩
theorem obsX_eq {n : Nat} {gcd : Bool} {gls : List (Str × D)} {ts : List TD} {g : Addr → Option Obj} {s : Shared} (h : ∀ a, g a = s.heap.get? a) : obsXG n gcd gls ts g = (hookX n gcd gls ts).obs s := by
  have e : g = s.heap.get? := funext h
  rw [e] <;> rfl

def findT (ts : List TD) (f : Nat) : Option TD := ts.find? fun t => t.id == f
def tab (ts : List TD) (f : Nat) : Option FD := (findT ts f).map (·.fd)
def glT (gls : List (Str × D)) (x : Str) : Option D := (gls.find? fun p => decide (p.1 = x)).map (·.2)
def cfg (gcd : Bool) (gls : List (Str × D)) (ts : List TD) : Cfg := ⟨[], tab ts, glT gls, gcd⟩
/-- what is checked of a def's code, text by text -/
def TD.good (gcd : Bool) (gls : List (Str × D)) (ts : List TD) (t : TD) : Bool := mSs { cfg gcd gls ts with N := t.fd.N } (defScope t.st) t.fd.body (defBody t.st)
/-- how its arguments bind -/
def TD.bnd (t : TD) : Prop := ∀ (kV doc pm : Value) (an : Option Addr) (cdv ct : Value) (us : List Value), us.length = t.fd.ps.length → bindArgs (PySem.W.fnOf t.fd.name t.fd.name (defArgs t.st) (defBody t.st) (defScope t.st) .none kV doc pm an cdv ct) ⟨us, []⟩ = pure (t.fd.ps.zip us)
structure TD.Ok (gcd : Bool) (gls : List (Str × D)) (ts : List TD) (t : TD) : Prop where
  sc : FnScope t.fd.N t.fd.ps (defScope t.st)
  good : t.good gcd gls ts = true
  bnd : t.bnd

section
variable {P : Program} {w : World} {K : PySem.W.Frag} {mg : Str → Option Value} {h base : Heap} {gcd : Bool} {gls : List (Str × D)} {ts : List TD}
theorem top_of (X : K.In h) (G : h.Ns mainGlobals mg) (c : SaysX gcd gls ts K) (ok : ∀ t ∈ ts, t.Ok gcd gls ts) (k : Nat) :
    Top P w K mg base ⟨fun f => (findT ts f).map fun t => He.ga K t.fd.name, P, w⟩ (cfg gcd gls ts) k := by
  have c1 := He.ba (show (exB gcd gls ts K && ts.all fun t => t.dd.ok K) = true from congrArg (fun z : AlX => z.1) c)
  have c2 : ts.map (fun t => He.fnW K t.dd.at_) = ts.map fun t => t.dd.val := congrArg (fun z : AlX => z.2) c
  obtain ⟨e1, e2⟩ := He.ba c1.1
  obtain ⟨e3, e4⟩ := He.ba e2
  obtain ⟨e5, e6⟩ := He.ba e4
  refine all_ok (fa := ⟨fun f => (findT ts f).map fun t => He.ga K t.fd.name, P, w⟩) (P := P) (w := w) ⟨rfl, rfl⟩ (fun f fd hT => ?_) (fun x hx => He.free_ok X G (List.all_eq_true.mp e1 x hx)) (fun hg => ?_) (fun x d hd => ?_) k
  · obtain ⟨t, ht, rfl⟩ := Option.map_eq_some_iff.mp (show (findT ts f).map (·.fd) = some fd from hT)
    have hm : t ∈ ts := List.mem_of_find?_eq_some ht
    have hf : He.fnW K t.dd.at_ = t.dd.val := by
      obtain ⟨i, hi⟩ := List.getElem?_of_mem hm
      have q : (ts.map fun t => He.fnW K t.dd.at_)[i]? = (ts.map fun t => t.dd.val)[i]? := by rw [c2]
      rw [List.getElem?_map, List.getElem?_map, hi] at q
      exact Option.some.inj q
    obtain ⟨fdat, F⟩ := He.DefD.funD hf (List.all_eq_true.mp c1.2 t hm)
    have o := ok t hm
    have F' : FunD K t.fd.name t.fd.name (defArgs t.st) (defBody t.st) (defScope t.st) [] [] (He.ga K t.fd.name) fdat := F
    exact ⟨_, _, _, _, He.ga K t.fd.name, fdat, by show (findT ts f).map (fun t => He.ga K t.fd.name) = _; rw [ht]; rfl, He.glo_ok X G (List.all_eq_true.mp e6 t hm), F', F'.bindsN o.bnd, o.sc, o.good⟩
  · have hg : gcd = true := hg
    subst hg
    have e3 : (match PySem.W.nsIn K mainGlobals "gcd" with | some (some (.builtin b)) => decide (b = "math.gcd") | _ => false) = true := e3
    cases q : PySem.W.nsIn K mainGlobals "gcd" with
    | none => rw [q] at e3; cases e3
    | some o =>
      rw [q] at e3
      cases o with
      | none => cases e3
      | some v =>
        cases v with
        | builtin b =>
          have eb : b = "math.gcd" := of_decide_eq_true e3
          subst eb
          exact PySem.W.mg_of X G q
        | _ => cases e3
  · obtain ⟨p, hp, rfl⟩ := Option.map_eq_some_iff.mp (show (gls.find? fun p => decide (p.1 = x)).map (·.2) = some d from hd)
    have hm := List.mem_of_find?_eq_some hp
    have hx : p.1 = x := by
      have := List.find?_some hp
      exact of_decide_eq_true this
    have hb := List.all_eq_true.mp e5 p hm
    unfold glB' at hb
    cases q : PySem.W.nsIn K mainGlobals p.1 with
    | none => rw [q] at hb; cases hb
    | some o =>
      rw [q] at hb
      cases o with
      | none => cases hb
      | some u =>
        obtain ⟨v, h1, h2⟩ := repB_ok hb
        exact ⟨v, u, by rw [← hx]; exact PySem.W.mg_of X G q, h1, h2⟩
/-- the law's def over this table -/
theorem law_of (X : K.In h) (G : h.Ns mainGlobals mg) (c : SaysX gcd gls ts K) (ok : ∀ t ∈ ts, t.Ok gcd gls ts) (k : Nat) {f : Nat} {t : TD} (ht : findT ts f = some t) (hps : t.fd.ps = [("script" : Str)]) {a : Addr} (ha : mg t.fd.name = some (.ref a))
    (math : ∀ ns : List Int, ns.length ≤ 63 → ∃ S', call (tab ts) (glT gls) (k + 1) f [.scr ns] [] = some (.bl true, S')) :
    ∃ (fd : FuncData) (sp : Sp), (∀ (s : Shared) (u : Value), BindsTo s fd ⟨[u], []⟩ [("script", u)]) ∧
      (∀ (H : Hp) (b : Addr) (ns : List Int), ns.length ≤ 63 → Only H → SqL K H b (ns.map V.int) → sp [.ref b] H (fun v _ => v = .bl true) fun _ _ _ => False) ∧
      ∀ base : Heap, K.In base → base.Ns mainGlobals mg → FnOk P w K mg base CX0 (k + 1) a fd ["script"] sp := by
  have hm : t ∈ ts := List.mem_of_find?_eq_some ht
  have hT : (cfg gcd gls ts).T f = some t.fd := by show (findT ts f).map (·.fd) = _; rw [ht]; rfl
  have c1 := He.ba (show (exB gcd gls ts K && ts.all fun t => t.dd.ok K) = true from congrArg (fun z : AlX => z.1) c)
  have c2 : ts.map (fun t => He.fnW K t.dd.at_) = ts.map fun t => t.dd.val := congrArg (fun z : AlX => z.2) c
  have hf : He.fnW K t.dd.at_ = t.dd.val := by
    obtain ⟨i, hi⟩ := List.getElem?_of_mem hm
    have q : (ts.map fun t => He.fnW K t.dd.at_)[i]? = (ts.map fun t => t.dd.val)[i]? := by rw [c2]
    rw [List.getElem?_map, List.getElem?_map, hi] at q
    exact Option.some.inj q
  obtain ⟨fdat, F⟩ := He.DefD.funD hf (List.all_eq_true.mp c1.2 t hm)
  have o := ok t hm
  have F' : FunD K t.fd.name t.fd.name (defArgs t.st) (defBody t.st) (defScope t.st) [] [] (He.ga K t.fd.name) fdat := F
  refine ⟨fdat, spF K ⟨fun f => (findT ts f).map fun t => He.ga K t.fd.name, P, w⟩ (cfg gcd gls ts) (k + 1) f, fun s u => ?_, fun H b ns hl _ hs => ?_, fun base _ _ => ?_⟩
  · have := F'.bindsA (ps := t.fd.ps) o.bnd s [u] (by rw [hps]; rfl)
    rw [hps] at this
    exact this
  · obtain ⟨S', hc⟩ := math ns hl
    exact law_sp (C := cfg gcd gls ts) hc hs
  · have e6 := (He.ba (He.ba (He.ba c1.1).2).2).2
    have h2 := He.glo_ok X G (List.all_eq_true.mp e6 t hm)
    have e1 : a = He.ga K t.fd.name := by
      rw [ha] at h2
      cases h2
      rfl
    rw [e1]
    have h5 := fn_ok hT F' o.sc o.good (top_of (P := P) (w := w) (base := base) X G c ok k)
    rw [hps] at h5
    exact h5
end
end Ab

/-! Ab16: one step each, for simp; walks over lists. -/
namespace Ab
open PySem
/-- so that simp takes it as a step, not as a look -/
theorem nd {α : Sort _} {a b : α} (h : a = b) : a = b := h
section
variable {cf : CallF} {gl : Str → Option D} {ρ : AEnv} {S : Store}
@[simp] theorem e_lit {d} : ev cf gl (.lit d) ρ S = some (d, S) := nd rfl
@[simp] theorem e_var {i} : ev cf gl (.var i) ρ S = (match ρ[i]? with | some (some d) => some (d, S) | _ => none) := nd rfl
@[simp] theorem e_glob {x} : ev cf gl (.glob x) ρ S = (gl x).map fun d => (d, S) := nd rfl
@[simp] theorem e_tup {es} : ev cf gl (.tup es) ρ S = (match evs cf gl es ρ S with | some (ds, S') => if ds.length ≤ sizeLine then some (.tup ds, S') else none | none => none) := nd rfl
@[simp] theorem e_lst {es} : ev cf gl (.lst es) ρ S = (match evs cf gl es ρ S with | some (ds, S') => if ds.length ≤ sizeLine then some (.lst ds, S') else none | none => none) := nd rfl
@[simp] theorem e_bin {op a b} : ev cf gl (.bin op a b) ρ S = (match ev cf gl a ρ S with | some (x, S1) => (match ev cf gl b ρ S1 with | some (y, S2) => (dBin S2 op x y).map fun z => (z, S2) | none => none) | none => none) := nd rfl
@[simp] theorem e_un {op a} : ev cf gl (.un op a) ρ S = (match ev cf gl a ρ S with | some (x, S1) => (dUn op x).map fun z => (z, S1) | none => none) := nd rfl
@[simp] theorem e_bop {op es} : ev cf gl (.bop op es) ρ S = evB cf gl op es ρ S := nd rfl
@[simp] theorem e_cmp {op a b} : ev cf gl (.cmp op a b) ρ S = (match ev cf gl a ρ S with | some (x, S1) => (match ev cf gl b ρ S1 with | some (y, S2) => (dCmp S2 op x y).map fun z => (.bl z, S2) | none => none) | none => none) := nd rfl
@[simp] theorem e_ite {c a b} : ev cf gl (.ite c a b) ρ S = (match evT cf gl c ρ S with | some (true, S1) => ev cf gl a ρ S1 | some (false, S1) => ev cf gl b ρ S1 | none => none) := nd rfl
@[simp] theorem e_ix {a i} : ev cf gl (.ix a i) ρ S = (match ev cf gl a ρ S with | some (x, S1) => (match ev cf gl i ρ S1 with | some (y, S2) => (dIx S2 x y).map fun z => (z, S2) | none => none) | none => none) := nd rfl
@[simp] theorem e_slc {a lo hi} : ev cf gl (.slc a lo hi) ρ S = (match ev cf gl a ρ S with | some (x, S1) => (match evO cf gl lo ρ S1 with | some (l, S2) => (match evO cf gl hi ρ S2 with | some (h, S3) => (dSl S3 x l h).map fun z => (z, S3) | none => none) | none => none) | none => none) := nd rfl
@[simp] theorem e_call {f es} : ev cf gl (.call f es) ρ S = (match evs cf gl es ρ S with | some (ds, S') => cf f ds S' | none => none) := nd rfl
@[simp] theorem e_bi {b es} : ev cf gl (.bi b es) ρ S = (match evs cf gl es ρ S with | some (ds, S') => (dBi S' b ds).map fun z => (z, S') | none => none) := nd rfl
@[simp] theorem e_isi {t a} : ev cf gl (.isi t a) ρ S = (match ev cf gl a ρ S with | some (x, S1) => (dIsi S1 t x).map fun z => (.bl z, S1) | none => none) := nd rfl
@[simp] theorem e_meth {m o es} : ev cf gl (.meth m o es) ρ S = (match ev cf gl o ρ S with | some (x, S1) => (if recvOk m x S1 then (match evs cf gl es ρ S1 with | some (ds, S2) => dMe m x ds S2 | none => none) else none) | none => none) := nd rfl
@[simp] theorem e_list1 {a} : ev cf gl (.list1 a) ρ S = (match ev cf gl a ρ S with | some (x, S1) => (items S1 x).map fun ds => (.lst ds, S1) | none => none) := nd rfl
/-- the block of a comprehension -/
def lcBk (cf : CallF) (gl : Str → Option D) (tg : Tg) (ifs : List IE) (elt : IE) (ρ : AEnv) (d : D) (S : Store) : Option (Option D × Store) := match Tg.bind tg d ρ with
  | some ρ' => (match evTs cf gl ifs ρ' S with
    | some (true, S2) => (ev cf gl elt ρ' S2).map fun p => (some p.1, p.2)
    | some (false, S2) => some (none, S2)
    | none => none)
  | none => none
@[simp] theorem e_lc {own tg rg it ifs elt} : ev cf gl (.lc own tg rg it ifs elt) ρ S = (match evs cf gl it ρ S with | some (ds, S1) => (match walk rg ds S1 with | some xs => (evLc (stays rg ds xs) (lcBk cf gl tg ifs elt (wipeA ρ own)) xs [] S1).map fun p => (.lst p.1, p.2) | none => none) | none => none) := nd rfl
@[simp] theorem es_nil : evs cf gl [] ρ S = some ([], S) := nd rfl
@[simp] theorem es_cons {e es} : evs cf gl (e :: es) ρ S = (match ev cf gl e ρ S with | some (d, S1) => (match evs cf gl es ρ S1 with | some (ds, S2) => some (d :: ds, S2) | none => none) | none => none) := nd rfl
@[simp] theorem eB_cons {op e es} : evB cf gl op (e :: es) ρ S = (match ev cf gl e ρ S with | some (d, S1) => (if es.isEmpty then some (d, S1) else match d with | .bl b => (if b = isAnd op then evB cf gl op es ρ S1 else some (.bl b, S1)) | _ => none) | none => none) := nd rfl
@[simp] theorem eT_not {a} : evT cf gl (.un .Not a) ρ S = (match evT cf gl a ρ S with | some (b, S1) => some (!b, S1) | none => none) := nd rfl
@[simp] theorem eT_bop {op es} : evT cf gl (.bop op es) ρ S = evBT cf gl op es ρ S := nd rfl
@[simp] theorem eT_var {i} : evT cf gl (.var i) ρ S = (match ρ[i]? with | some (some d) => (truth S d).map fun b => (b, S) | _ => none) := nd rfl
@[simp] theorem eT_cmp {op a b} : evT cf gl (.cmp op a b) ρ S = (match ev cf gl a ρ S with | some (x, S1) => (match ev cf gl b ρ S1 with | some (y, S2) => (dCmp S2 op x y).map fun z => (z, S2) | none => none) | none => none) := nd rfl
@[simp] theorem eT_call {f es} : evT cf gl (.call f es) ρ S = (match evs cf gl es ρ S with | some (ds, S') => (match cf f ds S' with | some (.bl b, S2) => some (b, S2) | _ => none) | none => none) := nd rfl
@[simp] theorem eT_isi {t a} : evT cf gl (.isi t a) ρ S = (match ev cf gl a ρ S with | some (x, S1) => (dIsi S1 t x).map fun z => (z, S1) | none => none) := nd rfl
@[simp] theorem eBT_nil {op} : evBT cf gl op [] ρ S = some (isAnd op, S) := nd rfl
@[simp] theorem eBT_cons {op e es} : evBT cf gl op (e :: es) ρ S = (match evT cf gl e ρ S with | some (b, S1) => (if b = isAnd op then evBT cf gl op es ρ S1 else some (b, S1)) | none => none) := nd rfl
@[simp] theorem eTs_nil : evTs cf gl [] ρ S = some (true, S) := nd rfl
@[simp] theorem eTs_cons {e es} : evTs cf gl (e :: es) ρ S = (match evT cf gl e ρ S with | some (true, S1) => evTs cf gl es ρ S1 | some (false, S1) => some (false, S1) | none => none) := nd rfl
@[simp] theorem eO_none : evO cf gl none ρ S = some (none, S) := nd rfl
@[simp] theorem eO_some {e} : evO cf gl (some e) ρ S = (match ev cf gl e ρ S with | some (.int i, S1) => some (some i, S1) | _ => none) := nd rfl
@[simp] theorem s_asg {tg e} : evS cf gl (.asg tg e) ρ S = (match ev cf gl e ρ S with | some (d, S1) => (Tg.bind tg d ρ).map fun ρ' => (.next, ρ', S1) | none => none) := nd rfl
@[simp] theorem s_new {i e} : evS cf gl (.new i e) ρ S = (match ev cf gl e ρ S with | some (.lst ds, S1) => (if i < ρ.length then some (.next, ρ.set i (some (.ref S1.length)), S1 ++ [.lst ds]) else none) | _ => none) := nd rfl
@[simp] theorem s_par {i j a b} : evS cf gl (.par i j a b) ρ S = (match ev cf gl a ρ S with | some (x, S1) => (match ev cf gl b ρ S1 with | some (y, S2) => (if i < ρ.length ∧ j < ρ.length then some (.next, (ρ.set i (some x)).set j (some y), S2) else none) | none => none) | none => none) := nd rfl
@[simp] theorem s_seti {o i e} : evS cf gl (.seti o i e) ρ S = (match ev cf gl e ρ S with
    | some (d, S1) => (match ev cf gl o ρ S1 with
      | some (.ref r, S2) => (match ev cf gl i ρ S2 with
        | some (.int k, S3) => (match S3[r]? with
          | some (.lst xs) => (match L2.ixN xs.length k with
            | some j => some (.next, ρ, S3.set r (.lst (xs.set j d)))
            | none => none)
          | _ => none)
        | _ => none)
      | _ => none)
    | none => none) := nd rfl
@[simp] theorem s_ex {e} : evS cf gl (.ex e) ρ S = (match ev cf gl e ρ S with | some (_, S1) => some (.next, ρ, S1) | none => none) := nd rfl
@[simp] theorem s_ret {e} : evS cf gl (.ret e) ρ S = (match ev cf gl e ρ S with | some (d, S1) => some (.ret d, ρ, S1) | none => none) := nd rfl
@[simp] theorem s_ite {c a b} : evS cf gl (.ite c a b) ρ S = (match evT cf gl c ρ S with | some (true, S1) => evSs cf gl a ρ S1 | some (false, S1) => evSs cf gl b ρ S1 | none => none) := nd rfl
@[simp] theorem s_whl {n c b} : evS cf gl (.whl n c b) ρ S = evWh (evT cf gl c) (evSs cf gl b) n ρ S := nd rfl
/-- the block of a for -/
def forF (cf : CallF) (gl : Str → Option D) (tg : Tg) (b : List IS) (d : D) (ρ : AEnv) (S : Store) : RS := match Tg.bind tg d ρ with
  | some ρ' => evSs cf gl b ρ' S
  | none => none
@[simp] theorem s_for {tg rg it b} : evS cf gl (.for_ tg rg it b) ρ S = (match evs cf gl it ρ S with | some (ds, S1) => (match walk rg ds S1 with | some xs => evFor (stays rg ds xs) (forF cf gl tg b) xs ρ S1 | none => none) | none => none) := nd rfl
@[simp] theorem e_rev {a} : ev cf gl (.rev a) ρ S = (match ev cf gl a ρ S with | some (x, S1) => (dRev S1 x).map fun d => (d, S1) | none => none) := nd rfl
@[simp] theorem e_dget {a i} : ev cf gl (.dget a i) ρ S = (match ev cf gl a ρ S with | some (x, S1) => (match ev cf gl i ρ S1 with | some (y, S2) => (match dicLook S2 x y with | some (some d) => some (d, S2) | _ => none) | none => none) | none => none) := nd rfl
@[simp] theorem e_dlen {a} : ev cf gl (.dlen a) ρ S = (match ev cf gl a ρ S with | some (x, S1) => (dicOf S1 x).map fun p => (.int p.2.length, S1) | none => none) := nd rfl
@[simp] theorem e_sadd {a i} : ev cf gl (.sadd a i) ρ S = (match ev cf gl a ρ S with
    | some (.ref r, S1) => (match S1[r]? with
      | some (.set _) => (match ev cf gl i ρ S1 with
        | some (.int n, S2) => (match S2[r]? with
          | some (.set ns) => if ns.length < 4000 then some (.non, S2.set r (.set (addTo ns n))) else none
          | _ => none)
        | _ => none)
      | _ => none)
    | _ => none) := nd rfl
@[simp] theorem e_slen {a} : ev cf gl (.slen a) ρ S = (match ev cf gl a ρ S with
    | some (x, S1) => (match listOf S1 x with
      | some ds => (match ints? ds with
        | some ns => if ns.length < 4000 then some (.int (dist ns).length, S1) else none
        | none => none)
      | none => none)
    | none => none) := nd rfl
@[simp] theorem eT_din {neg i a} : evT cf gl (.din neg i a) ρ S = (match ev cf gl i ρ S with | some (y, S1) => (match ev cf gl a ρ S1 with | some (x, S2) => (dicLook S2 x y).map fun o => (neg != o.isSome, S2) | none => none) | none => none) := nd rfl
@[simp] theorem eT_sin {neg i a} : evT cf gl (.sin neg i a) ρ S = (match ev cf gl i ρ S with | some (.int n, S1) => (match ev cf gl a ρ S1 with | some (x, S2) => (setOf S2 x).map fun ns => (neg != ns.contains n, S2) | none => none) | _ => none) := nd rfl
@[simp] theorem s_dnew {i} : evS cf gl (.dnew i) ρ S = (if i < ρ.length then some (.next, ρ.set i (some (.ref S.length)), S ++ [.dic true []]) else none) := nd rfl
@[simp] theorem s_ddisp {i k v} : evS cf gl (.ddisp i k v) ρ S = (match ev cf gl k ρ S with
    | some (kd, S1) => (match ev cf gl v ρ S1 with
      | some (d, S2) => (match dKey true true kd with
        | some (t, kk) => if i < ρ.length then some (.next, ρ.set i (some (.ref S2.length)), S2 ++ [.dic t [(kk, d)]]) else none
        | none => none)
      | none => none)
    | none => none) := nd rfl
@[simp] theorem s_snew {i e} : evS cf gl (.snew i e) ρ S = (match ev cf gl e ρ S with | some (.int n, S1) => (if i < ρ.length then some (.next, ρ.set i (some (.ref S1.length)), S1 ++ [.set [n]]) else none) | _ => none) := nd rfl
@[simp] theorem s_dput {o i e} : evS cf gl (.dput o i e) ρ S = (match ev cf gl e ρ S with
    | some (d, S1) => (match ev cf gl o ρ S1 with
      | some (x, S2) => (match ev cf gl i ρ S2 with
        | some (y, S3) => (dicPut S3 x y d).map fun S4 => (.next, ρ, S4)
        | none => none)
      | none => none)
    | none => none) := nd rfl
@[simp] theorem s_aug {i op e} : evS cf gl (.aug i op e) ρ S = (match ρ[i]? with
    | some (some (.int x)) => (match ev cf gl e ρ S with
      | some (.int y, S1) => (augOp op x y).map fun z => (.next, ρ.set i (some (.int z)), S1)
      | _ => none)
    | _ => none) := nd rfl
@[simp] theorem s_brk : evS cf gl .brk ρ S = some (.brk, ρ, S) := nd rfl
@[simp] theorem s_cont : evS cf gl .cont ρ S = some (.cont, ρ, S) := nd rfl
@[simp] theorem ss_nil : evSs cf gl [] ρ S = some (.next, ρ, S) := nd rfl
@[simp] theorem ss_cons {s ss} : evSs cf gl (s :: ss) ρ S = (match evS cf gl s ρ S with | some (.next, ρ', S') => evSs cf gl ss ρ' S' | r => r) := nd rfl
theorem call_of {T : Nat → Option FD} {k f : Nat} {fd : FD} {ds : List D} (h : T f = some fd) (hl : ds.length = fd.ps.length) : call T gl (k + 1) f ds S = (match evSs (call T gl k) gl fd.body (startA fd.N.length ds) S with
    | some (.ret d, _, S') => some (trunc S.length d S')
    | some (.next, _, S') => some (trunc S.length .non S')
    | _ => none) := by
  show (match T f with | some fd => runF (call T gl k) gl fd ds S | none => none) = _
  rw [h]
  show runF (call T gl k) gl fd ds S = _
  unfold runF
  rw [if_pos hl] <;> rfl
@[simp] theorem trunc_len {d : D} : trunc S.length d S = (d, S) := by
  unfold trunc
  rw [List.take_length]
  split <;> rfl
end
/-! ### walks -/
theorem evLc_map {chk : Store → Bool} {f : D → Store → Option (Option D × Store)} {S : Store} (hc : chk S = true) : ∀ {ds : List D} {ys : List D} {acc : List D}, ys.length = ds.length → acc.length + ds.length ≤ sizeLine →
    (∀ i (hi : i < ds.length) (hj : i < ys.length), f ds[i] S = some (some ys[i], S)) → evLc chk f ds acc S = some (acc ++ ys, S)
  | [], [], acc, _, _, _ => by rw [evLc, if_pos hc, List.append_nil]
  | d :: ds, y :: ys, acc, hl, hz, h => by
    rw [evLc, if_pos hc]
    have h0 := h 0 (Nat.zero_lt_succ _) (Nat.zero_lt_succ _)
    simp only [List.getElem_cons_zero] at h0
    rw [h0]
    simp only [List.length_cons] at hz
    simp only
    rw [if_pos (by omega), evLc_map hc (by simpa using hl) (by rw [List.length_append]; simp only [List.length_cons, List.length_nil]; omega) (fun i hi hj => h (i + 1) (by simpa using hi) (by simpa using hj)), List.append_assoc]
    rfl
  | [], _ :: _, _, h, _, _ => by cases h
  | _ :: _, [], _, h, _, _ => by cases h
/-- a for whose block goes on, a state kept turn by turn -/
theorem evFor_inv {chk : Store → Bool} {body : D → AEnv → Store → RS} (I : Nat → AEnv → Store → Prop) : ∀ {ds : List D} {n : Nat} {ρ : AEnv} {S : Store}, (∀ n ρ S, I n ρ S → chk S = true) → I n ρ S →
    (∀ i (hi : i < ds.length) ρ S, I (n + i) ρ S → ∃ ρ' S', body ds[i] ρ S = some (.next, ρ', S') ∧ I (n + i + 1) ρ' S') → ∃ ρ' S', evFor chk body ds ρ S = some (.next, ρ', S') ∧ I (n + ds.length) ρ' S'
  | [], n, ρ, S, hc, h, _ => ⟨ρ, S, by rw [evFor, if_pos (hc _ _ _ h)], h⟩
  | d :: ds, n, ρ, S, hc, h, hb => by
    obtain ⟨ρ1, S1, h1, h2⟩ := hb 0 (Nat.zero_lt_succ _) ρ S h
    simp only [List.getElem_cons_zero] at h1
    obtain ⟨ρ2, S2, h3, h4⟩ := evFor_inv (ds := ds) (n := n + 1) I hc h2 (fun i hi ρ S hI => by
      have := hb (i + 1) (by simpa using hi) ρ S (by rw [show n + (i + 1) = n + 1 + i by omega]; exact hI)
      rw [show n + 1 + i + 1 = n + (i + 1) + 1 by omega]
      simpa using this)
    refine ⟨ρ2, S2, ?_, ?_⟩
    · rw [evFor, if_pos (hc _ _ _ h), h1]
      exact h3
    · rw [List.length_cons, show n + (ds.length + 1) = n + 1 + ds.length by omega]
      exact h4
end Ab

/-! Ab17: a def that raises an error of an own class where a test says so; a def that tells whether it does. -/
namespace Ab
open PySem PySem.Spec PyProof.Rows L2

/-- isinstance(e, (c1, c2, ..)), e the exception that the suite holds -/
def rIsET (K : PySem.W.Frag) (D a : Addr) : List V → Hp → VK → Prop := fun xs H Q => ∃ (tp : Addr) (cs : List V) (us : List Value) (b : Bool), xs = [.ref a, .ref tp] ∧ H tp = some (.tup cs) ∧ Paired ClsV cs us ∧ PySem.W.kitAny K (.ref D) us = some b ∧ Q (.bl b) H
theorem call_isET {X : Cx} {a D : Addr} {oe : Obj} {pn : List (Addr × Obj)} (C : ExcC X.K D) (hz : Zc (.ref D) none oe) (hf : ∃ vs, oe.data = .fields vs) : CallR (X.suite a ((a, oe) :: pn)) (.builtin "isinstance") (rIsET X.K D a) := by
  intro pins s σ H xs us Q I r h
  obtain ⟨tp, cs, ws, b, rfl, hT, k, e, q⟩ := h
  obtain ⟨u1, u2, rfl, r1, r2⟩ := vals2 r
  cases (show u1 = Value.ref a from r1)
  cases (show u2 = Value.ref tp from r2)
  obtain ⟨hget, _⟩ := I.pin (a, oe) (List.mem_append.mpr (.inl List.mem_cons_self))
  obtain ⟨vs, hv⟩ := hf
  have J : PySem.W.InstAt s.heap a oe D none := by
    obtain ⟨oc, od, oda, osl⟩ := oe
    obtain ⟨h1, h2⟩ := hz
    dsimp only at h1 h2 hv
    subst h1 h2 hv
    exact ⟨hget, rfl, rfl, trivial⟩
  obtain ⟨_, its, rv, o, h1, h2, n, h3⟩ := (show ObjOk X.prog X.w H s.heap tp (.tup cs) from I.hok tp _ hT)
  have e3 := ClsV.all k rv
  subst e3
  obtain ⟨oc, od, dt, sl⟩ := o
  simp only at h2 h3
  subst h2 h3
  exact PySem.W.kia_tup (PySem.W.handS_kitx_exc C.hg C.hk C.hs C.hd C.ha C.hn C.ht C.hm) I.kIn J h1 e (fun z => nomatch z) fun tk => ⟨.bl b, H, I.kept (t' := tk) fun _ _ z => z, rfl, q⟩
theorem PA.nox {X : Cx} {es : List Expr} {t : TA} (h : PA X.nox es t) : PA X es t := ⟨fun pos pins s σ H Q I hw =>
  wpAny_mono (h.run pos pins s σ H Q (I.wish _) hw) (fun _ _ ⟨v, H', I', r, q⟩ => ⟨v, H', I'.unwish, r, q⟩) fun _ _ z => False.elim z⟩

/-- what the written part says of the error class cE that is raised, of the class cB that is caught, of three others that it is not -/
structure ExF (K : PySem.W.Frag) (mg : Str → Option Value) (cE cB o1 o2 o3 : Str) : Prop where
  exc : PySem.W.excIn K (He.ga K cE) He.veBase "ValueError.__new__" = true
  kp : PySem.W.keepIn K (.ref (He.ga K cE)) = true
  sub : PySem.W.subIn K (.ref (He.ga K cE)) (.type "BaseException") = some true
  ty : PySem.W.typeIn K (.ref (He.ga K cE)) = some (.type "type")
  isE : ExcC K (He.ga K cE)
  gE : mg cE = some (.ref (He.ga K cE))
  gB : mg cB = some (.ref (He.ga K cB))
  exm : PySem.W.exmOne K (.ref (He.ga K cE)) (.ref (He.ga K cB)) = some true
  g1 : mg o1 = some (.ref (He.ga K o1))
  g2 : mg o2 = some (.ref (He.ga K o2))
  g3 : mg o3 = some (.ref (He.ga K o3))
  i1 : PySem.W.kitOne K (.ref (He.ga K cE)) (.ref (He.ga K cE)) = some true
  i2 : PySem.W.kitOne K (.ref (He.ga K cE)) (.type "ValueError") = some true
  i3 : PySem.W.kitAny K (.ref (He.ga K cE)) [.ref (He.ga K o1), .ref (He.ga K o2), .ref (He.ga K o3)] = some false
  ve : mg "ValueError" = none
  ii : mg "isinstance" = none
def excCB (K : PySem.W.Frag) (D : Addr) : Bool :=
  He.eqO (PySem.W.findIn K (.ref D) "__getattribute__") (some (some (.builtin "BaseException.__getattribute__"))) && (He.eqO (PySem.W.findIn K (.ref D) "__getattr__") (some none) && (decide (PySem.W.subIn K (.ref D) (.type "BaseException") = some true) &&
    (PySem.W.hasDictIn K D && (He.eqO (PySem.W.findIn K (.ref D) "__class__") (some (some (.builtin "object.__class__"))) && (decide (PySem.W.specialIn K (.builtin "object.__class__") "__get__" = some (some (.builtin "getset_descriptor.__get__"))) &&
    (decide (PySem.W.takesIn K (.builtin "object.__class__") = some true) && decide (PySem.W.mroIn K D (.type "object") = some true)))))))
theorem excCB_ok {K : PySem.W.Frag} {D : Addr} (h : excCB K D = true) : ExcC K D := by
  unfold excCB at h
  simp only [Bool.and_eq_true, decide_eq_true_eq] at h
  obtain ⟨h1, h2, h3, h4, h5, h6, h7, h8⟩ := h
  exact ⟨He.eqO_ok h1, He.eqO_ok h2, h3, h4, He.eqO_ok h5, h6, h7, h8⟩
def exfB (cE cB o1 o2 o3 : Str) (K : PySem.W.Frag) : Bool :=
  (He.Fa.exc cE).ok K && (excCB K (He.ga K cE) && ((He.Fa.glo cE).ok K && ((He.Fa.glo cB).ok K && ((He.Fa.exm cE cB true).ok K && ((He.Fa.glo o1).ok K && ((He.Fa.glo o2).ok K && ((He.Fa.glo o3).ok K &&
    (decide (PySem.W.kitOne K (.ref (He.ga K cE)) (.ref (He.ga K cE)) = some true) && (decide (PySem.W.kitOne K (.ref (He.ga K cE)) (.type "ValueError") = some true) &&
    (decide (PySem.W.kitAny K (.ref (He.ga K cE)) [.ref (He.ga K o1), .ref (He.ga K o2), .ref (He.ga K o3)] = some false) && ((He.Fa.free "ValueError").ok K && (He.Fa.free "isinstance").ok K)))))))))))
theorem exfB_ok {K : PySem.W.Frag} {h : Heap} {mg : Str → Option Value} {cE cB o1 o2 o3 : Str} (X : K.In h) (G : h.Ns mainGlobals mg) (q : exfB cE cB o1 o2 o3 K = true) : ExF K mg cE cB o1 o2 o3 := by
  unfold exfB at q
  simp only [Bool.and_eq_true, decide_eq_true_eq] at q
  obtain ⟨h1, h2, h3, h4, h5, h6, h7, h8, h9, h10, h11, h12, h13⟩ := q
  obtain ⟨e1, e2, e3, e4⟩ := He.exc_ok h1
  exact ⟨e1, e2, e3, e4, excCB_ok h2, He.glo_ok X G h3, He.glo_ok X G h4, He.exm_ok h5, He.glo_ok X G h6, He.glo_ok X G h7, He.glo_ok X G h8, h9, h10, h11, He.free_ok X G h12, He.free_ok X G h13⟩

section
variable {P : Program} {w : World} {K : PySem.W.Frag} {mg : Str → Option Value} {base : Heap} {fa : Fa} {C : Cfg} {k : Nat}
def spR (K : PySem.W.Frag) (fa : Fa) (C : Cfg) (j : Nat) (c : IE) (ps N : List Str) (cE : Addr) : Sp := fun vs H Q E => ∃ (g : G) (S : Store) (ds : List D) (b : Bool) (S' : Store), RelS K fa g S H ∧ Reps K fa g H ds vs ∧ ds.length = ps.length ∧
  evT (call C.T C.gl j) C.gl c (startA N.length ds) S = some (b, S') ∧ ∀ g' H', Ext g H g' H' → RelS K fa g' S' H' → (b = false → Q .non H') ∧ (b = true → E (.ref cE) none H')
theorem raiser_ok {fd : FD} {c : IE} {c' : Expr} {qual cE cB o1 o2 o3 m : Str} {params : Arguments} {scope : Scope} {a : Addr} {fdat : FuncData} {j : Nat} {p1 p2 p3 p4 p5 : Pos} (top : Top P w K mg base fa C k)
    (F : FunD K fd.name qual params [.If c' [.Raise (some (.Call (.Name cE p1) [.Constant (.str m) j p2] [] p3)) none p4] [] p5] scope [] [] a fdat) (S : FnScope fd.N fd.ps scope)
    (hm : mE { C with N := fd.N } scope c c' = true) (hg : glB scope cE = true) (hd : (cE == ("__debug__" : Str)) = false) (X : ExF K mg cE cB o1 o2 o3) : FnOk P w K mg base (L2.CX P w) (k + 1) a fdat fd.ps (spR K fa C k c fd.ps fd.N (He.ga K cE)) := by
  obtain ⟨oc, od, dV, kV, doc, pm, an, cdv, ct, osl, rfl, lk, hcd, _, _⟩ := F.ex
  refine fn_of lk hcd S (fun vs H Q E h => ?_) fun A outer s H vs Q E hr h => ?_
  · obtain ⟨g, S0, ds, b, S', rs, rp, hl, he, fin⟩ := h
    rw [← rp.length]
    exact hl
  · obtain ⟨g, S0, ds, b, S', rs, rp, hl, he, fin⟩ := h
    have hX : Ctx { C with N := fd.N } k scope (cxOf (L2.CX P w) P w K mg base fd.N qual scope a cdv A outer s H E).nox := ⟨rfl, S.nd, rfl, hr, rfl, rfl⟩
    have hc := (sT (fa := fa) c c' scope _ hX (top.n fd.N) hm).nox
    refine ⟨_, pss_one (ps_if hc (pss_one (ps_raise rfl (takes_of rfl rfl rfl rfl) (pmk_own PySem.F.excBase_ValueError X.exc X.gE X.kp (raises_own X.sub X.ty) (gl_of hg) hd))) pss_nil), ?_⟩
    refine ⟨g, startA fd.N.length ds, S0, b, S', rs, ERel.start rp fd.N, he, fun g' H' e r => ?_⟩
    obtain ⟨f1, f2⟩ := fin g' H' e r
    cases b with
    | true => exact f2 rfl
    | false => exact f1 rfl

theorem ps_prem {X : Cx} {ss : List Stmt} {P : Prop} {t : TS} (h : P → PSs X ss t) : PSs X ss (fun D σ H => P ∧ t D σ H) := ⟨fun pins s σ H D I ⟨hp, hw⟩ => (h hp).run pins s σ H D I hw⟩
/-- the suite: does the caught error belong where it must -/
theorem suite_ok {X : Cx} {a : Addr} {oe : Obj} {cls : Value} {d : Option Addr} {pn : List (Addr × Obj)} {i : Nat} {n cE cB o1 o2 o3 : Str} {q1 q2 q3 q4 q5 q6 q7 q8 q9 q10 q11 q12 q13 q14 q15 q16 q17 q18 : Pos} {x1 : Nat} (E : ExF X.K X.mg cE cB o1 o2 o3) (hz : Zc cls d oe) (hf : ∃ vs, oe.data = .fields vs)
    (hi : X.N[i]? = some n) (hv : Vis X.env.scope n) (hn : (n == ("__debug__" : Str)) = false ∧ (n == ("__classdict__" : Str)) = false) (gi : Gl X "isinstance") (gv : Gl X "ValueError") (gE : Gl X cE) (g1 : Gl X o1) (g2 : Gl X o2) (g3 : Gl X o3)
    (hd : (cE == ("__debug__" : Str)) = false ∧ (o1 == ("__debug__" : Str)) = false ∧ (o2 == ("__debug__" : Str)) = false ∧ (o3 == ("__debug__" : Str)) = false) :
    PSs (X.suite a ((a, oe) :: pn)) [.Return (some (.BoolOp .And [.Call (.Name "isinstance" q1) [.Name n q2, .Name cE q3] [] q4, .Call (.Name "isinstance" q5) [.Name n q6, .Name "ValueError" q7] [] q8,
      .UnaryOp .Not (.Call (.Name "isinstance" q9) [.Name n q10, .Tuple [.Name o1 q11, .Name o2 q12, .Name o3 q13] x1 q14] [] q15) q16] q17)) q18]
      (fun D σ H => (cls = .ref (He.ga X.K cE) ∧ d = none) ∧ ∃ v, σ[i]? = some (some (.ref a)) ∧ v = V.bl true ∧ ∀ p, H p = none → ∀ cs, D.rt v (upd H p (.tup cs))) := by
  refine ps_prem fun ⟨e1, e2⟩ => ?_
  subst e1 e2
  have pv : ∀ {p : Pos}, PE (X.suite a ((a, oe) :: pn)) (.Name n p) (tVar i) := fun {p} => pe_var hi hv hn.1 hn.2
  have c1 := pe_callB (X := X.suite a ((a, oe) :: pn)) (x := "isinstance") (p := q1) (pos := q4) (call_isE E.isE hz hf) gi E.ii (by decide +kernel) (pa_cons (pv (p := q2)) (pa_cons (pe_glob (X := X.suite a ((a, oe) :: pn)) (v := .ref (He.ga X.K cE)) (pos := q3) gE E.gE rfl hd.1) pa_nil))
  have c2 := pe_callB (X := X.suite a ((a, oe) :: pn)) (x := "isinstance") (p := q5) (pos := q8) (call_isE E.isE hz hf) gi E.ii (by decide +kernel) (pa_cons (pv (p := q6)) (pa_cons (pe_bltn (X := X.suite a ((a, oe) :: pn)) (v := .ty "ValueError") (u := .type "ValueError") (pos := q7) gv E.ve (by decide +kernel) rfl) pa_nil))
  have c3 := pe_callB (X := X.suite a ((a, oe) :: pn)) (x := "isinstance") (p := q9) (pos := q15) (call_isET E.isE hz hf) gi E.ii (by decide +kernel) (pa_cons (pv (p := q10)) (pa_cons (pe_tup (x1 := x1) (pos := q14)
    (pa_cons (pe_glob (X := X.suite a ((a, oe) :: pn)) (v := .ref (He.ga X.K o1)) (pos := q11) g1 E.g1 rfl hd.2.1) (pa_cons (pe_glob (X := X.suite a ((a, oe) :: pn)) (v := .ref (He.ga X.K o2)) (pos := q12) g2 E.g2 rfl hd.2.2.1)
      (pa_cons (pe_glob (X := X.suite a ((a, oe) :: pn)) (v := .ref (He.ga X.K o3)) (pos := q13) g3 E.g3 rfl hd.2.2.2) pa_nil)))) pa_nil))
  refine PSs.imp (pss_one (ps_ret (pos := q18) (pe_and (pos := q17) c1 (pe_and c2 (pe_one (pe_not (pos := q16) c3)))))) fun D σ H ⟨v, h1, h2, h3⟩ => ?_
  subst h2
  refine ⟨_, h1, .ref (He.ga X.K cE), .ref (He.ga X.K cE), true, rfl, fun u r => r, E.i1, true, rfl, ?_⟩
  rw [if_pos rfl]
  refine ⟨_, h1, .ty "ValueError", .type "ValueError", true, rfl, fun u r => r, E.i2, true, rfl, ?_⟩
  rw [if_pos rfl]
  refine ⟨_, h1, by show 3 ≤ sizeLine; decide, fun p hp => ?_⟩
  exact ⟨p, _, _, false, rfl, upd_same, .cons (.own _) (.cons (.own _) (.cons (.own _) .nil)), E.i3, false, rfl, h3 p hp _⟩
end
end Ab

/-! Ab17b: try: a call / except as: isinstance .. / return False. -/
namespace Ab
open PySem PySem.Spec PyProof.Rows L2
section
variable {P : Program} {w : World} {K : PySem.W.Frag} {mg : Str → Option Value} {base : Heap} {fa : Fa} {C : Cfg} {k : Nat}
theorem try_ok {fd fdP : FD} {f pid i : Nat} {c : IE} {vars : List IE} {a0 : Expr} {args : List Expr} {qual fn n cE cB o1 o2 o3 : Str} {params : Arguments} {scope : Scope} {a aF : Addr} {fdat fdatF : FuncData} {x1 jj : Nat}
    {p1 p2 p3 p4 p5 p6 p7 p8 q1 q2 q3 q4 q5 q6 q7 q8 q9 q10 q11 q12 q13 q14 q15 q16 q17 q18 : Pos} (top : Top P w K mg base fa C k) (low : ∀ j, k = j + 1 → Top P w K mg base fa C j)
    (hT : C.T f = some fd) (hb : fd.body = [.ret (.call pid vars)]) (hP : C.T pid = some fdP) (hPb : fdP.body = [.ite c [.ret (.lit (.bl true))] [.ret (.lit (.bl false))]])
    (F : FunD K fd.name qual params [.Try [.Expr (.Call (.Name fn p1) (a0 :: args) [] p2) p3] [.ExceptHandler (some (.Name cB p4)) (some n)
      [.Return (some (.BoolOp .And [.Call (.Name "isinstance" q1) [.Name n q2, .Name cE q3] [] q4, .Call (.Name "isinstance" q5) [.Name n q6, .Name "ValueError" q7] [] q8,
        .UnaryOp .Not (.Call (.Name "isinstance" q9) [.Name n q10, .Tuple [.Name o1 q11, .Name o2 q12, .Name o3 q13] x1 q14] [] q15) q16] q17)) q18] p5] [] [] p6, .Return (some (.Constant (.bool false) jj p7)) p8] scope [] [] a fdat)
    (S : FnScope fd.N fd.ps scope) (FR : ∀ j, Top P w K mg base fa C j → FnOk P w K mg base (L2.CX P w) (j + 1) aF fdatF fdP.ps (spR K fa C j c fdP.ps fdP.N (He.ga K cE)))
    (gF : mg fn = some (.ref aF)) (kF : PySem.W.keepIn K (.ref aF) = true) (bF : Binds K fdatF fdP.ps []) (E : ExF K mg cE cB o1 o2 o3) (hm : mEs { C with N := fd.N } scope vars (a0 :: args) = true) (hi : fd.N[i]? = some n) (hln : scope.names.lookup n = some .local)
    (hn : (n == ("__debug__" : Str)) = false ∧ (n == ("__classdict__" : Str)) = false) (gs : (glB scope fn && (glB scope "isinstance" && (glB scope "ValueError" && (glB scope cE && (glB scope cB && (glB scope o1 && (glB scope o2 && glB scope o3))))))) = true)
    (hd : (fn == ("__debug__" : Str)) = false ∧ (cB == ("__debug__" : Str)) = false ∧ (cE == ("__debug__" : Str)) = false ∧ (o1 == ("__debug__" : Str)) = false ∧ (o2 == ("__debug__" : Str)) = false ∧ (o3 == ("__debug__" : Str)) = false) :
    FnOk P w K mg base CX0 (k + 1) a fdat fd.ps (spF K fa C (k + 1) f) := by
  obtain ⟨oc, od, dV, kV, doc, pm, an, cdv, ct, osl, rfl, lk, hcd, _, _⟩ := F.ex
  refine fn_of lk hcd S (fun vs H Q E h => ?_) fun A outer s H vs Q E' hr h => ?_
  · obtain ⟨g, S0, ds, d, S', rs, rp, hc, fin⟩ := h
    rw [← rp.length]
    simp only [call, hT, runF] at hc
    split at hc
    · assumption
    · cases hc
  · obtain ⟨g, S0, ds, d, S', rs, rp, hc, fin⟩ := h
    simp only [call, hT, runF] at hc
    split at hc
    · rename_i hl
      rw [hb] at hc
      cases e1 : evs (call C.T C.gl k) C.gl vars (startA fd.N.length ds) S0 with
      | none =>
        simp only [evSs, evS, ev, e1] at hc
        cases hc
      | some q =>
        obtain ⟨dv, S1⟩ := q
        cases e2 : call C.T C.gl k pid dv S1 with
        | none =>
          simp only [evSs, evS, ev, e1, e2] at hc
          cases hc
        | some q =>
          obtain ⟨d2, S2⟩ := q
          simp only [evSs, evS, ev, e1, e2] at hc
          cases k with
          | zero => cases e2
          | succ j =>
            have topj := low j rfl
            have e3 := e2
            simp only [call, hP, runF] at e3
            split at e3
            · rename_i hl2
              rw [hPb] at e3
              cases e4 : evT (call C.T C.gl j) C.gl c (startA fdP.N.length dv) S1 with
              | none =>
                simp only [evSs, evS, e4] at e3
                cases e3
              | some q =>
                obtain ⟨b, S3⟩ := q
                have e5 : trunc S1.length (.bl b) S3 = (d2, S2) := by
                  cases b <;> (simp only [evSs, evS, ev, e4] at e3; exact Option.some.inj e3)
                simp only [Bool.and_eq_true] at gs
                obtain ⟨t1, t2, t3, t4, t5, t6, t7, t8⟩ := gs
                have hs := mEs_star hm
                rw [List.all_cons, Bool.and_eq_true] at hs
                let X : Cx := cxOf CX0 P w K mg base fd.N qual scope a cdv A outer s H E'
                have hTry := ps_try_as (X := X) (x := cB) (n := n) (c := .ref (He.ga K cB)) (i := i) (np := p4) (pos := p6) (pos' := p5) (body := [.Expr (.Call (.Name fn p1) (a0 :: args) [] p2) p3]) (suite := [])
                  (b₀ := .Return (some (.BoolOp .And [.Call (.Name "isinstance" q1) [.Name n q2, .Name cE q3] [] q4, .Call (.Name "isinstance" q5) [.Name n q6, .Name "ValueError" q7] [] q8,
                    .UnaryOp .Not (.Call (.Name "isinstance" q9) [.Name n q10, .Tuple [.Name o1 q11, .Name o2 q12, .Name o3 q13] x1 q14] [] q15) q16] q17)) q18)
                  (tb := fun W => tDrop (tCallS (spR K fa C j c fdP.ps fdP.N (He.ga K cE)) (WE W) (tAs K fa (evs (call C.T C.gl (j + 1)) C.gl vars))))
                  (ts := fun a cls d D σ H => (cls = .ref (He.ga K cE) ∧ d = none) ∧ ∃ v, σ[i]? = some (some (.ref a)) ∧ v = V.bl true ∧ ∀ p, H p = none → ∀ cs, D.rt v (upd H p (.tup cs)))
                  (Wout := fun _ _ _ _ => False) rfl rfl S.nd hi hln ⟨gl_of t5, hd.2.1, .inl E.gB⟩ takes0
                  (fun W pn xe tk _ => pss_one (ps_expr (pe_callS (FR j topj) hr (gl_of t1) gF kF bF (passAt tk)
                    (PA.nox (sEs (C := { C with N := fd.N }) vars (a0 :: args) scope ((X.tr pn xe).nox) ⟨rfl, S.nd, rfl, hr, rfl, rfl⟩ (top.n fd.N) hm)) hd.1 (star_cons hs.1) (star_any p2 _ hs.2))))
                  (fun a oe cls d pn hz hf => suite_ok E hz hf hi (.inl hln) hn (gl_of t2) (gl_of t3) (gl_of t4) (gl_of t6) (gl_of t7) (gl_of t8) ⟨hd.2.2.1, hd.2.2.2.1, hd.2.2.2.2.1, hd.2.2.2.2.2⟩)
                refine ⟨_, pss_cons hTry (pss_one (ps_ret pe_bl)), ?_⟩
                refine seqS rs (ERel.start rp fd.N) e1 fun g1 vs1 H1 x1 r1 er1 p1 => ?_
                have fin1 : Fin K fa g1 H1 S2 d2 Q := fun g3 v3 H3 e r p => trunc_fin rs.len (Option.some.inj hc) fin (x1.trans e) r p
                refine ⟨g1, S1, dv, b, S3, r1, p1, hl2, e4, fun g2 H2 x2 r2 => ⟨fun hb => ?_, fun hb => ?_⟩⟩
                · subst hb
                  exact trunc_fin r1.len e5 fin1 x2 r2 (.bl false)
                · subst hb
                  refine ⟨true, E.exm, fun _ a ha => ⟨⟨rfl, rfl⟩, _, ?_, rfl, fun p hp cs => ?_⟩, fun z => nomatch z⟩
                  · refine List.getElem?_set_self ?_
                    rw [← er1.1, show (startA fd.N.length ds).length = fd.N.length from ?_]
                    · exact (List.getElem?_eq_some_iff.mp hi).1
                    · unfold startA
                      have h1 : fd.ps.length ≤ fd.N.length := by
                        have := congrArg List.length S.pre
                        rw [List.length_take] at this
                        omega
                      rw [List.length_append, List.length_map, List.length_replicate]
                      omega
                  · exact trunc_fin r1.len e5 fin1 (x2.trans (r2.newExt hp)) (r2.new hp) (.bl true)
            · cases e3
    · cases hc
end
end Ab

/-! Ab18: the top, where some defs are special and some rows of the table are no defs. -/
namespace Ab
open PySem PySem.Spec PyProof.Rows L2
/-- the rows that are defs -/
def real (ts : List TD) : List TD := ts.filter fun t => !decide (t.fd.name = ("" : Str))
theorem mem_real {ts : List TD} {t : TD} (h : t ∈ ts) (hn : t.fd.name ≠ ("" : Str)) : t ∈ real ts := List.mem_filter.mpr ⟨h, by simp [hn]⟩
def obsY (gcd : Bool) (gls : List (Str × D)) (ts : List TD) (ex : PySem.W.Frag → Bool) (K : PySem.W.Frag) : AlX := (ex K && (obsX gcd gls (real ts) K).1, (obsX gcd gls (real ts) K).2)
def valY (ts : List TD) : AlX := valX (real ts)
def SaysY (gcd : Bool) (gls : List (Str × D)) (ts : List TD) (ex : PySem.W.Frag → Bool) (K : PySem.W.Frag) : Prop := obsY gcd gls ts ex K = valY ts
def obsYG (n : Nat) (gcd : Bool) (gls : List (Str × D)) (ts : List TD) (ex : PySem.W.Frag → Bool) (g : Addr → Option Obj) : AlX := obsY gcd gls ts ex (He.frG g (He.asD g n))
def hookY (n : Nat) (gcd : Bool) (gls : List (Str × D)) (ts : List TD) (ex : PySem.W.Frag → Bool) : PySem.W.Hook where
  α := AlX
  obs := fun s => obsYG n gcd gls ts ex s.heap.get?
  val := fun _ => valY ts
  says := fun _ h => ∃ K : PySem.W.Frag, K.In h ∧ SaysY gcd gls ts ex K
  of := fun _ _ e => ⟨_, He.frG_in, e⟩
  keeps := fun _ _ _ ⟨K, hK, c⟩ k => ⟨K, PySem.W.Frag.In.keeps hK k, c⟩
theorem obsY_eq {n : Nat} {gcd : Bool} {gls : List (Str × D)} {ts : List TD} {ex : PySem.W.Frag → Bool} {g : Addr → Option Obj} {s : Shared} (h : ∀ a, g a = s.heap.get? a) : obsYG n gcd gls ts ex g = (hookY n gcd gls ts ex).obs s := by
  have e : g = s.heap.get? := funext h
  rw [e] <;> rfl
theorem SaysY.says {gcd : Bool} {gls : List (Str × D)} {ts : List TD} {ex : PySem.W.Frag → Bool} {K : PySem.W.Frag} (c : SaysY gcd gls ts ex K) : SaysX gcd gls (real ts) K ∧ ex K = true := by
  have c1 : (ex K && (obsX gcd gls (real ts) K).1) = true := congrArg (fun z : AlX => z.1) c
  have c : obsY gcd gls ts ex K = valY ts := c
  have c2 : (obsY gcd gls ts ex K).2 = (valY ts).2 := congrArg Prod.snd c
  obtain ⟨e1, e2⟩ := He.ba c1
  exact ⟨Prod.ext e2 c2, e1⟩
section
variable {P : Program} {w : World} {K : PySem.W.Frag} {mg : Str → Option Value} {h base : Heap} {gcd : Bool} {gls : List (Str × D)} {ts rs : List TD} {ex : PySem.W.Frag → Bool}
theorem funD_of (c : SaysX gcd gls rs K) {t : TD} (hm : t ∈ rs) : ∃ fdat, FunD K t.fd.name t.fd.name (defArgs t.st) (defBody t.st) (defScope t.st) [] [] (He.ga K t.fd.name) fdat := by
  have c1 := He.ba (show (exB gcd gls rs K && rs.all fun t => t.dd.ok K) = true from congrArg (fun z : AlX => z.1) c)
  have c2 : rs.map (fun t => He.fnW K t.dd.at_) = rs.map fun t => t.dd.val := congrArg (fun z : AlX => z.2) c
  have hf : He.fnW K t.dd.at_ = t.dd.val := by
    obtain ⟨i, hi⟩ := List.getElem?_of_mem hm
    have q : (rs.map fun t => He.fnW K t.dd.at_)[i]? = (rs.map fun t => t.dd.val)[i]? := by rw [c2]
    rw [List.getElem?_map, List.getElem?_map, hi] at q
    exact Option.some.inj q
  obtain ⟨fdat, F⟩ := He.DefD.funD hf (List.all_eq_true.mp c1.2 t hm)
  exact ⟨fdat, F⟩
theorem glo_of (X : K.In h) (G : h.Ns mainGlobals mg) (c : SaysX gcd gls rs K) {t : TD} (hm : t ∈ rs) : mg t.fd.name = some (.ref (He.ga K t.fd.name)) := by
  have c1 := He.ba (show (exB gcd gls rs K && rs.all fun t => t.dd.ok K) = true from congrArg (fun z : AlX => z.1) c)
  have e6 := (He.ba (He.ba (He.ba c1.1).2).2).2
  exact He.glo_ok X G (List.all_eq_true.mp e6 t hm)
theorem facts_of (X : K.In h) (G : h.Ns mainGlobals mg) (c : SaysX gcd gls rs K) : (∀ x : Str, x ∈ bltNames → mg x = none) ∧ (gcd = true → mg "gcd" = some (.builtin "math.gcd")) ∧ ∀ fa : Fa, ∀ x d, glT gls x = some d → ∃ v u, mg x = some u ∧ RelV v u ∧ ∀ g H, Rep K fa g H d v := by
  have c1 := He.ba (show (exB gcd gls rs K && rs.all fun t => t.dd.ok K) = true from congrArg (fun z : AlX => z.1) c)
  obtain ⟨e1, e2⟩ := He.ba c1.1
  obtain ⟨e3, e4⟩ := He.ba e2
  obtain ⟨e5, e6⟩ := He.ba e4
  refine ⟨fun x hx => He.free_ok X G (List.all_eq_true.mp e1 x hx), fun hg => ?_, fun fa x d hd => ?_⟩
  · have hg : gcd = true := hg
    subst hg
    have e3 : (match PySem.W.nsIn K mainGlobals "gcd" with | some (some (.builtin b)) => decide (b = "math.gcd") | _ => false) = true := e3
    cases q : PySem.W.nsIn K mainGlobals "gcd" with
    | none => rw [q] at e3; cases e3
    | some o =>
      rw [q] at e3
      cases o with
      | none => cases e3
      | some v =>
        cases v with
        | builtin b =>
          have eb : b = "math.gcd" := of_decide_eq_true e3
          subst eb
          exact PySem.W.mg_of X G q
        | _ => cases e3
  · obtain ⟨p, hp, rfl⟩ := Option.map_eq_some_iff.mp (show (gls.find? fun p => decide (p.1 = x)).map (·.2) = some d from hd)
    have hm := List.mem_of_find?_eq_some hp
    have hx : p.1 = x := by
      have := List.find?_some hp
      exact of_decide_eq_true this
    have hb := List.all_eq_true.mp e5 p hm
    unfold glB' at hb
    cases q : PySem.W.nsIn K mainGlobals p.1 with
    | none => rw [q] at hb; cases hb
    | some o =>
      rw [q] at hb
      cases o with
      | none => cases hb
      | some u =>
        obtain ⟨v, h1, h2⟩ := repB_ok hb
        exact ⟨v, u, by rw [← hx]; exact PySem.W.mg_of X G q, h1, h2⟩
abbrev faOf (ts : List TD) (K : PySem.W.Frag) (P : Program) (w : World) : Fa := ⟨fun f => (findT ts f).map fun t => He.ga K t.fd.name, P, w⟩
/-- a special def -/
def TD.Sp (gcd : Bool) (gls : List (Str × D)) (ts : List TD) (ex : PySem.W.Frag → Bool) (t : TD) : Prop := ∀ {P : Program} {w : World} {K : PySem.W.Frag} {mg : Str → Option Value} {h base : Heap}, K.In h → h.Ns mainGlobals mg → ex K = true → SaysX gcd gls (real ts) K →
  ∀ fdat, FunD K t.fd.name t.fd.name (defArgs t.st) (defBody t.st) (defScope t.st) [] [] (He.ga K t.fd.name) fdat → ∀ k, Top P w K mg base (faOf ts K P w) (cfg gcd gls ts) k → (∀ j, k = j + 1 → Top P w K mg base (faOf ts K P w) (cfg gcd gls ts) j) →
    FnOk P w K mg base CX0 (k + 1) (He.ga K t.fd.name) fdat t.fd.ps (spF K (faOf ts K P w) (cfg gcd gls ts) (k + 1) t.id)
structure TD.OkS (gcd : Bool) (gls : List (Str × D)) (ts : List TD) (ex : PySem.W.Frag → Bool) (t : TD) : Prop where
  bnd : t.bnd
  sc : FnScope t.fd.N t.fd.ps (defScope t.st)
  good : t.good gcd gls ts = true ∨ t.Sp gcd gls ts ex
theorem TD.Ok.s {t : TD} (o : t.Ok gcd gls ts) : t.OkS gcd gls ts ex := ⟨o.bnd, o.sc, .inl o.good⟩
theorem findT_id {f : Nat} {t : TD} (ht : findT ts f = some t) : t.id = f := by
  have := List.find?_some ht
  exact eq_of_beq this
theorem topY_of (X : K.In h) (G : h.Ns mainGlobals mg) (c : SaysY gcd gls ts ex K) (ok : ∀ t ∈ real ts, t.OkS gcd gls ts ex) (k : Nat) : Top P w K mg base (faOf ts K P w) (cfg gcd gls ts) k := by
  obtain ⟨c, ce⟩ := c.says
  obtain ⟨f1, f2, f3⟩ := facts_of X G c
  refine (all_okS (fa := faOf ts K P w) (P := P) (w := w) ⟨rfl, rfl⟩ (fun f fd hT hn => ?_) f1 f2 (f3 _) k).1
  obtain ⟨t, ht, rfl⟩ := Option.map_eq_some_iff.mp (show (findT ts f).map (·.fd) = some fd from hT)
  have hm : t ∈ real ts := mem_real (List.mem_of_find?_eq_some ht) hn
  obtain ⟨fdat, F⟩ := funD_of c hm
  have o := ok t hm
  have e1 : (faOf ts K P w).f f = some (He.ga K t.fd.name) := by
    show (findT ts f).map (fun t => He.ga K t.fd.name) = _
    rw [ht]
    rfl
  rcases o.good with hg | hg
  · exact .inl ⟨_, _, _, _, He.ga K t.fd.name, fdat, e1, glo_of X G c hm, F, F.bindsN o.bnd, o.sc, hg⟩
  · refine .inr ⟨He.ga K t.fd.name, fdat, e1, glo_of X G c hm, F.kp, F.bindsN o.bnd, fun k top low => ?_⟩
    have := hg (P := P) (w := w) (mg := mg) (base := base) X G ce c fdat F k top low
    rw [findT_id ht] at this
    exact this
/-- the law's def over this table -/
theorem lawY_of (X : K.In h) (G : h.Ns mainGlobals mg) (c : SaysY gcd gls ts ex K) (ok : ∀ t ∈ real ts, t.OkS gcd gls ts ex) (k : Nat) {f : Nat} {t : TD} (ht : findT ts f = some t) (hn : t.fd.name ≠ ("" : Str)) (hg : t.good gcd gls ts = true) (hps : t.fd.ps = [("script" : Str)]) {a : Addr} (ha : mg t.fd.name = some (.ref a))
    (math : ∀ ns : List Int, ns.length ≤ 63 → ∃ S', call (tab ts) (glT gls) (k + 1) f [.scr ns] [] = some (.bl true, S')) :
    ∃ (fd : FuncData) (sp : Sp), (∀ (s : Shared) (u : Value), BindsTo s fd ⟨[u], []⟩ [("script", u)]) ∧
      (∀ (H : Hp) (b : Addr) (ns : List Int), ns.length ≤ 63 → Only H → SqL K H b (ns.map V.int) → sp [.ref b] H (fun v _ => v = .bl true) fun _ _ _ => False) ∧
      ∀ base : Heap, K.In base → base.Ns mainGlobals mg → FnOk P w K mg base CX0 (k + 1) a fd ["script"] sp := by
  have hm : t ∈ real ts := mem_real (List.mem_of_find?_eq_some ht) hn
  have hT : (cfg gcd gls ts).T f = some t.fd := by show (findT ts f).map (·.fd) = _; rw [ht]; rfl
  obtain ⟨c', ce⟩ := c.says
  obtain ⟨fdat, F⟩ := funD_of c' hm
  have o := ok t hm
  refine ⟨fdat, spF K (faOf ts K P w) (cfg gcd gls ts) (k + 1) f, fun s u => ?_, fun H b ns hl _ hs => ?_, fun base _ _ => ?_⟩
  · have := F.bindsA (ps := t.fd.ps) o.bnd s [u] (by rw [hps]; rfl)
    rw [hps] at this
    exact this
  · obtain ⟨S', hc⟩ := math ns hl
    exact law_sp (C := cfg gcd gls ts) hc hs
  · have h2 := glo_of X G c' hm
    have e1 : a = He.ga K t.fd.name := by
      rw [ha] at h2
      cases h2
      rfl
    rw [e1]
    have h5 := fn_ok hT F o.sc hg (topY_of (P := P) (w := w) (base := base) X G c ok k)
    rw [hps] at h5
    exact h5
end
end Ab

/-! P0a: machines of pairs, their likeness, their least form by steps -/
namespace Mo
abbrev Tab := List (Nat × Nat)
def nx (t : Tab) (s d : Nat) : Nat := if d = 0 then ((t[s]?).getD (0, 0)).1 else ((t[s]?).getD (0, 0)).2
def ot (o : List Int) (s : Nat) : Int := (o[s]?).getD 0
def run (t : Tab) (s : Nat) (w : List Nat) : Nat := w.foldl (nx t) s
structure Wf (t : Tab) (o : List Int) : Prop where
  pos : 0 < t.length
  len : o.length = t.length
  lt : ∀ s, s < t.length → ∀ d, nx t s d < t.length
  le : t.length ≤ 130
def Sim (t : Tab) (o : List Int) (s : Nat) (t' : Tab) (o' : List Int) (s' : Nat) : Prop := ∀ w, ot o (run t s w) = ot o' (run t' s' w)
section
variable {t t' t2 : Tab} {o o' o2 : List Int} {s s' u : Nat}
theorem Sim.rfl' : Sim t o s t o s := fun _ => rfl
theorem Sim.symm (h : Sim t o s t' o' s') : Sim t' o' s' t o s := fun w => (h w).symm
theorem Sim.trans (h : Sim t o s t' o' s') (h2 : Sim t' o' s' t2 o2 u) : Sim t o s t2 o2 u := fun w => (h w).trans (h2 w)
theorem Sim.out (h : Sim t o s t' o' s') : ot o s = ot o' s' := h []
theorem Sim.nx (h : Sim t o s t' o' s') (d : Nat) : Sim t o (nx t s d) t' o' (nx t' s' d) := fun w => h (d :: w)
theorem Sim.run (h : Sim t o s t' o' s') (w : List Nat) : Sim t o (run t s w) t' o' (run t' s' w) := fun v => by
  have := h (w ++ v)
  simpa [Mo.run, List.foldl_append] using this
theorem sim_of (R : Nat → Nat → Prop) (hn : ∀ s s' d, R s s' → R (Mo.nx t s d) (Mo.nx t' s' d)) (ho : ∀ s s', R s s' → ot o s = ot o' s') : ∀ {s s'}, R s s' → Sim t o s t' o' s' := by
  intro s s' h w
  induction w generalizing s s' with
  | nil => exact ho _ _ h
  | cons d w ih => exact ih (hn _ _ d h)
theorem Wf.run (h : Wf t o) (hs : s < t.length) : ∀ w : List Nat, Mo.run t s w < t.length := by
  intro w
  induction w generalizing s with
  | nil => exact hs
  | cons d w ih => exact ih (h.lt s hs d)
end
/-! ### first things -/
section
variable {κ : Type} [DecidableEq κ]
def isNew (ks : Nat → κ) (i : Nat) : Bool := (List.range i).all fun j => decide (ks j ≠ ks i)
def news (ks : Nat → κ) (n : Nat) : List Nat := (List.range n).filter (isNew ks)
def firsts (ks : Nat → κ) (n : Nat) : List κ := (news ks n).map ks
theorem isNew_iff {ks : Nat → κ} {i : Nat} : isNew ks i = true ↔ ∀ j, j < i → ks j ≠ ks i := by
  simp [isNew]
theorem news_succ {ks : Nat → κ} {n : Nat} : news ks (n + 1) = if isNew ks n = true then news ks n ++ [n] else news ks n := by
  unfold news
  rw [List.range_succ, List.filter_append]
  by_cases h : isNew ks n = true
  · rw [if_pos h, List.filter_cons, if_pos h]
    rfl
  · rw [if_neg h, List.filter_cons, if_neg h]
    simp
theorem firsts_succ {ks : Nat → κ} {n : Nat} : firsts ks (n + 1) = if isNew ks n = true then firsts ks n ++ [ks n] else firsts ks n := by
  unfold firsts
  rw [news_succ]
  split <;> simp
theorem mem_firsts {ks : Nat → κ} {n : Nat} {k : κ} : k ∈ firsts ks n ↔ ∃ i, i < n ∧ ks i = k := by
  induction n with
  | zero => simp [firsts, news]
  | succ n ih =>
    rw [firsts_succ]
    by_cases h : isNew ks n = true
    · rw [if_pos h, List.mem_append, ih]
      constructor
      · rintro (⟨i, hi, e⟩ | h)
        · exact ⟨i, by omega, e⟩
        · exact ⟨n, by omega, (List.mem_singleton.mp h).symm⟩
      · rintro ⟨i, hi, e⟩
        by_cases hin : i = n
        · subst hin
          exact .inr (List.mem_singleton.mpr e.symm)
        · exact .inl ⟨i, by omega, e⟩
    · rw [if_neg h, ih]
      constructor
      · rintro ⟨i, hi, e⟩
        exact ⟨i, by omega, e⟩
      · rintro ⟨i, hi, e⟩
        by_cases hin : i = n
        · subst hin
          have h2 : ¬ ∀ j, j < i → ks j ≠ ks i := fun z => h (isNew_iff.mpr z)
          simp only [Classical.not_forall] at h2
          obtain ⟨j, hj, h3⟩ := h2
          exact ⟨j, hj, (Classical.not_not.mp h3).trans e⟩
        · exact ⟨i, by omega, e⟩
theorem isNew_firsts {ks : Nat → κ} {n : Nat} : isNew ks n = !((firsts ks n).contains (ks n)) := by
  rw [Bool.eq_iff_iff, isNew_iff]
  simp only [Bool.not_eq_true', List.contains_eq_mem, decide_eq_false_iff_not, mem_firsts]
  constructor
  · rintro h ⟨i, hi, e⟩
    exact h i hi e
  · intro h j hj e
    exact h ⟨j, hj, e⟩
theorem firsts_nodup {ks : Nat → κ} {n : Nat} : (firsts ks n).Nodup := by
  induction n with
  | zero => simp [firsts, news]
  | succ n ih =>
    rw [firsts_succ]
    split
    · rename_i h
      rw [isNew_firsts] at h
      simp at h
      exact List.nodup_append.mpr ⟨ih, by simp, fun a ha b hb => by
        simp at hb
        subst hb
        exact fun z => h (z ▸ ha)⟩
    · exact ih
theorem firsts_le {ks : Nat → κ} {n : Nat} : (firsts ks n).length ≤ n := by
  unfold firsts news
  rw [List.length_map]
  exact Nat.le_trans (List.length_filter_le _ _) (by simp)
/-- the number of a key -/
def num (ks : Nat → κ) (n i : Nat) : Nat := (firsts ks n).findIdx (fun x => decide (x = ks i))
theorem firsts_mono {ks : Nat → κ} {n m : Nat} (h : n ≤ m) : ∃ l, firsts ks m = firsts ks n ++ l := by
  induction m with
  | zero => exact ⟨[], by rw [show n = 0 by omega]; simp⟩
  | succ m ih =>
    by_cases e : n = m + 1
    · exact ⟨[], by rw [e]; simp⟩
    · obtain ⟨l, hl⟩ := ih (by omega)
      rw [firsts_succ, hl]
      split
      · exact ⟨l ++ [ks m], by simp⟩
      · exact ⟨l, rfl⟩
theorem findIdx_append_mem {α : Type} {p : α → Bool} {l l2 : List α} (h : ∃ x ∈ l, p x = true) : (l ++ l2).findIdx p = l.findIdx p := by
  obtain ⟨x, hx, hp⟩ := h
  rw [List.findIdx_append, if_pos (List.findIdx_lt_length.mpr ⟨x, hx, hp⟩)]
theorem num_mono {ks : Nat → κ} {n m i : Nat} (h : n ≤ m) (hi : i < n) : num ks m i = num ks n i := by
  obtain ⟨l, hl⟩ := firsts_mono (ks := ks) h
  unfold num
  rw [hl]
  exact findIdx_append_mem ⟨ks i, mem_firsts.mpr ⟨i, hi, rfl⟩, by simp⟩
theorem num_lt {ks : Nat → κ} {n i : Nat} (hi : i < n) : num ks n i < (firsts ks n).length := List.findIdx_lt_length.mpr ⟨ks i, mem_firsts.mpr ⟨i, hi, rfl⟩, by simp⟩
theorem num_get {ks : Nat → κ} {n i : Nat} (hi : i < n) : (firsts ks n)[num ks n i]? = some (ks i) := by
  have h := num_lt (ks := ks) hi
  rw [List.getElem?_eq_getElem h]
  have := List.findIdx_getElem (p := fun x => decide (x = ks i)) (xs := firsts ks n) (w := h)
  exact congrArg some (of_decide_eq_true this)
theorem num_eq {ks : Nat → κ} {n i j : Nat} (hi : i < n) (hj : j < n) : num ks n i = num ks n j ↔ ks i = ks j := by
  constructor
  · intro h
    have h1 := num_get (ks := ks) hi
    have h2 := num_get (ks := ks) hj
    rw [h, h2] at h1
    exact (Option.some.inj h1).symm
  · intro h
    unfold num
    rw [h]
theorem num_new {ks : Nat → κ} {n : Nat} (h : isNew ks n = true) : num ks (n + 1) n = (firsts ks n).length := by
  unfold num
  rw [firsts_succ, if_pos h, List.findIdx_append]
  have : ¬ List.findIdx (fun x => decide (x = ks n)) (firsts ks n) < (firsts ks n).length := by
    rw [List.findIdx_lt_length]
    rintro ⟨x, hx, e⟩
    rw [isNew_firsts] at h
    simp at h e
    exact h (e ▸ hx)
  rw [if_neg this]
  simp [List.findIdx_cons]
/-- how many -/
abbrev cnt (ks : Nat → κ) (n : Nat) : Nat := (firsts ks n).length
end
section
variable {κ μ : Type} [DecidableEq κ] [DecidableEq μ]
theorem cnt_succ {ks : Nat → κ} {n : Nat} : cnt ks (n + 1) = cnt ks n + if isNew ks n = true then 1 else 0 := by
  unfold cnt
  rw [firsts_succ]
  split <;> simp
theorem new_of {ks : Nat → κ} {ls : Nat → μ} {n : Nat} (h : ∀ i j, i < n → j < n → ks i = ks j → ls i = ls j) {i : Nat} (hi : i < n) (hn : isNew ls i = true) : isNew ks i = true :=
  isNew_iff.mpr fun j hj e => isNew_iff.mp hn j hj (h j i (by omega) hi e)
theorem cnt_le {ks : Nat → κ} {ls : Nat → μ} : ∀ {n : Nat}, (∀ i j, i < n → j < n → ks i = ks j → ls i = ls j) → cnt ls n ≤ cnt ks n
  | 0, _ => by simp [cnt, firsts, news]
  | n + 1, h => by
    have ih := cnt_le (ks := ks) (ls := ls) (n := n) fun i j hi hj => h i j (by omega) (by omega)
    rw [cnt_succ, cnt_succ]
    by_cases e : isNew ls n = true
    · rw [if_pos e, if_pos (new_of h (by omega) e)]
      omega
    · rw [if_neg e]
      omega
theorem cnt_news {ks : Nat → κ} {ls : Nat → μ} : ∀ {n : Nat}, (∀ i j, i < n → j < n → ks i = ks j → ls i = ls j) → cnt ls n = cnt ks n → ∀ i, i < n → isNew ks i = true → isNew ls i = true
  | 0, _, _, i, hi, _ => by omega
  | n + 1, h, e, i, hi, hn => by
    have h' : ∀ i j, i < n → j < n → ks i = ks j → ls i = ls j := fun i j hi hj => h i j (by omega) (by omega)
    have le := cnt_le h'
    rw [cnt_succ, cnt_succ] at e
    by_cases e1 : isNew ls n = true
    · rw [if_pos e1, if_pos (new_of h (by omega) e1)] at e
      by_cases hin : i = n
      · rw [hin]
        exact e1
      · exact cnt_news h' (by omega) i (by omega) hn
    · rw [if_neg e1] at e
      by_cases e2 : isNew ks n = true
      · rw [if_pos e2] at e
        omega
      · rw [if_neg e2] at e
        by_cases hin : i = n
        · rw [hin] at hn
          exact absurd hn e2
        · exact cnt_news h' (by omega) i (by omega) hn
theorem least_of (p : Nat → Prop) : ∀ n, p n → ∃ k, k ≤ n ∧ p k ∧ ∀ j, j < k → ¬ p j := by
  intro n
  induction n using Nat.strongRecOn with
  | ind n ih =>
    intro h
    by_cases c : ∃ k, k < n ∧ p k
    · obtain ⟨k, h1, h2⟩ := c
      obtain ⟨m, a, b, d⟩ := ih k h1 h2
      exact ⟨m, by omega, b, d⟩
    · exact ⟨n, Nat.le_refl _, h, fun j hj hp => c ⟨j, hj, hp⟩⟩
/-- as many classes, so the same classes -/
theorem cnt_same {ks : Nat → κ} {ls : Nat → μ} {n : Nat} (h : ∀ i j, i < n → j < n → ks i = ks j → ls i = ls j) (e : cnt ls n = cnt ks n) {i j : Nat} (hi : i < n) (hj : j < n) (he : ls i = ls j) : ks i = ks j := by
  obtain ⟨a, a1, a2, a3⟩ := least_of (fun x => ks x = ks i) i rfl
  obtain ⟨b, b1, b2, b3⟩ := least_of (fun x => ks x = ks j) j rfl
  have na : isNew ls a = true := cnt_news h e a (by omega) (isNew_iff.mpr fun x hx z => a3 x hx (z.trans a2))
  have nb : isNew ls b = true := cnt_news h e b (by omega) (isNew_iff.mpr fun x hx z => b3 x hx (z.trans b2))
  have la : ls a = ls i := h a i (by omega) hi a2
  have lb : ls b = ls j := h b j (by omega) hj b2
  have ab : ls a = ls b := by rw [la, lb, he]
  rcases Nat.lt_trichotomy a b with q | q | q
  · exact absurd ab (isNew_iff.mp nb a q)
  · rw [← a2, ← b2, q]
  · exact absurd ab.symm (isNew_iff.mp na b q)
end
/-! ### likeness by lengths -/
def EqN (t : Tab) (o : List Int) (m s s' : Nat) : Prop := ∀ w : List Nat, w.length ≤ m → ot o (run t s w) = ot o (run t s' w)
section
variable {t : Tab} {o : List Int} {m s s' : Nat}
theorem nx_pos {d : Nat} (h : d ≠ 0) : nx t s d = nx t s 1 := by
  unfold nx
  rw [if_neg h, if_neg (by omega)]
theorem eqN_succ : EqN t o (m + 1) s s' ↔ EqN t o m s s' ∧ EqN t o m (nx t s 0) (nx t s' 0) ∧ EqN t o m (nx t s 1) (nx t s' 1) := by
  constructor
  · intro h
    exact ⟨fun w hw => h w (by omega), fun w hw => h (0 :: w) (by simp; omega), fun w hw => h (1 :: w) (by simp; omega)⟩
  · rintro ⟨h0, h1, h2⟩ w hw
    cases w with
    | nil => exact h0 [] (by simp)
    | cons d w =>
      simp only [List.length_cons] at hw
      by_cases hd : d = 0
      · subst hd
        exact h1 w (by omega)
      · show ot o (run t (nx t s d) w) = ot o (run t (nx t s' d) w)
        rw [nx_pos hd, nx_pos hd]
        exact h2 w (by omega)
theorem eqN_zero : EqN t o 0 s s' ↔ ot o s = ot o s' := by
  constructor
  · intro h
    exact h [] (by simp)
  · intro h w hw
    have : w = [] := List.eq_nil_of_length_eq_zero (by omega)
    subst this
    exact h
theorem stable (W : Wf t o) (h : ∀ i j, i < t.length → j < t.length → EqN t o m i j → EqN t o (m + 1) i j) : ∀ {i j}, i < t.length → j < t.length → (EqN t o m i j ↔ Sim t o i t o j) := by
  have key : ∀ k i j, i < t.length → j < t.length → EqN t o m i j → EqN t o (m + k) i j := by
    intro k
    induction k with
    | zero => exact fun i j _ _ h => h
    | succ k ih =>
      intro i j hi hj hm
      have h1 := h i j hi hj hm
      rw [eqN_succ] at h1
      exact eqN_succ.mpr ⟨ih i j hi hj hm, ih _ _ (W.lt i hi 0) (W.lt j hj 0) h1.2.1, ih _ _ (W.lt i hi 1) (W.lt j hj 1) h1.2.2⟩
  intro i j hi hj
  exact ⟨fun hm w => key w.length i j hi hj hm w (by omega), fun hs w _ => hs w⟩
end
/-- the keys of a refinement -/
def key (t : Tab) (c : Nat → Int) (i : Nat) : Int × Int × Int := (c i, c (nx t i 0), c (nx t i 1))
def Cls (t : Tab) (o : List Int) (c : Nat → Int) (m : Nat) : Prop := ∀ i j, i < t.length → j < t.length → (c i = c j ↔ EqN t o m i j)
section
variable {t : Tab} {o : List Int} {m : Nat} {c : Nat → Int}
theorem Cls.zero : Cls t o (ot o) 0 := fun i j _ _ => eqN_zero.symm
theorem Cls.num0 : Cls t o (fun i => (num (ot o) t.length i : Nat)) 0 := fun i j hi hj => by
  rw [← Cls.zero (t := t) (o := o) i j hi hj, Int.ofNat_inj]
  exact num_eq hi hj
theorem Cls.key (W : Wf t o) (h : Cls t o c m) {i j : Nat} (hi : i < t.length) (hj : j < t.length) : Mo.key t c i = Mo.key t c j ↔ EqN t o (m + 1) i j := by
  rw [eqN_succ, ← h i j hi hj, ← h _ _ (W.lt i hi 0) (W.lt j hj 0), ← h _ _ (W.lt i hi 1) (W.lt j hj 1)]
  simp [Mo.key]
theorem Cls.next (W : Wf t o) (h : Cls t o c m) : Cls t o (fun i => (num (Mo.key t c) t.length i : Nat)) (m + 1) := fun i j hi hj => by
  rw [← h.key W hi hj, Int.ofNat_inj]
  exact num_eq hi hj
/-- classes are told when their number grows no more -/
theorem Cls.done (W : Wf t o) {c' : Nat → Int} (h : Cls t o c m) (h' : Cls t o c' (m + 1)) (e : cnt c t.length = cnt c' t.length) {i j : Nat} (hi : i < t.length) (hj : j < t.length) : c' i = c' j ↔ Sim t o i t o j := by
  have st : ∀ i j, i < t.length → j < t.length → EqN t o m i j → EqN t o (m + 1) i j := fun i j hi hj hm => by
    rw [← h' i j hi hj]
    refine cnt_same (ks := c') (ls := c) (n := t.length) (fun i j hi hj q => ?_) e hi hj ((h i j hi hj).mpr hm)
    rw [h' i j hi hj, eqN_succ] at q
    exact (h i j hi hj).mpr q.1
  rw [h' i j hi hj, eqN_succ]
  constructor
  · intro q
    exact (stable W st hi hj).mp q.1
  · intro q
    exact eqN_succ.mp (st i j hi hj ((stable W st hi hj).mpr q))
theorem Cls.mono (h : Cls t o c m) {c' : Nat → Int} (h' : Cls t o c' (m + 1)) : cnt c t.length ≤ cnt c' t.length := cnt_le fun i j hi hj q => by
  rw [h' i j hi hj, eqN_succ] at q
  exact (h i j hi hj).mpr q.1
theorem cnt_num {κ : Type} [DecidableEq κ] {ks : Nat → κ} {n : Nat} : cnt (fun i => ((num ks n i : Nat) : Int)) n = cnt ks n := by
  refine Nat.le_antisymm (cnt_le fun i j hi hj q => ?_) (cnt_le fun i j hi hj q => ?_)
  · rw [Int.ofNat_inj]
    exact (num_eq hi hj).mpr q
  · rw [Int.ofNat_inj] at q
    exact (num_eq hi hj).mp q
end
end Mo

/-! P0b: states found from one on; the least machine -/
namespace Mo
def push (q : Nat → Nat → Bool) (l : List Nat) (s : Nat) : List Nat := if l.any (fun x => q x s) then l else l ++ [s]
def stp (t : Tab) (q : Nat → Nat → Bool) (p : List Nat × Nat) : List Nat × Nat := match p.1[p.2]? with
  | some s => (push q (push q p.1 (nx t s 0)) (nx t s 1), p.2 + 1)
  | none => p
def itr (t : Tab) (q : Nat → Nat → Bool) : Nat → List Nat × Nat → List Nat × Nat
  | 0, p => p
  | n + 1, p => itr t q n (stp t q p)
def fnd0 (t : Tab) (q : Nat → Nat → Bool) (f : Nat) : List Nat := (itr t q 130 ([f], 0)).1
def ixq (q : Nat → Nat → Bool) (l : List Nat) (s : Nat) : Nat := l.findIdx (fun x => q x s)
def canonOf (t : Tab) (o : List Int) (q : Nat → Nat → Bool) (l : List Nat) : Tab × List Int := (l.map fun s => (ixq q l (nx t s 0), ixq q l (nx t s 1)), l.map (ot o))
def canon0 (t : Tab) (o : List Int) (q : Nat → Nat → Bool) (f : Nat) : Tab × List Int := canonOf t o q (fnd0 t q f)
/-! ### two that go in step -/
inductive F2 (R : Nat → Nat → Prop) : List Nat → List Nat → Prop
  | nil : F2 R [] []
  | cons {a b as bs} : R a b → F2 R as bs → F2 R (a :: as) (b :: bs)
section
variable {R : Nat → Nat → Prop} {l l' : List Nat}
theorem F2.any {p p' : Nat → Bool} (h : ∀ x x', R x x' → p x = p' x') : ∀ {l l'}, F2 R l l' → l.any p = l'.any p'
  | _, _, .nil => rfl
  | _, _, .cons r t => by rw [List.any_cons, List.any_cons, h _ _ r, F2.any h t]
theorem F2.findIdx {p p' : Nat → Bool} (h : ∀ x x', R x x' → p x = p' x') : ∀ {l l'}, F2 R l l' → l.findIdx p = l'.findIdx p'
  | _, _, .nil => rfl
  | _, _, .cons r t => by rw [List.findIdx_cons, List.findIdx_cons, h _ _ r, F2.findIdx h t]
theorem F2.snoc {a b : Nat} (r : R a b) : ∀ {l l'}, F2 R l l' → F2 R (l ++ [a]) (l' ++ [b])
  | _, _, .nil => .cons r .nil
  | _, _, .cons r' t => .cons r' (F2.snoc r t)
theorem F2.map {α : Type} {g g' : Nat → α} (h : ∀ x x', R x x' → g x = g' x') : ∀ {l l'}, F2 R l l' → l.map g = l'.map g'
  | _, _, .nil => rfl
  | _, _, .cons r t => by rw [List.map_cons, List.map_cons, h _ _ r, F2.map h t]
theorem F2.get : ∀ {l l' : List Nat} {i : Nat}, F2 R l l' → (l[i]? = none ∧ l'[i]? = none) ∨ ∃ a b, l[i]? = some a ∧ l'[i]? = some b ∧ R a b
  | _, _, _, .nil => .inl ⟨by simp, by simp⟩
  | _, _, 0, .cons r t => .inr ⟨_, _, rfl, rfl, r⟩
  | _, _, i + 1, .cons r t => by simpa using F2.get (i := i) t
variable {t t' : Tab} {o o' : List Int} {q q' : Nat → Nat → Bool}
theorem push_rel (hq : ∀ x x' s s', R x x' → R s s' → q x s = q' x' s') {s s' : Nat} (hs : R s s') (h : F2 R l l') : F2 R (push q l s) (push q' l' s') := by
  unfold push
  rw [h.any fun x x' r => hq x x' s s' r hs]
  split
  · exact h
  · exact h.snoc hs
theorem itr_rel (hn : ∀ s s' d, R s s' → R (nx t s d) (nx t' s' d)) (hq : ∀ x x' s s', R x x' → R s s' → q x s = q' x' s') : ∀ (n a : Nat) {l l'}, F2 R l l' → F2 R (itr t q n (l, a)).1 (itr t' q' n (l', a)).1 ∧ (itr t q n (l, a)).2 = (itr t' q' n (l', a)).2
  | 0, a, _, _, h => ⟨h, rfl⟩
  | n + 1, a, l, l', h => by
    unfold itr stp
    dsimp only
    rcases h.get (i := a) with ⟨e1, e2⟩ | ⟨x, y, e1, e2, r⟩
    · rw [e1, e2]
      exact itr_rel hn hq n a h
    · rw [e1, e2]
      exact itr_rel hn hq n (a + 1) (push_rel hq (hn _ _ 1 r) (push_rel hq (hn _ _ 0 r) h))
theorem canon0_rel (hn : ∀ s s' d, R s s' → R (nx t s d) (nx t' s' d)) (hq : ∀ x x' s s', R x x' → R s s' → q x s = q' x' s') (ho : ∀ s s', R s s' → ot o s = ot o' s') {f f' : Nat} (hf : R f f') : canon0 t o q f = canon0 t' o' q' f' := by
  have h : F2 R (fnd0 t q f) (fnd0 t' q' f') := (itr_rel (t := t) (t' := t') hn hq 130 0 (.cons hf .nil)).1
  have e : ∀ l l', F2 R l l' → canonOf t o q l = canonOf t' o' q' l' := by
    intro l l' h
    unfold canonOf
    rw [h.map ho]
    congr 1
    refine h.map fun x x' r => ?_
    unfold ixq
    rw [h.findIdx fun y y' r' => hq y y' _ _ r' (hn x x' 0 r), h.findIdx fun y y' r' => hq y y' _ _ r' (hn x x' 1 r)]
  exact e _ _ h
end
/-! ### what is found -/
theorem nodup_len : ∀ (n : Nat) (l : List Nat), l.Nodup → (∀ x ∈ l, x < n) → l.length ≤ n
  | 0, l, _, h => by
    cases l with
    | nil => simp
    | cons a l => exact absurd (h a (by simp)) (by omega)
  | n + 1, l, hn, h => by
    by_cases hm : n ∈ l
    · have h1 := nodup_len n (l.erase n) (hn.erase n) fun x hx => by
        have h2 := h x (List.mem_of_mem_erase hx)
        have h3 : x ≠ n := fun e => by
          subst e
          exact (List.Nodup.mem_erase_iff hn).mp hx |>.1 rfl
        omega
      rw [List.length_erase_of_mem hm] at h1
      omega
    · have := nodup_len n l hn fun x hx => by
        have h2 := h x hx
        have h3 : x ≠ n := fun e => hm (e ▸ hx)
        omega
      omega
structure Fd (t : Tab) (q : Nat → Nat → Bool) (f : Nat) (l : List Nat) (a : Nat) : Prop where
  lt : ∀ x ∈ l, x < t.length
  al : a ≤ l.length
  pw : l.Pairwise fun x y => q x y = false
  head : l[0]? = some f
  cl : ∀ (i x : Nat), i < a → l[i]? = some x → ∀ d, d ≤ 1 → ∃ y ∈ l, q y (nx t x d) = true
  ord : ∀ k, 0 < k → k < l.length → ∃ r d x, r < k ∧ d ≤ 1 ∧ l[r]? = some x ∧ ixq q l (nx t x d) = k
section
variable {t : Tab} {o : List Int} {q : Nat → Nat → Bool} {f a : Nat} {l : List Nat}
theorem Fd.snoc (F : Fd t q f l a) (rf : ∀ s, q s s = true) {r d x : Nat} (hr : l[r]? = some x) (hd : d ≤ 1) (hx : nx t x d < t.length) : Fd t q f (push q l (nx t x d)) a ∧ (∃ m, push q l (nx t x d) = l ++ m) ∧ ∃ y ∈ push q l (nx t x d), q y (nx t x d) = true := by
  unfold push
  by_cases h : (l.any fun y => q y (nx t x d)) = true
  · rw [if_pos h]
    obtain ⟨y, hy, e⟩ := List.any_eq_true.mp h
    exact ⟨F, ⟨[], by simp⟩, y, hy, e⟩
  · rw [if_neg h]
    have hno : ∀ y ∈ l, q y (nx t x d) = false := fun y hy => by
      cases c : q y (nx t x d) with
      | false => rfl
      | true => exact absurd (List.any_eq_true.mpr ⟨y, hy, c⟩) h
    have hrl : r < l.length := (List.getElem?_eq_some_iff.mp hr).1
    refine ⟨⟨fun y hy => ?_, by rw [List.length_append]; have := F.al; omega, ?_, ?_, fun i y hi hy d' hd' => ?_, fun k h0 hk => ?_⟩, ⟨_, rfl⟩, nx t x d, by simp, rf _⟩
    · rcases List.mem_append.mp hy with hy | hy
      · exact F.lt y hy
      · rw [List.mem_singleton.mp hy]
        exact hx
    · refine List.pairwise_append.mpr ⟨F.pw, by simp, fun y hy z hz => ?_⟩
      rw [List.mem_singleton.mp hz]
      exact hno y hy
    · rw [List.getElem?_append_left (by have := (List.getElem?_eq_some_iff.mp F.head).1; omega)]
      exact F.head
    · by_cases hil : i < l.length
      · rw [List.getElem?_append_left hil] at hy
        obtain ⟨z, hz, e⟩ := F.cl i y hi hy d' hd'
        exact ⟨z, by simp [hz], e⟩
      · have := F.al
        omega
    · rw [List.length_append] at hk
      simp only [List.length_cons, List.length_nil] at hk
      by_cases hkl : k < l.length
      · obtain ⟨r', d', x', h1, h2, h3, h4⟩ := F.ord k h0 hkl
        refine ⟨r', d', x', h1, h2, by rw [List.getElem?_append_left (by omega)]; exact h3, ?_⟩
        unfold ixq at h4 ⊢
        rw [List.findIdx_append, if_pos (by omega)]
        exact h4
      · have e : k = l.length := by omega
        refine ⟨r, d, x, by omega, hd, by rw [List.getElem?_append_left hrl]; exact hr, ?_⟩
        unfold ixq
        rw [List.findIdx_append, if_neg, e]
        · simp [List.findIdx_cons, rf]
        · rw [List.findIdx_lt_length]
          rintro ⟨y, hy, c⟩
          rw [hno y hy] at c
          cases c
theorem Fd.pref {l m : List Nat} (F : Fd t q f l a) (G : Fd t q f (l ++ m) a) (rf : ∀ s, q s s = true) {x : Nat} (hx : l[a]? = some x) (h : ∀ d, d ≤ 1 → ∃ y ∈ l ++ m, q y (nx t x d) = true) : Fd t q f (l ++ m) (a + 1) := by
  have hl := (List.getElem?_eq_some_iff.mp hx).1
  refine ⟨G.lt, by rw [List.length_append]; omega, G.pw, G.head, fun i y hi hy d hd => ?_, G.ord⟩
  by_cases e : i = a
  · subst e
    rw [List.getElem?_append_left hl, hx] at hy
    cases hy
    exact h d hd
  · exact G.cl i y (by omega) hy d hd
theorem Fd.step (W : ∀ s, s < t.length → ∀ d, nx t s d < t.length) (F : Fd t q f l a) (rf : ∀ s, q s s = true) : Fd t q f (stp t q (l, a)).1 (stp t q (l, a)).2 := by
  unfold stp
  dsimp only
  cases e : l[a]? with
  | none => exact F
  | some x =>
    have hx := F.lt x (List.mem_of_getElem? e)
    obtain ⟨F1, ⟨m1, e1⟩, y1, k1, k2⟩ := F.snoc rf e (d := 0) (by omega) (W x hx 0)
    have ex : (push q l (nx t x 0))[a]? = some x := by
      rw [e1, List.getElem?_append_left (List.getElem?_eq_some_iff.mp e).1]
      exact e
    obtain ⟨F2, ⟨m2, e2⟩, y2, k3, k4⟩ := F1.snoc rf ex (d := 1) (by omega) (W x hx 1)
    have e3 : push q (push q l (nx t x 0)) (nx t x 1) = l ++ (m1 ++ m2) := by rw [e2, e1, List.append_assoc]
    dsimp only
    rw [e3] at F2 k3 ⊢
    refine F.pref F2 rf e fun d hd => ?_
    by_cases h0 : d = 0
    · subst h0
      refine ⟨y1, ?_, k2⟩
      rw [e1] at k1
      rw [← List.append_assoc]
      exact List.mem_append_left _ k1
    · have : d = 1 := by omega
      subst this
      exact ⟨y2, k3, k4⟩
theorem Fd.itr (W : ∀ s, s < t.length → ∀ d, nx t s d < t.length) (rf : ∀ s, q s s = true) : ∀ (n : Nat) {l : List Nat} {a : Nat}, Fd t q f l a → Fd t q f (itr t q n (l, a)).1 (itr t q n (l, a)).2 ∧ (a + n ≤ (itr t q n (l, a)).2 ∨ (itr t q n (l, a)).1.length ≤ (itr t q n (l, a)).2)
  | 0, l, a, F => ⟨F, .inl (Nat.le_refl _)⟩
  | n + 1, l, a, F => by
    have S := F.step W rf
    have ih := Fd.itr W rf n S
    show Fd t q f (Mo.itr t q n (stp t q (l, a))).1 (Mo.itr t q n (stp t q (l, a))).2 ∧ _
    refine ⟨ih.1, ?_⟩
    show a + (n + 1) ≤ (Mo.itr t q n (stp t q (l, a))).2 ∨ (Mo.itr t q n (stp t q (l, a))).1.length ≤ (Mo.itr t q n (stp t q (l, a))).2
    cases e : l[a]? with
    | some x =>
      have e2 : (stp t q (l, a)).2 = a + 1 := by
        unfold stp
        dsimp only
        rw [e]
      have := ih.2
      rw [e2] at this
      rcases this with h | h
      · exact .inl (by
          have e3 : stp t q (l, a) = ((stp t q (l, a)).1, a + 1) := by rw [← e2]
          rw [e3]
          omega)
      · refine .inr ?_
        have e3 : stp t q (l, a) = ((stp t q (l, a)).1, a + 1) := by rw [← e2]
        rw [e3]
        exact h
    | none =>
      have e2 : ∀ m, Mo.itr t q m (l, a) = (l, a) := by
        intro m
        induction m with
        | zero => rfl
        | succ m ih =>
          show Mo.itr t q m (stp t q (l, a)) = (l, a)
          have : stp t q (l, a) = (l, a) := by
            unfold stp
            dsimp only
            rw [e]
          rw [this]
          exact ih
      have e3 : stp t q (l, a) = (l, a) := e2 1
      rw [e3, e2]
      exact .inr (List.getElem?_eq_none_iff.mp e)
/-- all of them -/
structure Al (t : Tab) (q : Nat → Nat → Bool) (f : Nat) (l : List Nat) : Prop where
  lt : ∀ x ∈ l, x < t.length
  pw : l.Pairwise fun x y => q x y = false
  head : l[0]? = some f
  cl : ∀ x ∈ l, ∀ d, ∃ y ∈ l, q y (nx t x d) = true
  ord : ∀ k, 0 < k → k < l.length → ∃ r d x, r < k ∧ d ≤ 1 ∧ l[r]? = some x ∧ ixq q l (nx t x d) = k
  le : l.length ≤ t.length
theorem fd_len {l : List Nat} (rf : ∀ s, q s s = true) (F : Fd t q f l a) : l.length ≤ t.length :=
  nodup_len _ _ (F.pw.imp fun {x y} h e => by
    subst e
    rw [rf] at h
    cases h) F.lt
theorem fnd0_all (W : Wf t o) (hf : f < t.length) (rf : ∀ s, q s s = true) : Al t q f (fnd0 t q f) := by
  have F0 : Fd t q f [f] 0 := ⟨fun x hx => by rw [List.mem_singleton.mp hx]; exact hf, by simp, by simp, rfl, fun i x hi => by omega, fun k h0 hk => by simp at hk; omega⟩
  obtain ⟨F, h⟩ := Fd.itr W.lt rf 130 F0
  unfold fnd0
  have hl := fd_len rf F
  have ha : (Mo.itr t q 130 ([f], 0)).1.length ≤ (Mo.itr t q 130 ([f], 0)).2 := by
    have := W.le
    rcases h with h | h
    · omega
    · exact h
  refine ⟨F.lt, F.pw, F.head, fun x hx d => ?_, F.ord, hl⟩
  obtain ⟨i, hi⟩ := List.getElem?_of_mem hx
  have hil := (List.getElem?_eq_some_iff.mp hi).1
  by_cases h0 : d = 0
  · exact F.cl i x (by omega) hi d (by omega)
  · obtain ⟨y, h1, h2⟩ := F.cl i x (by omega) hi 1 (by omega)
    exact ⟨y, h1, by rw [nx_pos h0]; exact h2⟩
end
theorem fnd_closed {t : Tab} {o : List Int} {q : Nat → Nat → Bool} {f : Nat} (W : Wf t o) (hf : f < t.length) (rf : ∀ s, q s s = true) : Fd t q f [f] 0 ∧ (itr t q 130 ([f], 0)).1.length ≤ (itr t q 130 ([f], 0)).2 := by
  have F0 : Fd t q f [f] 0 := ⟨fun x hx => by rw [List.mem_singleton.mp hx]; exact hf, by simp, by simp, rfl, fun i x hi => by omega, fun k h0 hk => by simp at hk; omega⟩
  obtain ⟨F, h⟩ := Fd.itr W.lt rf 130 F0
  have hl := fd_len rf F
  refine ⟨F0, ?_⟩
  have := W.le
  rcases h with h | h
  · omega
  · exact h
@[irreducible] def fnd (t : Tab) (q : Nat → Nat → Bool) (f : Nat) : List Nat := fnd0 t q f
theorem fnd_fnd0 {t : Tab} {q : Nat → Nat → Bool} {f : Nat} : fnd t q f = fnd0 t q f := by unfold fnd; rfl
theorem fnd_def {t : Tab} {q : Nat → Nat → Bool} {f : Nat} : fnd t q f = (itr t q 130 ([f], 0)).1 := by
  rw [fnd_fnd0]
  rfl
def canon (t : Tab) (o : List Int) (q : Nat → Nat → Bool) (f : Nat) : Tab × List Int := canonOf t o q (fnd t q f)
theorem canon_canon0 {t : Tab} {o : List Int} {q : Nat → Nat → Bool} {f : Nat} : canon t o q f = canon0 t o q f := by
  unfold canon canon0
  rw [fnd_fnd0]
theorem canon_rel {R : Nat → Nat → Prop} {t t' : Tab} {o o' : List Int} {q q' : Nat → Nat → Bool} (hn : ∀ s s' d, R s s' → R (nx t s d) (nx t' s' d)) (hq : ∀ x x' s s', R x x' → R s s' → q x s = q' x' s') (ho : ∀ s s', R s s' → ot o s = ot o' s') {f f' : Nat} (hf : R f f') : canon t o q f = canon t' o' q' f' := by
  rw [canon_canon0, canon_canon0]
  exact canon0_rel hn hq ho hf
theorem fnd_all {t : Tab} {o : List Int} {q : Nat → Nat → Bool} {f : Nat} (W : Wf t o) (hf : f < t.length) (rf : ∀ s, q s s = true) : Al t q f (fnd t q f) := by
  rw [fnd_fnd0]
  exact fnd0_all (o := o) W hf rf
end Mo

/-! P0c: the least machine, what is true of it -/
namespace Mo
section
variable {t t' : Tab} {o o' : List Int} {q : Nat → Nat → Bool} {f : Nat}
theorem nx_map {l : List Nat} {g h : Nat → Nat} {k x : Nat} (e : l[k]? = some x) (d : Nat) : nx (l.map fun s => (g s, h s)) k d = if d = 0 then g x else h x := by
  unfold nx
  rw [List.getElem?_map, e]
  rfl
theorem ot_map {l : List Nat} {g : Nat → Int} {k x : Nat} (e : l[k]? = some x) : ot (l.map g) k = g x := by
  unfold ot
  rw [List.getElem?_map, e]
  rfl
theorem ixq_get {l : List Nat} {s : Nat} (h : ∃ y ∈ l, q y s = true) : ∃ y, l[ixq q l s]? = some y ∧ q y s = true ∧ ixq q l s < l.length := by
  have hl : ixq q l s < l.length := List.findIdx_lt_length.mpr h
  exact ⟨_, List.getElem?_eq_getElem hl, List.findIdx_getElem (p := fun x => q x s) (xs := l) (w := hl), hl⟩
structure Qok (t : Tab) (o : List Int) (q : Nat → Nat → Bool) : Prop where
  rf : ∀ s, q s s = true
  sim : ∀ x s, x < t.length → s < t.length → q x s = true → Sim t o x t o s
theorem canon_eq : canon t o q f = ((fnd t q f).map fun s => (ixq q (fnd t q f) (nx t s 0), ixq q (fnd t q f) (nx t s 1)), (fnd t q f).map (ot o)) := rfl
theorem canon_len : (canon t o q f).1.length = (fnd t q f).length := by
  rw [canon_eq]
  exact List.length_map ..
theorem canon_nx {k x : Nat} (e : (fnd t q f)[k]? = some x) (d : Nat) : nx (canon t o q f).1 k d = ixq q (fnd t q f) (nx t x d) := by
  rw [canon_eq]
  rw [nx_map e]
  split
  · rename_i h
    rw [h]
  · rename_i h
    rw [nx_pos h]
theorem canon_ot {k x : Nat} (e : (fnd t q f)[k]? = some x) : ot (canon t o q f).2 k = ot o x := by
  rw [canon_eq]
  exact ot_map e
theorem canon_wf (W : Wf t o) (hf : f < t.length) (Q : Qok t o q) : Wf (canon t o q f).1 (canon t o q f).2 := by
  have F := fnd_all (o := o) W hf Q.rf
  have h0 := (List.getElem?_eq_some_iff.mp F.head).1
  refine ⟨by rw [canon_len]; exact h0, by rw [canon_eq]; simp, fun s hs d => ?_, by rw [canon_len]; exact Nat.le_trans F.le W.le⟩
  rw [canon_len] at hs ⊢
  have e : (fnd t q f)[s]? = some (fnd t q f)[s] := List.getElem?_eq_getElem hs
  rw [canon_nx e]
  obtain ⟨y, _, _, h⟩ := ixq_get (F.cl _ (List.getElem_mem hs) d)
  exact h
theorem canon_sim (W : Wf t o) (hf : f < t.length) (Q : Qok t o q) {k s : Nat} (e : (fnd t q f)[k]? = some s) : Sim (canon t o q f).1 (canon t o q f).2 k t o s := by
  have F := fnd_all (o := o) W hf Q.rf
  refine sim_of (R := fun k s => ∃ x, (fnd t q f)[k]? = some x ∧ Sim t o x t o s) (fun k s d ⟨x, h1, h2⟩ => ?_) (fun k s ⟨x, h1, h2⟩ => ?_) ⟨s, e, Sim.rfl'⟩
  · rw [canon_nx h1]
    have hx := List.mem_of_getElem? h1
    obtain ⟨y, h3, h4, h5⟩ := ixq_get (F.cl x hx d)
    exact ⟨y, h3, (Q.sim _ _ (F.lt y (List.mem_of_getElem? h3)) (W.lt x (F.lt x hx) d) h4).trans (h2.nx d)⟩
  · rw [canon_ot h1]
    exact h2.out
open Classical in
/-- like states are one -/
noncomputable def sq (t : Tab) (o : List Int) (x s : Nat) : Bool := decide (Sim t o x t o s)
theorem sq_iff {x s : Nat} : sq t o x s = true ↔ Sim t o x t o s := by
  unfold sq
  exact @decide_eq_true_iff _ (Classical.propDecidable _)
theorem sq_ok : Qok t o (sq t o) := ⟨fun s => sq_iff.mpr Sim.rfl', fun x s _ _ h => sq_iff.mp h⟩
noncomputable def spec (t : Tab) (o : List Int) (f : Nat) : Tab × List Int := canon t o (sq t o) f
theorem spec_congr {f' : Nat} (h : Sim t o f t' o' f') : spec t o f = spec t' o' f' :=
  canon_rel (R := fun s s' => Sim t o s t' o' s') (fun s s' d h => h.nx d) (fun x x' s s' h1 h2 => by
    rw [Bool.eq_iff_iff, sq_iff, sq_iff]
    exact ⟨fun z => (h1.symm.trans z).trans h2, fun z => (h1.trans z).trans h2.symm⟩) (fun s s' h => h.out) h
theorem canon_spec (W : Wf t o) (hf : f < t.length) (hq : ∀ x s, x < t.length → s < t.length → (q x s = true ↔ Sim t o x t o s)) : canon t o q f = spec t o f :=
  canon_rel (R := fun s s' => s = s' ∧ s < t.length) (fun s s' d ⟨h1, h2⟩ => ⟨by rw [h1], W.lt s h2 d⟩) (fun x x' s s' ⟨h1, h2⟩ ⟨h3, h4⟩ => by
    subst h1 h3
    rw [Bool.eq_iff_iff, sq_iff]
    exact hq x s h2 h4) (fun s s' ⟨h, _⟩ => by rw [h]) ⟨rfl, hf⟩
theorem spec_wf (W : Wf t o) (hf : f < t.length) : Wf (spec t o f).1 (spec t o f).2 := canon_wf W hf sq_ok
theorem spec_start (W : Wf t o) (hf : f < t.length) : Sim (spec t o f).1 (spec t o f).2 0 t o f := canon_sim W hf sq_ok (fnd_all (o := o) W hf sq_ok.rf).head
theorem spec_parted (W : Wf t o) (hf : f < t.length) {k j : Nat} (hk : k < (spec t o f).1.length) (hj : j < (spec t o f).1.length) (h : Sim (spec t o f).1 (spec t o f).2 k (spec t o f).1 (spec t o f).2 j) : k = j := by
  have F := fnd_all (o := o) W hf (sq_ok (t := t) (o := o)).rf
  unfold spec at hk hj
  rw [canon_len] at hk hj
  have ek : (fnd t (sq t o) f)[k]? = some (fnd t (sq t o) f)[k] := List.getElem?_eq_getElem hk
  have ej : (fnd t (sq t o) f)[j]? = some (fnd t (sq t o) f)[j] := List.getElem?_eq_getElem hj
  have s1 := canon_sim (o := o) W hf sq_ok ek
  have s2 := canon_sim (o := o) W hf sq_ok ej
  have s3 := (s1.symm.trans h).trans s2
  have pw := List.pairwise_iff_getElem.mp F.pw
  rcases Nat.lt_trichotomy k j with c | c | c
  · have := pw k j hk hj c
    rw [sq_iff.mpr s3] at this
    cases this
  · exact c
  · have := pw j k hj hk c
    rw [sq_iff.mpr s3.symm] at this
    cases this
theorem spec_ord (W : Wf t o) (hf : f < t.length) {k : Nat} (h0 : 0 < k) (hk : k < (spec t o f).1.length) : ∃ r d, r < k ∧ d ≤ 1 ∧ nx (spec t o f).1 r d = k := by
  have F := fnd_all (o := o) W hf (sq_ok (t := t) (o := o)).rf
  unfold spec at hk ⊢
  rw [canon_len] at hk
  obtain ⟨r, d, x, h1, h2, h3, h4⟩ := F.ord k h0 hk
  exact ⟨r, d, h1, h2, by rw [canon_nx h3]; exact h4⟩
theorem spec_len (W : Wf t o) (hf : f < t.length) : (spec t o f).1.length ≤ t.length := by
  unfold spec
  rw [canon_len]
  exact (fnd_all (o := o) W hf (sq_ok (t := t) (o := o)).rf).le
theorem spec_outs (W : Wf t o) (hf : f < t.length) {v : Int} (h : v ∈ (spec t o f).2) : ∃ s, s < t.length ∧ ot o s = v := by
  have F := fnd_all (o := o) W hf (sq_ok (t := t) (o := o)).rf
  unfold spec at h
  rw [canon_eq] at h
  obtain ⟨s, hs, e⟩ := List.mem_map.mp h
  exact ⟨s, F.lt s hs, e⟩
/-- of a machine told so -/
structure Lst (T : Tab) (O : List Int) : Prop extends Wf T O where
  parted : ∀ k j, k < T.length → j < T.length → Sim T O k T O j → k = j
  ord : ∀ k, 0 < k → k < T.length → ∃ r d, r < k ∧ d ≤ 1 ∧ nx T r d = k
theorem spec_lst (W : Wf t o) (hf : f < t.length) : Lst (spec t o f).1 (spec t o f).2 := ⟨spec_wf W hf, fun k j hk hj h => spec_parted W hf hk hj h, fun k h0 hk => spec_ord W hf h0 hk⟩
theorem spec_inj (L : Lst t o) {k j : Nat} (hk : k < t.length) (hj : j < t.length) (h : spec t o k = spec t o j) : k = j := by
  have h1 := spec_start L.toWf hk
  have h2 := spec_start L.toWf hj
  rw [h] at h1
  exact L.parted k j hk hj (h1.symm.trans h2)
end
/-! ### the program's road -/
/-- the first of its class -/
def rep (c : Nat → Int) (n i : Nat) : Nat := (List.range n).findIdx fun j => decide (c j = c i)
def joined (c : Nat → Int) (t : Tab) : Tab := t.map fun p => (rep c t.length p.1, rep c t.length p.2)
section
variable {t : Tab} {o : List Int} {c : Nat → Int}
theorem rep_spec {n i : Nat} (hi : i < n) : rep c n i < n ∧ c (rep c n i) = c i := by
  have hl : rep c n i < (List.range n).length := List.findIdx_lt_length.mpr ⟨i, List.mem_range.mpr hi, by simp⟩
  have h2 := List.findIdx_getElem (p := fun j => decide (c j = c i)) (xs := List.range n) (w := hl)
  have h3 : c ((List.range n)[rep c n i]'hl) = c i := of_decide_eq_true h2
  rw [List.getElem_range] at h3
  exact ⟨by simpa using hl, h3⟩
theorem rep_congr {n i j : Nat} (h : c i = c j) : rep c n i = rep c n j := by
  unfold rep
  rw [h]
theorem rep_zero {n : Nat} (hn : 0 < n) : rep c n 0 = 0 := by
  cases n with
  | zero => omega
  | succ n =>
    unfold rep
    rw [List.range_succ_eq_map, List.findIdx_cons]
    simp
theorem joined_nx {s : Nat} (hs : s < t.length) (d : Nat) : nx (joined c t) s d = rep c t.length (nx t s d) := by
  unfold nx joined
  rw [List.getElem?_map, List.getElem?_eq_getElem hs]
  simp only [Option.map_some, Option.getD_some]
  split <;> rfl
theorem joined_len : (joined c t).length = t.length := List.length_map ..
theorem joined_wf (W : Wf t o) : Wf (joined c t) o := ⟨by rw [joined_len]; exact W.pos, by rw [joined_len]; exact W.len, fun s hs d => by
  rw [joined_len] at hs ⊢
  rw [joined_nx hs]
  exact (rep_spec (W.lt s hs d)).1, by rw [joined_len]; exact W.le⟩
theorem joined_canon (W : Wf t o) (hc : ∀ i j, i < t.length → j < t.length → (c i = c j ↔ Sim t o i t o j)) : canon (joined c t) o (fun x s => x == s) 0 = spec t o 0 :=
  canon_rel (R := fun x s => x < t.length ∧ s < t.length ∧ rep c t.length x = x ∧ Sim t o x t o s) (fun x s d ⟨h1, h2, h3, h4⟩ => by
    have hx := W.lt x h1 d
    obtain ⟨a, b⟩ := rep_spec (c := c) hx
    rw [joined_nx h1]
    exact ⟨a, W.lt s h2 d, rep_congr b, ((hc _ _ a hx).mp b).trans (h4.nx d)⟩)
    (fun x x' s s' ⟨h1, h2, h3, h4⟩ ⟨k1, k2, k3, k4⟩ => by
      rw [Bool.eq_iff_iff, sq_iff, beq_iff_eq]
      constructor
      · intro e
        subst e
        exact h4.symm.trans k4
      · intro z
        have : c x = c s := (hc x s h1 k1).mpr ((h4.trans z).trans k4.symm)
        rw [← h3, ← k3]
        exact rep_congr this)
    (fun x s ⟨h1, h2, h3, h4⟩ => h4.out) ⟨W.pos, W.pos, rep_zero W.pos, Sim.rfl'⟩
theorem eq_ok : Qok t o (fun x s => x == s) := ⟨fun s => by simp, fun x s _ _ h => by
  have : x = s := by simpa using h
  subst this
  exact Sim.rfl'⟩
/-- put in order, joined, put in order again -/
theorem prog_least (W : Wf t o) {t1 : Tab} {o1 : List Int} (e : canon t o (fun x s => x == s) 0 = (t1, o1)) (hc : ∀ i j, i < t1.length → j < t1.length → (c i = c j ↔ Sim t1 o1 i t1 o1 j)) : canon (joined c t1) o1 (fun x s => x == s) 0 = spec t o 0 := by
  have W1 := canon_wf (f := 0) W W.pos eq_ok
  have s1 := canon_sim W W.pos eq_ok (fnd_all (o := o) W W.pos (eq_ok (t := t) (o := o)).rf).head
  rw [e] at W1 s1
  rw [joined_canon W1 hc]
  exact spec_congr s1
end
end Mo

/-! P0d: digits, words to states -/
namespace Mo
def bits (n : Nat) : List Nat := if h : n = 0 then [] else n % 2 :: bits (n / 2)
termination_by n
decreasing_by omega
theorem bits_zero : bits 0 = [] := by rw [bits]; simp
theorem bits_pos {n : Nat} (h : n ≠ 0) : bits n = n % 2 :: bits (n / 2) := by rw [bits, dif_neg h]
theorem bits_len : ∀ (b n : Nat), n < 2 ^ b → (bits n).length ≤ b
  | 0, n, h => by
    have : n = 0 := by simpa using h
    subst this
    rw [bits_zero]
    simp
  | b + 1, n, h => by
    by_cases h0 : n = 0
    · subst h0
      rw [bits_zero]
      simp
    · rw [bits_pos h0, List.length_cons]
      have := bits_len b (n / 2) (by rw [Nat.pow_succ] at h; omega)
      omega
theorem bits_le1 : ∀ (b n : Nat), n < 2 ^ b → ∀ d ∈ bits n, d ≤ 1
  | 0, n, h, d, hd => by
    have : n = 0 := by simpa using h
    subst this
    rw [bits_zero] at hd
    cases hd
  | b + 1, n, h, d, hd => by
    by_cases h0 : n = 0
    · subst h0
      rw [bits_zero] at hd
      cases hd
    · rw [bits_pos h0] at hd
      rcases List.mem_cons.mp hd with rfl | hd
      · omega
      · exact bits_le1 b (n / 2) (by rw [Nat.pow_succ] at h; omega) d hd
theorem lt_pow_self (n : Nat) : n < 2 ^ n := Nat.lt_two_pow_self
theorem bits_01 {n d : Nat} (h : d ∈ bits n) : d ≤ 1 := bits_le1 n n (lt_pow_self n) d h
theorem bits_get : ∀ (p n : Nat), p < (bits n).length → (bits n)[p]? = some (n / 2 ^ p % 2)
  | p, n, h => by
    by_cases h0 : n = 0
    · subst h0
      rw [bits_zero] at h
      simp at h
    · rw [bits_pos h0] at h ⊢
      cases p with
      | zero => simp
      | succ p =>
        rw [List.getElem?_cons_succ, bits_get p (n / 2) (by simpa using h), Nat.div_div_eq_div_mul, Nat.pow_succ, Nat.mul_comm]
def val : List Nat → Nat
  | [] => 0
  | b :: w => b + 2 * val w
def ibits (i j : Nat) : List Nat := (List.range i).map fun p => j / 2 ^ p % 2
theorem ibits_succ (i j : Nat) : ibits (i + 1) j = j % 2 :: ibits i (j / 2) := by
  unfold ibits
  rw [List.range_succ_eq_map, List.map_cons, List.map_map]
  congr 1
  · simp
  · refine List.map_congr_left fun p _ => ?_
    show j / 2 ^ (p + 1) % 2 = j / 2 / 2 ^ p % 2
    rw [Nat.div_div_eq_div_mul, Nat.pow_succ, Nat.mul_comm]
theorem ibits_len (i j : Nat) : (ibits i j).length = i := by simp [ibits]
theorem bits_ibits : ∀ (i j : Nat), j < 2 ^ i → bits j ++ List.replicate (i - (bits j).length) 0 = ibits i j
  | 0, j, h => by
    have : j = 0 := by simpa using h
    subst this
    rw [bits_zero]
    rfl
  | i + 1, j, h => by
    rw [ibits_succ, ← bits_ibits i (j / 2) (by rw [Nat.pow_succ] at h; omega)]
    by_cases h0 : j = 0
    · subst h0
      rw [show (0 : Nat) / 2 = 0 from rfl, bits_zero]
      simp [List.replicate_succ]
    · rw [bits_pos h0, List.cons_append, List.length_cons]
      congr 3
      omega
theorem ibits_val : ∀ w : List Nat, (∀ d ∈ w, d ≤ 1) → ibits w.length (val w) = w
  | [], _ => rfl
  | b :: w, h => by
    have hb := h b (by simp)
    rw [List.length_cons, ibits_succ]
    have e1 : val (b :: w) % 2 = b := by
      show (b + 2 * val w) % 2 = b
      omega
    have e2 : val (b :: w) / 2 = val w := by
      show (b + 2 * val w) / 2 = val w
      omega
    rw [e1, e2, ibits_val w fun d hd => h d (by simp [hd])]
theorem val_lt : ∀ w : List Nat, (∀ d ∈ w, d ≤ 1) → val w < 2 ^ w.length
  | [], _ => by simp [val]
  | b :: w, h => by
    have hb := h b (by simp)
    have := val_lt w fun d hd => h d (by simp [hd])
    rw [List.length_cons, Nat.pow_succ]
    show b + 2 * val w < _
    omega
theorem bits_shift : ∀ (i j n : Nat), j < 2 ^ i → n ≠ 0 → bits (n * 2 ^ i + j) = ibits i j ++ bits n
  | 0, j, n, h, hn => by
    have : j = 0 := by simpa using h
    subst this
    simp [ibits]
  | i + 1, j, n, h, hn => by
    rw [ibits_succ, List.cons_append, ← bits_shift i (j / 2) n (by rw [Nat.pow_succ] at h; omega) hn]
    have h1 : n * 2 ^ (i + 1) = 2 * (n * 2 ^ i) := by rw [Nat.pow_succ]; rw [← Nat.mul_assoc, Nat.mul_comm]
    have hp : 0 < n * 2 ^ i := Nat.mul_pos (by omega) (Nat.pow_pos (by omega))
    rw [bits_pos (by omega), h1]
    congr 1
    · omega
    · congr 1
      omega
theorem run_append {t : Tab} {s : Nat} {v w : List Nat} : run t s (v ++ w) = run t (run t s v) w := by simp [run, List.foldl_append]
theorem run_zeros {t : Tab} {o : List Int} (W : Wf t o) (hz : ∀ s, s < t.length → ot o (nx t s 0) = ot o s) : ∀ (m s : Nat), s < t.length → ot o (run t s (List.replicate m 0)) = ot o s
  | 0, s, _ => rfl
  | m + 1, s, hs => by
    rw [List.replicate_succ]
    show ot o (run t (nx t s 0) (List.replicate m 0)) = ot o s
    rw [run_zeros W hz m _ (W.lt s hs 0), hz s hs]
/-- a piece tells what the sequence tells -/
theorem piece_out {t : Tab} {o : List Int} (W : Wf t o) (hz : ∀ s, s < t.length → ot o (nx t s 0) = ot o s) {i j n : Nat} (hj : j < 2 ^ i) : ot o (run t 0 (bits (n * 2 ^ i + j))) = ot o (run t (run t 0 (ibits i j)) (bits n)) := by
  by_cases hn : n = 0
  · subst hn
    rw [Nat.zero_mul, Nat.zero_add, bits_zero]
    show _ = ot o (run t 0 (ibits i j))
    rw [← bits_ibits i j hj, run_append]
    exact (run_zeros W hz _ _ (W.run W.pos _)).symm
  · rw [bits_shift i j n hj hn, run_append]
/-! ### words to states -/
abbrev Ws := List (Option (List Nat))
def wst (t : Tab) (ws : Ws) (s d : Nat) : Ws := match ws[nx t s d]?, ws[s]? with
  | some none, some (some w) => ws.set (nx t s d) (some (w ++ [d]))
  | _, _ => ws
def wsN (t : Tab) : Nat → Ws
  | 0 => (List.replicate t.length none).set 0 (some [])
  | k + 1 => wst t (wst t (wsN t k) k 0) k 1
structure WI (t : Tab) (k : Nat) (ws : Ws) : Prop where
  len : ws.length = t.length
  ok : ∀ s w, ws[s]? = some (some w) → run t 0 w = s ∧ (∀ d ∈ w, d ≤ 1) ∧ w.length ≤ s
  zero : ws[0]? = some (some [])
  cl : ∀ r, r < k → ∀ d, d ≤ 1 → ∃ w, ws[nx t r d]? = some (some w)
section
variable {t : Tab} {o : List Int} {k : Nat} {ws : Ws}
theorem WI.all (L : Lst t o) (I : WI t k ws) {s : Nat} (hs : s < t.length) (hk : s ≤ k) : ∃ w, ws[s]? = some (some w) := by
  by_cases h0 : s = 0
  · exact ⟨[], by rw [h0]; exact I.zero⟩
  · obtain ⟨r, d, h1, h2, h3⟩ := L.ord s (by omega) hs
    obtain ⟨w, hw⟩ := I.cl r (by omega) d h2
    exact ⟨w, by rw [← h3]; exact hw⟩
theorem WI.step (L : Lst t o) (I : WI t k ws) (hk : k < t.length) {d : Nat} (hd : d ≤ 1) : WI t k (wst t ws k d) ∧ (∃ w, (wst t ws k d)[nx t k d]? = some (some w)) ∧ ∀ (s : Nat) (w : List Nat), ws[s]? = some (some w) → (wst t ws k d)[s]? = some (some w) := by
  obtain ⟨wk, hwk⟩ := I.all L hk (Nat.le_refl _)
  have hx := L.lt k hk d
  have hlx : nx t k d < ws.length := by rw [I.len]; exact hx
  unfold wst
  rw [hwk]
  cases e : ws[nx t k d]? with
  | none => rw [List.getElem?_eq_none_iff] at e; omega
  | some ow =>
    cases ow with
    | some w =>
      exact ⟨I, ⟨w, e⟩, fun s w h => h⟩
    | none =>
      have keep : ∀ (s : Nat) (w : List Nat), ws[s]? = some (some w) → (ws.set (nx t k d) (some (wk ++ [d])))[s]? = some (some w) := fun s w h => by
        rw [List.getElem?_set_ne]
        · exact h
        · intro z
          rw [z, h] at e
          cases e
      have hbig : k < nx t k d := by
        rcases Nat.lt_or_ge k (nx t k d) with c | c
        · exact c
        · obtain ⟨w, hw⟩ := I.all L hx c
          rw [hw] at e
          cases e
      have self : (ws.set (nx t k d) (some (wk ++ [d])))[nx t k d]? = some (some (wk ++ [d])) := List.getElem?_set_self hlx
      refine ⟨⟨by simp [I.len], fun s w h => ?_, keep _ _ I.zero, fun r hr d' hd' => ?_⟩, ⟨_, self⟩, keep⟩
      · by_cases c : s = nx t k d
        · subst c
          rw [self] at h
          cases h
          obtain ⟨h1, h2, h3⟩ := I.ok k wk hwk
          refine ⟨?_, fun x hx => ?_, ?_⟩
          · rw [run_append, h1]
            rfl
          · rcases List.mem_append.mp hx with hx | hx
            · exact h2 x hx
            · rw [List.mem_singleton.mp hx]
              exact hd
          · rw [List.length_append]
            simp only [List.length_cons, List.length_nil]
            omega
        · rw [List.getElem?_set_ne (Ne.symm c)] at h
          exact I.ok s w h
      · obtain ⟨w, hw⟩ := I.cl r hr d' hd'
        exact ⟨w, keep _ _ hw⟩
theorem wsN_ok (L : Lst t o) : ∀ k, k ≤ t.length → WI t k (wsN t k)
  | 0, _ => by
    have hp := L.pos
    have h0 : ((List.replicate t.length (none : Option (List Nat))).set 0 (some []))[0]? = some (some []) := List.getElem?_set_self (by simpa using hp)
    refine ⟨by simp [wsN], fun s w h => ?_, h0, fun r hr => by omega⟩
    unfold wsN at h
    by_cases c : s = 0
    · subst c
      rw [h0] at h
      cases h
      exact ⟨rfl, by simp, by simp⟩
    · rw [List.getElem?_set_ne (Ne.symm c), List.getElem?_replicate] at h
      split at h <;> cases h
  | k + 1, hk => by
    have I := wsN_ok L k (by omega)
    obtain ⟨I1, ⟨w1, h1⟩, k1⟩ := I.step L (by omega) (d := 0) (by omega)
    obtain ⟨I2, ⟨w2, h2⟩, k2⟩ := I1.step L (by omega) (d := 1) (by omega)
    refine ⟨I2.len, I2.ok, I2.zero, fun r hr d hd => ?_⟩
    by_cases c : r = k
    · subst c
      by_cases hd0 : d = 0
      · subst hd0
        exact ⟨w1, k2 _ _ h1⟩
      · have : d = 1 := by omega
        subst this
        exact ⟨w2, h2⟩
    · exact I2.cl r (by omega) d hd
/-- the words -/
def kw (t : Tab) : List (List Nat) := (wsN t t.length).map fun o => o.getD []
theorem kw_all (L : Lst t o) {s : Nat} (hs : s < t.length) : ∃ w, (wsN t t.length)[s]? = some (some w) := (wsN_ok L _ (Nat.le_refl _)).all L hs (by omega)
theorem kw_len (L : Lst t o) : (kw t).length = t.length := by
  unfold kw
  rw [List.length_map]
  exact (wsN_ok L _ (Nat.le_refl _)).len
theorem kw_get (L : Lst t o) {s : Nat} (hs : s < t.length) : ∃ w, (kw t)[s]? = some w ∧ run t 0 w = s ∧ (∀ d ∈ w, d ≤ 1) ∧ w.length ≤ s := by
  obtain ⟨w, hw⟩ := kw_all L hs
  refine ⟨w, ?_, (wsN_ok L _ (Nat.le_refl _)).ok s w hw⟩
  unfold kw
  rw [List.getElem?_map, hw]
  rfl
end
end Mo

/-! P0e: classes by steps -/
namespace Mo
section
variable {t : Tab} {o : List Int} {c : Nat → Nat} {m : Nat}
abbrev Zc (c : Nat → Nat) : Nat → Int := fun i => (c i : Int)
/-- where a program's classes stand -/
structure Pc (t : Tab) (o : List Int) (m : Nat) (c : Nat → Nat) (many : Nat) : Prop where
  cls : Cls t o (Zc c) m
  prev : (many = 0 ∧ m = 0) ∨ ∃ (c' : Nat → Int) (m' : Nat), m = m' + 1 ∧ Cls t o c' m' ∧ many = cnt c' t.length
theorem cnt_pos {κ : Type} [DecidableEq κ] {ks : Nat → κ} {n : Nat} (hn : 0 < n) : 0 < cnt ks n := by
  have : ks 0 ∈ firsts ks n := mem_firsts.mpr ⟨0, hn, rfl⟩
  exact List.length_pos_of_mem this
theorem Pc.done (W : Wf t o) {many : Nat} (P : Pc t o m c many) (h : ¬ many < cnt (Zc c) t.length) {i j : Nat} (hi : i < t.length) (hj : j < t.length) : Zc c i = Zc c j ↔ Sim t o i t o j := by
  rcases P.prev with ⟨rfl, rfl⟩ | ⟨c', m', rfl, h1, h2⟩
  · exact absurd (cnt_pos W.pos) h
  · have := h1.mono P.cls
    exact h1.done W P.cls (by omega) hi hj
theorem Pc.next (W : Wf t o) {many : Nat} (P : Pc t o m c many) {κ : Type} [DecidableEq κ] {kn : Nat → κ} (hk : ∀ i j, kn i = kn j ↔ key t (Zc c) i = key t (Zc c) j) : Pc t o (m + 1) (fun i => num kn t.length i) (cnt (Zc c) t.length) :=
  ⟨fun i j hi hj => by
    rw [← P.cls.key W hi hj, ← hk i j]
    show ((num kn t.length i : Nat) : Int) = ((num kn t.length j : Nat) : Int) ↔ _
    rw [Int.ofNat_inj]
    exact num_eq hi hj, .inr ⟨_, m, rfl, P.cls, rfl⟩⟩
theorem Pc.first {κ : Type} [DecidableEq κ] {kn : Nat → κ} (hk : ∀ i j, kn i = kn j ↔ ot o i = ot o j) : Pc t o 0 (fun i => num kn t.length i) 0 :=
  ⟨fun i j hi hj => by
    rw [← Cls.zero (t := t) (o := o) i j hi hj, ← hk i j]
    show ((num kn t.length i : Nat) : Int) = ((num kn t.length j : Nat) : Int) ↔ _
    rw [Int.ofNat_inj]
    exact num_eq hi hj, .inl ⟨rfl, rfl⟩⟩
end
end Mo

/-! P0f: zeros read; begun in a state -/
namespace Mo
def zr (t : Tab) (s : Nat) : Nat → Nat
  | 0 => s
  | i + 1 => nx t (zr t s i) 0
section
variable {t : Tab} {o : List Int} {s : Nat}
theorem zr_run : ∀ i, run t s (List.replicate i 0) = zr t s i
  | 0 => rfl
  | i + 1 => by
    rw [List.replicate_succ', run_append, zr_run i]
    rfl
theorem zr_lt (W : Wf t o) (hs : s < t.length) (i : Nat) : zr t s i < t.length := by
  rw [← zr_run]
  exact W.run hs _
theorem zr_add {f g : Nat} (h : zr t s f = zr t s g) : ∀ j, zr t s (f + j) = zr t s (g + j)
  | 0 => h
  | j + 1 => by
    show nx t (zr t s (f + j)) 0 = nx t (zr t s (g + j)) 0
    rw [zr_add h j]
/-- it goes round -/
theorem zr_round {f m : Nat} (hf : f ≤ m) (h : zr t s (m + 1) = zr t s f) {i : Nat} (hi : f ≤ i) : zr t s (f + (i - f) % (m + 1 - f)) = zr t s i := by
  have key : ∀ q r, zr t s (f + (r + (m + 1 - f) * q)) = zr t s (f + r) := by
    intro q
    induction q with
    | zero => intro r; rw [Nat.mul_zero, Nat.add_zero]
    | succ q ih =>
      intro r
      have e : f + (r + (m + 1 - f) * (q + 1)) = (m + 1) + (r + (m + 1 - f) * q) := by
        rw [Nat.mul_succ]
        omega
      rw [e, zr_add h, ih]
  have e2 := key ((i - f) / (m + 1 - f)) ((i - f) % (m + 1 - f))
  rw [Nat.mod_add_div] at e2
  rw [← e2]
  congr 1
  omega
/-- the path as far as it has no place twice -/
def zl (t : Tab) (s m : Nat) : List Nat := (List.range (m + 1)).map (zr t s)
theorem zl_succ {m : Nat} : zl t s (m + 1) = zl t s m ++ [nx t (zr t s m) 0] := by
  unfold zl
  rw [List.range_succ, List.map_append]
  rfl
theorem zl_mem {m x : Nat} : x ∈ zl t s m ↔ ∃ f, f ≤ m ∧ zr t s f = x := by
  unfold zl
  rw [List.mem_map]
  constructor
  · rintro ⟨f, hf, e⟩
    exact ⟨f, by have := List.mem_range.mp hf; omega, e⟩
  · rintro ⟨f, hf, e⟩
    exact ⟨f, List.mem_range.mpr (by omega), e⟩
/-- begun in a state -/
def shf (p : Nat × Nat) : Nat × Nat := (p.1 + 1, p.2 + 1)
def bgT (t : Tab) (s : Nat) : Tab := shf (nx t s 0, nx t s 1) :: t.map shf
def bgO (o : List Int) (s : Nat) : List Int := ot o s :: o
theorem bg_zero {d : Nat} : nx (bgT t s) 0 d = nx t s d + 1 := by
  unfold bgT
  by_cases hd : d = 0
  · subst hd
    rfl
  · rw [nx_pos hd, nx_pos (s := s) hd]
    rfl
theorem bg_succ {x d : Nat} (hx : x < t.length) : nx (bgT t s) (x + 1) d = nx t x d + 1 := by
  unfold bgT nx
  rw [List.getElem?_cons_succ, List.getElem?_map, List.getElem?_eq_getElem hx]
  simp only [Option.map_some, Option.getD_some, shf]
  split <;> rfl
theorem bg_ot {x : Nat} : ot (bgO o s) (x + 1) = ot o x := by
  unfold bgO ot
  rw [List.getElem?_cons_succ]
theorem bg_wf (W : Wf t o) (hs : s < t.length) (hle : t.length ≤ 30) : Wf (bgT t s) (bgO o s) := by
  have hl : (bgT t s).length = t.length + 1 := by simp [bgT]
  refine ⟨by omega, by simp [bgT, bgO, W.len], fun x hx d => ?_, by omega⟩
  rw [hl] at hx ⊢
  cases x with
  | zero =>
    rw [bg_zero]
    have := W.lt s hs d
    omega
  | succ x =>
    rw [bg_succ (by omega)]
    have := W.lt x (by omega) d
    omega
theorem bg_sim (W : Wf t o) (hs : s < t.length) : Sim (bgT t s) (bgO o s) 0 t o s := by
  refine sim_of (R := fun x y => y < t.length ∧ ((x = 0 ∧ y = s) ∨ x = y + 1)) (fun x y d ⟨hy, h⟩ => ⟨W.lt y hy d, .inr ?_⟩) (fun x y ⟨hy, h⟩ => ?_) ⟨hs, .inl ⟨rfl, rfl⟩⟩
  · rcases h with ⟨rfl, rfl⟩ | rfl
    · exact bg_zero
    · exact bg_succ hy
  · rcases h with ⟨rfl, rfl⟩ | rfl
    · rfl
    · exact bg_ot
end
end Mo

/-! P0g: turns of finding, one by one -/
namespace Mo
section
variable {t : Tab} {o : List Int} {q : Nat → Nat → Bool} {f : Nat}
theorem itr_last : ∀ (n : Nat) (p : List Nat × Nat), itr t q (n + 1) p = stp t q (itr t q n p)
  | 0, p => rfl
  | n + 1, p => by
    show itr t q (n + 1) (stp t q p) = stp t q (itr t q n (stp t q p))
    exact itr_last n _
theorem itr_add (n : Nat) : ∀ (m : Nat) (p : List Nat × Nat), itr t q (n + m) p = itr t q m (itr t q n p)
  | 0, p => rfl
  | m + 1, p => by
    show itr t q (n + m + 1) p = _
    rw [itr_last, itr_add n m p, itr_last]
theorem stp_end {l : List Nat} {a : Nat} (h : l.length ≤ a) : stp t q (l, a) = (l, a) := by
  unfold stp
  dsimp only
  rw [List.getElem?_eq_none h]
theorem itr_end {l : List Nat} {a : Nat} (h : l.length ≤ a) : ∀ m, itr t q m (l, a) = (l, a)
  | 0 => rfl
  | m + 1 => by
    show itr t q m (stp t q (l, a)) = _
    rw [stp_end h]
    exact itr_end h m
/-- all are found after as many turns as there are states -/
theorem fnd_turns (W : Wf t o) (hf : f < t.length) (rf : ∀ s, q s s = true) : (itr t q t.length ([f], 0)).1 = fnd t q f ∧ (itr t q t.length ([f], 0)).1.length ≤ (itr t q t.length ([f], 0)).2 := by
  obtain ⟨F0, _⟩ := fnd_closed W hf rf
  obtain ⟨F, h⟩ := Fd.itr W.lt rf t.length F0
  have hl := fd_len rf F
  have hc : (itr t q t.length ([f], 0)).1.length ≤ (itr t q t.length ([f], 0)).2 := by
    rcases h with h | h
    · omega
    · exact h
  refine ⟨?_, hc⟩
  rw [fnd_def]
  have hle := W.le
  have e : (130 : Nat) = t.length + (130 - t.length) := by omega
  have e2 := itr_add (t := t) (q := q) t.length (130 - t.length) ([f], 0)
  rw [← e] at e2
  rw [e2]
  have e3 := itr_end (t := t) (q := q) hc (130 - t.length)
  rw [show ((itr t q t.length ([f], 0)).1, (itr t q t.length ([f], 0)).2) = itr t q t.length ([f], 0) from rfl] at e3
  rw [e3]
theorem ixq_grow {l m : List Nat} {s : Nat} (h : ∃ y ∈ l, q y s = true) : ixq q (l ++ m) s = ixq q l s := findIdx_append_mem h
/-- one turn -/
theorem stp_some {l : List Nat} {a x : Nat} (h : l[a]? = some x) : stp t q (l, a) = (push q (push q l (nx t x 0)) (nx t x 1), a + 1) := by
  unfold stp
  dsimp only
  rw [h]
theorem push_pre (l : List Nat) (s : Nat) : ∃ m, push q l s = l ++ m := by
  unfold push
  split
  · exact ⟨[], by simp⟩
  · exact ⟨_, rfl⟩
end
end Mo

/-! P77a: tuples of outs as states -/
namespace Mo
/-- the tuple behind d -/
def tw (t : Tab) (u : List Int) (d : Nat) : List Int := t.map fun p => ot u (if d = 0 then p.1 else p.2)
abbrev eqQ : Nat → Nat → Bool := fun x s => x == s
structure Md (t : Tab) (o : List Int) (B : Tab) (oB : List Int) (f : Nat) (tp : Nat → List Int) : Prop where
  wf : Wf B oB
  lt : f < B.length
  start : tp f = o
  step : ∀ s, s < B.length → ∀ d, tw t (tp s) d = tp (nx B s d)
  inj : ∀ s s', s < B.length → s' < B.length → tp s = tp s' → s = s'
  out : ∀ s, s < B.length → ot (tp s) 0 = ot oB s
  len : ∀ s, s < B.length → (tp s).length = t.length
section
variable {t B : Tab} {o oB : List Int} {f : Nat} {tp : Nat → List Int}
theorem tw_ot {u : List Int} {a : Nat} (h : a < t.length) (d : Nat) : ot (tw t u d) a = ot u (nx t a d) := by
  unfold tw
  show ((t.map _)[a]?).getD 0 = _
  rw [List.getElem?_map, List.getElem?_eq_getElem h]
  unfold nx
  rw [List.getElem?_eq_getElem h]
  rfl
theorem tw_len {u : List Int} {d : Nat} : (tw t u d).length = t.length := by simp [tw]
theorem run_cons {s d : Nat} {w : List Nat} : run t s (d :: w) = run t (nx t s d) w := rfl
theorem run_snoc {s d : Nat} {w : List Nat} : run t s (w ++ [d]) = nx t (run t s w) d := by simp [run, List.foldl_append]
theorem Md.run (M : Md t o B oB f tp) (W : Wf t o) : ∀ (w : List Nat) (s a : Nat), s < B.length → a < t.length → ot (tp (Mo.run B s w)) a = ot (tp s) (Mo.run t a w.reverse)
  | [], _, _, _, _ => rfl
  | d :: w, s, a, hs, ha => by
    rw [run_cons, M.run W w _ a (M.wf.lt s hs d) ha, ← M.step s hs d, tw_ot (W.run ha _), List.reverse_cons, run_snoc]
theorem Md.lang (M : Md t o B oB f tp) (W : Wf t o) (w : List Nat) : ot oB (Mo.run B f w) = ot o (Mo.run t 0 w.reverse) := by
  rw [← M.out _ (M.wf.run M.lt w), M.run W w f 0 M.lt W.pos, M.start]
theorem eqQ_ok : Qok B oB eqQ := ⟨fun s => by simp, fun x s _ _ h => by
  have : x = s := by simpa using h
  subst this
  exact Sim.rfl'⟩
theorem Md.al (M : Md t o B oB f tp) : Al B eqQ f (fnd B eqQ f) := fnd_all (o := oB) M.wf M.lt (fun s => by simp)
/-- the machine found -/
abbrev cB (B : Tab) (oB : List Int) (f : Nat) : Tab × List Int := canon B oB eqQ f
theorem Md.cwf (M : Md t o B oB f tp) : Wf (cB B oB f).1 (cB B oB f).2 := canon_wf M.wf M.lt eqQ_ok
theorem Md.clang (M : Md t o B oB f tp) (W : Wf t o) (w : List Nat) : ot (cB B oB f).2 (Mo.run (cB B oB f).1 0 w) = ot o (Mo.run t 0 w.reverse) :=
  (canon_sim M.wf M.lt eqQ_ok M.al.head w).trans (M.lang W w)
theorem fnd_nodup (M : Md t o B oB f tp) : (fnd B eqQ f).Nodup := M.al.pw.imp fun {x y} h e => by
  subst e
  simp at h
theorem nodup_inj {l : List Nat} (hl : l.Nodup) {i j x : Nat} (h1 : l[i]? = some x) (h2 : l[j]? = some x) : i = j := by
  obtain ⟨a1, e1⟩ := List.getElem?_eq_some_iff.mp h1
  obtain ⟨a2, e2⟩ := List.getElem?_eq_some_iff.mp h2
  have hp := List.pairwise_iff_getElem.mp hl
  rcases Nat.lt_trichotomy i j with h | h | h
  · exact absurd (e1.trans e2.symm) (hp i j a1 a2 h)
  · exact h
  · exact absurd (e2.trans e1.symm) (hp j i a2 a1 h)
theorem ixq_at {l : List Nat} (hl : l.Nodup) {a x : Nat} (h : l[a]? = some x) : ixq eqQ l x = a := by
  obtain ⟨y, h1, h2, h3⟩ := ixq_get (q := eqQ) (l := l) (s := x) ⟨x, List.mem_of_getElem? h, by simp⟩
  have e : y = x := by simpa using h2
  subst e
  exact nodup_inj hl h1 h
/-- the state that letter a stands for -/
theorem Md.at_ (M : Md t o B oB f tp) {a : Nat} (ha : a < (cB B oB f).1.length) : ∃ x, (fnd B eqQ f)[a]? = some x ∧ x < B.length ∧ ∀ d, nx (cB B oB f).1 a d < (cB B oB f).1.length ∧ (fnd B eqQ f)[nx (cB B oB f).1 a d]? = some (nx B x d) := by
  have hl := ha
  rw [canon_len] at hl
  have e : (fnd B eqQ f)[a]? = some (fnd B eqQ f)[a] := List.getElem?_eq_getElem hl
  refine ⟨_, e, M.al.lt _ (List.getElem_mem hl), fun d => ?_⟩
  rw [canon_nx e]
  obtain ⟨y, h1, h2, h3⟩ := ixq_get (M.al.cl _ (List.getElem_mem hl) d)
  have e2 : y = nx B (fnd B eqQ f)[a] d := by simpa using h2
  exact ⟨by rw [canon_len]; exact h3, h1.trans (congrArg some e2)⟩
/-- there again: states of the letters of the letters -/
def colT (B : Tab) (f : Nat) (tp : Nat → List Int) (s : Nat) : List Int := (fnd B eqQ f).map fun x => ot (tp x) s
theorem colT_at {s a x : Nat} (h : (fnd B eqQ f)[a]? = some x) : ot (colT B f tp s) a = ot (tp x) s := ot_map h
theorem Md.sub0 (M : Md t o B oB f tp) (W : Wf t o) (hz : ∀ s, s < t.length → ot o (nx t s 0) = ot o s) : nx (cB B oB f).1 0 0 = 0 := by
  have h0 : 0 < (cB B oB f).1.length := M.cwf.pos
  obtain ⟨x, h1, h2, h3⟩ := M.at_ h0
  have e1 : x = f := by
    have := M.al.head
    rw [h1] at this
    exact Option.some.inj this
  subst e1
  have e2 : nx B x 0 = x := by
    refine M.inj _ _ (M.wf.lt x h2 0) h2 ?_
    rw [← M.step x h2 0, M.start]
    have hl : o.length = t.length := W.len
    apply List.ext_getElem?
    intro i
    by_cases hi : i < t.length
    · have a1 := tw_ot (t := t) (u := o) hi 0
      rw [hz i hi] at a1
      unfold ot at a1
      rw [List.getElem?_eq_getElem (show i < (tw t o 0).length by rw [tw_len]; exact hi), List.getElem?_eq_getElem (show i < o.length by omega)] at a1
      rw [List.getElem?_eq_getElem (show i < (tw t o 0).length by rw [tw_len]; exact hi), List.getElem?_eq_getElem (show i < o.length by omega)]
      exact congrArg some a1
    · rw [List.getElem?_eq_none (by rw [tw_len]; omega), List.getElem?_eq_none (by omega)]
  have q := (h3 0).2
  rw [e2] at q
  have g1 := ixq_at (fnd_nodup M) q
  rw [ixq_at (fnd_nodup M) h1] at g1
  exact g1.symm
theorem Md.back (M : Md t o B oB f tp) (L : Lst t o) : Md (cB B oB f).1 (cB B oB f).2 t o 0 (colT B f tp) := by
  refine ⟨L.toWf, L.pos, ?_, fun s hs d => ?_, fun s s' hs hs' e => ?_, fun s hs => ?_, fun s hs => by rw [canon_len]; simp [colT]⟩
  · show (fnd B eqQ f).map (fun x => ot (tp x) 0) = (fnd B eqQ f).map (ot oB)
    exact List.map_congr_left fun x hx => M.out x (M.al.lt x hx)
  · have len : (tw (cB B oB f).1 (colT B f tp s) d).length = (fnd B eqQ f).length := by rw [tw_len, canon_len]
    apply List.ext_getElem?
    intro a
    by_cases ha : a < (fnd B eqQ f).length
    · have ha' : a < (cB B oB f).1.length := by rw [canon_len]; exact ha
      obtain ⟨x, h1, h2, h3⟩ := M.at_ ha'
      have a1 := tw_ot (t := (cB B oB f).1) (u := colT B f tp s) ha' d
      rw [colT_at (h3 d).2, ← M.step x h2 d, tw_ot hs] at a1
      have a2 := colT_at (tp := tp) (s := nx t s d) h1
      rw [← a1] at a2
      unfold ot at a2
      rw [List.getElem?_eq_getElem (show a < (tw (cB B oB f).1 (colT B f tp s) d).length by rw [len]; exact ha), List.getElem?_eq_getElem (show a < (colT B f tp (nx t s d)).length by simp [colT]; exact ha)] at a2
      rw [List.getElem?_eq_getElem (show a < (tw (cB B oB f).1 (colT B f tp s) d).length by rw [len]; exact ha), List.getElem?_eq_getElem (show a < (colT B f tp (nx t s d)).length by simp [colT]; exact ha)]
      exact congrArg some a2.symm
    · rw [List.getElem?_eq_none (by rw [len]; omega), List.getElem?_eq_none (by simp [colT]; omega)]
  · refine L.parted s s' hs hs' fun w => ?_
    have key : ∀ s, s < t.length → ∃ x, (fnd B eqQ f)[Mo.run (cB B oB f).1 0 w.reverse]? = some x ∧ ot (tp x) s = ot o (Mo.run t s w) := by
      intro s hs
      have gen : ∀ u : List Nat, (fnd B eqQ f)[Mo.run (cB B oB f).1 0 u.reverse]? = some (Mo.run B f u.reverse) := by
        intro u
        induction u with
        | nil => exact M.al.head
        | cons d u ih =>
          rw [List.reverse_cons, run_snoc, run_snoc]
          have hr : Mo.run (cB B oB f).1 0 u.reverse < (cB B oB f).1.length := M.cwf.run M.cwf.pos _
          obtain ⟨x, h1, h2, h3⟩ := M.at_ hr
          rw [ih] at h1
          cases h1
          exact (h3 d).2
      refine ⟨_, gen w, ?_⟩
      rw [M.run L.toWf w.reverse f s M.lt hs, M.start, List.reverse_reverse]
    obtain ⟨x, h1, h2⟩ := key s hs
    obtain ⟨x', h1', h2'⟩ := key s' hs'
    rw [h1] at h1'
    cases h1'
    rw [← h2, ← h2']
    have c1 := colT_at (tp := tp) (s := s) h1
    have c2 := colT_at (tp := tp) (s := s') h1
    rw [← c1, ← c2, e]
  · obtain ⟨y, h1⟩ : ∃ y, (fnd B eqQ f)[0]? = some y := ⟨_, M.al.head⟩
    rw [colT_at h1]
    have : y = f := by
      have := M.al.head
      rw [h1] at this
      exact Option.some.inj this
    subst this
    rw [M.start]
end
end Mo

/-! P77b: all tuples of some values; places of a row -/
namespace Mo
def allT (vs : List Int) : Nat → List (List Int)
  | 0 => [[]]
  | n + 1 => vs.flatMap fun v => (allT vs n).map (v :: ·)
theorem mem_allT {vs : List Int} : ∀ {n : Nat} {u : List Int}, u ∈ allT vs n ↔ u.length = n ∧ ∀ x ∈ u, x ∈ vs
  | 0, u => by
    show u ∈ [[]] ↔ _
    rw [List.mem_singleton]
    constructor
    · rintro rfl
      exact ⟨rfl, fun x h => nomatch h⟩
    · rintro ⟨h, _⟩
      exact List.length_eq_zero_iff.mp h
  | n + 1, u => by
    show u ∈ vs.flatMap _ ↔ _
    rw [List.mem_flatMap]
    constructor
    · rintro ⟨v, hv, h⟩
      obtain ⟨u', h1, rfl⟩ := List.mem_map.mp h
      obtain ⟨h2, h3⟩ := mem_allT.mp h1
      refine ⟨by simp [h2], fun x hx => ?_⟩
      rcases List.mem_cons.mp hx with rfl | hx
      · exact hv
      · exact h3 x hx
    · rintro ⟨h1, h2⟩
      cases u with
      | nil => cases h1
      | cons v u' => exact ⟨v, h2 v (by simp), List.mem_map.mpr ⟨u', mem_allT.mpr ⟨by simpa using h1, fun x hx => h2 x (by simp [hx])⟩, rfl⟩⟩
theorem len_flat {α β : Type} {f : α → List β} {m : Nat} : ∀ {l : List α}, (∀ x ∈ l, (f x).length = m) → (l.flatMap f).length = l.length * m
  | [], _ => by simp
  | a :: l, h => by
    rw [List.flatMap_cons, List.length_append, h a (by simp), len_flat fun x hx => h x (by simp [hx]), List.length_cons, Nat.add_mul, Nat.one_mul, Nat.add_comm]
theorem len_allT {vs : List Int} : ∀ {n : Nat}, (allT vs n).length = vs.length ^ n
  | 0 => by simp [allT]
  | n + 1 => by
    show (vs.flatMap _).length = _
    rw [len_flat (m := vs.length ^ n) fun x _ => by rw [List.length_map, len_allT], Nat.pow_succ, Nat.mul_comm]
def dd {α : Type} [DecidableEq α] : List α → List α
  | [] => []
  | a :: l => if a ∈ dd l then dd l else a :: dd l
section
variable {α : Type} [DecidableEq α]
theorem mem_dd {x : α} : ∀ {l : List α}, x ∈ dd l ↔ x ∈ l
  | [] => by simp [dd]
  | a :: l => by
    unfold dd
    split
    · rename_i h
      rw [mem_dd, List.mem_cons]
      refine ⟨.inr, fun q => ?_⟩
      rcases q with rfl | q
      · exact mem_dd.mp h
      · exact q
    · rw [List.mem_cons, List.mem_cons, mem_dd]
theorem dd_nodup : ∀ {l : List α}, (dd l).Nodup
  | [] => List.Pairwise.nil
  | a :: l => by
    unfold dd
    split
    · exact dd_nodup
    · rename_i h
      refine List.Pairwise.cons (fun x hx e => ?_) dd_nodup
      subst e
      exact h hx
theorem dd_len : ∀ {l : List α}, (dd l).length ≤ l.length
  | [] => Nat.le_refl _
  | a :: l => by
    unfold dd
    split
    · exact Nat.le_succ_of_le dd_len
    · simpa using dd_len
end
section
variable {t : Tab} {o : List Int} {Us : List (List Int)}
def tpU (Us : List (List Int)) (s : Nat) : List Int := (Us[s]?).getD []
def ixU (Us : List (List Int)) (u : List Int) : Nat := Us.findIdx fun v => decide (v = u)
theorem ixU_get {u : List Int} (h : u ∈ Us) : ixU Us u < Us.length ∧ tpU Us (ixU Us u) = u := by
  have hl : ixU Us u < Us.length := List.findIdx_lt_length.mpr ⟨u, h, by simp⟩
  refine ⟨hl, ?_⟩
  unfold tpU
  rw [List.getElem?_eq_getElem hl]
  exact of_decide_eq_true (List.findIdx_getElem (p := fun v => decide (v = u)) (xs := Us) (w := hl))
theorem tpU_mem {s : Nat} (h : s < Us.length) : tpU Us s ∈ Us := by
  unfold tpU
  rw [List.getElem?_eq_getElem h]
  exact List.getElem_mem h
theorem md_of (nd : Us.Nodup) (hl : Us.length ≤ 130) (ho : o ∈ Us) (hc : ∀ u ∈ Us, ∀ d, tw t u d ∈ Us) (hn : ∀ u ∈ Us, u.length = t.length) :
    Md t o ((List.range Us.length).map fun s => (ixU Us (tw t (tpU Us s) 0), ixU Us (tw t (tpU Us s) 1))) ((List.range Us.length).map fun s => ot (tpU Us s) 0) (ixU Us o) (tpU Us) := by
  have len : ((List.range Us.length).map fun s => (ixU Us (tw t (tpU Us s) 0), ixU Us (tw t (tpU Us s) 1))).length = Us.length := by simp
  have nxe : ∀ s, s < Us.length → ∀ d, nx ((List.range Us.length).map fun s => (ixU Us (tw t (tpU Us s) 0), ixU Us (tw t (tpU Us s) 1))) s d = ixU Us (tw t (tpU Us s) d) := by
    intro s hs d
    rw [nx_map (List.getElem?_range hs)]
    split
    · rename_i h
      rw [h]
    · rename_i h
      unfold tw
      simp [h]
  have hpos : 0 < Us.length := List.length_pos_of_mem ho
  refine ⟨⟨by rw [len]; exact hpos, by simp, fun s hs d => ?_, by rw [len]; exact hl⟩, by rw [len]; exact (ixU_get ho).1, (ixU_get ho).2, fun s hs d => ?_, fun s s' hs hs' e => ?_, fun s hs => ?_, fun s hs => hn _ (tpU_mem (by rw [len] at hs; exact hs))⟩
  · rw [len] at hs ⊢
    rw [nxe s hs]
    exact (ixU_get (hc _ (tpU_mem hs) d)).1
  · rw [len] at hs
    rw [nxe s hs]
    exact (ixU_get (hc _ (tpU_mem hs) d)).2.symm
  · rw [len] at hs hs'
    unfold tpU at e
    rw [List.getElem?_eq_getElem hs, List.getElem?_eq_getElem hs'] at e
    have hp := List.pairwise_iff_getElem.mp nd
    rcases Nat.lt_trichotomy s s' with h | h | h
    · exact absurd e (hp s s' hs hs' h)
    · exact h
    · exact absurd e.symm (hp s' s hs' hs h)
  · rw [len] at hs
    rw [ot_map (List.getElem?_range hs)]
theorem md_full (W : Wf t o) (h4 : t.length ≤ 4) {vs : List Int} (h3 : vs.length ≤ 3) (hv : ∀ x ∈ o, x ∈ vs) : ∃ B oB f tp, Md t o B oB f tp ∧ B.length ≤ 81 := by
  refine ⟨_, _, _, _, md_of (Us := dd (allT vs t.length)) dd_nodup ?_ ?_ ?_ (fun u hu => (mem_allT.mp (mem_dd.mp hu)).1), ?_⟩
  · refine Nat.le_trans dd_len ?_
    rw [len_allT]
    have h1 : vs.length ^ t.length ≤ 3 ^ t.length := Nat.pow_le_pow_left h3 _
    have h2 : 3 ^ t.length ≤ 3 ^ 4 := Nat.pow_le_pow_right (by omega) h4
    omega
  · exact mem_dd.mpr (mem_allT.mpr ⟨W.len, hv⟩)
  · intro u hu d
    obtain ⟨h1, h2⟩ := mem_allT.mp (mem_dd.mp hu)
    refine mem_dd.mpr (mem_allT.mpr ⟨tw_len, fun x hx => ?_⟩)
    unfold tw at hx
    obtain ⟨p, hp, rfl⟩ := List.mem_map.mp hx
    obtain ⟨s, hs, e⟩ := List.getElem_of_mem hp
    have hq := W.lt s hs d
    have : nx t s d = if d = 0 then p.1 else p.2 := by
      unfold nx
      rw [List.getElem?_eq_getElem hs, e]
      rfl
    rw [this] at hq
    unfold ot
    rw [List.getElem?_eq_getElem (by rw [h1]; exact hq)]
    exact h2 _ (List.getElem_mem _)
  · rw [List.length_map, List.length_range]
    refine Nat.le_trans dd_len ?_
    rw [len_allT]
    have h1 : vs.length ^ t.length ≤ 3 ^ t.length := Nat.pow_le_pow_left h3 _
    have h2 : 3 ^ t.length ≤ 3 ^ 4 := Nat.pow_le_pow_right (by omega) h4
    omega
end
/-! ### the row -/
/-- the letter at a place -/
def lt' (t : Tab) (n : Nat) : Nat := run t 0 (bits n).reverse
theorem lt_zero {t : Tab} : lt' t 0 = 0 := by
  unfold lt'
  rw [bits_zero]
  rfl
theorem lt_pos {t : Tab} {n : Nat} (h : n ≠ 0) : lt' t n = nx t (lt' t (n / 2)) (n % 2) := by
  unfold lt'
  rw [bits_pos h, List.reverse_cons, run_snoc]
theorem lt_lt {t : Tab} {o : List Int} (W : Wf t o) (n : Nat) : lt' t n < t.length := W.run W.pos _
end Mo

/-! the code of everynumber_k77_whole_doubling_substitut, printed by gen.py from the linked text -/
namespace Code
open PySem Ab
abbrev prog : Program := PySem.Challenge.pw_everynumber_k77_whole_doubling_substitut
def top (i : Nat) : Stmt := prog.main.body.getD i (.Pass ⟨0, 0, 0, 0⟩)
def gls : List (Str × D) := []
def b_digits_of : List IS := [.new 1 (.lst []),
    .whl 1000000 (.cmp .Gt (.var 0) (.lit (.int 0))) [.ex (.meth .append (.var 1) [(.bin .Mod (.var 0) (.lit (.int 2)))]),
    .asg (.name 0) (.bin .FloorDiv (.var 0) (.lit (.int 2)))],
    .ret (.bi .tuple [(.var 1)])]
def f_digits_of : FD := ⟨"digits_of", ["n"], ["n", "found"], b_digits_of⟩
def t_digits_of : TD := ⟨60, f_digits_of, top 7⟩
def b_order_of_states : List IS := [.new 1 (.lst [(.lit (.int 0))]),
    .snew 2 (.lit (.int 0)),
    .asg (.name 3) (.lit (.int 0)),
    .whl 1000000 (.cmp .Lt (.var 3) (.bi .len [(.var 1)])) [.for_ (.name 4) false [(.ix (.ix (.var 0) (.lit (.int 1))) (.ix (.var 1) (.var 3)))] [.ite (.sin true (.var 4) (.var 2)) [.ex (.sadd (.var 2) (.var 4)),
    .ex (.meth .append (.var 1) [(.var 4)])] []],
    .aug 3 .Add (.lit (.int 1))],
    .ret (.bi .tuple [(.var 1)])]
def f_order_of_states : FD := ⟨"order_of_states", ["machine"], ["machine", "found", "seen", "at", "state"], b_order_of_states⟩
def t_order_of_states : TD := ⟨37, f_order_of_states, top 9⟩
def b_numbers_by : List IS := [.new 2 (.bin .Mult (.lst [(.lit (.int 0))]) (.var 1)),
    .for_ (.name 3) true [(.bi .len [(.var 0)])] [.seti (.var 2) (.ix (.var 0) (.var 3)) (.var 3)],
    .ret (.var 2)]
def f_numbers_by : FD := ⟨"numbers_by", ["order", "size"], ["order", "size", "numbers", "k"], b_numbers_by⟩
def t_numbers_by : TD := ⟨38, f_numbers_by, top 10⟩
def b_machine_in_order : List IS := [.asg (.tup [(.name 1), (.name 2), (.name 3)]) (.var 0),
    .asg (.name 4) (.call 37 [(.var 0)]),
    .asg (.name 5) (.call 38 [(.var 4), (.bi .len [(.var 2)])]),
    .asg (.name 6) (.bi .tuple [(.lc [7] (.name 7) false [(.var 4)] [] (.bi .tuple [(.lc [8] (.name 8) false [(.ix (.var 2) (.var 7))] [] (.ix (.var 5) (.var 8)))]))]),
    .ret (.tup [(.var 1), (.var 6), (.bi .tuple [(.lc [7] (.name 7) false [(.var 4)] [] (.ix (.var 3) (.var 7)))])])]
def f_machine_in_order : FD := ⟨"machine_in_order", ["machine"], ["machine", "tracks", "table", "ends", "order", "numbers", "rows", "state", "way"], b_machine_in_order⟩
def t_machine_in_order : TD := ⟨39, f_machine_in_order, top 11⟩
def b_classes_by : List IS := [.dnew 1,
    .new 2 (.lst []),
    .for_ (.name 3) false [(.var 0)] [.ite (.din true (.var 3) (.var 1)) [.dput (.var 1) (.var 3) (.dlen (.var 1))] [],
    .ex (.meth .append (.var 2) [(.dget (.var 1) (.var 3))])],
    .ret (.var 2)]
def f_classes_by : FD := ⟨"classes_by", ["keys"], ["keys", "numbers", "found", "key"], b_classes_by⟩
def t_classes_by : TD := ⟨40, f_classes_by, top 13⟩
def b_parted_classes : List IS := [.asg (.name 2) (.call 40 [(.var 1)]),
    .asg (.name 3) (.lit (.int 0)),
    .whl 1000000 (.cmp .Gt (.slen (.var 2)) (.var 3)) [.asg (.name 3) (.slen (.var 2)),
    .asg (.name 4) (.lc [5] (.name 5) true [(.bi .len [(.var 0)])] [] (.tup [(.ix (.var 2) (.var 5)), (.bi .tuple [(.lc [6] (.name 6) false [(.ix (.var 0) (.var 5))] [] (.ix (.var 2) (.var 6)))])])),
    .asg (.name 2) (.call 40 [(.var 4)])],
    .ret (.var 2)]
def f_parted_classes : FD := ⟨"parted_classes", ["table", "marks"], ["table", "marks", "classes", "many", "keys", "k", "way"], b_parted_classes⟩
def t_parted_classes : TD := ⟨41, f_parted_classes, top 14⟩
def b_state_classes : List IS := [.asg (.name 1) (.call 41 [(.ix (.var 0) (.lit (.int 1))), (.ix (.var 0) (.lit (.int 2)))]),
    .ret (.bi .tuple [(.lc [2] (.name 2) false [(.var 1)] [] (.meth .index (.var 1) [(.var 2)]))])]
def f_state_classes : FD := ⟨"state_classes", ["machine"], ["machine", "classes", "own"], b_state_classes⟩
def t_state_classes : TD := ⟨42, f_state_classes, top 15⟩
def b_with_states_joined : List IS := [.asg (.tup [(.name 2), (.name 3), (.name 4)]) (.var 0),
    .asg (.name 5) (.bi .tuple [(.lc [6] (.name 6) false [(.var 3)] [] (.bi .tuple [(.lc [7] (.name 7) false [(.var 6)] [] (.ix (.var 1) (.var 7)))]))]),
    .ret (.call 39 [(.tup [(.var 2), (.var 5), (.var 4)])])]
def f_with_states_joined : FD := ⟨"with_states_joined", ["machine", "classes"], ["machine", "classes", "tracks", "table", "ends", "rows", "row", "way"], b_with_states_joined⟩
def t_with_states_joined : TD := ⟨43, f_with_states_joined, top 16⟩
def b_least_machine : List IS := [.asg (.name 1) (.call 39 [(.var 0)]),
    .ret (.call 43 [(.var 1), (.call 42 [(.var 1)])])]
def f_least_machine : FD := ⟨"least_machine", ["machine"], ["machine", "own"], b_least_machine⟩
def t_least_machine : TD := ⟨44, f_least_machine, top 17⟩
def b_state_of_number : List IS := [.asg (.name 2) (.lit (.int 0)),
    .for_ (.name 3) false [(.call 60 [(.var 1)])] [.asg (.name 2) (.ix (.ix (.ix (.var 0) (.lit (.int 0))) (.var 2)) (.var 3))],
    .ret (.var 2)]
def f_state_of_number : FD := ⟨"state_of_number", ["sequence", "n"], ["sequence", "n", "state", "digit"], b_state_of_number⟩
def t_state_of_number : TD := ⟨107, f_state_of_number, top 19⟩
def b_sequence_at : List IS := [.ret (.ix (.ix (.var 0) (.lit (.int 1))) (.call 107 [(.var 0), (.var 1)]))]
def f_sequence_at : FD := ⟨"sequence_at", ["sequence", "n"], ["sequence", "n"], b_sequence_at⟩
def t_sequence_at : TD := ⟨108, f_sequence_at, top 20⟩
def b_sequence_row : List IS := [.ret (.bi .tuple [(.lc [2] (.name 2) true [(.var 1)] [] (.call 108 [(.var 0), (.var 2)]))])]
def f_sequence_row : FD := ⟨"sequence_row", ["sequence", "many"], ["sequence", "many", "n"], b_sequence_row⟩
def t_sequence_row : TD := ⟨273, f_sequence_row, top 21⟩
def b_least_sequence : List IS := [.asg (.tup [(.name 1), (.name 2)]) (.slc (.call 44 [(.tup [(.lit (.int 1)), (.ix (.var 0) (.lit (.int 0))), (.ix (.var 0) (.lit (.int 1)))])]) (some (.lit (.int 1))) none),
    .ret (.tup [(.var 1), (.var 2)])]
def f_least_sequence : FD := ⟨"least_sequence", ["sequence"], ["sequence", "table", "outs"], b_least_sequence⟩
def t_least_sequence : TD := ⟨274, f_least_sequence, top 22⟩
def b_is_pair_of_letters : List IS := [.ret (.bop .And [(.cmp .Eq (.bi .len [(.var 0)]) (.lit (.int 2))), (.bi .all [(.lc [2] (.name 2) false [(.var 0)] [] (.chain .LtE .Lt (.lit (.int 0)) (.var 2) (.var 1)))])])]
def f_is_pair_of_letters : FD := ⟨"is_pair_of_letters", ["row", "size"], ["row", "size", "letter"], b_is_pair_of_letters⟩
def t_is_pair_of_letters : TD := ⟨314, f_is_pair_of_letters, top 24⟩
def b_is_substitution : List IS := [.ite (.bop .Or [(.cmp .Eq (.bi .len [(.var 0)]) (.lit (.int 0))), (.cmp .NotEq (.bi .len [(.var 1)]) (.bi .len [(.var 0)]))]) [.ret (.lit (.bl false))] [],
    .ret (.bop .And [(.bi .all [(.lc [2] (.name 2) false [(.var 0)] [] (.call 314 [(.var 2), (.bi .len [(.var 0)])]))]), (.cmp .Eq (.ix (.ix (.var 0) (.lit (.int 0))) (.lit (.int 0))) (.lit (.int 0)))])]
def f_is_substitution : FD := ⟨"is_substitution", ["rows", "outs"], ["rows", "outs", "row"], b_is_substitution⟩
def t_is_substitution : TD := ⟨315, f_is_substitution, top 25⟩
def b_check_substitution : List IS := [.ite (.un .Not (.call 315 [(.var 0), (.var 1)])) [.bad] []]
def f_check_substitution : FD := ⟨"check_substitution", ["rows", "outs"], ["rows", "outs"], b_check_substitution⟩
def t_check_substitution : TD := ⟨316, f_check_substitution, top 26⟩
def b_substituted_row : List IS := [.new 2 (.lst []),
    .for_ (.name 3) true [(.var 1)] [.ex (.meth .append (.var 2) [(.ite (.cmp .Gt (.var 3) (.lit (.int 0))) (.ix (.ix (.var 0) (.ix (.var 2) (.bin .FloorDiv (.var 3) (.lit (.int 2))))) (.bin .Mod (.var 3) (.lit (.int 2)))) (.lit (.int 0)))])],
    .ret (.bi .tuple [(.var 2)])]
def f_substituted_row : FD := ⟨"substituted_row", ["rows", "many"], ["rows", "many", "letters", "n"], b_substituted_row⟩
def t_substituted_row : TD := ⟨317, f_substituted_row, top 27⟩
def b_outs_and_rows : List IS := [.new 2 (.lst [(.var 1)]),
    .ddisp 3 (.var 1) (.lit (.int 0)),
    .new 4 (.lst []),
    .whl 1000000 (.cmp .Lt (.bi .len [(.var 4)]) (.bi .len [(.var 2)])) [.asg (.name 5) (.ix (.var 2) (.bi .len [(.var 4)])),
    .asg (.name 6) (.lc [8] (.name 8) true [(.lit (.int 2))] [] (.bi .tuple [(.lc [9] (.name 9) false [(.var 0)] [] (.ix (.var 5) (.ix (.var 9) (.var 8))))])),
    .for_ (.name 7) false [(.var 6)] [.ite (.din true (.var 7) (.var 3)) [.dput (.var 3) (.var 7) (.bi .len [(.var 2)]),
    .ex (.meth .append (.var 2) [(.var 7)])] []],
    .ex (.meth .append (.var 4) [(.bi .tuple [(.lc [7] (.name 7) false [(.var 6)] [] (.dget (.var 3) (.var 7)))])])],
    .ret (.tup [(.bi .tuple [(.var 2)]), (.bi .tuple [(.var 4)])])]
def f_outs_and_rows : FD := ⟨"outs_and_rows", ["ways", "outs"], ["ways", "outs", "found", "numbers", "rows", "own", "later", "row", "digit", "way"], b_outs_and_rows⟩
def t_outs_and_rows : TD := ⟨318, f_outs_and_rows, top 28⟩
def b_sequence_of_substitution : List IS := [.asg (.tup [(.name 2), (.name 3)]) (.call 318 [(.var 0), (.var 1)]),
    .ret (.call 274 [(.tup [(.var 3), (.bi .tuple [(.lc [4] (.name 4) false [(.var 2)] [] (.ix (.var 4) (.lit (.int 0))))])])])]
def f_sequence_of_substitution : FD := ⟨"sequence_of_substitution", ["rows", "outs"], ["rows", "outs", "found", "table", "own"], b_sequence_of_substitution⟩
def t_sequence_of_substitution : TD := ⟨319, f_sequence_of_substitution, top 29⟩
def b_substitution_of : List IS := [.asg (.tup [(.name 1), (.name 2)]) (.call 274 [(.var 0)]),
    .asg (.tup [(.name 3), (.name 4)]) (.call 318 [(.var 1), (.var 2)]),
    .ret (.tup [(.var 4), (.bi .tuple [(.lc [5] (.name 5) false [(.var 3)] [] (.ix (.var 5) (.lit (.int 0))))])])]
def f_substitution_of : FD := ⟨"substitution_of", ["sequence"], ["sequence", "table", "outs", "found", "rows", "own"], b_substitution_of⟩
def t_substitution_of : TD := ⟨320, f_substitution_of, top 30⟩
def b__law_draws : List IS := [.new 2 (.lc [8] (.name 8) false [(.var 0)] [] (.bi .int [(.var 8)])),
    .ite (.cmp .Eq (.bi .len [(.var 2)]) (.lit (.int 0))) [.ex (.meth .append (.var 2) [(.lit (.int 0))])] [],
    .new 3 (.list1 (.var 2)),
    .new 4 (.lst []),
    .for_ (.name 5) true [(.var 1)] [.asg (.name 6) (.bin .Mod (.var 5) (.bi .len [(.var 2)])),
    .ite (.bop .And [(.cmp .GtE (.ix (.var 2) (.var 6)) (.bin .Pow (.lit (.int 10)) (.lit (.int 18)))), (.cmp .Gt (.ix (.var 3) (.var 6)) (.lit (.int 0)))]) [.ex (.meth .append (.var 4) [(.bin .Mod (.bi .int [(.ix (.var 3) (.var 6))]) (.lit (.int 1000)))]),
    .seti (.var 3) (.var 6) (.bin .FloorDiv (.ix (.var 3) (.var 6)) (.lit (.int 1000)))] [.asg (.name 7) (.bin .Mod (.bi .int [(.bin .Add (.bin .Add (.bin .Mult (.ix (.var 2) (.var 6)) (.lit (.int 48271))) (.bin .Mult (.var 5) (.lit (.int 69621)))) (.lit (.int 11)))]) (.lit (.int 2147483647))),
    .ex (.meth .append (.var 4) [(.bin .Mod (.bi .int [(.bin .Add (.bin .Add (.bin .Mult (.var 7) (.var 7)) (.bin .Mult (.lit (.int 3)) (.var 7))) (.var 5))]) (.lit (.int 1000003)))])]],
    .ex (.meth .reverse (.var 4) []),
    .ret (.var 4)]
def f__law_draws : FD := ⟨"_law_draws", ["script", "many"], ["script", "many", "cells", "rest", "draws", "k", "at", "once", "cell"], b__law_draws⟩
def t__law_draws : TD := ⟨19, f__law_draws, top 32⟩
def b__law_take : List IS := [.ite (.cmp .Eq (.bi .len [(.var 0)]) (.lit (.int 0))) [.ret (.lit (.int 0))] [],
    .ret (.bin .Mod (.bi .int [(.meth .pop (.var 0) [])]) (.var 1))]
def f__law_take : FD := ⟨"_law_take", ["draws", "many"], ["draws", "many"], b__law_take⟩
def t__law_take : TD := ⟨20, f__law_take, top 33⟩
def b__law_cell : List IS := [.ite (.cmp .Eq (.bi .len [(.var 0)]) (.lit (.int 0))) [.ret (.lit (.int 0))] [],
    .asg (.name 1) (.bi .int [(.ix (.var 0) (.bin .Mod (.bin .Mod (.bi .int [(.bin .Sub (.bi .len [(.var 0)]) (.lit (.int 1)))]) (.lit (.int 7))) (.bi .len [(.var 0)])))]),
    .ite (.cmp .Lt (.var 1) (.lit (.int 0))) [.ret (.un .USub (.bin .Mod (.bi .int [(.un .USub (.var 1))]) (.bin .Pow (.lit (.int 10)) (.lit (.int 59)))))] [],
    .ret (.bin .Mod (.bi .int [(.var 1)]) (.bin .Pow (.lit (.int 10)) (.lit (.int 59))))]
def f__law_cell : FD := ⟨"_law_cell", ["script"], ["script", "cell"], b__law_cell⟩
def t__law_cell : TD := ⟨21, f__law_cell, top 34⟩
def b__law_same : List IS := [.ite (.isi .bool (.var 1)) [.ret (.bop .And [(.isi .bool (.var 0)), (.cmp .Eq (.var 0) (.var 1))])] [],
    .ite (.isi .int (.var 1)) [.ret (.bop .And [(.isi .int (.var 0)), (.un .Not (.isi .bool (.var 0))), (.cmp .Eq (.var 0) (.var 1))])] [],
    .ite (.isi .str (.var 1)) [.ret (.bop .And [(.isi .str (.var 0)), (.cmp .Eq (.var 0) (.var 1))])] [],
    .ite (.cmp .Is (.var 1) (.lit .non)) [.ret (.cmp .Is (.var 0) (.lit .non))] [],
    .ite (.bop .Or [(.un .Not (.isi .tuple (.var 0))), (.cmp .NotEq (.bi .len [(.var 0)]) (.bi .len [(.var 1)]))]) [.ret (.lit (.bl false))] [],
    .for_ (.name 2) true [(.bi .len [(.var 1)])] [.ite (.un .Not (.call 22 [(.ix (.var 0) (.var 2)), (.ix (.var 1) (.var 2))])) [.ret (.lit (.bl false))] []],
    .ret (.lit (.bl true))]
def f__law_same : FD := ⟨"_law_same", ["actual", "due"], ["actual", "due", "k"], b__law_same⟩
def t__law_same : TD := ⟨22, f__law_same, top 35⟩
def b__law_long : List IS := [.asg (.name 1) (.lit (.int 0)),
    .whl 1000000 (.cmp .Gt (.var 0) (.lit (.int 0))) [.asg (.name 0) (.bin .RShift (.var 0) (.lit (.int 1))),
    .asg (.name 1) (.bin .Add (.var 1) (.lit (.int 1)))],
    .ret (.var 1)]
def f__law_long : FD := ⟨"_law_long", ["n"], ["n", "many"], b__law_long⟩
def t__law_long : TD := ⟨254, f__law_long, top 36⟩
def b__law_digits : List IS := [.ret (.lc [1] (.name 1) true [(.call 254 [(.var 0)])] [] (.bin .Mod (.bi .int [(.bin .RShift (.var 0) (.var 1))]) (.lit (.int 2))))]
def f__law_digits : FD := ⟨"_law_digits", ["n"], ["n", "place"], b__law_digits⟩
def t__law_digits : TD := ⟨294, f__law_digits, top 37⟩
def b__law_out : List IS := [.asg (.name 2) (.lit (.int 0)),
    .for_ (.name 3) false [(.call 294 [(.var 1)])] [.asg (.name 2) (.ix (.ix (.ix (.var 0) (.lit (.int 0))) (.var 2)) (.var 3))],
    .ret (.ix (.ix (.var 0) (.lit (.int 1))) (.var 2))]
def f__law_out : FD := ⟨"_law_out", ["sequence", "n"], ["sequence", "n", "state", "digit"], b__law_out⟩
def t__law_out : TD := ⟨255, f__law_out, top 38⟩
def b__law_least : List IS := [.asg (.name 3) (.list1 (.var 1)),
    .asg (.name 4) (.lit (.int 0)),
    .for_ (.name 5) true [(.bin .Add (.bi .len [(.var 0)]) (.lit (.int 1)))] [.dnew 10,
    .new 11 (.lst []),
    .for_ (.name 9) true [(.bi .len [(.var 0)])] [.asg (.name 12) (.tup [(.ix (.var 3) (.var 9)), (.ix (.var 3) (.ix (.ix (.var 0) (.var 9)) (.lit (.int 0)))), (.ix (.var 3) (.ix (.ix (.var 0) (.var 9)) (.lit (.int 1))))]),
    .ite (.din true (.var 12) (.var 10)) [.dput (.var 10) (.var 12) (.dlen (.var 10))] [],
    .ex (.meth .append (.var 11) [(.dget (.var 10) (.var 12))])],
    .asg (.name 3) (.var 11),
    .ite (.cmp .Eq (.dlen (.var 10)) (.var 4)) [.brk] [],
    .asg (.name 4) (.dlen (.var 10))],
    .new 6 (.lst [(.var 2)]),
    .ddisp 7 (.ix (.var 3) (.var 2)) (.lit (.int 0)),
    .new 8 (.lst []),
    .for_ (.name 9) true [(.bi .len [(.var 0)])] [.ite (.cmp .Lt (.var 9) (.bi .len [(.var 6)])) [.for_ (.name 13) false [(.ix (.var 0) (.ix (.var 6) (.var 9)))] [.ite (.din true (.ix (.var 3) (.var 13)) (.var 7)) [.dput (.var 7) (.ix (.var 3) (.var 13)) (.bi .len [(.var 6)]),
    .ex (.meth .append (.var 6) [(.var 13)])] []],
    .ex (.meth .append (.var 8) [(.bi .tuple [(.lc [13] (.name 13) false [(.ix (.var 0) (.ix (.var 6) (.var 9)))] [] (.dget (.var 7) (.ix (.var 3) (.var 13))))])])] []],
    .ret (.tup [(.bi .tuple [(.var 8)]), (.bi .tuple [(.lc [14] (.name 14) false [(.var 6)] [] (.ix (.var 1) (.var 14)))])])]
def f__law_least : FD := ⟨"_law_least", ["table", "outs", "first"], ["table", "outs", "first", "classes", "many", "turn", "found", "places", "rows", "k", "numbers", "later", "key", "way", "state"], b__law_least⟩
def t__law_least : TD := ⟨295, f__law_least, top 39⟩
def b__law_sequence : List IS := [.asg (.name 2) (.lst [(.call 20 [(.var 0), (.lit (.int 10))]), (.bin .Sub (.call 20 [(.var 0), (.lit (.int 10))]) (.lit (.int 5))), (.bin .Sub (.lit (.int 9)) (.call 20 [(.var 0), (.lit (.int 4))]))]),
    .asg (.name 3) (.lc [5] (.name 5) true [(.var 1)] [] (.ix (.var 2) (.call 20 [(.var 0), (.lit (.int 3))]))),
    .new 4 (.lst []),
    .for_ (.name 5) true [(.var 1)] [.asg (.name 6) (.lc [7] (.name 7) true [(.var 1)] [(.cmp .Eq (.ix (.var 3) (.var 7)) (.ix (.var 3) (.var 5)))] (.var 7)),
    .ex (.meth .append (.var 4) [(.tup [(.ix (.var 6) (.call 20 [(.var 0), (.bi .len [(.var 6)])])), (.call 20 [(.var 0), (.var 1)])])])],
    .ret (.tup [(.bi .tuple [(.var 4)]), (.bi .tuple [(.var 3)])])]
def f__law_sequence : FD := ⟨"_law_sequence", ["draws", "size"], ["draws", "size", "palette", "outs", "table", "k", "same", "j"], b__law_sequence⟩
def t__law_sequence : TD := ⟨308, f__law_sequence, top 40⟩
def b__law_substitution : List IS := [.asg (.name 1) (.bin .Add (.lit (.int 1)) (.call 20 [(.var 0), (.lit (.int 4))])),
    .asg (.name 2) (.lst [(.call 20 [(.var 0), (.lit (.int 10))]), (.bin .Sub (.call 20 [(.var 0), (.lit (.int 10))]) (.lit (.int 5))), (.bin .Sub (.lit (.int 9)) (.call 20 [(.var 0), (.lit (.int 4))]))]),
    .new 3 (.lc [4] (.name 4) true [(.var 1)] [] (.tup [(.call 20 [(.var 0), (.var 1)]), (.call 20 [(.var 0), (.var 1)])])),
    .seti (.var 3) (.lit (.int 0)) (.tup [(.lit (.int 0)), (.ix (.ix (.var 3) (.lit (.int 0))) (.lit (.int 1)))]),
    .ret (.tup [(.bi .tuple [(.var 3)]), (.bi .tuple [(.lc [4] (.name 4) true [(.var 1)] [] (.ix (.var 2) (.call 20 [(.var 0), (.lit (.int 3))])))])])]
def f__law_substitution : FD := ⟨"_law_substitution", ["draws"], ["draws", "many", "palette", "rows", "k"], b__law_substitution⟩
def t__law_substitution : TD := ⟨321, f__law_substitution, top 41⟩
def b__law_letter_at : List IS := [.asg (.name 2) (.lit (.int 0)),
    .for_ (.name 3) false [(.rev (.call 294 [(.var 1)]))] [.asg (.name 2) (.ix (.ix (.var 0) (.var 2)) (.var 3))],
    .ret (.var 2)]
def f__law_letter_at : FD := ⟨"_law_letter_at", ["rows", "n"], ["rows", "n", "letter", "digit"], b__law_letter_at⟩
def t__law_letter_at : TD := ⟨322, f__law_letter_at, top 42⟩
def b__law_tuples : List IS := [.new 2 (.lst [(.bi .tuple [(.var 1)])]),
    .ddisp 3 (.ix (.var 2) (.lit (.int 0))) (.lit (.int 0)),
    .new 4 (.lst []),
    .for_ (.name 5) true [(.lit (.int 81))] [.ite (.cmp .Lt (.var 5) (.bi .len [(.var 2)])) [.asg (.name 6) (.lc [8] (.name 8) false [(.tup [(.lit (.int 0)), (.lit (.int 1))])] [] (.bi .tuple [(.lc [9] (.name 9) false [(.var 0)] [] (.ix (.ix (.var 2) (.var 5)) (.ix (.var 9) (.var 8))))])),
    .for_ (.name 7) false [(.var 6)] [.ite (.din true (.var 7) (.var 3)) [.dput (.var 3) (.var 7) (.bi .len [(.var 2)]),
    .ex (.meth .append (.var 2) [(.var 7)])] []],
    .ex (.meth .append (.var 4) [(.bi .tuple [(.lc [7] (.name 7) false [(.var 6)] [] (.dget (.var 3) (.var 7)))])])] []],
    .ret (.tup [(.bi .tuple [(.var 4)]), (.bi .tuple [(.lc [7] (.name 7) false [(.var 2)] [] (.ix (.var 7) (.lit (.int 0))))])])]
def f__law_tuples : FD := ⟨"_law_tuples", ["ways", "outs"], ["ways", "outs", "found", "places", "rows", "k", "later", "own", "digit", "way"], b__law_tuples⟩
def t__law_tuples : TD := ⟨323, f__law_tuples, top 43⟩
def b__law_is_refused : List IS := [.ret (.call 927 [(.var 0), (.var 1)])]
def f__law_is_refused : FD := ⟨"_law_is_refused", ["rows", "outs"], ["rows", "outs", "e"], b__law_is_refused⟩
def t__law_is_refused : TD := ⟨324, f__law_is_refused, top 44⟩
def b__law_are_checked : List IS := [.ite (.cmp .IsNot (.call 316 [(.var 1), (.var 2)]) (.lit .non)) [.ret (.lit (.bl false))] [],
    .asg (.name 4) (.bi .len [(.var 1)]),
    .asg (.name 5) (.call 20 [(.var 0), (.var 4)]),
    .for_ (.name 6) false [(.lst [(.var 4), (.un .USub (.lit (.int 1))), (.bin .Add (.var 4) (.bi .abs [(.var 3)])), (.bin .Sub (.un .USub (.lit (.int 1))) (.bi .abs [(.var 3)]))])] [.for_ (.name 7) false [(.lst [(.tup [(.var 6), (.ix (.ix (.var 1) (.var 5)) (.lit (.int 1)))]), (.tup [(.ix (.ix (.var 1) (.var 5)) (.lit (.int 0))), (.var 6)])])] [.ite (.un .Not (.call 324 [(.bin .Add (.bin .Add (.slc (.var 1) none (some (.var 5))) (.tup [(.var 7)])) (.slc (.var 1) (some (.bin .Add (.var 5) (.lit (.int 1)))) none)), (.var 2)])) [.ret (.lit (.bl false))] []]],
    .ite (.bop .And [(.cmp .Gt (.var 4) (.lit (.int 1))), (.un .Not (.call 324 [(.bin .Add (.tup [(.tup [(.bin .Add (.lit (.int 1)) (.call 20 [(.var 0), (.bin .Sub (.var 4) (.lit (.int 1)))])), (.lit (.int 0))])]) (.slc (.var 1) (some (.lit (.int 1))) none)), (.var 2)]))]) [.ret (.lit (.bl false))] [],
    .ret (.bop .And [(.call 324 [(.var 1), (.slc (.var 2) (some (.lit (.int 1))) none)]), (.call 324 [(.var 1), (.bin .Add (.var 2) (.tup [(.var 3)]))]), (.call 324 [(.tup []), (.tup [])]), (.call 324 [(.tup []), (.tup [(.lit (.int 0))])])])]
def f__law_are_checked : FD := ⟨"_law_are_checked", ["draws", "rows", "outs", "cell"], ["draws", "rows", "outs", "cell", "many", "at", "bad", "row"], b__law_are_checked⟩
def t__law_are_checked : TD := ⟨325, f__law_are_checked, top 45⟩
def b__law_is_told : List IS := [.asg (.name 4) (.call 20 [(.var 0), (.lit (.int 40))]),
    .ite (.un .Not (.call 22 [(.call 317 [(.var 1), (.var 4)]), (.bi .tuple [(.lc [8] (.name 8) true [(.var 4)] [] (.call 322 [(.var 1), (.var 8)]))])])) [.ret (.lit (.bl false))] [],
    .asg (.name 5) (.call 319 [(.var 1), (.var 2)]),
    .asg (.tup [(.name 6), (.name 7)]) (.call 323 [(.var 1), (.var 2)]),
    .ite (.un .Not (.call 22 [(.var 5), (.call 295 [(.var 6), (.var 7), (.lit (.int 0))])])) [.ret (.lit (.bl false))] [],
    .for_ (.name 8) false [(.lst [(.var 4), (.bi .abs [(.var 3)]), (.call 20 [(.var 0), (.lit (.int 100000))])])] [.asg (.name 9) (.ix (.var 2) (.call 322 [(.var 1), (.var 8)])),
    .ite (.bop .Or [(.cmp .NotEq (.call 255 [(.var 5), (.var 8)]) (.var 9)), (.un .Not (.call 22 [(.call 108 [(.var 5), (.var 8)]), (.var 9)]))]) [.ret (.lit (.bl false))] []],
    .ret (.bop .And [(.call 22 [(.call 319 [(.var 1), (.var 2)]), (.var 5)]), (.call 22 [(.call 317 [(.var 1), (.lit (.int 1))]), (.tup [(.lit (.int 0))])])])]
def f__law_is_told : FD := ⟨"_law_is_told", ["draws", "rows", "outs", "cell"], ["draws", "rows", "outs", "cell", "many", "told", "table", "values", "n", "due"], b__law_is_told⟩
def t__law_is_told : TD := ⟨326, f__law_is_told, top 46⟩
def b__law_is_back : List IS := [.asg (.name 2) (.call 295 [(.ix (.var 1) (.lit (.int 0))), (.ix (.var 1) (.lit (.int 1))), (.lit (.int 0))]),
    .asg (.name 3) (.call 320 [(.var 1)]),
    .ite (.un .Not (.call 22 [(.var 3), (.call 323 [(.ix (.var 2) (.lit (.int 0))), (.ix (.var 2) (.lit (.int 1)))])])) [.ret (.lit (.bl false))] [],
    .asg (.tup [(.name 4), (.name 5)]) (.var 3),
    .ite (.bop .Or [(.cmp .IsNot (.call 316 [(.var 4), (.var 5)]) (.lit .non)), (.un .Not (.call 22 [(.call 319 [(.var 4), (.var 5)]), (.var 2)]))]) [.ret (.lit (.bl false))] [],
    .asg (.name 6) (.call 20 [(.var 0), (.lit (.int 30))]),
    .ret (.call 22 [(.bi .tuple [(.lc [7] (.name 7) false [(.call 317 [(.var 4), (.var 6)])] [] (.ix (.var 5) (.var 7)))]), (.call 273 [(.var 1), (.var 6)])])]
def f__law_is_back : FD := ⟨"_law_is_back", ["draws", "sequence"], ["draws", "sequence", "due", "told", "rows", "outs", "many", "letter"], b__law_is_back⟩
def t__law_is_back : TD := ⟨327, f__law_is_back, top 47⟩
def b_law : List IS := [.asg (.name 1) (.call 19 [(.var 0), (.lit (.int 110))]),
    .asg (.name 2) (.call 21 [(.var 0)]),
    .asg (.tup [(.name 3), (.name 4)]) (.call 321 [(.var 1)]),
    .ite (.un .Not (.call 325 [(.var 1), (.var 3), (.var 4), (.var 2)])) [.ret (.lit (.bl false))] [],
    .for_ (.name 5) true [(.lit (.int 2))] [.ite (.bop .Or [(.un .Not (.call 326 [(.var 1), (.var 3), (.var 4), (.var 2)])), (.un .Not (.call 327 [(.var 1), (.call 308 [(.var 1), (.bin .Add (.lit (.int 1)) (.call 20 [(.var 1), (.lit (.int 4))]))])]))]) [.ret (.lit (.bl false))] [],
    .asg (.tup [(.name 3), (.name 4)]) (.call 321 [(.var 1)])],
    .asg (.name 6) (.tup [(.tup [(.tup [(.lit (.int 0)), (.lit (.int 1))]), (.tup [(.lit (.int 2)), (.lit (.int 1))]), (.tup [(.lit (.int 0)), (.lit (.int 3))]), (.tup [(.lit (.int 2)), (.lit (.int 3))])]), (.tup [(.lit (.int 0)), (.lit (.int 0)), (.lit (.int 1)), (.lit (.int 1))])]),
    .ite (.bop .Or [(.un .Not (.call 22 [(.call 317 [(.ix (.var 6) (.lit (.int 0))), (.lit (.int 8))]), (.tup [(.lit (.int 0)), (.lit (.int 1)), (.lit (.int 2)), (.lit (.int 1)), (.lit (.int 0)), (.lit (.int 3)), (.lit (.int 2)), (.lit (.int 1))])])), (.un .Not (.call 22 [(.call 273 [(.call 319 [(.ix (.var 6) (.lit (.int 0))), (.ix (.var 6) (.lit (.int 1)))]), (.lit (.int 6))]), (.tup [(.lit (.int 0)), (.lit (.int 0)), (.lit (.int 1)), (.lit (.int 0)), (.lit (.int 0)), (.lit (.int 1))])]))]) [.ret (.lit (.bl false))] [],
    .ite (.un .Not (.call 22 [(.call 320 [(.tup [(.tup [(.tup [(.lit (.int 0)), (.lit (.int 1))]), (.tup [(.lit (.int 1)), (.lit (.int 0))])]), (.tup [(.lit (.int 0)), (.lit (.int 1))])])]), (.tup [(.tup [(.tup [(.lit (.int 0)), (.lit (.int 1))]), (.tup [(.lit (.int 1)), (.lit (.int 0))])]), (.tup [(.lit (.int 0)), (.lit (.int 1))])])])) [.ret (.lit (.bl false))] [],
    .asg (.name 7) (.tup [(.tup [(.tup [(.lit (.int 0)), (.lit (.int 1))]), (.tup [(.lit (.int 1)), (.lit (.int 2))]), (.tup [(.lit (.int 2)), (.lit (.int 2))])]), (.tup [(.lit (.int 0)), (.lit (.int 1)), (.lit (.int 0))])]),
    .ite (.un .Not (.call 22 [(.call 320 [(.var 7)]), (.tup [(.tup [(.tup [(.lit (.int 0)), (.lit (.int 1))]), (.tup [(.lit (.int 1)), (.lit (.int 2))]), (.tup [(.lit (.int 2)), (.lit (.int 2))])]), (.tup [(.lit (.int 0)), (.lit (.int 1)), (.lit (.int 0))])])])) [.ret (.lit (.bl false))] [],
    .ret (.bop .And [(.cmp .Is (.call 316 [(.tup [(.tup [(.lit (.int 0)), (.lit (.int 0))])]), (.tup [(.lit (.int 5))])]) (.lit .non)), (.call 324 [(.tup [(.tup [(.lit (.int 1)), (.lit (.int 0))]), (.tup [(.lit (.int 0)), (.lit (.int 0))])]), (.tup [(.lit (.int 1)), (.lit (.int 2))])]), (.call 324 [(.tup [(.tup [(.lit (.int 0)), (.lit (.int 1))])]), (.tup [(.lit (.int 3))])])])]
def f_law : FD := ⟨"law", ["script"], ["script", "draws", "cell", "rows", "outs", "turn", "folds", "powers"], b_law⟩
def t_law : TD := ⟨36, f_law, top 48⟩
def c_q_check_substitution : IE := (.un .Not (.call 315 [(.var 0), (.var 1)]))
def f_q_check_substitution : FD := ⟨"", ["rows", "outs"], ["rows", "outs"], [.ite c_q_check_substitution [.ret (.lit (.bl true))] [.ret (.lit (.bl false))]]⟩
def t_q_check_substitution : TD := ⟨927, f_q_check_substitution, top 26⟩
def gcdB : Bool := false
def ts0 : List TD := [t_digits_of, t_order_of_states, t_numbers_by, t_machine_in_order, t_classes_by, t_parted_classes, t_state_classes, t_with_states_joined, t_least_machine, t_state_of_number, t_sequence_at, t_sequence_row, t_least_sequence, t_is_pair_of_letters, t_is_substitution, t_check_substitution, t_substituted_row, t_outs_and_rows, t_sequence_of_substitution, t_substitution_of, t__law_draws, t__law_take, t__law_cell, t__law_same, t__law_long, t__law_digits, t__law_out, t__law_least, t__law_sequence, t__law_substitution]
def ts1 : List TD := [t__law_letter_at, t__law_tuples, t__law_is_refused, t__law_are_checked, t__law_is_told, t__law_is_back, t_law, t_q_check_substitution]
def ts : List TD := ts0 ++ ts1
end Code

/-! general things over a law's code: rows by place, the same, draws -/
namespace Code
open PySem Ab
abbrev G := glT gls
variable {k : Nat} {A B : O} {X : List O} {ds : List Nat} {S : Store} {gl : Str → Option D}
theorem abs_dn (n : Int) : (if n < 0 then -n else n) = ((n.natAbs : Nat) : Int) := by
  split <;> omega
@[simp] theorem eq_int {i j : Int} : dEq S (.int i) (.int j) = some (decide (i = j)) := by
  have h : ∀ i : Int, SeqAt.shaped (.int i) = true := fun i => by
    simp only [SeqAt.shaped, Bool.and_eq_true, decide_eq_true_eq]
    exact ⟨rfl, by simp [PyData.depth]⟩
  simp only [dEq, deref, D.py, h, Bool.and_self, if_true, PyData.eqv]
  congr 1
@[simp] theorem dInt_add {i j : Int} : dInt .Add i j = some (i + j) := nd rfl
@[simp] theorem dInt_sub {i j : Int} : dInt .Sub i j = some (i - j) := nd rfl
@[simp] theorem dInt_m1 {i : Int} : dInt .Mult i 1 = some i := by simp [dInt, mulOk]
@[simp] theorem dInt_1m {i : Int} : dInt .Mult 1 i = some i := by simp [dInt, mulOk]
theorem floor_int {n g : Int} (h0 : 0 < g) (hg : g.natAbs.log2 < 9000) : dInt .FloorDiv n g = some (n / g) := by
  simp only [dInt, divOk, decide_eq_true_eq, hg, h0, if_true]
theorem log2_lt {g b : Nat} (h : g < 2 ^ b) (hg : g ≠ 0) : g.log2 < b := (Nat.log2_lt hg).mpr h
def tupF (n : Nat) (F : Nat → D) : D := .tup ((List.range n).map F)
def lstF (n : Nat) (F : Nat → D) : D := .lst ((List.range n).map F)
theorem tupF_congr {n : Nat} {F G : Nat → D} (h : ∀ i, i < n → F i = G i) : tupF n F = tupF n G := by
  unfold tupF
  congr 1
  exact List.map_congr_left fun i hi => h i (List.mem_range.mp hi)
theorem lstF_congr {n : Nat} {F G : Nat → D} (h : ∀ i, i < n → F i = G i) : lstF n F = lstF n G := by
  unfold lstF
  congr 1
  exact List.map_congr_left fun i hi => h i (List.mem_range.mp hi)
theorem atN {n : Nat} {F : Nat → D} {i : Nat} (h : i < n) : at_ ((List.range n).map F) (i : Int) = some (F i) := by
  unfold at_ L2.atI L2.ixN
  rw [if_pos (by omega), if_pos (by simpa using h)]
  simp [h]
theorem ix_tupF {n : Nat} {F : Nat → D} {i : Nat} (h : i < n) : dIx S (tupF n F) (.int (i : Int)) = some (F i) := atN h
theorem ix_lstF {n : Nat} {F : Nat → D} {i : Nat} (h : i < n) : dIx S (lstF n F) (.int (i : Int)) = some (F i) := atN h
@[simp] theorem len_tupF {n : Nat} {F : Nat → D} : dBi S .len [tupF n F] = some (.int n) := by simp [dBi, tupF, items]
@[simp] theorem len_lstF {n : Nat} {F : Nat → D} : dBi S .len [lstF n F] = some (.int n) := by simp [dBi, lstF, items]
@[simp] theorem tup_lstF {n : Nat} {F : Nat → D} : dBi S .tuple [.lst ((List.range n).map F)] = some (tupF n F) := by simp [dBi, tupF, items]
@[simp] theorem tup_lstF' {n : Nat} {F : Nat → D} : dBi S .tuple [lstF n F] = some (tupF n F) := by simp [dBi, lstF, tupF, items]
@[simp] theorem bi_int {i : Int} : dBi S .int [.int i] = some (.int i) := nd rfl
theorem bi_abs {i : Int} : dBi S .abs [.int i] = some (.int ((i.natAbs : Nat) : Int)) := by rw [← abs_dn]; rfl
def natsD (n : Nat) : List D := (List.range n).map fun (i : Nat) => D.int (i : Int)
theorem walk_rg {n : Nat} (h : n ≤ sizeLine) : walk true [.int (n : Int)] S = some (natsD n) := by
  show rangeD 0 n = _
  unfold rangeD
  rw [if_pos (by unfold sizeLine at h; omega)]
  simp [natsD]
@[simp] theorem walk_tupF {n : Nat} {F : Nat → D} : walk false [tupF n F] S = some ((List.range n).map F) := nd rfl
@[simp] theorem stays_rg {ds xs : List D} : stays true ds xs = fun _ => true := nd (by
  funext S
  rfl)
@[simp] theorem stays_tup {ds xs : List D} : stays false [.tup ds] xs = fun _ => true := nd (by
  funext S
  rfl)
@[simp] theorem stays_lst {ds xs : List D} : stays false [.lst ds] xs = fun _ => true := nd (by
  funext S
  rfl)
@[simp] theorem stays_tupF {n : Nat} {F : Nat → D} {xs : List D} : stays false [tupF n F] xs = fun _ => true := stays_tup
theorem lc_fn {f : D → Store → Option (Option D × Store)} {n : Nat} {F G : Nat → D} (hn : n ≤ sizeLine) (h : ∀ i, i < n → f (F i) S = some (some (G i), S)) : evLc (fun _ => true) f ((List.range n).map F) [] S = some ((List.range n).map G, S) := by
  refine evLc_map (ys := (List.range n).map G) rfl (by simp) (by simpa using hn) fun i hi hj => ?_
  simpa using h i (by simpa using hi)
theorem lc_nats {f : D → Store → Option (Option D × Store)} {n : Nat} {G : Nat → D} (hn : n ≤ sizeLine) (h : ∀ i : Nat, i < n → f (.int (i : Int)) S = some (some (G i), S)) : evLc (fun _ => true) f (natsD n) [] S = some ((List.range n).map G, S) := lc_fn hn h
theorem for_nats {body : D → AEnv → Store → RS} (I : Nat → AEnv → Prop) {n : Nat} {ρ : AEnv} (h0 : I 0 ρ) (h : ∀ (i : Nat) ρ, i < n → I i ρ → ∃ ρ', body (.int (i : Int)) ρ S = some (.next, ρ', S) ∧ I (i + 1) ρ') : ∃ ρ', evFor (fun _ => true) body (natsD n) ρ S = some (.next, ρ', S) ∧ I n ρ' := by
  obtain ⟨ρ', S', h1, h2, h3⟩ := evFor_inv (chk := fun _ => true) (body := body) (fun n ρ S' => S' = S ∧ I n ρ) (ds := natsD n) (n := 0) (ρ := ρ) (S := S) (fun _ _ _ _ => rfl) ⟨rfl, h0⟩ (fun i hi ρ S' hI => by
    obtain ⟨rfl, hI⟩ := hI
    obtain ⟨ρ', e1, e2⟩ := h i ρ (by simpa [natsD] using hi) (by simpa using hI)
    exact ⟨ρ', _, by simpa [natsD] using e1, rfl, by simpa using e2⟩)
  subst h2
  exact ⟨ρ', h1, by simpa [natsD] using h3⟩
inductive plainD : Nat → D → Prop
  | non {n : Nat} : plainD n .non
  | bl {n : Nat} (b : Bool) : plainD n (.bl b)
  | int {n : Nat} (b : Int) : plainD n (.int b)
  | tup {n m : Nat} {F : Nat → D} : m ≤ sizeLine → (∀ i, i < m → plainD n (F i)) → plainD (n + 1) (tupF m F)
theorem T22 : tab ts 22 = some f__law_same := rfl
@[simp] theorem eq_bl {i j : Bool} : dEq S (.bl i) (.bl j) = some (i == j) := by
  have h : ∀ i : Bool, SeqAt.shaped (.bool i) = true := fun i => by
    simp only [SeqAt.shaped, Bool.and_eq_true, decide_eq_true_eq]
    exact ⟨rfl, by simp [PyData.depth]⟩
  simp only [dEq, deref, D.py, h, Bool.and_self, if_true, PyData.eqv]
@[simp] theorem isNon_tupF {n : Nat} {F : Nat → D} : (tupF n F).isNon = false := nd rfl
@[simp] theorem isNon_int {i : Int} : (D.int i).isNon = false := nd rfl
@[simp] theorem isNon_non : (D.non).isNon = true := nd rfl
@[simp] theorem isNon_bl {b : Bool} : (D.bl b).isNon = false := nd rfl
@[simp] theorem isi_tupF {t : Ty} {n : Nat} {F : Nat → D} : dIsi S t (tupF n F) = some (match t with | .tuple => true | _ => false) := nd rfl
@[simp] theorem cmp_eq {a b : D} : dCmp S .Eq a b = dEq S a b := nd rfl
@[simp] theorem cmp_ne {a b : D} : dCmp S .NotEq a b = (dEq S a b).map (!·) := nd rfl
@[simp] theorem cmp_is {a : D} : dCmp S .Is a .non = some a.isNon := nd rfl
@[simp] theorem cmp_lt {i j : Int} : dCmp S .Lt (.int i) (.int j) = some (decide (i < j)) := nd rfl
@[simp] theorem cmp_gt {i j : Int} : dCmp S .Gt (.int i) (.int j) = some (decide (j < i)) := nd rfl
@[simp] theorem cmp_ge {i j : Int} : dCmp S .GtE (.int i) (.int j) = some (decide (j ≤ i)) := nd rfl
@[simp] theorem un_not {b : Bool} : dUn .Not (.bl b) = some (.bl (!b)) := nd rfl
@[simp] theorem un_neg {b : Int} : dUn .USub (.int b) = some (.int (-b)) := nd rfl
@[simp] theorem bin_int {op : Operator} {i j : Int} : dBin S op (.int i) (.int j) = (dInt op i j).map .int := nd rfl
theorem rep_lst {d : D} {m : Nat} (h : m ≤ sizeLine) : dBin S .Mult (.lst [d]) (.int (m : Int)) = some (lstF m fun _ => d) := by
  have h2 : m < 2 ^ 63 := by
    unfold sizeLine at h
    omega
  simp [dBin, dList, Ab.listOf, lstF, h, h2, List.map_const']
theorem rep_tup {d : D} {m : Nat} (h : m ≤ 1000) : dBin S .Mult (.tup [d]) (.int (m : Int)) = some (tupF m fun _ => d) := by
  simp [dBin, tupF, h, List.map_const']
theorem c_same {n k : Nat} {d : D} (h : plainD n d) : call (tab ts) gl (k + n + 1) 22 [d, d] S = some (.bl true, S) := by
  induction h with
  | @non n =>
    rw [call_of T22 rfl]
    simp only [f__law_same, b__law_same, startA]
    simp [dIsi]
  | @bl n b =>
    rw [call_of T22 rfl]
    simp only [f__law_same, b__law_same, startA]
    simp [dIsi, isAnd]
  | @int n b =>
    rw [call_of T22 rfl]
    simp only [f__law_same, b__law_same, startA]
    simp [dIsi, isAnd]
  | @tup n m F hm h ih =>
      rw [call_of T22 rfl]
      simp only [f__law_same, b__law_same, startA]
      obtain ⟨ρ', h1, h2⟩ := for_nats (S := S) (body := forF (call (tab ts) gl (k + (n + 1))) gl (.name 2) [.ite (.un .Not (.call 22 [(.ix (.var 0) (.var 2)), (.ix (.var 1) (.var 2))])) [.ret (.lit (.bl false))] []]) (fun _ ρ => ∃ x, ρ = [some (tupF m F), some (tupF m F), x]) (n := m) (ρ := [some (tupF m F), some (tupF m F), none]) ⟨_, rfl⟩ (fun i ρ hi ⟨x, hx⟩ => by
        subst hx
        refine ⟨[some (tupF m F), some (tupF m F), some (.int (i : Int))], ?_, _, rfl⟩
        have ih' : call (tab ts) gl (k + (n + 1)) 22 [F i, F i] S = some (.bl true, S) := ih i hi
        simp [forF, Tg.bind, ix_tupF hi, ih'])
      obtain ⟨x, rfl⟩ := h2
      simp [walk_rg hm, isAnd, h1]
def nD (ds : List Nat) : List D := ds.map fun (n : Nat) => D.int (n : Int)
def st (A B : O) (ds : List Nat) (X : List O) : Store := A :: B :: .lst (nD ds) :: X
theorem trunc_eq {n : Nat} {d : D} {S' : Store} (h : S'.length = n) : trunc n d S' = (d, S') := by
  subst h
  exact trunc_len
@[simp] theorem st_len : (st A B ds X).length = X.length + 3 := rfl
@[simp] theorem trunc_st {d : D} : trunc (X.length + 3) d (st A B ds X) = (d, st A B ds X) := trunc_eq rfl
theorem T19 : tab ts 19 = some f__law_draws := rfl
theorem T20 : tab ts 20 = some f__law_take := rfl
theorem T21 : tab ts 21 = some f__law_cell := rfl
@[simp] theorem len_st : dBi (st A B ds X) .len [.ref 2] = some (.int (ds.length : Int)) := by
  simp [dBi, items, st, nD]
theorem pop_st {d : Nat} : dMe .pop (.ref 2) [] (st A B (ds ++ [d]) X) = some (.int (d : Int), st A B ds X) := by
  simp [dMe, dMe0, st, nD]
@[simp] theorem recv_st : recvOk .pop (.ref 2) (st A B ds X) = true := rfl
@[simp] theorem dInt_mod {i : Int} {m : Nat} (h : 0 < m) : dInt .Mod i (m : Int) = some (i % (m : Int)) := by
  simp [dInt, h]
theorem c_take {m : Nat} (h : 0 < m) : ∃ (v : Nat) (ds' : List Nat), v < m ∧ call (tab ts) G (k + 1) 20 [.ref 2, .int (m : Int)] (st A B ds X) = some (.int (v : Int), st A B ds' X) := by
  rw [call_of T20 rfl]
  simp only [f__law_take, b__law_take, startA]
  rcases List.eq_nil_or_concat ds with rfl | ⟨ds', d, rfl⟩
  · exact ⟨0, [], h, by simp⟩
  · refine ⟨d % m, ds', Nat.mod_lt _ h, ?_⟩
    have h2 : ¬ ((ds'.length : Int) + 1 = 0) := by omega
    simp [h2, pop_st, dInt_mod h]
theorem nat_bits {n b : Nat} (h : n < 2 ^ b) {i : Int} (hi : i.natAbs ≤ n) : i.natAbs < 2 ^ b := Nat.lt_of_le_of_lt hi h
theorem evLc_st {T : Type} {mk : T → D} {good : T → Prop} {f : D → Store → Option (Option D × Store)} : ∀ {is : List Nat} {acc : List D} {ds : List Nat}, acc.length + is.length ≤ sizeLine →
    (∀ i ∈ is, ∀ ds, ∃ (t : T) (ds' : List Nat), good t ∧ f (.int (i : Int)) (st A B ds X) = some (some (mk t), st A B ds' X)) →
    ∃ (ts : List T) (ds' : List Nat), ts.length = is.length ∧ (∀ t ∈ ts, good t) ∧ evLc (fun _ => true) f (is.map fun (i : Nat) => D.int (i : Int)) acc (st A B ds X) = some (acc ++ ts.map mk, st A B ds' X)
  | [], acc, ds, _, _ => ⟨[], ds, rfl, by simp, by simp [evLc]⟩
  | i :: is, acc, ds, hz, h => by
    obtain ⟨t, d1, g1, e1⟩ := h i (by simp) ds
    simp only [List.length_cons] at hz
    obtain ⟨ts, d2, hl, g2, e2⟩ := evLc_st (is := is) (acc := acc ++ [mk t]) (ds := d1) (by rw [List.length_append]; simp only [List.length_cons, List.length_nil]; omega) fun j hj => h j (by simp [hj])
    refine ⟨t :: ts, d2, by simp [hl], fun t' ht' => ?_, ?_⟩
    · rcases List.mem_cons.mp ht' with rfl | h'
      · exact g1
      · exact g2 _ h'
    · rw [List.map_cons, evLc, if_pos rfl, e1]
      simp only
      rw [if_pos (by omega), e2, List.append_assoc]
      rfl
theorem lc_st {T : Type} [Inhabited T] {mk : T → D} {good : T → Prop} {f : D → Store → Option (Option D × Store)} {n : Nat} (hn : n ≤ sizeLine)
    (h : ∀ i, i < n → ∀ ds, ∃ (t : T) (ds' : List Nat), good t ∧ f (.int (i : Int)) (st A B ds X) = some (some (mk t), st A B ds' X)) :
    ∃ (F : Nat → T) (ds' : List Nat), (∀ i, i < n → good (F i)) ∧ evLc (fun _ => true) f (natsD n) [] (st A B ds X) = some ((List.range n).map (fun i => mk (F i)), st A B ds' X) := by
  obtain ⟨ts, ds', hl, hg, e⟩ := evLc_st (A := A) (B := B) (X := X) (f := f) (is := List.range n) (acc := []) (ds := ds) (mk := mk) (good := good) (by simpa using hn) fun i hi => h i (List.mem_range.mp hi)
  rw [List.length_range] at hl
  refine ⟨fun i => (ts[i]?).getD default, ds', fun i hi => ?_, ?_⟩
  · show good ((ts[i]?).getD default)
    rw [List.getElem?_eq_getElem (show i < ts.length by omega)]
    exact hg _ (List.getElem_mem _)
  · have : (List.range n).map (fun i => mk ((ts[i]?).getD default)) = ts.map mk := by
      apply List.ext_getElem
      · simp [hl]
      · intro i h1 h2
        have h3 : i < ts.length := by simpa using h2
        simp [List.getElem?_eq_getElem h3]
    rw [this]
    exact e
theorem s_bl {S : Store} {b : Bool} : call (tab ts) G (k + 1) 22 [.bl b, .bl b] S = some (.bl true, S) := c_same (n := 0) (k := k) (.bl b)
theorem s_non {S : Store} : call (tab ts) G (k + 1) 22 [.non, .non] S = some (.bl true, S) := c_same (n := 0) (k := k) .non
def iD (l : List Int) : List D := l.map .int
theorem undr_iD {n : Nat} : ∀ {l : List Int}, O.undr n (.lst (iD l)) = true
  | [] => by simp [iD, O.undr, D.undrs]
  | d :: l => by
    have := undr_iD (n := n) (l := l)
    unfold iD O.undr at this
    simp [iD, O.undr, D.undrs, D.undr, this]
theorem at_iD {l : List Int} {j : Nat} (h : j < l.length) : at_ (iD l) (j : Int) = some (.int l[j]) := by
  unfold at_ L2.atI L2.ixN
  rw [if_pos (by omega), if_pos (by simpa [iD] using h)]
  simp [iD, h]
theorem mul_small {i j : Int} (h : j.natAbs < 2 ^ 64) : dInt .Mult i j = some (i * j) := by
  have : mulOk i j = true := by
    unfold mulOk
    rw [Bool.or_eq_true, Bool.or_eq_true]
    exact .inr (.inl (decide_eq_true h))
  simp only [dInt, this, if_true]
theorem mod_pos' {i m : Int} (h : 0 < m) : dInt .Mod i m = some (i % m) := by simp [dInt, h]
theorem pow18 : dInt .Pow 10 18 = some 1000000000000000000 := by decide +kernel
theorem pow59 : dInt .Pow 10 59 = some 100000000000000000000000000000000000000000000000000000000000 := by decide +kernel
def sd (cs rs : List Int) (ds : List Nat) : Store := [.lst (iD cs), .lst (iD rs), .lst (nD ds)]
theorem sd_app {cs rs : List Int} {n : Int} (h : 0 ≤ n) (hl : ds.length < sizeLine) : dMe .append (.ref 2) [.int n] (sd cs rs ds) = some (.non, sd cs rs (ds ++ [n.toNat])) := by
  have e : ((n.toNat : Nat) : Int) = n := by omega
  simp [dMe, dMe0, sd, nD, hl, e]
def bdyD : List IS := [.asg (.name 6) (.bin .Mod (.var 5) (.bi .len [(.var 2)])),
    .ite (.bop .And [(.cmp .GtE (.ix (.var 2) (.var 6)) (.bin .Pow (.lit (.int 10)) (.lit (.int 18)))), (.cmp .Gt (.ix (.var 3) (.var 6)) (.lit (.int 0)))]) [.ex (.meth .append (.var 4) [(.bin .Mod (.bi .int [(.ix (.var 3) (.var 6))]) (.lit (.int 1000)))]),
    .seti (.var 3) (.var 6) (.bin .FloorDiv (.ix (.var 3) (.var 6)) (.lit (.int 1000)))] [.asg (.name 7) (.bin .Mod (.bi .int [(.bin .Add (.bin .Add (.bin .Mult (.ix (.var 2) (.var 6)) (.lit (.int 48271))) (.bin .Mult (.var 5) (.lit (.int 69621)))) (.lit (.int 11)))]) (.lit (.int 2147483647))),
    .ex (.meth .append (.var 4) [(.bin .Mod (.bi .int [(.bin .Add (.bin .Add (.bin .Mult (.var 7) (.var 7)) (.bin .Mult (.lit (.int 3)) (.var 7))) (.var 5))]) (.lit (.int 1000003)))])]]
theorem draw_step {cs rs : List Int} {i : Nat} {x5 x6 x7 : Option D} {x0 x1 x8 : Option D} (h0 : 0 < cs.length) (hr : rs.length = cs.length) (hl : ds.length < sizeLine) :
    ∃ (rs' : List Int) (n : Nat) (y5 y6 y7 : Option D), rs'.length = cs.length ∧ forF (call (tab ts) G k) G (.name 5) bdyD (.int (i : Int)) [x0, x1, some (.ref 0), some (.ref 1), some (.ref 2), x5, x6, x7, x8] (sd cs rs ds) =
      some (.next, [x0, x1, some (.ref 0), some (.ref 1), some (.ref 2), y5, y6, y7, x8], sd cs rs' (ds ++ [n])) := by
  have hj : i % cs.length < cs.length := Nat.mod_lt _ h0
  have q1 : ((i : Int) % (cs.length : Int)) = ((i % cs.length : Nat) : Int) := by omega
  have l1 : dBi (sd cs rs ds) .len [.ref 0] = some (.int (cs.length : Int)) := by simp [dBi, items, sd, iD]
  have m1 : dInt .Mod (i : Int) (cs.length : Int) = some ((i % cs.length : Nat) : Int) := by rw [mod_pos' (by omega), q1]
  generalize i % cs.length = j at *
  have c1 : ∀ ds, dIx (sd cs rs ds) (.ref 0) (.int (j : Int)) = some (.int cs[j]) := fun ds => at_iD hj
  have hj2 : j < rs.length := by omega
  have c2 : ∀ ds, dIx (sd cs rs ds) (.ref 1) (.int (j : Int)) = some (.int rs[j]) := fun ds => at_iD hj2
  have rv : recvOk .append (.ref 2) (sd cs rs ds) = true := rfl
  by_cases h : 1000000000000000000 ≤ cs[j] ∧ 0 < rs[j]
  · have m2 : dInt .Mod rs[j] 1000 = some (rs[j] % 1000) := mod_pos' (by decide)
    have a1 := sd_app (cs := cs) (rs := rs) (ds := ds) (n := rs[j] % 1000) (by omega) hl
    have f1 : dInt .FloorDiv rs[j] 1000 = some (rs[j] / 1000) := floor_int (by decide) (by decide +kernel)
    have xn : L2.ixN (iD rs).length (j : Int) = some j := by
      unfold L2.ixN
      rw [if_pos (by omega), if_pos (by simpa [iD] using hj2)]
      simp
    refine ⟨rs.set j (rs[j] / 1000), (rs[j] % 1000).toNat, some (.int (i : Int)), some (.int (j : Int)), x7, by simp [hr], ?_⟩
    have g1 : (sd cs rs (ds ++ [(rs[j] % 1000).toNat]))[1]? = some (.lst (iD rs)) := rfl
    simp [forF, bdyD, Tg.bind, l1, m1, c1, c2, pow18, isAnd, h.1, h.2, m2, rv, a1, f1, g1, xn]
    simp [sd, iD]
  · obtain ⟨on, ho⟩ : ∃ on, on = (cs[j] * 48271 + (i : Int) * 69621 + 11) % 2147483647 := ⟨_, rfl⟩
    have on1 : 0 ≤ on := by omega
    have on2 : on < 2147483647 := by omega
    have m2 : dInt .Mod (cs[j] * 48271 + (i : Int) * 69621 + 11) 2147483647 = some on := by rw [ho]; exact mod_pos' (by decide)
    have p1 : dInt .Mult cs[j] 48271 = some (cs[j] * 48271) := mul_small (by decide)
    have p2 : dInt .Mult (i : Int) 69621 = some ((i : Int) * 69621) := mul_small (by decide)
    have p3 : dInt .Mult on on = some (on * on) := mul_small (by omega)
    have p4 : dInt .Mult 3 on = some (3 * on) := mul_small (by omega)
    have m3 : dInt .Mod (on * on + 3 * on + (i : Int)) 1000003 = some ((on * on + 3 * on + (i : Int)) % 1000003) := mod_pos' (by decide)
    have a1 := sd_app (cs := cs) (rs := rs) (ds := ds) (n := (on * on + 3 * on + (i : Int)) % 1000003) (Int.emod_nonneg _ (by decide)) hl
    refine ⟨rs, ((on * on + 3 * on + (i : Int)) % 1000003).toNat, some (.int (i : Int)), some (.int (j : Int)), some (.int on), hr, ?_⟩
    by_cases h1 : 1000000000000000000 ≤ cs[j]
    · have h2 : ¬ 0 < rs[j] := fun z => h ⟨h1, z⟩
      simp [forF, bdyD, Tg.bind, l1, m1, c1, c2, pow18, isAnd, h1, h2, m2, p1, p2, p3, p4, m3, rv, a1]
    · simp [forF, bdyD, Tg.bind, l1, m1, c1, c2, pow18, isAnd, h1, m2, p1, p2, p3, p4, m3, rv, a1]
theorem c_draws {ns : List Int} {m : Nat} (hn : ns.length ≤ 63) (hm : m < 1000) : ∃ A B ds, O.undr 3 A = true ∧ O.undr 3 B = true ∧ call (tab ts) G (k + 1) 19 [.scr ns, .int (m : Int)] [] = some (.ref 2, st A B ds []) := by
  rw [call_of T19 rfl]
  simp only [f__law_draws, b__law_draws, startA]
  obtain ⟨cs, hcs⟩ : ∃ cs : List Int, cs = if ns.length = 0 then [0] else ns := ⟨_, rfl⟩
  have h0 : 0 < cs.length := by
    rw [hcs]
    split
    · decide
    · omega
  have u1 : evLc (fun _ => true) (lcBk (call (tab ts) G k) G (.name 8) [] (.bi .int [.var 8]) [some (.scr ns), some (.int (m : Int)), none, none, none, none, none, none, none]) (ns.map .int) [] [] = some (iD ns, []) := by
    refine evLc_map (ys := ns.map .int) (S := []) rfl (by simp) (by unfold sizeLine; simp; omega) fun i hi hj => ?_
    simp [lcBk, Tg.bind]
  obtain ⟨ρ', S', h1, rs', ds', x5, x6, x7, hr, hl, rfl, rfl⟩ := evFor_inv (chk := fun _ => true) (body := forF (call (tab ts) G k) G (.name 5) bdyD)
    (fun i ρ S => ∃ rs ds x5 x6 x7, List.length rs = cs.length ∧ List.length ds = i ∧ ρ = [some (.scr ns), some (.int (m : Int)), some (.ref 0), some (.ref 1), some (.ref 2), x5, x6, x7, none] ∧ S = sd cs rs ds)
    (ds := natsD m) (n := 0) (ρ := [some (.scr ns), some (.int (m : Int)), some (.ref 0), some (.ref 1), some (.ref 2), none, none, none, none]) (S := sd cs cs []) (fun _ _ _ _ => rfl) ⟨cs, [], none, none, none, rfl, rfl, rfl, rfl⟩ (fun i hi ρ S ⟨rs, ds, x5, x6, x7, hr, hl, hρ, hS⟩ => by
      have hi : i < m := by simpa [natsD] using hi
      obtain ⟨rs', n, y5, y6, y7, h1, h2⟩ := draw_step (k := k) (ds := ds) (i := i) (x5 := x5) (x6 := x6) (x7 := x7) (x0 := some (.scr ns)) (x1 := some (.int (m : Int))) (x8 := none) h0 hr (by unfold sizeLine; omega)
      refine ⟨_, sd cs rs' (ds ++ [n]), ?_, rs', ds ++ [n], y5, y6, y7, h1, by simp; omega, rfl, rfl⟩
      rw [hρ, hS, show (natsD m)[i] = .int (i : Int) by simp [natsD]]
      exact h2)
  refine ⟨.lst (iD cs), .lst (iD rs'), ds'.reverse, undr_iD, undr_iD, ?_⟩
  unfold bdyD at h1
  have wk : ∀ S, walk true [.int (m : Int)] S = some (natsD m) := fun S => walk_rg (S := S) (n := m) (by unfold sizeLine; omega)
  have rv1 : ∀ l : List D, recvOk .append (.ref 0) [.lst l] = true := fun _ => rfl
  have rv2 : recvOk .reverse (.ref 2) (sd cs rs' ds') = true := rfl
  have rv3 : dMe .reverse (.ref 2) [] (sd cs rs' ds') = some (.non, st (.lst (iD cs)) (.lst (iD rs')) ds'.reverse []) := by
    simp [dMe, dMe0, sd, st, nD]
  have tr : ∀ S, trunc 0 (.ref 2) S = (.ref 2, S) := fun S => by
    simp [trunc, D.undr]
  have w0 : walk false [.scr ns] [] = some (ns.map .int) := rfl
  have st0 : stays false [.scr ns] (ns.map .int) = fun _ => true := by
    funext S
    rfl
  have ln : ∀ l : List Int, dBi [.lst (iD l)] .len [.ref 0] = some (.int (l.length : Int)) := fun l => by simp [dBi, items, iD]
  have it : ∀ l : List D, items [.lst l] (.ref 0) = some l := fun _ => rfl
  have fin : ∀ l : List D, l = iD cs → [O.lst l, .lst l, .lst []] = sd cs cs [] := fun l h => by rw [h]; rfl
  by_cases h : ns.length = 0
  · have e : cs = [0] := by rw [hcs, if_pos h]
    have ens : ns = [] := List.eq_nil_of_length_eq_zero h
    have ap : dMe .append (.ref 0) [.int 0] [.lst (iD [])] = some (.non, [.lst (iD [0])]) := by
      simp [dMe, dMe0, sizeLine, iD]
    rw [ens] at u1 h1 w0 st0 ⊢
    simp only [List.map_nil] at u1 w0 st0
    have f1 := fin (iD [0]) (by rw [e])
    simp [sizeLine, wipeA, Tg.bind, w0, st0, u1, ln, rv1, ap, it, f1, wk, h1, rv2, rv3, tr]
  · have e : cs = ns := by rw [hcs, if_neg h]
    have h' : ¬ ns = [] := fun z => h (by rw [z]; rfl)
    have f1 := fin (iD ns) (by rw [e])
    simp [sizeLine, wipeA, Tg.bind, w0, st0, u1, ln, rv1, it, h', f1, wk, h1, rv2, rv3, tr]
theorem c_cell {ns : List Int} : ∃ c : Int, c.natAbs < 10 ^ 59 ∧ call (tab ts) G (k + 1) 21 [.scr ns] S = some (.int c, S) := by
  rw [call_of T21 rfl]
  simp only [f__law_cell, b__law_cell, startA]
  have ln : dBi S .len [.scr ns] = some (.int (ns.length : Int)) := by simp [dBi, items]
  by_cases h : ns = []
  · have h' : ns.length = 0 := by rw [h]; rfl
    exact ⟨0, by decide, by simp [ln, h']⟩
  · have hl : 0 < ns.length := List.length_pos_iff.mpr h
    obtain ⟨j, hj⟩ : ∃ j : Nat, (((ns.length : Int) - 1) % 7) % (ns.length : Int) = (j : Int) := ⟨((((ns.length : Int) - 1) % 7) % (ns.length : Int)).toNat, by have := Int.emod_nonneg (((ns.length : Int) - 1) % 7) (show (ns.length : Int) ≠ 0 by omega); omega⟩
    have hj2 : j < ns.length := by
      have := Int.emod_lt_of_pos (((ns.length : Int) - 1) % 7) (show (0 : Int) < ns.length by omega)
      omega
    have m1 : dInt .Mod ((ns.length : Int) - 1) 7 = some (((ns.length : Int) - 1) % 7) := mod_pos' (by decide)
    have m2 : dInt .Mod (((ns.length : Int) - 1) % 7) (ns.length : Int) = some (j : Int) := by rw [mod_pos' (by omega), hj]
    have c1 : dIx S (.scr ns) (.int (j : Int)) = some (.int ns[j]) := at_iD hj2
    by_cases hc : ns[j] < 0
    · have m3 : dInt .Mod (-ns[j]) 100000000000000000000000000000000000000000000000000000000000 = some (-ns[j] % 100000000000000000000000000000000000000000000000000000000000) := mod_pos' (by decide)
      exact ⟨-(-ns[j] % 100000000000000000000000000000000000000000000000000000000000), by omega, by simp [Tg.bind, ln, h, m1, m2, c1, hc, pow59, m3]⟩
    · have m3 : dInt .Mod (ns[j]) 100000000000000000000000000000000000000000000000000000000000 = some (ns[j] % 100000000000000000000000000000000000000000000000000000000000) := mod_pos' (by decide)
      exact ⟨ns[j] % 100000000000000000000000000000000000000000000000000000000000, by omega, by simp [Tg.bind, ln, h, m1, m2, c1, hc, pow59, m3]⟩
end Code

/-! M77b: machines as data; digits -/
namespace Code
open PySem Ab
open Mo (nx ot run bits val ibits Wf)
variable {k : Nat} {S J : Store} {t : Mo.Tab} {o : List Int}
/-! ### stores that grow -/
def okS (S : Store) : Prop := S.all (O.undr S.length) = true
theorem trunc_j {d : D} (hd : D.undr S.length d = true) (hS : okS S) : trunc S.length d (S ++ J) = (d, S) := by
  unfold trunc
  rw [List.take_left]
  have h : S.all (O.undr S.length) = true := hS
  rw [hd, h]
  rfl
@[simp] theorem g1 {a : O} : (S ++ [a])[S.length]? = some a := by simp
@[simp] theorem g20 {a b : O} : (S ++ [a, b])[S.length]? = some a := by simp
@[simp] theorem g21 {a b : O} : (S ++ [a, b])[S.length + 1]? = some b := by
  rw [List.getElem?_append_right (by omega), Nat.add_sub_cancel_left]
  rfl
@[simp] theorem u1 {a b : O} : (S ++ [a]).set S.length b = S ++ [b] := by
  rw [List.set_append_right _ _ (Nat.le_refl _), Nat.sub_self]
  rfl
@[simp] theorem u20 {a b c : O} : (S ++ [a, b]).set S.length c = S ++ [c, b] := by
  rw [List.set_append_right _ _ (Nat.le_refl _), Nat.sub_self]
  rfl
@[simp] theorem u21 {a b c : O} : (S ++ [a, b]).set (S.length + 1) c = S ++ [a, c] := by
  rw [List.set_append_right _ _ (by omega), Nat.add_sub_cancel_left]
  rfl
@[simp] theorem items_ref {r : Nat} {xs : List D} (h : S[r]? = some (.lst xs)) : items S (.ref r) = some xs := by
  simp only [items, h]
theorem app_at {r : Nat} {xs : List D} {d : D} (h : S[r]? = some (.lst xs)) (hl : xs.length < sizeLine) : dMe .append (.ref r) [d] S = some (.non, S.set r (.lst (xs ++ [d]))) := by
  simp [dMe, dMe0, h, hl]
theorem recv_at {r : Nat} {xs : List D} {m : Me} (h : S[r]? = some (.lst xs)) : recvOk m (.ref r) S = true := by
  simp [recvOk, h]
/-! ### walks over a list, a state kept -/
theorem for_fold {α β : Type} (mk : α → D) {body : D → AEnv → Store → RS} (step : β → α → β) (I : β → AEnv → Store → Prop) : ∀ {xs : List α} {b : β} {ρ : AEnv} {S : Store}, I b ρ S →
    (∀ x ∈ xs, ∀ b ρ S, I b ρ S → ∃ ρ' S', body (mk x) ρ S = some (.next, ρ', S') ∧ I (step b x) ρ' S') → ∃ ρ' S', evFor (fun _ => true) body (xs.map mk) ρ S = some (.next, ρ', S') ∧ I (xs.foldl step b) ρ' S'
  | [], b, ρ, S, h, _ => ⟨ρ, S, by rw [List.map_nil, evFor, if_pos rfl], h⟩
  | x :: xs, b, ρ, S, h, hb => by
    obtain ⟨ρ1, S1, h1, h2⟩ := hb x (by simp) b ρ S h
    obtain ⟨ρ2, S2, h3, h4⟩ := for_fold mk step I (xs := xs) h2 fun y hy => hb y (by simp [hy])
    exact ⟨ρ2, S2, by rw [List.map_cons, evFor, if_pos rfl, h1]; exact h3, h4⟩
theorem lc_list {α : Type} {mk : α → D} {g : α → D} {f : D → Store → Option (Option D × Store)} {xs : List α} (hn : xs.length ≤ sizeLine) (h : ∀ x ∈ xs, f (mk x) S = some (some (g x), S)) : evLc (fun _ => true) f (xs.map mk) [] S = some (xs.map g, S) := by
  refine evLc_map (ys := xs.map g) rfl (by simp) (by simpa using hn) fun i hi hj => ?_
  simpa using h _ (List.getElem_mem (by simpa using hi))
/-! ### data -/
def rwD (p : Nat × Nat) : D := .tup [.int (p.1 : Int), .int (p.2 : Int)]
def tbD (t : Mo.Tab) : D := .tup (t.map rwD)
def otD (o : List Int) : D := .tup (iD o)
def sqD (t : Mo.Tab) (o : List Int) : D := .tup [tbD t, otD o]
def maD (t : Mo.Tab) (o : List Int) : D := .tup [.int 1, tbD t, otD o]
theorem at_map {α : Type} {g : α → D} {l : List α} {i : Nat} {x : α} (h : l[i]? = some x) : at_ (l.map g) (i : Int) = some (g x) := by
  have hi := (List.getElem?_eq_some_iff.mp h).1
  unfold at_ L2.atI L2.ixN
  rw [if_pos (by omega), if_pos (by simpa using hi)]
  simp [h]
@[simp] theorem ix_sq0 : dIx S (sqD t o) (.int 0) = some (tbD t) := nd rfl
@[simp] theorem ix_sq1 : dIx S (sqD t o) (.int 1) = some (otD o) := nd rfl
@[simp] theorem ix_ma1 : dIx S (maD t o) (.int 1) = some (tbD t) := nd rfl
@[simp] theorem ix_ma2 : dIx S (maD t o) (.int 2) = some (otD o) := nd rfl
theorem tb_get {s : Nat} (h : s < t.length) : t[s]? = some (nx t s 0, nx t s 1) := by
  rw [List.getElem?_eq_getElem h]
  simp [nx, h]
theorem ix_tb {s : Nat} (h : s < t.length) : dIx S (tbD t) (.int (s : Int)) = some (rwD (nx t s 0, nx t s 1)) := at_map (tb_get h)
theorem ix_rw {s d : Nat} (h : d ≤ 1) : dIx S (rwD (nx t s 0, nx t s 1)) (.int (d : Int)) = some (.int (nx t s d : Nat)) := by
  have : d = 0 ∨ d = 1 := by omega
  rcases this with rfl | rfl <;> rfl
@[simp] theorem ix_rw0 {p : Nat × Nat} : dIx S (rwD p) (.int 0) = some (.int p.1) := nd rfl
@[simp] theorem ix_rw1 {p : Nat × Nat} : dIx S (rwD p) (.int 1) = some (.int p.2) := nd rfl
theorem ix_ot {s : Nat} (h : s < o.length) : dIx S (otD o) (.int (s : Int)) = some (.int (ot o s)) := by
  have e : o[s]? = some (ot o s) := by
    rw [List.getElem?_eq_getElem h]
    simp [ot, h]
  exact at_map e
@[simp] theorem len_tb : dBi S .len [tbD t] = some (.int (t.length : Nat)) := by simp [dBi, tbD, items]
@[simp] theorem len_rw {p : Nat × Nat} : dBi S .len [rwD p] = some (.int 2) := nd rfl
@[simp] theorem walk_rw {p : Nat × Nat} : walk false [rwD p] S = some ([p.1, p.2].map fun n : Nat => D.int (n : Int)) := nd rfl
@[simp] theorem stays_rw {p : Nat × Nat} {xs : List D} : stays false [rwD p] xs = fun _ => true := stays_tup
@[simp] theorem undr_nD {n : Nat} : ∀ {l : List Nat}, D.undrs n (nD l) = true
  | [] => by simp [nD, D.undrs]
  | d :: l => by
    have := undr_nD (n := n) (l := l)
    unfold nD at this ⊢
    simp [D.undrs, D.undr, this]
theorem undr_iD' {n : Nat} : ∀ {l : List Int}, D.undrs n (iD l) = true
  | [] => by simp [iD, D.undrs]
  | d :: l => by
    have := undr_iD' (n := n) (l := l)
    unfold iD at this ⊢
    simp [D.undrs, D.undr, this]
theorem undr_tb {n : Nat} : ∀ {t : Mo.Tab}, D.undrs n (t.map rwD) = true
  | [] => by simp [D.undrs]
  | d :: l => by
    have := undr_tb (n := n) (t := l)
    simp [D.undrs, D.undr, rwD, this]
theorem undr_sq {n : Nat} : D.undr n (sqD t o) = true := by
  simp [sqD, D.undr, D.undrs, tbD, otD, undr_tb, undr_iD']
theorem undr_ma {n : Nat} : D.undr n (maD t o) = true := by
  simp [maD, D.undr, D.undrs, tbD, otD, undr_tb, undr_iD']
/-! ### digits -/
theorem T60 : tab ts 60 = some f_digits_of := rfl
theorem T107 : tab ts 107 = some f_state_of_number := rfl
theorem T108 : tab ts 108 = some f_sequence_at := rfl
theorem T254 : tab ts 254 = some f__law_long := rfl
theorem T294 : tab ts 294 = some f__law_digits := rfl
theorem T255 : tab ts 255 = some f__law_out := rfl
theorem mod2 {n : Nat} : dInt .Mod (n : Int) 2 = some ((n % 2 : Nat) : Int) := by
  rw [mod_pos' (by decide)]
  rfl
theorem div2 {n : Nat} : dInt .FloorDiv (n : Int) 2 = some ((n / 2 : Nat) : Int) := by
  rw [floor_int (by decide) (by decide +kernel)]
  rfl
theorem shr {n p : Nat} : dInt .RShift (n : Int) (p : Int) = some ((n / 2 ^ p : Nat) : Int) := by
  have h : (0 : Int) ≤ (p : Int) := by omega
  simp only [dInt, h, if_true, Int.toNat_natCast]
  rw [Int.natCast_ediv, Int.natCast_pow]
  rfl
theorem shr1 {n : Nat} : dInt .RShift (n : Int) 1 = some ((n / 2 : Nat) : Int) := shr (p := 1)
theorem wh_dig {cf : CallF} : ∀ (b n f : Nat) (acc : List Nat), n < 2 ^ b → b + 1 ≤ f → acc.length + b < sizeLine →
    evWh (evT cf G (.cmp .Gt (.var 0) (.lit (.int 0)))) (evSs cf G [.ex (.meth .append (.var 1) [(.bin .Mod (.var 0) (.lit (.int 2)))]), .asg (.name 0) (.bin .FloorDiv (.var 0) (.lit (.int 2)))]) f [some (.int (n : Int)), some (.ref S.length)] (S ++ [.lst (nD acc)])
      = some (.next, [some (.int 0), some (.ref S.length)], S ++ [.lst (nD (acc ++ bits n))])
  | _, _, 0, _, _, h, _ => by omega
  | 0, n, f + 1, acc, hn, _, _ => by
    have : n = 0 := by simpa using hn
    subst this
    rw [evWh, Mo.bits_zero]
    simp
  | b + 1, n, f + 1, acc, hn, hf, ha => by
    by_cases h0 : n = 0
    · subst h0
      rw [evWh, Mo.bits_zero]
      simp
    · have ih := wh_dig (cf := cf) b (n / 2) f (acc ++ [n % 2]) (by rw [Nat.pow_succ] at hn; omega) (by omega) (by rw [List.length_append]; simp only [List.length_cons, List.length_nil]; omega)
      have ap : dMe .append (.ref S.length) [.int ((n % 2 : Nat) : Int)] (S ++ [.lst (nD acc)]) = some (.non, S ++ [.lst (nD (acc ++ [n % 2]))]) := by
        rw [app_at g1 (by simp [nD]; omega), u1]
        simp [nD]
      have rv : recvOk .append (.ref S.length) (S ++ [.lst (nD acc)]) = true := recv_at g1
      have hp : (0 : Int) < (n : Int) := by omega
      rw [evWh]
      simp only [eT_cmp, e_var, e_lit, List.getElem?_cons_zero, cmp_gt, hp, decide_true, Option.map_some, ss_cons, s_ex, e_meth, List.getElem?_cons_succ, rv, if_true, es_cons, e_bin, bin_int, mod2, es_nil, ap, s_asg, div2, Tg.bind, List.length_cons, List.length_nil, ss_nil, List.set_cons_zero]
      rw [if_pos (by omega)]
      simp only [Option.map_some]
      rw [ih, Mo.bits_pos h0, List.append_assoc]
      rfl
theorem c_digits {n b : Nat} (hS : okS S) (hn : n < 2 ^ b) (hb : b ≤ 1000) : call (tab ts) G (k + 1) 60 [.int (n : Int)] S = some (.tup (nD (bits n)), S) := by
  have h := wh_dig (cf := call (tab ts) G k) (S := S) b n 1000000 [] hn (by omega) (by unfold sizeLine; simp; omega)
  have e : nD [] = [] := rfl
  rw [List.nil_append, e] at h
  have it : dBi (S ++ [.lst (nD (bits n))]) .tuple [.ref S.length] = some (.tup (nD (bits n))) := by simp [dBi]
  rw [call_of T60 rfl]
  simp only [f_digits_of, b_digits_of, startA]
  simp [sizeLine, h, it]
  exact trunc_j (by simp [D.undr]) hS
theorem wh_long {cf : CallF} : ∀ (b n f m : Nat), n < 2 ^ b → b + 1 ≤ f → evWh (evT cf G (.cmp .Gt (.var 0) (.lit (.int 0)))) (evSs cf G [.asg (.name 0) (.bin .RShift (.var 0) (.lit (.int 1))), .asg (.name 1) (.bin .Add (.var 1) (.lit (.int 1)))]) f [some (.int (n : Int)), some (.int (m : Int))] S
      = some (.next, [some (.int 0), some (.int ((m + (bits n).length : Nat) : Int))], S)
  | _, _, 0, _, _, h => by omega
  | 0, n, f + 1, m, hn, _ => by
    have : n = 0 := by simpa using hn
    subst this
    rw [evWh, Mo.bits_zero]
    simp
  | b + 1, n, f + 1, m, hn, hf => by
    by_cases h0 : n = 0
    · subst h0
      rw [evWh, Mo.bits_zero]
      simp
    · obtain ⟨h2, e2⟩ : ∃ x, x = n / 2 := ⟨_, rfl⟩
      obtain ⟨m1, e1⟩ : ∃ x, x = m + 1 := ⟨_, rfl⟩
      have ih := wh_long (cf := cf) b h2 f m1 (by rw [Nat.pow_succ] at hn; omega) (by omega)
      have hp : (0 : Int) < (n : Int) := by omega
      have e3 : dInt .RShift (n : Int) 1 = some (h2 : Int) := by rw [e2]; exact shr1
      have e4 : ((m : Int) + 1) = (m1 : Int) := by omega
      have e5 : m + (bits n).length = m1 + (bits h2).length := by
        rw [Mo.bits_pos h0, List.length_cons, ← e2]
        omega
      rw [evWh, e5]
      simp only [eT_cmp, e_var, e_lit, List.getElem?_cons_zero, cmp_gt, hp, decide_true, Option.map_some]
      simp [Tg.bind, e3, e4]
      simpa using ih
theorem c_long {n b : Nat} (hn : n < 2 ^ b) (hb : b ≤ 1000) : call (tab ts) G (k + 1) 254 [.int (n : Int)] S = some (.int ((bits n).length : Nat), S) := by
  have h := wh_long (cf := call (tab ts) G k) (S := S) b n 1000000 0 hn (by omega)
  rw [Nat.zero_add] at h
  rw [call_of T254 rfl]
  simp only [f__law_long, b__law_long, startA]
  have e : ((0 : Nat) : Int) = 0 := rfl
  rw [e] at h
  simp [Tg.bind, h]
theorem c_ldigits {n b : Nat} (hn : n < 2 ^ b) (hb : b ≤ 1000) : call (tab ts) G (k + 2) 294 [.int (n : Int)] S = some (.lst (nD (bits n)), S) := by
  have hl := Mo.bits_len b n hn
  rw [call_of T294 rfl]
  simp only [f__law_digits, b__law_digits, startA]
  have e : evLc (fun _ => true) (lcBk (call (tab ts) G (k + 1)) G (.name 1) [] (.bin .Mod (.bi .int [(.bin .RShift (.var 0) (.var 1))]) (.lit (.int 2))) [some (.int (n : Int)), none]) (natsD (bits n).length) [] S = some ((List.range (bits n).length).map (fun p => D.int ((n / 2 ^ p % 2 : Nat) : Int)), S) :=
    lc_nats (by unfold sizeLine; omega) fun i hi => by
      have e := mod2 (n := n / 2 ^ i)
      simp at e
      simp [lcBk, Tg.bind, shr, e]
  have e2 : (List.range (bits n).length).map (fun p => D.int ((n / 2 ^ p % 2 : Nat) : Int)) = nD (bits n) := by
    apply List.ext_getElem?
    intro i
    by_cases hi : i < (bits n).length
    · rw [List.getElem?_map, List.getElem?_range hi, nD, List.getElem?_map, Mo.bits_get i n hi]
      rfl
    · rw [List.getElem?_eq_none (by simpa using hi), List.getElem?_eq_none (by simpa [nD] using hi)]
  rw [e2] at e
  simp [wipeA, c_long hn hb, walk_rg (S := S) (n := (bits n).length) (by unfold sizeLine; omega), e]
end Code

/-! M77c: numbers, outs, states along words -/
namespace Code
open PySem Ab
open Mo (nx ot run bits val ibits Wf)
variable {k : Nat} {S J : Store} {t : Mo.Tab} {o : List Int}
theorem val_rev : ∀ w : List Nat, w.reverse.foldl (fun a d => 2 * a + d) 0 = val w
  | [] => rfl
  | b :: w => by
    rw [List.reverse_cons, List.foldl_append, val_rev w]
    show 2 * val w + b = b + 2 * val w
    omega
theorem nD_rev {w : List Nat} : (nD w).reverse = w.reverse.map fun n : Nat => D.int (n : Int) := by simp [nD]
theorem mul2 {i : Int} : dInt .Mult 2 i = some (2 * i) := by
  have : mulOk 2 i = true := by
    unfold mulOk
    rw [Bool.or_eq_true]
    exact .inl (by decide)
  simp only [dInt, this, if_true]
/-! ### along digits -/
theorem ix3 {cf : CallF} {s d : Nat} (hs : s < t.length) (hd : d ≤ 1) {ρ : AEnv} {i j : Nat} (h0 : ρ[0]? = some (some (sqD t o))) (hi : ρ[i]? = some (some (.int (s : Int)))) (hj : ρ[j]? = some (some (.int (d : Int)))) :
    ev cf G (.ix (.ix (.ix (.var 0) (.lit (.int 0))) (.var i)) (.var j)) ρ S = some (.int (nx t s d : Nat), S) := by
  simp [h0, hi, hj, ix_tb hs, ix_rw hd]
theorem loop23 {cf : CallF} (W : Wf t o) {w : List Nat} (hw : ∀ d ∈ w, d ≤ 1) {x0 x1 : Option D} (hx : x0 = some (sqD t o)) :
    ∃ x3, evFor (fun _ => true) (forF cf G (.name 3) [.asg (.name 2) (.ix (.ix (.ix (.var 0) (.lit (.int 0))) (.var 2)) (.var 3))]) (w.map fun n : Nat => D.int (n : Int)) [x0, x1, some (.int 0), none] S = some (.next, [x0, x1, some (.int (run t 0 w : Nat)), x3], S) := by
  subst hx
  obtain ⟨ρ', S', h1, h2, _, x, h3⟩ := for_fold (fun n : Nat => D.int (n : Int)) (body := forF cf G (.name 3) [.asg (.name 2) (.ix (.ix (.ix (.var 0) (.lit (.int 0))) (.var 2)) (.var 3))]) (nx t)
    (fun s ρ S' => S' = S ∧ s < t.length ∧ ∃ x, ρ = [some (sqD t o), x1, some (.int ((s : Nat) : Int)), x]) (xs := w) (b := 0) (ρ := [some (sqD t o), x1, some (.int 0), none]) (S := S) ⟨rfl, W.pos, none, rfl⟩ (fun d hd s ρ S' ⟨hS, hs, x, hρ⟩ => by
      subst hS hρ
      refine ⟨[some (sqD t o), x1, some (.int (nx t s d : Nat)), some (.int (d : Int))], _, ?_, rfl, W.lt s hs d, _, rfl⟩
      simp [forF, Tg.bind, ix_tb hs, ix_rw (hw d hd)])
  subst h2 h3
  exact ⟨x, h1⟩
theorem c_lout {n b : Nat} (W : Wf t o) (hn : n < 2 ^ b) (hb : b ≤ 1000) : call (tab ts) G (k + 3) 255 [sqD t o, .int (n : Int)] S = some (.int (ot o (run t 0 (bits n))), S) := by
  rw [call_of T255 rfl]
  simp only [f__law_out, b__law_out, startA]
  obtain ⟨x3, h1⟩ := loop23 (cf := call (tab ts) G (k + 2)) (S := S) W (w := bits n) (fun d hd => Mo.bits_01 hd) (x1 := some (.int (n : Int))) rfl
  have wk : walk false [.lst (nD (bits n))] S = some ((bits n).map fun n : Nat => D.int (n : Int)) := rfl
  have hr : run t 0 (bits n) < o.length := by rw [W.len]; exact W.run W.pos _
  simp [Tg.bind, c_ldigits hn hb, wk, h1, ix_ot hr]
theorem c_state {n b : Nat} (hS : okS S) (W : Wf t o) (hn : n < 2 ^ b) (hb : b ≤ 1000) : call (tab ts) G (k + 2) 107 [sqD t o, .int (n : Int)] S = some (.int (run t 0 (bits n) : Nat), S) := by
  rw [call_of T107 rfl]
  simp only [f_state_of_number, b_state_of_number, startA]
  obtain ⟨x3, h1⟩ := loop23 (cf := call (tab ts) G (k + 1)) (S := S) W (w := bits n) (fun d hd => Mo.bits_01 hd) (x1 := some (.int (n : Int))) rfl
  have wk : walk false [.tup (nD (bits n))] S = some ((bits n).map fun n : Nat => D.int (n : Int)) := rfl
  have st : ∀ xs, stays false [.tup (nD (bits n))] xs = fun _ => true := fun xs => stays_tup
  simp [Tg.bind, c_digits hS hn hb, wk, st, h1]
theorem c_at {n b : Nat} (hS : okS S) (W : Wf t o) (hn : n < 2 ^ b) (hb : b ≤ 1000) : call (tab ts) G (k + 3) 108 [sqD t o, .int (n : Int)] S = some (.int (ot o (run t 0 (bits n))), S) := by
  rw [call_of T108 rfl]
  simp only [f_sequence_at, b_sequence_at, startA]
  have hr : run t 0 (bits n) < o.length := by rw [W.len]; exact W.run W.pos _
  simp [c_state hS W hn hb, ix_ot hr]
end Code

/-! M77d: states in order -/
namespace Code
open PySem Ab
open Mo (nx ot run bits val ibits Wf)
variable {k : Nat} {S J : Store} {t : Mo.Tab} {o : List Int}
theorem T37 : tab ts 37 = some f_order_of_states := rfl
theorem T38 : tab ts 38 = some f_numbers_by := rfl
theorem T39 : tab ts 39 = some f_machine_in_order := rfl
abbrev eqB : Nat → Nat → Bool := fun x s => x == s
def iN (l : List Nat) : List Int := l.map fun n : Nat => (n : Int)
def sO (l : List Nat) : Store := [.lst (nD l), .set (iN l)]
theorem iN_has {l : List Nat} {s : Nat} : (iN l).contains (s : Int) = l.any (fun x => eqB x s) := by
  induction l with
  | nil => rfl
  | cons a l ih =>
    unfold iN at ih ⊢
    rw [List.map_cons, List.contains_cons, List.any_cons, ih]
    congr 1
    rw [Bool.eq_iff_iff]
    simp only [beq_iff_eq]
    omega
theorem in_step {cf : CallF} {l : List Nat} {s : Nat} {x0 x3 x4 : Option D} (hl : l.length < 4000) :
    forF cf G (.name 4) [.ite (.sin true (.var 4) (.var 2)) [.ex (.sadd (.var 2) (.var 4)), .ex (.meth .append (.var 1) [(.var 4)])] []] (.int (s : Int)) [x0, some (.ref S.length), some (.ref (S.length + 1)), x3, x4] (S ++ sO l) =
      some (.next, [x0, some (.ref S.length), some (.ref (S.length + 1)), x3, some (.int (s : Int))], S ++ sO (Mo.push eqB l s)) := by
  have so : setOf (S ++ sO l) (.ref (S.length + 1)) = some (iN l) := by simp [setOf, sO]
  unfold Mo.push
  have hc := iN_has (l := l) (s := s)
  have g2 : (S ++ sO l)[S.length + 1]? = some (.set (iN l)) := g21
  by_cases h : (l.any fun x => eqB x s) = true
  · rw [if_pos h]
    rw [h] at hc
    have hm : (s : Int) ∈ iN l := by simpa using hc
    simp [forF, Tg.bind, so, hm]
  · rw [if_neg h]
    have h' : (l.any fun x => eqB x s) = false := Bool.eq_false_iff.mpr h
    rw [h'] at hc
    have ad : addTo (iN l) (s : Int) = iN (l ++ [s]) := by
      unfold addTo
      rw [hc]
      simp [iN]
    have ll : (iN l).length < 4000 := by simpa [iN] using hl
    have e1 : (S ++ sO l).set (S.length + 1) (.set (iN (l ++ [s]))) = S ++ [.lst (nD l), .set (iN (l ++ [s]))] := u21
    have g3 : (S ++ [O.lst (nD l), .set (iN (l ++ [s]))])[S.length]? = some (.lst (nD l)) := g20
    have rv : recvOk .append (.ref S.length) (S ++ [O.lst (nD l), .set (iN (l ++ [s]))]) = true := recv_at g3
    have ap : dMe .append (.ref S.length) [.int (s : Int)] (S ++ [O.lst (nD l), .set (iN (l ++ [s]))]) = some (.non, S ++ sO (l ++ [s])) := by
      rw [app_at g3 (by simp [nD]; unfold sizeLine; omega), u20]
      simp [nD, sO]
    have hm : ¬ (s : Int) ∈ iN l := by simpa using hc
    simp [forF, Tg.bind, so, hm, g2, ll, ad, e1, rv, ap]
theorem wh_order {cf : CallF} (W : ∀ s, s < t.length → ∀ d, nx t s d < t.length) (hle : t.length ≤ 130) : ∀ (n : Nat) (l : List Nat) (a fuel : Nat) (x4 : Option D), Mo.Fd t eqB 0 l a → n < fuel → (Mo.itr t eqB n (l, a)).1.length ≤ (Mo.itr t eqB n (l, a)).2 →
    ∃ a' y4, evWh (evT cf G (.cmp .Lt (.var 3) (.bi .len [(.var 1)]))) (evSs cf G [.for_ (.name 4) false [(.ix (.ix (.var 0) (.lit (.int 1))) (.ix (.var 1) (.var 3)))] [.ite (.sin true (.var 4) (.var 2)) [.ex (.sadd (.var 2) (.var 4)), .ex (.meth .append (.var 1) [(.var 4)])] []], .aug 3 .Add (.lit (.int 1))]) fuel
      [some (maD t o), some (.ref S.length), some (.ref (S.length + 1)), some (.int ((a : Nat) : Int)), x4] (S ++ sO l) =
      some (.next, [some (maD t o), some (.ref S.length), some (.ref (S.length + 1)), some (.int (a' : Int)), y4], S ++ sO (Mo.itr t eqB n (l, a)).1)
  | n, l, a, 0, x4, F, hf, _ => by omega
  | n, l, a, fuel + 1, x4, F, hf, hc => by
    have g0 : (S ++ sO l)[S.length]? = some (.lst (nD l)) := g20
    have ln : dBi (S ++ sO l) .len [.ref S.length] = some (.int (l.length : Nat)) := by simp [dBi, items, g0, nD]
    by_cases h : a < l.length
    · cases n with
      | zero => exact absurd hc (by show ¬ l.length ≤ a; omega)
      | succ n =>
        have e : l[a]? = some l[a] := List.getElem?_eq_getElem h
        have hx := F.lt _ (List.getElem_mem h)
        have st : Mo.stp t eqB (l, a) = (Mo.push eqB (Mo.push eqB l (nx t l[a] 0)) (nx t l[a] 1), a + 1) := by
          unfold Mo.stp
          dsimp only
          rw [e]
        have F' := F.step W (fun s => by simp)
        rw [st] at F'
        have hl := Mo.fd_len (fun s => by simp) F
        obtain ⟨F1, _, _⟩ := F.snoc (fun s => by simp) e (d := 0) (by omega) (W _ hx 0)
        have hl1 := Mo.fd_len (fun s => by simp) F1
        have hi : Mo.itr t eqB (n + 1) (l, a) = Mo.itr t eqB n (Mo.push eqB (Mo.push eqB l (nx t l[a] 0)) (nx t l[a] 1), a + 1) := by
          show Mo.itr t eqB n (Mo.stp t eqB (l, a)) = _
          rw [st]
        rw [hi] at hc ⊢
        obtain ⟨a', y4, ih⟩ := wh_order W hle n _ (a + 1) fuel (some (.int (nx t l[a] 1 : Nat))) F' (by omega) hc
        refine ⟨a', y4, ?_⟩
        have i1 : dIx (S ++ sO l) (.ref S.length) (.int (a : Int)) = some (.int (l[a] : Nat)) := by
          show ((items (S ++ sO l) (.ref S.length)).bind fun ds => at_ ds (a : Int)) = _
          rw [items_ref g0]
          exact at_map e
        have s1 := in_step (cf := cf) (S := S) (l := l) (s := nx t l[a] 0) (x0 := some (maD t o)) (x3 := some (.int (a : Int))) (x4 := x4) (by omega)
        have s2 := in_step (cf := cf) (S := S) (l := Mo.push eqB l (nx t l[a] 0)) (s := nx t l[a] 1) (x0 := some (maD t o)) (x3 := some (.int (a : Int))) (x4 := some (.int (nx t l[a] 0 : Nat))) (by omega)
        have hlt : ((a : Nat) : Int) < ((l.length : Nat) : Int) := by omega
        have ea : ((a : Nat) : Int) + 1 = ((a + 1 : Nat) : Int) := by omega
        rw [evWh]
        simp only [eT_cmp, e_var, e_bi, es_cons, es_nil, List.getElem?_cons_succ, List.getElem?_cons_zero, ln, Option.map_some, cmp_lt, hlt, decide_true]
        have wk : walk false [rwD (nx t l[a] 0, nx t l[a] 1)] (S ++ sO l) = some [.int (nx t l[a] 0 : Nat), .int (nx t l[a] 1 : Nat)] := rfl
        simp only [ss_cons, s_for, es_cons, es_nil, e_ix, e_var, e_lit, List.getElem?_cons_succ, List.getElem?_cons_zero, ix_ma1, Option.map_some, i1, ix_tb hx, wk, stays_rw, evFor, if_true, s1, s2, s_aug, augOp, ea, List.set_cons_succ, List.set_cons_zero, ss_nil]
        exact ih
    · have fx : ∀ m, Mo.itr t eqB m (l, a) = (l, a) := by
        intro m
        induction m with
        | zero => rfl
        | succ m ih =>
          show Mo.itr t eqB m (Mo.stp t eqB (l, a)) = (l, a)
          have : Mo.stp t eqB (l, a) = (l, a) := by
            unfold Mo.stp
            dsimp only
            rw [List.getElem?_eq_none (by omega)]
          rw [this]
          exact ih
      have hlt : ¬ ((a : Nat) : Int) < ((l.length : Nat) : Int) := by omega
      refine ⟨a, x4, ?_⟩
      rw [fx, evWh]
      simp only [eT_cmp, e_var, e_bi, es_cons, es_nil, List.getElem?_cons_succ, List.getElem?_cons_zero, ln, Option.map_some, cmp_lt, hlt, decide_false]
theorem c_order (hS : okS S) (W : Wf t o) : call (tab ts) G (k + 1) 37 [maD t o] S = some (.tup (nD (Mo.fnd t eqB 0)), S) := by
  obtain ⟨F, hc⟩ := Mo.fnd_closed (q := eqB) (f := 0) W W.pos (fun s => by simp)
  obtain ⟨a', y4, h⟩ := wh_order (cf := call (tab ts) G k) (S := S) (o := o) W.lt W.le 130 [0] 0 1000000 none F (by omega) hc
  rw [← Mo.fnd_def] at h
  have g0 : ∀ l, (S ++ sO l)[S.length]? = some (.lst (nD l)) := fun l => g20
  have tp : ∀ l, dBi (S ++ sO l) .tuple [.ref S.length] = some (.tup (nD l)) := fun l => by simp [dBi, items, g0]
  have e0 : S ++ [O.lst [.int 0], .set [0]] = S ++ sO [0] := rfl
  rw [call_of T37 rfl]
  simp only [f_order_of_states, b_order_of_states, startA]
  have h2 := h
  simp only [Int.ofNat_zero] at h2
  simp [sizeLine, Tg.bind, e0, h2, tp]
  exact trunc_j (by simp [D.undr]) hS
/-! ### numbers -/
theorem for_num {cf : CallF} {ord : List Nat} {x1 : Option D} (nd : ord.Nodup) {n : Nat} (hlt : ∀ s ∈ ord, s < n) : ∀ m, m ≤ ord.length → ∀ x3, ∃ (ns : List Nat) (y3 : Option D), ns.length = n ∧ (∀ (j s : Nat), j < m → ord[j]? = some s → ns[s]? = some j) ∧
    evFor (fun _ => true) (forF cf G (.name 3) [.seti (.var 2) (.ix (.var 0) (.var 3)) (.var 3)]) (natsD m) [some (.tup (nD ord)), x1, some (.ref S.length), x3] (S ++ [.lst (nD (List.replicate n 0))]) =
      some (.next, [some (.tup (nD ord)), x1, some (.ref S.length), y3], S ++ [.lst (nD ns)]) := by
  intro m hm x3
  obtain ⟨ρ', S', h1, ns, hn, hp, x, hρ, hS⟩ := evFor_inv (chk := fun _ => true) (body := forF cf G (.name 3) [.seti (.var 2) (.ix (.var 0) (.var 3)) (.var 3)])
    (fun i ρ S' => ∃ ns : List Nat, ns.length = n ∧ (∀ (j s : Nat), j < i → ord[j]? = some s → ns[s]? = some j) ∧ ∃ x, ρ = [some (.tup (nD ord)), x1, some (.ref S.length), x] ∧ S' = S ++ [.lst (nD ns)])
    (ds := natsD m) (n := 0) (ρ := [some (.tup (nD ord)), x1, some (.ref S.length), x3]) (S := S ++ [.lst (nD (List.replicate n 0))]) (fun _ _ _ _ => rfl) ⟨List.replicate n 0, by simp, (fun j s hj => by omega), x3, rfl, rfl⟩ (fun i hi ρ S' ⟨ns, hn, hp, x, hρ, hS⟩ => by
      have hi : i < m := by simpa [natsD] using hi
      subst hρ hS
      have hio : i < ord.length := by omega
      have ei : ord[i]? = some ord[i] := List.getElem?_eq_getElem hio
      have hs := hlt _ (List.getElem_mem hio)
      have ix1 : dIx (S ++ [.lst (nD ns)]) (.tup (nD ord)) (.int (i : Int)) = some (.int (ord[i] : Nat)) := at_map ei
      have xn : L2.ixN (nD ns).length (ord[i] : Int) = some ord[i] := by
        unfold L2.ixN
        rw [if_pos (by omega), if_pos (by simp [nD]; omega)]
        simp
      have sn : (nD ns).set ord[i] (.int (i : Int)) = nD (ns.set ord[i] i) := by simp [nD]
      refine ⟨[some (.tup (nD ord)), x1, some (.ref S.length), some (.int (i : Int))], S ++ [.lst (nD (ns.set ord[i] i))], ?_, ns.set ord[i] i, by simp [hn], fun j s hj e => ?_, _, rfl, rfl⟩
      · rw [show (natsD m)[i]'(by simpa [natsD] using hi) = .int (i : Int) by simp [natsD]]
        simp [forF, Tg.bind, ix1, xn, sn]
      · by_cases c : j = i
        · subst c
          rw [ei] at e
          cases e
          exact List.getElem?_set_self (by omega)
        · have : s ≠ ord[i] := fun z => by
            have hj' := (List.getElem?_eq_some_iff.mp e).1
            have e2 : ord[j] = ord[i] := by
              rw [← z]
              exact (List.getElem?_eq_some_iff.mp e).2
            have := List.pairwise_iff_getElem.mp nd
            rcases Nat.lt_or_gt_of_ne c with q | q
            · exact this j i hj' hio q e2
            · exact this i j hio hj' q e2.symm
          rw [List.getElem?_set_ne (Ne.symm this)]
          exact hp j s (by omega) e)
  have hl : (natsD m).length = m := by simp [natsD]
  rw [hl, Nat.zero_add] at hp
  subst hρ hS
  exact ⟨ns, x, hn, hp, h1⟩
theorem c_numbers {ord : List Nat} {n : Nat} (nd : ord.Nodup) (hlt : ∀ s ∈ ord, s < n) (hn : n ≤ 1000) (ho : ord.length ≤ 1000) : ∃ ns : List Nat, ns.length = n ∧ (∀ (j s : Nat), ord[j]? = some s → ns[s]? = some j) ∧
    call (tab ts) G (k + 1) 38 [.tup (nD ord), .int (n : Int)] S = some (.ref S.length, S ++ [.lst (nD ns)]) := by
  obtain ⟨ns, y3, h1, h2, h3⟩ := for_num (cf := call (tab ts) G k) (S := S) (x1 := some (.int (n : Int))) nd hlt ord.length (Nat.le_refl _) none
  refine ⟨ns, h1, fun j s e => h2 j s (List.getElem?_eq_some_iff.mp e).1 e, ?_⟩
  rw [call_of T38 rfl]
  simp only [f_numbers_by, b_numbers_by, startA]
  have r1 : dBin S .Mult (.lst [.int 0]) (.int (n : Int)) = some (.lst (nD (List.replicate n 0))) := by
    rw [rep_lst (by unfold sizeLine; omega)]
    simp [lstF, nD, List.map_const']
  have ln : ∀ S : Store, dBi S .len [.tup (nD ord)] = some (.int (ord.length : Nat)) := fun S => by simp [dBi, items, nD]
  have wk : ∀ S : Store, walk true [.int (ord.length : Int)] S = some (natsD ord.length) := fun S => walk_rg (by unfold sizeLine; omega)
  have tr : trunc S.length (.ref S.length) (S ++ [.lst (nD ns)]) = (.ref S.length, S ++ [.lst (nD ns)]) := by
    unfold trunc
    simp [D.undr]
  simp [sizeLine, Tg.bind, r1, ln, wk, h3, tr]
/-! ### the machine in order -/
theorem lc_rw {f : D → Store → Option (Option D × Store)} {g : Nat → D} {p : Nat × Nat} (h0 : f (.int (p.1 : Int)) S = some (some (g p.1), S)) (h1 : f (.int (p.2 : Int)) S = some (some (g p.2), S)) : evLc (fun _ => true) f ([p.1, p.2].map fun n : Nat => D.int (n : Int)) [] S = some ([g p.1, g p.2], S) :=
  lc_list (g := g) (by show 2 ≤ sizeLine; decide) fun x hx => by
    simp at hx
    rcases hx with rfl | rfl
    · exact h0
    · exact h1
theorem tp_lst {ds : List D} : dBi S .tuple [.lst ds] = some (.tup ds) := nd rfl
theorem bind_name {i : Nat} {d : D} {ρ : AEnv} : Tg.bind (.name i) d ρ = if i < ρ.length then some (ρ.set i (some d)) else none := nd rfl
theorem c_mio (hS : okS S) (W : Wf t o) : call (tab ts) G (k + 2) 39 [maD t o] S = some (maD (Mo.canon t o eqB 0).1 (Mo.canon t o eqB 0).2, S) := by
  have F := Mo.fnd_all (o := o) (q := eqB) W W.pos (fun s => by simp)
  have nd : (Mo.fnd t eqB 0).Nodup := F.pw.imp fun {x y} h e => by
    subst e
    simp at h
  rw [Mo.canon_eq]
  obtain ⟨ord, ho⟩ : ∃ l, l = Mo.fnd t eqB 0 := ⟨_, rfl⟩
  have co := c_order (k := k) hS W
  rw [← ho] at F nd co ⊢
  have hle := W.le
  have hol := F.le
  obtain ⟨ns, h1, h2, h3⟩ := c_numbers (k := k) (S := S) nd F.lt (by omega) (by omega)
  have num_ix : ∀ s, s ∈ ord → ns[s]? = some (Mo.ixq eqB ord s) := fun s hs => by
    obtain ⟨y, e1, e2, _⟩ := Mo.ixq_get (q := eqB) (l := ord) (s := s) ⟨s, hs, by simp⟩
    have : y = s := by simpa using e2
    subst this
    exact h2 _ _ e1
  have cl : ∀ s, s ∈ ord → ∀ d, nx t s d ∈ ord := fun s hs d => by
    obtain ⟨y, e1, e2⟩ := F.cl s hs d
    have : y = nx t s d := by simpa using e2
    rw [← this]
    exact e1
  have ixn : ∀ s, s ∈ ord → dIx (S ++ [.lst (nD ns)]) (.ref S.length) (.int (s : Int)) = some (.int (Mo.ixq eqB ord s : Nat)) := fun s hs => by
    show ((items (S ++ [.lst (nD ns)]) (.ref S.length)).bind fun ds => at_ ds (s : Int)) = _
    rw [items_ref g1]
    exact at_map (num_ix s hs)
  have wo : ∀ S : Store, walk false [.tup (nD ord)] S = some (ord.map fun n : Nat => D.int (n : Int)) := fun S => rfl
  have so : ∀ xs, stays false [.tup (nD ord)] xs = fun _ => true := fun xs => stays_tup
  rw [call_of T39 rfl]
  simp only [f_machine_in_order, b_machine_in_order, startA]
  have l1 : evLc (fun _ => true) (lcBk (call (tab ts) G (k + 1)) G (.name 7) [] (.bi .tuple [(.lc [8] (.name 8) false [(.ix (.var 2) (.var 7))] [] (.ix (.var 5) (.var 8)))]) [some (maD t o), some (.int 1), some (tbD t), some (otD o), some (.tup (nD ord)), some (.ref S.length), none, none, none])
      (ord.map fun n : Nat => D.int (n : Int)) [] (S ++ [.lst (nD ns)]) = some (ord.map (fun s => rwD (Mo.ixq eqB ord (nx t s 0), Mo.ixq eqB ord (nx t s 1))), S ++ [.lst (nD ns)]) := lc_list (g := fun s => rwD (Mo.ixq eqB ord (nx t s 0), Mo.ixq eqB ord (nx t s 1))) (by unfold sizeLine; omega) fun s hs => by
    have hst := F.lt s hs
    have l2 : evLc (fun _ => true) (lcBk (call (tab ts) G (k + 1)) G (.name 8) [] (.ix (.var 5) (.var 8)) [some (maD t o), some (.int 1), some (tbD t), some (otD o), some (.tup (nD ord)), some (.ref S.length), none, some (.int (s : Int)), none])
        ([nx t s 0, nx t s 1].map fun n : Nat => D.int (n : Int)) [] (S ++ [.lst (nD ns)]) = some ([.int (Mo.ixq eqB ord (nx t s 0) : Nat), .int (Mo.ixq eqB ord (nx t s 1) : Nat)], S ++ [.lst (nD ns)]) :=
      lc_rw (p := (nx t s 0, nx t s 1)) (g := fun n => .int (Mo.ixq eqB ord n : Nat)) (by simp [lcBk, Tg.bind, ixn _ (cl s hs 0)]) (by simp [lcBk, Tg.bind, ixn _ (cl s hs 1)])
    simp only [List.map_cons, List.map_nil] at l2
    simp [lcBk, Tg.bind, wipeA, ix_tb hst, l2, tp_lst]
    rfl
  have l3 : evLc (fun _ => true) (lcBk (call (tab ts) G (k + 1)) G (.name 7) [] (.ix (.var 3) (.var 7)) [some (maD t o), some (.int 1), some (tbD t), some (otD o), some (.tup (nD ord)), some (.ref S.length), some (.tup (ord.map (fun s => rwD (Mo.ixq eqB ord (nx t s 0), Mo.ixq eqB ord (nx t s 1))))), none, none])
      (ord.map fun n : Nat => D.int (n : Int)) [] (S ++ [.lst (nD ns)]) = some (ord.map (fun s => D.int (ot o s)), S ++ [.lst (nD ns)]) := lc_list (g := fun s => D.int (ot o s)) (by unfold sizeLine; omega) fun s hs => by
    have hst : s < o.length := by rw [W.len]; exact F.lt s hs
    simp [lcBk, Tg.bind, ix_ot hst]
  have b0 : ∀ ρ : AEnv, Tg.bind (.tup [.name 1, .name 2, .name 3]) (maD t o) ρ = Tg.binds [.name 1, .name 2, .name 3] [.int 1, tbD t, otD o] ρ := fun ρ => by
    unfold maD
    rw [Tg.bind]
  simp [sizeLine, b0, Tg.binds, bind_name, co, h3, wo, so, wipeA, l1, l3, tp_lst]
  have e : D.tup [D.int 1, D.tup (List.map (fun s => rwD (Mo.ixq eqB ord (nx t s 0), Mo.ixq eqB ord (nx t s 1))) ord), D.tup (List.map (fun s => D.int (ot o s)) ord)] =
      maD (ord.map fun s => (Mo.ixq eqB ord (nx t s 0), Mo.ixq eqB ord (nx t s 1))) (ord.map (ot o)) := by
    simp [maD, tbD, otD, iD]
  rw [e]
  exact trunc_j undr_ma hS
end Code

/-! M77e: equal plain data; numbering of keys -/
namespace Code
open PySem Ab
open Mo (nx ot run bits val ibits Wf firsts num isNew cnt)
variable {k : Nat} {S J : Store} {t : Mo.Tab} {o : List Int}
/-! ### ints and tuples and lists of them -/
mutual
def smp : D → Bool
  | .int _ => true
  | .tup ds => smps ds
  | .lst ds => smps ds
  | _ => false
def smps : List D → Bool
  | [] => true
  | d :: ds => smp d && smps ds
end
mutual
def dep : D → Nat
  | .tup ds => deps ds + 1
  | .lst ds => deps ds + 1
  | _ => 0
def deps : List D → Nat
  | [] => 0
  | d :: ds => max (dep d) (deps ds)
end
mutual
theorem smp_py : ∀ {d : D}, smp d = true → ∃ p, d.py = some p ∧ p.canLay0 = true ∧ p.depth = dep d
  | .int i, _ => ⟨.int i, rfl, rfl, by simp [PyData.depth, dep]⟩
  | .tup ds, h => by
    obtain ⟨ps, h1, h2, h3⟩ := smps_py (ds := ds) (by simpa [smp] using h)
    exact ⟨.tuple ps, by simp [D.py, h1], by simpa [PyData.canLay0] using h2, by simp [PyData.depth, dep, h3]⟩
  | .lst ds, h => by
    obtain ⟨ps, h1, h2, h3⟩ := smps_py (ds := ds) (by simpa [smp] using h)
    exact ⟨.list ps, by simp [D.py, h1], by simpa [PyData.canLay0] using h2, by simp [PyData.depth, dep, h3]⟩
  | .non, h => by simp [smp] at h
  | .bl _, h => by simp [smp] at h
  | .str _, h => by simp [smp] at h
  | .scr _, h => by simp [smp] at h
  | .ref _, h => by simp [smp] at h
  | .fn _, h => by simp [smp] at h
theorem smps_py : ∀ {ds : List D}, smps ds = true → ∃ ps, D.pys ds = some ps ∧ PyData.canLayAll0 ps = true ∧ PyData.depthAll ps = deps ds
  | [], _ => ⟨[], rfl, rfl, by simp [PyData.depthAll, deps]⟩
  | d :: ds, h => by
    simp only [smps, Bool.and_eq_true] at h
    obtain ⟨p, h1, h2, h3⟩ := smp_py h.1
    obtain ⟨ps, h4, h5, h6⟩ := smps_py h.2
    exact ⟨p :: ps, by simp [D.pys, h1, h4], by simp [PyData.canLayAll0, h2, h5], by simp [PyData.depthAll, deps, h3, h6]⟩
end
mutual
theorem eqv_same : ∀ {a b : D} {p q : PyData}, smp a = true → smp b = true → a.py = some p → b.py = some q → PyData.eqv p q = D.same a b
  | .int i, b, p, q, _, hb, hp, hq => by
    cases hp
    cases b with
    | int j => cases hq; simp [PyData.eqv, D.same]
    | tup ds =>
      simp only [D.py] at hq
      cases e : D.pys ds with
      | none => rw [e] at hq; cases hq
      | some ps => rw [e] at hq; cases hq; simp [PyData.eqv, D.same]
    | lst ds =>
      simp only [D.py] at hq
      cases e : D.pys ds with
      | none => rw [e] at hq; cases hq
      | some ps => rw [e] at hq; cases hq; simp [PyData.eqv, D.same]
    | _ => simp [smp] at hb
  | .tup xs, b, p, q, ha, hb, hp, hq => by
    simp only [D.py] at hp
    cases e0 : D.pys xs with
    | none => rw [e0] at hp; cases hp
    | some us =>
      rw [e0] at hp
      cases hp
      cases b with
      | int j => cases hq; simp [PyData.eqv, D.same]
      | tup ds =>
        simp only [D.py] at hq
        cases e : D.pys ds with
        | none => rw [e] at hq; cases hq
        | some ps =>
          rw [e] at hq
          cases hq
          simp only [PyData.eqv, D.same]
          exact eqvs_same (by simpa [smp] using ha) (by simpa [smp] using hb) e0 e
      | lst ds =>
        simp only [D.py] at hq
        cases e : D.pys ds with
        | none => rw [e] at hq; cases hq
        | some ps => rw [e] at hq; cases hq; simp [PyData.eqv, D.same]
      | _ => simp [smp] at hb
  | .lst xs, b, p, q, ha, hb, hp, hq => by
    simp only [D.py] at hp
    cases e0 : D.pys xs with
    | none => rw [e0] at hp; cases hp
    | some us =>
      rw [e0] at hp
      cases hp
      cases b with
      | int j => cases hq; simp [PyData.eqv, D.same]
      | lst ds =>
        simp only [D.py] at hq
        cases e : D.pys ds with
        | none => rw [e] at hq; cases hq
        | some ps =>
          rw [e] at hq
          cases hq
          simp only [PyData.eqv, D.same]
          exact eqvs_same (by simpa [smp] using ha) (by simpa [smp] using hb) e0 e
      | tup ds =>
        simp only [D.py] at hq
        cases e : D.pys ds with
        | none => rw [e] at hq; cases hq
        | some ps => rw [e] at hq; cases hq; simp [PyData.eqv, D.same]
      | _ => simp [smp] at hb
  | .non, _, _, _, h, _, _, _ => by simp [smp] at h
  | .bl _, _, _, _, h, _, _, _ => by simp [smp] at h
  | .str _, _, _, _, h, _, _, _ => by simp [smp] at h
  | .scr _, _, _, _, h, _, _, _ => by simp [smp] at h
  | .ref _, _, _, _, h, _, _, _ => by simp [smp] at h
  | .fn _, _, _, _, h, _, _, _ => by simp [smp] at h
theorem eqvs_same : ∀ {a b : List D} {p q : List PyData}, smps a = true → smps b = true → D.pys a = some p → D.pys b = some q → PyData.eqvAll p q = D.sames a b
  | [], [], _, _, _, _, hp, hq => by cases hp; cases hq; simp [PyData.eqvAll, D.sames]
  | [], b :: bs, p, q, _, hb, hp, hq => by
    simp only [smps, Bool.and_eq_true] at hb
    obtain ⟨u, h1, _⟩ := smp_py hb.1
    obtain ⟨us, h2, _⟩ := smps_py hb.2
    cases hp
    simp only [D.pys, h1, h2, Option.bind_some, Option.map_some] at hq
    cases hq
    simp [PyData.eqvAll, D.sames]
  | a :: as, [], p, q, ha, _, hp, hq => by
    simp only [smps, Bool.and_eq_true] at ha
    obtain ⟨u, h1, _⟩ := smp_py ha.1
    obtain ⟨us, h2, _⟩ := smps_py ha.2
    cases hq
    simp only [D.pys, h1, h2, Option.bind_some, Option.map_some] at hp
    cases hp
    simp [PyData.eqvAll, D.sames]
  | a :: as, b :: bs, p, q, ha, hb, hp, hq => by
    simp only [smps, Bool.and_eq_true] at ha hb
    obtain ⟨u, h1, _⟩ := smp_py ha.1
    obtain ⟨us, h2, _⟩ := smps_py ha.2
    obtain ⟨v, h3, _⟩ := smp_py hb.1
    obtain ⟨vs, h4, _⟩ := smps_py hb.2
    simp only [D.pys, h1, h2, Option.bind_some, Option.map_some] at hp
    simp only [D.pys, h3, h4, Option.bind_some, Option.map_some] at hq
    cases hp
    cases hq
    simp only [PyData.eqvAll, D.sames]
    rw [eqv_same ha.1 hb.1 h1 h3, eqvs_same ha.2 hb.2 h2 h4]
end
theorem smp_deref {d : D} (h : smp d = true) : deref S d = d := by
  cases d <;> first | rfl | simp [smp] at h
theorem smp_shaped {d : D} {p : PyData} (h : smp d = true) (hd : dep d ≤ 64) (hp : d.py = some p) : SeqAt.shaped p = true := by
  obtain ⟨p', h1, h2, h3⟩ := smp_py h
  rw [hp] at h1
  cases h1
  unfold SeqAt.shaped
  rw [h2, h3, decide_eq_true hd]
  rfl
theorem eq_smp {a b : D} (ha : smp a = true) (hb : smp b = true) (da : dep a ≤ 64) (db : dep b ≤ 64) : dEq S a b = some (D.same a b) := by
  obtain ⟨p, h1, _⟩ := smp_py ha
  obtain ⟨q, h2, _⟩ := smp_py hb
  unfold dEq
  rw [smp_deref ha, smp_deref hb, h1, h2]
  dsimp only
  rw [smp_shaped ha da h1, smp_shaped hb db h2, eqv_same ha hb h1 h2]
  rfl
theorem any_eqv : ∀ {ds : List D} {ps : List PyData} {a : D} {p : PyData}, smps ds = true → D.pys ds = some ps → smp a = true → a.py = some p → (ps.any fun z => PyData.eqv z p) = ds.any fun z => D.same z a
  | [], ps, a, p, _, h, _, _ => by cases h; rfl
  | d :: ds, ps, a, p, hs, h, ha, hp => by
    simp only [smps, Bool.and_eq_true] at hs
    obtain ⟨u, h1, _⟩ := smp_py hs.1
    obtain ⟨us, h2, _⟩ := smps_py hs.2
    simp only [D.pys, h1, h2, Option.bind_some, Option.map_some] at h
    cases h
    rw [List.any_cons, List.any_cons, any_eqv hs.2 h2 ha hp, eqv_same hs.1 ha h1 hp]
theorem idx_eqv : ∀ {ds : List D} {ps : List PyData} {a : D} {p : PyData}, smps ds = true → D.pys ds = some ps → smp a = true → a.py = some p → ps.findIdx? (fun z => PyData.eqv z p) = ds.findIdx? fun z => D.same z a
  | [], ps, a, p, _, h, _, _ => by cases h; rfl
  | d :: ds, ps, a, p, hs, h, ha, hp => by
    simp only [smps, Bool.and_eq_true] at hs
    obtain ⟨u, h1, _⟩ := smp_py hs.1
    obtain ⟨us, h2, _⟩ := smps_py hs.2
    simp only [D.pys, h1, h2, Option.bind_some, Option.map_some] at h
    cases h
    rw [List.findIdx?_cons, List.findIdx?_cons, idx_eqv hs.2 h2 ha hp, eqv_same hs.1 ha h1 hp]
theorem in_smp {a b : D} {ds : List D} (hb : deref S b = .lst ds) (hs : smps ds = true) (ha : smp a = true) (da : dep a ≤ 64) (db : deps ds ≤ 63) : dIn S a b = some (ds.any fun z => D.same z a) := by
  obtain ⟨p, h1, _⟩ := smp_py ha
  obtain ⟨qs, h2, _⟩ := smps_py hs
  have hl : smp (.lst ds) = true := by simpa [smp] using hs
  have h3 : (D.lst ds).py = some (.list qs) := by simp [D.py, h2]
  unfold dIn
  rw [smp_deref ha, hb, h1, h3]
  dsimp only
  rw [smp_shaped ha da h1, smp_shaped hl (by simp [dep]; omega) h3, any_eqv hs h2 ha h1]
  rfl
theorem find_smp {a b : D} {ds : List D} (hb : deref S b = .lst ds) (hs : smps ds = true) (ha : smp a = true) (da : dep a ≤ 64) (db : deps ds ≤ 63) : dFind S b a = ds.findIdx? fun z => D.same z a := by
  obtain ⟨p, h1, _⟩ := smp_py ha
  obtain ⟨qs, h2, _⟩ := smps_py hs
  have hl : smp (.lst ds) = true := by simpa [smp] using hs
  have h3 : (D.lst ds).py = some (.list qs) := by simp [D.py, h2]
  unfold dFind
  rw [smp_deref ha, hb, h1, h3]
  dsimp only
  rw [smp_shaped ha da h1, smp_shaped hl (by simp [dep]; omega) h3, idx_eqv hs h2 ha h1]
  rfl
theorem same_int {i j : Int} : D.same (.int i) (.int j) = (i == j) := by simp [D.same]
theorem smps_nD : ∀ {l : List Nat}, smps (nD l) = true ∧ deps (nD l) = 0
  | [] => by simp [nD, smps, deps]
  | a :: l => by
    have := smps_nD (l := l)
    unfold nD at this ⊢
    simp [smps, deps, smp, dep, this.1, this.2]
theorem smps_iD : ∀ {l : List Int}, smps (iD l) = true ∧ deps (iD l) = 0
  | [] => by simp [iD, smps, deps]
  | a :: l => by
    have := smps_iD (l := l)
    unfold iD at this ⊢
    simp [smps, deps, smp, dep, this.1, this.2]
theorem smps_tb : ∀ {t : Mo.Tab}, smps (t.map rwD) = true ∧ deps (t.map rwD) ≤ 1
  | [] => by simp [smps, deps]
  | a :: l => by
    have := smps_tb (t := l)
    simp [smps, deps, smp, dep, rwD, this.1]
    omega
theorem smp_sq : smp (sqD t o) = true ∧ dep (sqD t o) ≤ 3 := by
  have h1 := smps_tb (t := t)
  have h2 := smps_iD (l := o)
  simp [sqD, tbD, otD, smp, smps, dep, deps, h1.1, h2.1, h2.2]
  omega
theorem nD_inj : ∀ {a b : List Nat}, nD a = nD b → a = b
  | [], [], _ => rfl
  | [], _ :: _, h => by simp [nD] at h
  | _ :: _, [], h => by simp [nD] at h
  | a :: as, b :: bs, h => by
    unfold nD at h
    rw [List.map_cons, List.map_cons] at h
    injection h with h1 h2
    injection h1 with h1
    rw [Int.ofNat_inj.mp h1, nD_inj h2]
theorem iD_inj : ∀ {a b : List Int}, iD a = iD b → a = b
  | [], [], _ => rfl
  | [], _ :: _, h => by simp [iD] at h
  | _ :: _, [], h => by simp [iD] at h
  | a :: as, b :: bs, h => by
    unfold iD at h
    rw [List.map_cons, List.map_cons] at h
    injection h with h1 h2
    injection h1 with h1
    rw [h1, iD_inj h2]
theorem tb_inj : ∀ {a b : Mo.Tab}, a.map rwD = b.map rwD → a = b
  | [], [], _ => rfl
  | [], _ :: _, h => by simp at h
  | _ :: _, [], h => by simp at h
  | (a1, a2) :: as, (b1, b2) :: bs, h => by
    rw [List.map_cons, List.map_cons] at h
    injection h with h1 h2
    unfold rwD at h1
    injection h1 with h1
    injection h1 with h3 h4
    injection h4 with h4 _
    injection h3 with h3
    injection h4 with h4
    have e1 : a1 = b1 := Int.ofNat_inj.mp h3
    have e2 : a2 = b2 := Int.ofNat_inj.mp h4
    rw [e1, e2, tb_inj h2]
theorem sq_inj {t' : Mo.Tab} {o' : List Int} (h : sqD t o = sqD t' o') : t = t' ∧ o = o' := by
  unfold sqD tbD otD at h
  injection h with h
  injection h with h1 h2
  injection h2 with h2 _
  injection h1 with h1
  injection h2 with h2
  exact ⟨tb_inj h1, iD_inj h2⟩
theorem same_sq {t' : Mo.Tab} {o' : List Int} : D.same (sqD t o) (sqD t' o') = decide ((t, o) = (t', o')) := by
  rw [Bool.eq_iff_iff, decide_eq_true_iff]
  constructor
  · intro h
    obtain ⟨h1, h2⟩ := sq_inj (D.same_eq h)
    rw [h1, h2]
  · intro h
    injection h with h1 h2
    rw [h1, h2]
    exact D.same_refl _
theorem eq_sq {t' : Mo.Tab} {o' : List Int} : dEq S (sqD t o) (sqD t' o') = some (decide ((t, o) = (t', o'))) := by
  rw [eq_smp smp_sq.1 smp_sq.1 (by have := smp_sq (t := t) (o := o); omega) (by have := smp_sq (t := t') (o := o'); omega), same_sq]
/-! ### numbering -/
def dicO (off : Nat) : List NestedKey → List (NestedKey × D)
  | [] => []
  | k :: l => (k, .int (off : Int)) :: dicO (off + 1) l
theorem dicO_snoc {k : NestedKey} : ∀ {l : List NestedKey} {off : Nat}, dicO off (l ++ [k]) = dicO off l ++ [(k, .int ((off + l.length : Nat) : Int))]
  | [], off => by simp [dicO]
  | a :: l, off => by
    simp only [List.cons_append, dicO, dicO_snoc, List.length_cons]
    congr 5
    omega
theorem dicO_len : ∀ {l : List NestedKey} {off : Nat}, (dicO off l).length = l.length
  | [], _ => rfl
  | _ :: l, _ => congrArg Nat.succ (dicO_len (l := l))
theorem dicO_at {k : NestedKey} : ∀ {l : List NestedKey} {off : Nat}, kAt (dicO off l) k = if k ∈ l then some (.int ((off + l.findIdx (fun x => decide (x = k)) : Nat) : Int)) else none
  | [], off => by simp [dicO, kAt]
  | a :: l, off => by
    unfold kAt dicO
    by_cases h : a = k
    · subst h
      simp [List.find?_cons, List.findIdx_cons]
    · have ih := dicO_at (k := k) (l := l) (off := off + 1)
      unfold kAt at ih
      rw [List.find?_cons]
      simp only [h, decide_false]
      rw [ih, List.findIdx_cons]
      have hk : k ≠ a := fun z => h z.symm
      simp only [List.mem_cons, hk, false_or, h, decide_false, cond_false]
      split
      · congr 2
        omega
      · rfl
theorem dicO_undr {n : Nat} : ∀ {l : List NestedKey} {off : Nat}, D.undrs n ((dicO off l).map (·.2)) = true
  | [], _ => by simp [dicO, D.undrs]
  | _ :: l, off => by simp [dicO, D.undrs, D.undr, dicO_undr (l := l)]
end Code

/-! M77f: keys are numbered as they come -/
namespace Code
open PySem Ab
open Mo (nx ot run bits val ibits Wf firsts num isNew cnt)
variable {k : Nat} {S J : Store} {t : Mo.Tab} {o : List Int}
theorem T40 : tab ts 40 = some f_classes_by := rfl
def tkB (b : Bool) (l : List NestedKey) : Bool := l.isEmpty || b
def cS (S : Store) (b : Bool) (kn : Nat → NestedKey) (n i : Nat) : Store := S ++ [.dic (tkB b (firsts kn i)) (dicO 0 (firsts kn i)), .lst (nD ((List.range i).map (num kn n)))]
structure Keys (n : Nat) (b : Bool) (kd : Nat → D) (kn : Nat → NestedKey) : Prop where
  key : ∀ i, i < n → ∀ tt emp, (tt = b ∨ (tt = true ∧ emp = true)) → dKey tt emp (kd i) = some (b, kn i)
theorem Keys.at_ {n : Nat} {b : Bool} {kd : Nat → D} {kn : Nat → NestedKey} (K : Keys n b kd kn) {i : Nat} (hi : i < n) (l : List NestedKey) : dKey (tkB b l) (dicO 0 l).isEmpty (kd i) = some (b, kn i) := by
  refine K.key i hi _ _ ?_
  cases l with
  | nil => exact .inr ⟨rfl, rfl⟩
  | cons a l => exact .inl rfl
theorem num_step {cf : CallF} {n : Nat} {b : Bool} {kd : Nat → D} {kn : Nat → NestedKey} (K : Keys n b kd kn) {i : Nat} (hi : i < n) (hn : n ≤ 1000) {ρ : AEnv} {a c e : Nat} (ha : ρ[a]? = some (some (.ref S.length))) (hc : ρ[c]? = some (some (.ref (S.length + 1)))) (he : ρ[e]? = some (some (kd i))) :
    evSs cf G [.ite (.din true (.var e) (.var a)) [.dput (.var a) (.var e) (.dlen (.var a))] [], .ex (.meth .append (.var c) [(.dget (.var a) (.var e))])] ρ (cS S b kn n i) = some (.next, ρ, cS S b kn n (i + 1)) := by
  have hfl := Mo.firsts_le (ks := kn) (n := i)
  have lk : ∀ (l : List NestedKey) (x : O), dicLook (S ++ [.dic (tkB b l) (dicO 0 l), x]) (.ref S.length) (kd i) = some (kAt (dicO 0 l) (kn i)) := fun l x => by
    have e1 : dicOf (S ++ [.dic (tkB b l) (dicO 0 l), x]) (.ref S.length) = some (tkB b l, dicO 0 l) := by
      simp only [dicOf, g20]
    unfold dicLook
    rw [e1]
    dsimp only
    rw [K.at_ hi l]
  have dl : ∀ (l : List NestedKey) (x : O), dicOf (S ++ [.dic (tkB b l) (dicO 0 l), x]) (.ref S.length) = some (tkB b l, dicO 0 l) := fun l x => by
    simp only [dicOf, g20]
  have ap : ∀ (d : O) (l : List Nat) (v : Nat), l.length < 2000 → dMe .append (.ref (S.length + 1)) [.int (v : Int)] (S ++ [d, .lst (nD l)]) = some (.non, S ++ [d, .lst (nD (l ++ [v]))]) := fun d l v hl => by
    rw [app_at g21 (by simp [nD]; unfold sizeLine; omega), u21]
    simp [nD]
  have rv : ∀ (d : O) (l : List Nat), recvOk .append (.ref (S.length + 1)) (S ++ [d, .lst (nD l)]) = true := fun d l => recv_at g21
  have nm : num kn (i + 1) i = num kn n i := (Mo.num_mono (by omega) (by omega)).symm
  have rs : (List.range (i + 1)).map (num kn n) = (List.range i).map (num kn n) ++ [num kn n i] := by
    rw [List.range_succ, List.map_append]
    rfl
  have rl : ((List.range i).map (num kn n)).length < 2000 := by simp; omega
  have fin : ∀ l : List NestedKey, l = firsts kn (i + 1) → kAt (dicO 0 l) (kn i) = some (.int (num kn n i : Nat)) := fun l hl => by
    rw [dicO_at, if_pos (by rw [hl]; exact Mo.mem_firsts.mpr ⟨i, by omega, rfl⟩), hl]
    congr 2
    rw [Nat.zero_add, ← nm]
    rfl
  unfold cS
  rw [rs]
  have cp := Mo.isNew_firsts (ks := kn) (n := i)
  have fs := Mo.firsts_succ (ks := kn) (n := i)
  by_cases h : isNew kn i = true
  · have hm : ¬ kn i ∈ firsts kn i := by
      rw [h] at cp
      simpa using cp.symm
    rw [if_pos h] at fs
    have k0 : kAt (dicO 0 (firsts kn i)) (kn i) = none := by rw [dicO_at, if_neg hm]
    have tk : tkB b (firsts kn (i + 1)) = b := by
      rw [fs]
      unfold tkB
      cases firsts kn i <;> rfl
    have kp : kPut (dicO 0 (firsts kn i)) (kn i) (.int ((firsts kn i).length : Nat)) = dicO 0 (firsts kn (i + 1)) := by
      unfold kPut
      rw [k0, fs, dicO_snoc, Nat.zero_add]
      rfl
    have dp : ∀ x : O, dicPut (S ++ [.dic (tkB b (firsts kn i)) (dicO 0 (firsts kn i)), x]) (.ref S.length) (kd i) (.int ((firsts kn i).length : Nat)) = some (S ++ [.dic (tkB b (firsts kn (i + 1))) (dicO 0 (firsts kn (i + 1))), x]) := fun x => by
      unfold dicPut
      dsimp only
      rw [g20]
      dsimp only
      rw [K.at_ hi]
      dsimp only
      rw [if_pos (by rw [dicO_len]; unfold sizeLine; omega), kp, u20, tk]
    have k1 := fin _ rfl
    simp only [ss_cons, s_ite, eT_din, e_var, he, ha, lk, k0, Option.map_some, Option.isSome_none, bne_self_eq_false, Bool.true_bne, Bool.not_false, s_dput, e_dlen, dl, dicO_len, dp, ss_nil, s_ex, e_meth, hc, rv, if_true, es_cons, e_dget, k1, es_nil, ap _ _ _ rl]
  · have hm : kn i ∈ firsts kn i := by
      have : isNew kn i = false := by simpa using h
      rw [this] at cp
      simpa using cp.symm
    rw [if_neg h] at fs
    have k1 := fin _ fs.symm
    simp only [ss_cons, s_ite, eT_din, e_var, he, ha, lk, k1, Option.map_some, Option.isSome_some, Bool.true_bne, Bool.not_true, ss_nil, s_ex, e_meth, hc, rv, if_true, es_cons, e_dget, es_nil, ap _ _ _ rl, fs]
theorem c_classes {n : Nat} {b : Bool} {kd : Nat → D} {kn : Nat → NestedKey} (K : Keys n b kd kn) (hn : n ≤ 1000) {keys : D} (hw : ∀ S, walk false [keys] S = some ((List.range n).map kd)) (hst : ∀ xs, stays false [keys] xs = fun _ => true) :
    call (tab ts) G (k + 1) 40 [keys] S = some (.ref (S.length + 1), cS S b kn n n) := by
  obtain ⟨ρ', S', h1, h2, x, h3⟩ := evFor_inv (chk := fun _ => true) (body := forF (call (tab ts) G k) G (.name 3) [.ite (.din true (.var 3) (.var 1)) [.dput (.var 1) (.var 3) (.dlen (.var 1))] [], .ex (.meth .append (.var 2) [(.dget (.var 1) (.var 3))])])
    (fun i ρ S' => S' = cS S b kn n i ∧ ∃ x, ρ = [some keys, some (.ref S.length), some (.ref (S.length + 1)), x]) (ds := (List.range n).map kd) (n := 0) (ρ := [some keys, some (.ref S.length), some (.ref (S.length + 1)), none]) (S := S ++ [.dic true [], .lst []]) (fun _ _ _ _ => rfl) ⟨rfl, none, rfl⟩ (fun i hi ρ S' ⟨hS, x, hρ⟩ => by
      have hi : i < n := by simpa using hi
      subst hρ
      rw [Nat.zero_add] at hS ⊢
      subst hS
      refine ⟨[some keys, some (.ref S.length), some (.ref (S.length + 1)), some (kd i)], cS S b kn n (i + 1), ?_, rfl, _, rfl⟩
      have e : ((List.range n).map kd)[i]'(by simpa using hi) = kd i := by simp
      rw [e]
      unfold forF
      simp only [bind_name, List.length_cons, List.length_nil]
      rw [if_pos (by omega)]
      exact num_step K hi hn rfl rfl rfl)
  have hl : ((List.range n).map kd).length = n := by simp
  rw [hl, Nat.zero_add] at h2
  subst h2 h3
  rw [call_of T40 rfl]
  simp only [f_classes_by, b_classes_by, startA]
  have tr : trunc S.length (.ref (S.length + 1)) (cS S b kn n n) = (.ref (S.length + 1), cS S b kn n n) := by
    unfold trunc
    have : D.undr S.length (.ref (S.length + 1)) = false := by simp [D.undr]
    rw [this]
    rfl
  simp [sizeLine, hw, hst, h1, tr]
/-! keys that are ints -/
theorem keys_int (n : Nat) (f : Nat → Int) : Keys n false (fun i => .int (f i)) (fun i => .num (f i)) := ⟨fun i _ tt emp h => by
  rcases h with rfl | ⟨rfl, rfl⟩ <;> rfl⟩
/-- the number of unlike ones among ints -/
theorem dist_firsts (f : Nat → Int) : ∀ n, dist ((List.range n).map f) = firsts f n
  | 0 => rfl
  | n + 1 => by
    rw [List.range_succ, List.map_append]
    unfold dist
    rw [List.foldl_append]
    have ih := dist_firsts f n
    unfold dist at ih
    rw [ih, Mo.firsts_succ, Mo.isNew_firsts]
    show addTo (firsts f n) (f n) = _
    unfold addTo
    cases (firsts f n).contains (f n) <;> rfl
end Code

/-! M77g: the least machine, by the program -/
namespace Code
open PySem Ab
open Mo (nx ot run bits val ibits Wf firsts num isNew cnt Pc Zc Sim rep)
variable {k : Nat} {S J : Store} {t : Mo.Tab} {o : List Int}
theorem T41 : tab ts 41 = some f_parted_classes := rfl
theorem T42 : tab ts 42 = some f_state_classes := rfl
theorem T43 : tab ts 43 = some f_with_states_joined := rfl
theorem T44 : tab ts 44 = some f_least_machine := rfl
theorem T274 : tab ts 274 = some f_least_sequence := rfl
def clL (n : Nat) (c : Nat → Nat) : List Nat := (List.range n).map c
theorem ints_nD : ∀ {l : List Nat}, ints? (nD l) = some (iN l)
  | [] => rfl
  | a :: l => by
    have := ints_nD (l := l)
    unfold nD iN at this ⊢
    rw [List.map_cons, List.map_cons, ints?, this]
    rfl
theorem iN_clL {n : Nat} {c : Nat → Nat} : iN (clL n c) = (List.range n).map (Zc c) := by
  unfold iN clL
  rw [List.map_map]
  rfl
theorem slen_at {cf : CallF} {W : Store} {ρ : AEnv} {i r n : Nat} {c : Nat → Nat} (hi : ρ[i]? = some (some (.ref r))) (hr : W[r]? = some (.lst (nD (clL n c)))) (hn : n ≤ 1000) : ev cf G (.slen (.var i)) ρ W = some (.int (cnt (Zc c) n : Nat), W) := by
  have h1 : Ab.listOf W (.ref r) = some (nD (clL n c)) := by simp only [Ab.listOf, hr]
  have h2 : (iN (clL n c)).length < 4000 := by simp [iN, clL]; omega
  simp only [e_slen, e_var, hi, h1, ints_nD, h2, if_true]
  rw [iN_clL, dist_firsts]
theorem ix_cl {W : Store} {r n s : Nat} {c : Nat → Nat} (hr : W[r]? = some (.lst (nD (clL n c)))) (hs : s < n) : dIx W (.ref r) (.int (s : Int)) = some (.int (c s : Nat)) := by
  show ((items W (.ref r)).bind fun ds => at_ ds (s : Int)) = _
  rw [items_ref hr]
  refine at_map (g := fun n : Nat => D.int (n : Int)) (l := clL n c) ?_
  unfold clL
  rw [List.getElem?_map, List.getElem?_range hs]
  rfl
def kyD (t : Mo.Tab) (c : Nat → Nat) (i : Nat) : D := .tup [.int (c i : Nat), .tup [.int (c (nx t i 0) : Nat), .int (c (nx t i 1) : Nat)]]
def kyN (t : Mo.Tab) (c : Nat → Nat) (i : Nat) : NestedKey := .tup [.num (c i : Nat), .tup [.num (c (nx t i 0) : Nat), .num (c (nx t i 1) : Nat)]]
theorem kyN_iff {c : Nat → Nat} (i j : Nat) : kyN t c i = kyN t c j ↔ Mo.key t (Zc c) i = Mo.key t (Zc c) j := by
  simp [kyN, Mo.key]
theorem keys_ky (n : Nat) (c : Nat → Nat) : Keys n true (kyD t c) (kyN t c) := ⟨fun i _ tt emp h => by
  have : tt = true := by rcases h with h | h; exact h; exact h.1
  subst this
  unfold dKey kyD kyN
  simp [D.nks, D.nk, NestedKey.depth, NestedKey.depthAll]⟩
theorem walk_lst {ds : List D} : walk false [.lst ds] S = some ds := nd rfl
theorem lc_keys {cf : CallF} {W : Store} {r : Nat} {c : Nat → Nat} {x1 x3 x4 x6 : Option D} (Wt : Wf t o) (hr : W[r]? = some (.lst (nD (clL t.length c)))) :
    evLc (fun _ => true) (lcBk cf G (.name 5) [] (.tup [(.ix (.var 2) (.var 5)), (.bi .tuple [(.lc [6] (.name 6) false [(.ix (.var 0) (.var 5))] [] (.ix (.var 2) (.var 6)))])]) [some (tbD t), x1, some (.ref r), x3, x4, none, x6]) (natsD t.length) [] W = some ((List.range t.length).map (kyD t c), W) := by
  have hle := Wt.le
  refine lc_nats (by unfold sizeLine; omega) fun i hi => ?_
  have l2 : evLc (fun _ => true) (lcBk cf G (.name 6) [] (.ix (.var 2) (.var 6)) [some (tbD t), x1, some (.ref r), x3, x4, some (.int (i : Int)), none])
      ([nx t i 0, nx t i 1].map fun n : Nat => D.int (n : Int)) [] W = some ([.int (c (nx t i 0) : Nat), .int (c (nx t i 1) : Nat)], W) :=
    lc_rw (p := (nx t i 0, nx t i 1)) (g := fun n => .int (c n : Nat)) (by simp [lcBk, bind_name, ix_cl hr (Wt.lt i hi 0)]) (by simp [lcBk, bind_name, ix_cl hr (Wt.lt i hi 1)])
  simp only [List.map_cons, List.map_nil] at l2
  simp [lcBk, bind_name, wipeA, sizeLine, ix_cl hr hi, ix_tb hi, l2, tp_lst]
  rfl
theorem wh_part (Wt : Wf t o) : ∀ (fuel m : Nat) (c : Nat → Nat) (many : Nat) (W : Store) (r : Nat) (x4 x5 x6 : Option D), Pc t o m c many → W[r]? = some (.lst (nD (clL t.length c))) → S.length ≤ r → S.length ≤ W.length → t.length + 1 - many < fuel →
    ∃ (c' : Nat → Nat) (J' : Store) (r' : Nat) (y3 y4 y5 y6 : Option D), evWh (evT (call (tab ts) G (k + 1)) G (.cmp .Gt (.slen (.var 2)) (.var 3))) (evSs (call (tab ts) G (k + 1)) G [.asg (.name 3) (.slen (.var 2)), .asg (.name 4) (.lc [5] (.name 5) true [(.bi .len [(.var 0)])] [] (.tup [(.ix (.var 2) (.var 5)), (.bi .tuple [(.lc [6] (.name 6) false [(.ix (.var 0) (.var 5))] [] (.ix (.var 2) (.var 6)))])])), .asg (.name 2) (.call 40 [(.var 4)])]) fuel
      [some (tbD t), some (otD o), some (.ref r), some (.int (many : Nat)), x4, x5, x6] W = some (.next, [some (tbD t), some (otD o), some (.ref r'), y3, y4, y5, y6], W ++ J') ∧ S.length ≤ r' ∧ (W ++ J')[r']? = some (.lst (nD (clL t.length c'))) ∧ ∀ i j, i < t.length → j < t.length → (Zc c' i = Zc c' j ↔ Sim t o i t o j)
  | 0, m, c, many, W, r, x4, x5, x6, P, hr, hlr, hlw, hf => by omega
  | fuel + 1, m, c, many, W, r, x4, x5, x6, P, hr, hlr, hlw, hf => by
    have hle := Wt.le
    have sl := slen_at (cf := call (tab ts) G (k + 1)) (ρ := [some (tbD t), some (otD o), some (.ref r), some (.int (many : Nat)), x4, x5, x6]) (i := 2) rfl hr (by omega)
    by_cases h : many < cnt (Zc c) t.length
    · have hcl := Mo.firsts_le (ks := Zc c) (n := t.length)
      have P2 := P.next Wt (kn := kyN t c) (kyN_iff (t := t) (c := c))
      have lk := lc_keys (cf := call (tab ts) G (k + 1)) (x1 := some (otD o)) (x3 := some (.int (cnt (Zc c) t.length : Nat))) (x4 := x4) (x6 := x6) Wt hr
      have cc := c_classes (k := k) (S := W) (keys_ky (t := t) t.length c) (by omega) (keys := .lst ((List.range t.length).map (kyD t c))) (fun S => walk_lst) (fun xs => stays_lst)
      have g2 : (cS W true (kyN t c) t.length t.length)[W.length + 1]? = some (.lst (nD (clL t.length (num (kyN t c) t.length)))) := g21
      obtain ⟨c', J', r', y3, y4, y5, y6, i1, i2, i3, i4⟩ := wh_part Wt fuel (m + 1) (fun i => num (kyN t c) t.length i) (cnt (Zc c) t.length) (cS W true (kyN t c) t.length t.length) (W.length + 1) (some (.lst ((List.range t.length).map (kyD t c)))) x5 x6 P2 g2 (by omega) (by simp [cS]; omega) (by unfold cnt at *; omega)
      refine ⟨c', [.dic (tkB true (firsts (kyN t c) t.length)) (dicO 0 (firsts (kyN t c) t.length)), .lst (nD ((List.range t.length).map (num (kyN t c) t.length)))] ++ J', r', y3, y4, y5, y6, ?_, i2, ?_, i4⟩
      · rw [evWh]
        have hlt : ((many : Nat) : Int) < ((cnt (Zc c) t.length : Nat) : Int) := by omega
        have wk : walk true [.int (t.length : Int)] W = some (natsD t.length) := walk_rg (by unfold sizeLine; omega)
        simp only [eT_cmp, sl, e_var, List.getElem?_cons_succ, List.getElem?_cons_zero, cmp_gt, Option.map_some, hlt, decide_true, ss_cons, s_asg, bind_name, List.length_cons, List.length_nil]
        simp only [Nat.zero_add, Nat.reduceAdd, Nat.reduceLT, if_true, Option.map_some, List.set_cons_succ, List.set_cons_zero, List.length_cons, List.length_nil, e_lc, es_cons, es_nil, e_bi, e_var, List.getElem?_cons_succ, List.getElem?_cons_zero, len_tb, wk, stays_rg, wipeA, lk, e_call, cc, ss_nil]
        rw [← List.append_assoc]
        exact i1
      · rw [← List.append_assoc]
        exact i3
    · refine ⟨c, [], r, some (.int (many : Nat)), x4, x5, x6, ?_, hlr, by rw [List.append_nil]; exact hr, fun i j hi hj => P.done Wt h hi hj⟩
      have hlt : ¬ ((many : Nat) : Int) < ((cnt (Zc c) t.length : Nat) : Int) := by omega
      rw [evWh, List.append_nil]
      simp only [eT_cmp, sl, e_var, List.getElem?_cons_succ, List.getElem?_cons_zero, cmp_gt, Option.map_some, hlt, decide_false]
theorem c_parted (Wt : Wf t o) : ∃ (c : Nat → Nat) (J : Store) (r : Nat), S.length ≤ r ∧ (S ++ J)[r]? = some (.lst (nD (clL t.length c))) ∧ (∀ i j, i < t.length → j < t.length → (Zc c i = Zc c j ↔ Sim t o i t o j)) ∧ call (tab ts) G (k + 2) 41 [tbD t, otD o] S = some (.ref r, S ++ J) := by
  have hle := Wt.le
  have cc := c_classes (k := k) (S := S) (keys_int t.length (ot o)) (by omega) (keys := otD o) (fun S => by
    show some (iD o) = _
    congr 1
    apply List.ext_getElem?
    intro i
    by_cases hi : i < o.length
    · unfold iD
      rw [List.getElem?_map, List.getElem?_map, List.getElem?_range (by rw [← Wt.len]; exact hi), List.getElem?_eq_getElem hi]
      simp [ot, hi]
    · rw [List.getElem?_eq_none (by simpa [iD] using hi), List.getElem?_eq_none (by rw [List.length_map, List.length_range, ← Wt.len]; omega)]) (fun xs => stays_tup)
  have P := Pc.first (t := t) (o := o) (kn := fun i => NestedKey.num (ot o i)) (fun i j => by simp)
  have g2 : (cS S false (fun i => NestedKey.num (ot o i)) t.length t.length)[S.length + 1]? = some (.lst (nD (clL t.length (num (fun i => NestedKey.num (ot o i)) t.length)))) := g21
  obtain ⟨c', J', r', y3, y4, y5, y6, i1, i2, i3, i4⟩ := wh_part (k := k) (S := S) Wt 1000000 0 _ 0 _ (S.length + 1) none none none P g2 (by omega) (by simp [cS]) (by omega)
  refine ⟨c', [.dic (tkB false (firsts (fun i => NestedKey.num (ot o i)) t.length)) (dicO 0 (firsts (fun i => NestedKey.num (ot o i)) t.length)), .lst (nD ((List.range t.length).map (num (fun i => NestedKey.num (ot o i)) t.length)))] ++ J', r', i2, ?_, i4, ?_⟩
  · rw [← List.append_assoc]
    exact i3
  · rw [← List.append_assoc]
    rw [call_of T41 rfl]
    simp only [f_parted_classes, b_parted_classes, startA]
    have tr : ∀ J, trunc S.length (.ref r') J = (.ref r', J) := fun J => by
      unfold trunc
      have : D.undr S.length (.ref r') = false := by simp [D.undr]; omega
      rw [this]
      rfl
    have i1' := i1
    simp only [Int.ofNat_zero] at i1'
    simp [bind_name, cc, i1', tr]
    simp [cS]
end Code

/-! M77h: the least sequence, by the program -/
namespace Code
open PySem Ab
open Mo (nx ot run bits val ibits Wf firsts num isNew cnt Pc Zc Sim rep spec)
variable {k : Nat} {S J : Store} {t : Mo.Tab} {o : List Int}
theorem idx_nD {c : Nat → Nat} {x : Nat} : ∀ {l : List Nat}, (nD (l.map c)).findIdx? (fun z => D.same z (.int (x : Int))) = l.findIdx? (fun j => decide (Zc c j = (x : Int)))
  | [] => rfl
  | a :: l => by
    have ih := idx_nD (c := c) (x := x) (l := l)
    unfold nD at ih ⊢
    rw [List.map_cons, List.map_cons, List.findIdx?_cons, List.findIdx?_cons, ih, same_int]
    rw [show ((c a : Int) == (x : Int)) = decide (Zc c a = (x : Int)) from by
      rw [Bool.eq_iff_iff]
      simp]
theorem deref_at {r : Nat} {xs : List D} (h : S[r]? = some (.lst xs)) : deref S (.ref r) = .lst xs := by
  simp only [deref, h]
theorem lc_chk {α : Type} {mk : α → D} {g : α → D} {chk : Store → Bool} {f : D → Store → Option (Option D × Store)} {xs : List α} (hc : chk S = true) (hn : xs.length ≤ sizeLine) (h : ∀ x ∈ xs, f (mk x) S = some (some (g x), S)) : evLc chk f (xs.map mk) [] S = some (xs.map g, S) := by
  refine evLc_map (ys := xs.map g) hc (by simp) (by simpa using hn) fun i hi hj => ?_
  simpa using h _ (List.getElem_mem (by simpa using hi))
theorem c_stcl (hS : okS S) (Wt : Wf t o) : ∃ c : Nat → Nat, (∀ i j, i < t.length → j < t.length → (Zc c i = Zc c j ↔ Sim t o i t o j)) ∧ call (tab ts) G (k + 3) 42 [maD t o] S = some (.tup (nD ((List.range t.length).map (rep (Zc c) t.length))), S) := by
  obtain ⟨c, J, r, h1, h2, h3, h4⟩ := c_parted (k := k) (S := S) Wt
  refine ⟨c, h3, ?_⟩
  have hle := Wt.le
  rw [call_of T42 rfl]
  simp only [f_state_classes, b_state_classes, startA]
  have wk : walk false [.ref r] (S ++ J) = some ((List.range t.length).map fun i => D.int (c i : Nat)) := by
    show items (S ++ J) (.ref r) = _
    rw [items_ref h2]
    simp [nD, clL]
  have ck : stays false [.ref r] ((List.range t.length).map fun i => D.int (c i : Nat)) (S ++ J) = true := by
    simp only [stays, h2]
    have : nD (clL t.length c) = (List.range t.length).map fun i => D.int (c i : Nat) := by simp [nD, clL]
    rw [this]
    exact D.sames_refl _
  have l1 : evLc (stays false [.ref r] ((List.range t.length).map fun i => D.int (c i : Nat))) (lcBk (call (tab ts) G (k + 2)) G (.name 2) [] (.meth .index (.var 1) [(.var 2)]) [some (maD t o), some (.ref r), none])
      ((List.range t.length).map fun i => D.int (c i : Nat)) [] (S ++ J) = some ((List.range t.length).map (fun i => D.int (rep (Zc c) t.length i : Nat)), S ++ J) :=
    lc_chk (mk := fun i => D.int (c i : Nat)) (g := fun i => D.int (rep (Zc c) t.length i : Nat)) ck (by simp; unfold sizeLine; omega) fun i hi => by
      have hi := List.mem_range.mp hi
      have fd : dFind (S ++ J) (.ref r) (.int (c i : Nat)) = some (rep (Zc c) t.length i) := by
        rw [find_smp (deref_at h2) smps_nD.1 rfl (by simp [dep]) (by rw [smps_nD.2]; omega)]
        unfold clL
        rw [idx_nD]
        have hl := (Mo.rep_spec (c := Zc c) hi).1
        unfold rep at hl ⊢
        rw [List.findIdx?_eq_some_iff_findIdx_eq]
        exact ⟨by simpa using hl, rfl⟩
      have rv : recvOk .index (.ref r) (S ++ J) = true := recv_at h2
      have me : dMe .index (.ref r) [.int (c i : Nat)] (S ++ J) = some (.int (rep (Zc c) t.length i : Nat), S ++ J) := by
        simp only [dMe, fd]
        rfl
      simp [lcBk, bind_name, rv, me]
  have en : D.tup ((List.range t.length).map (fun i => D.int (rep (Zc c) t.length i : Nat))) = .tup (nD ((List.range t.length).map (rep (Zc c) t.length))) := by simp [nD]
  have tr := trunc_j (S := S) (J := J) (d := .tup (nD ((List.range t.length).map (rep (Zc c) t.length)))) (by simp [D.undr]) hS
  simp only [ss_cons, s_asg, e_call, es_cons, es_nil, e_ix, e_var, e_lit, List.getElem?_cons_zero, List.getElem?_cons_succ, ix_ma1, ix_ma2, Option.map_some, h4, bind_name, List.length_cons, List.length_nil, Nat.zero_add, Nat.reduceAdd, Nat.reduceLT, Nat.reduceSub, List.map_cons, List.map_nil, List.replicate_succ, List.replicate_zero, List.cons_append, List.nil_append, if_true, List.set_cons_zero, List.set_cons_succ, s_ret, e_bi, e_lc, wk, wipeA, l1, tp_lst, en, tr]
theorem c_joined (hS : okS S) (Wt : Wf t o) {c : Nat → Int} : call (tab ts) G (k + 3) 43 [maD t o, .tup (nD ((List.range t.length).map (rep c t.length)))] S = some (maD (Mo.canon (Mo.joined c t) o eqB 0).1 (Mo.canon (Mo.joined c t) o eqB 0).2, S) := by
  have hle := Wt.le
  have mio := c_mio (k := k) (S := S) hS (Mo.joined_wf (c := c) Wt)
  rw [call_of T43 rfl]
  simp only [f_with_states_joined, b_with_states_joined, startA]
  have ix : ∀ s, s < t.length → dIx S (.tup (nD ((List.range t.length).map (rep c t.length)))) (.int (s : Int)) = some (.int (rep c t.length s : Nat)) := fun s hs => by
    refine at_map (g := fun n : Nat => D.int (n : Int)) (l := (List.range t.length).map (rep c t.length)) ?_
    rw [List.getElem?_map, List.getElem?_range hs]
    rfl
  have wk : walk false [tbD t] S = some (t.map rwD) := rfl
  have st : ∀ xs, stays false [tbD t] xs = fun _ => true := fun xs => stays_tup
  have l1 : evLc (fun _ => true) (lcBk (call (tab ts) G (k + 2)) G (.name 6) [] (.bi .tuple [(.lc [7] (.name 7) false [(.var 6)] [] (.ix (.var 1) (.var 7)))]) [some (maD t o), some (.tup (nD ((List.range t.length).map (rep c t.length)))), some (.int 1), some (tbD t), some (otD o), none, none, none])
      (t.map rwD) [] S = some (t.map (fun p => rwD (rep c t.length p.1, rep c t.length p.2)), S) := lc_list (mk := rwD) (g := fun p : Nat × Nat => rwD (rep c t.length p.1, rep c t.length p.2)) (by unfold sizeLine; omega) fun p hp => by
    obtain ⟨i, hi⟩ := List.getElem?_of_mem hp
    have hil := (List.getElem?_eq_some_iff.mp hi).1
    have e := tb_get hil
    rw [hi] at e
    cases e
    have l2 : evLc (fun _ => true) (lcBk (call (tab ts) G (k + 2)) G (.name 7) [] (.ix (.var 1) (.var 7)) [some (maD t o), some (.tup (nD ((List.range t.length).map (rep c t.length)))), some (.int 1), some (tbD t), some (otD o), none, some (rwD (nx t i 0, nx t i 1)), none])
        ([nx t i 0, nx t i 1].map fun n : Nat => D.int (n : Int)) [] S = some ([.int (rep c t.length (nx t i 0) : Nat), .int (rep c t.length (nx t i 1) : Nat)], S) :=
      lc_rw (p := (nx t i 0, nx t i 1)) (g := fun n => .int (rep c t.length n : Nat)) (by simp [lcBk, bind_name, ix _ (Wt.lt i hil 0)]) (by simp [lcBk, bind_name, ix _ (Wt.lt i hil 1)])
    simp only [List.map_cons, List.map_nil] at l2
    simp [lcBk, bind_name, wipeA, l2, tp_lst]
    rfl
  have b0 : ∀ ρ : AEnv, Tg.bind (.tup [.name 2, .name 3, .name 4]) (maD t o) ρ = Tg.binds [.name 2, .name 3, .name 4] [.int 1, tbD t, otD o] ρ := fun ρ => by
    unfold maD
    rw [Tg.bind]
  have e1 : D.tup (t.map (fun p => rwD (rep c t.length p.1, rep c t.length p.2))) = tbD (Mo.joined c t) := by simp [tbD, Mo.joined]
  have e2 : D.tup [.int 1, tbD (Mo.joined c t), otD o] = maD (Mo.joined c t) o := rfl
  simp [sizeLine, b0, Tg.binds, bind_name, wk, st, wipeA, l1, tp_lst, e1, e2, mio]
theorem c_lmach (hS : okS S) (Wt : Wf t o) : call (tab ts) G (k + 4) 44 [maD t o] S = some (maD (spec t o 0).1 (spec t o 0).2, S) := by
  have W1 := Mo.canon_wf (f := 0) Wt Wt.pos Mo.eq_ok
  obtain ⟨t1, o1, e⟩ : ∃ t1 o1, Mo.canon t o eqB 0 = (t1, o1) := ⟨_, _, rfl⟩
  have mio := c_mio (k := k + 1) (S := S) hS Wt
  rw [e] at W1 mio
  obtain ⟨c, hc, h1⟩ := c_stcl (k := k) (S := S) hS W1
  have h2 := c_joined (k := k) (S := S) (c := Zc c) hS W1
  rw [Mo.prog_least Wt e hc] at h2
  rw [call_of T44 rfl]
  simp only [f_least_machine, b_least_machine, startA]
  dsimp only at mio h1 h2
  simp [bind_name, mio, h1, h2]
theorem c_least (hS : okS S) (Wt : Wf t o) : call (tab ts) G (k + 5) 274 [sqD t o] S = some (sqD (spec t o 0).1 (spec t o 0).2, S) := by
  have h := c_lmach (k := k) (S := S) hS Wt
  rw [call_of T274 rfl]
  simp only [f_least_sequence, b_least_sequence, startA]
  have e1 : D.tup [.int 1, tbD t, otD o] = maD t o := rfl
  have sl : ∀ t o, dSl S (maD t o) (some 1) none = some (.tup [tbD t, otD o]) := fun t o => by
    simp [dSl, maD, cut, HT.sIx]
  have b0 : ∀ (a b : D) (ρ : AEnv), Tg.bind (.tup [.name 1, .name 2]) (.tup [a, b]) ρ = Tg.binds [.name 1, .name 2] [a, b] ρ := fun a b ρ => by
    rw [Tg.bind]
  simp [sizeLine, e1, h, sl, b0, Tg.binds, bind_name]
  rfl
end Code

/-! M77k: words to states, kernels -/
namespace Code
open PySem Ab
open Mo (nx ot run bits val ibits Wf Sim spec Ws wst wsN WI Lst kw)
variable {k : Nat} {S J : Store} {t : Mo.Tab} {o : List Int}
theorem kAt_snoc {kvs : List (NestedKey × D)} {a b : NestedKey} {v : D} (h : kAt kvs a = none) : kAt (kvs ++ [(a, v)]) b = if a = b then some v else kAt kvs b := by
  unfold kAt at h ⊢
  rw [List.find?_append]
  by_cases e : a = b
  · subst e
    rw [Option.map_eq_none_iff] at h
    rw [h]
    simp
  · simp [e, List.find?_cons]
end Code

/-! M77l: kernels, pieces found -/
namespace Code
open PySem Ab
open Mo (nx ot run bits val ibits Wf Sim spec Ws wst wsN WI Lst kw)
variable {k : Nat} {S J : Store} {t : Mo.Tab} {o : List Int}
theorem otD_map (Wt : Wf t o) : iD o = (List.range t.length).map fun i => D.int (ot o i) := by
  apply List.ext_getElem?
  intro i
  by_cases hi : i < o.length
  · unfold iD
    rw [List.getElem?_map, List.getElem?_map, List.getElem?_range (by rw [← Wt.len]; exact hi), List.getElem?_eq_getElem hi]
    simp [ot, hi]
  · rw [List.getElem?_eq_none (by simpa [iD] using hi), List.getElem?_eq_none (by rw [List.length_map, List.length_range, ← Wt.len]; omega)]
/-! ### the first that is so -/
theorem for_find {α : Type} (mk : α → D) {body : D → AEnv → Store → RS} (p : α → Bool) (v : α → D) (I : AEnv → Prop) : ∀ {xs : List α} {ρ : AEnv}, I ρ →
    (∀ x ∈ xs, ∀ ρ, I ρ → (p x = true → ∃ ρ', body (mk x) ρ S = some (.ret (v x), ρ', S)) ∧ (p x = false → ∃ ρ', body (mk x) ρ S = some (.next, ρ', S) ∧ I ρ')) →
    ∃ ρ', evFor (fun _ => true) body (xs.map mk) ρ S = some (match xs.find? p with | some x => .ret (v x) | none => .next, ρ', S)
  | [], ρ, h, _ => ⟨ρ, by rw [List.map_nil, evFor, if_pos rfl]; rfl⟩
  | x :: xs, ρ, h, hb => by
    obtain ⟨h1, h2⟩ := hb x (by simp) ρ h
    rw [List.find?_cons]
    cases c : p x with
    | true =>
      obtain ⟨ρ', e⟩ := h1 c
      exact ⟨ρ', by rw [List.map_cons, evFor, if_pos rfl, e]⟩
    | false =>
      obtain ⟨ρ1, e, hI⟩ := h2 c
      obtain ⟨ρ2, e2⟩ := for_find mk p v I (xs := xs) hI fun y hy => hb y (by simp [hy])
      exact ⟨ρ2, by rw [List.map_cons, evFor, if_pos rfl, e]; exact e2⟩
end Code

/-! M77m: the law's least sequence: classes -/
namespace Code
open PySem Ab
open Mo (nx ot run bits val ibits Wf Sim spec Cls cnt num firsts)
variable {k : Nat} {S J : Store} {t : Mo.Tab} {o : List Int}
theorem T295 : tab ts 295 = some f__law_least := rfl
/-- where classes stand -/
def RC (W : Store) (n : Nat) (cd : D) (c : Nat → Int) : Prop := cd = .lst ((List.range n).map fun i => D.int (c i)) ∨ ∃ r, cd = .ref r ∧ W[r]? = some (.lst ((List.range n).map fun i => D.int (c i)))
theorem RC.app {W : Store} {n : Nat} {cd : D} {c : Nat → Int} (h : RC W n cd c) (J : Store) : RC (W ++ J) n cd c := by
  rcases h with h | ⟨r, h1, h2⟩
  · exact .inl h
  · exact .inr ⟨r, h1, by rw [List.getElem?_append_left (List.getElem?_eq_some_iff.mp h2).1]; exact h2⟩
theorem RC.ix {W : Store} {n : Nat} {cd : D} {c : Nat → Int} (h : RC W n cd c) {s : Nat} (hs : s < n) : dIx W cd (.int (s : Int)) = some (.int (c s)) := by
  have e : at_ ((List.range n).map fun i => D.int (c i)) (s : Int) = some (.int (c s)) := at_map (List.getElem?_range hs)
  rcases h with rfl | ⟨r, rfl, h2⟩
  · exact e
  · show ((items W (.ref r)).bind fun ds => at_ ds (s : Int)) = _
    rw [items_ref h2]
    exact e
def lkD (t : Mo.Tab) (c : Nat → Int) (i : Nat) : D := .tup [.int (c i), .int (c (nx t i 0)), .int (c (nx t i 1))]
def lkN (t : Mo.Tab) (c : Nat → Int) (i : Nat) : NestedKey := .tup [.num (c i), .num (c (nx t i 0)), .num (c (nx t i 1))]
theorem lkN_iff {c : Nat → Int} (i j : Nat) : lkN t c i = lkN t c j ↔ Mo.key t c i = Mo.key t c j := by
  simp [lkN, Mo.key]
theorem keys_lk (n : Nat) (c : Nat → Int) : Keys n true (lkD t c) (lkN t c) := ⟨fun i _ tt emp h => by
  have : tt = true := by rcases h with h | h; exact h; exact h.1
  subst this
  unfold dKey lkD lkN
  simp [D.nks, D.nk, NestedKey.depth, NestedKey.depthAll]⟩
def envL (t : Mo.Tab) (o : List Int) (x2 cd : Option D) (many : Nat) (x5 x9 x10 x11 x12 : Option D) : AEnv := [some (tbD t), some (otD o), x2, cd, some (.int (many : Nat)), x5, none, none, none, x9, x10, x11, x12, none, none]
def inB : List IS := [.asg (.name 12) (.tup [(.ix (.var 3) (.var 9)), (.ix (.var 3) (.ix (.ix (.var 0) (.var 9)) (.lit (.int 0)))), (.ix (.var 3) (.ix (.ix (.var 0) (.var 9)) (.lit (.int 1))))]),
    .ite (.din true (.var 12) (.var 10)) [.dput (.var 10) (.var 12) (.dlen (.var 10))] [],
    .ex (.meth .append (.var 11) [(.dget (.var 10) (.var 12))])]
theorem for_in {cf : CallF} (Wt : Wf t o) {W : Store} {c : Nat → Int} {cd : D} {x2 x5 x9 x12 : Option D} {many : Nat} (hc : RC W t.length cd c) :
    ∃ y9 y12, evFor (fun _ => true) (forF cf G (.name 9) inB) (natsD t.length) (envL t o x2 (some cd) many x5 x9 (some (.ref W.length)) (some (.ref (W.length + 1))) x12) (W ++ [.dic true [], .lst []]) =
      some (.next, envL t o x2 (some cd) many x5 y9 (some (.ref W.length)) (some (.ref (W.length + 1))) y12, cS W true (lkN t c) t.length t.length) := by
  have hle := Wt.le
  obtain ⟨ρ', S', h1, hS', y9, y12, hρ⟩ := evFor_inv (chk := fun _ => true) (body := forF cf G (.name 9) inB)
    (fun i ρ S' => S' = cS W true (lkN t c) t.length i ∧ ∃ y9 y12, ρ = envL t o x2 (some cd) many x5 y9 (some (.ref W.length)) (some (.ref (W.length + 1))) y12) (ds := natsD t.length) (n := 0) (ρ := envL t o x2 (some cd) many x5 x9 (some (.ref W.length)) (some (.ref (W.length + 1))) x12) (S := W ++ [.dic true [], .lst []]) (fun _ _ _ _ => rfl) ⟨rfl, x9, x12, rfl⟩ (fun i hi ρ S' ⟨hS', y9, y12, hρ⟩ => by
      have hi : i < t.length := by simpa [natsD] using hi
      rw [Nat.zero_add] at hS' ⊢
      subst hρ hS'
      refine ⟨envL t o x2 (some cd) many x5 (some (.int (i : Int))) (some (.ref W.length)) (some (.ref (W.length + 1))) (some (lkD t c i)), cS W true (lkN t c) t.length (i + 1), ?_, rfl, _, _, rfl⟩
      have en : (natsD t.length)[i]'(by simpa [natsD] using hi) = .int (i : Int) := by simp [natsD]
      have hc2 : RC (cS W true (lkN t c) t.length i) t.length cd c := hc.app _
      have st := num_step (cf := cf) (S := W) (keys_lk (t := t) t.length c) hi (by omega) (ρ := envL t o x2 (some cd) many x5 (some (.int (i : Int))) (some (.ref W.length)) (some (.ref (W.length + 1))) (some (lkD t c i))) (a := 10) (c := 11) (e := 12) rfl rfl rfl
      rw [en]
      have z3 : 3 ≤ sizeLine := by decide
      have asg : evS cf G (.asg (.name 12) (.tup [(.ix (.var 3) (.var 9)), (.ix (.var 3) (.ix (.ix (.var 0) (.var 9)) (.lit (.int 0)))), (.ix (.var 3) (.ix (.ix (.var 0) (.var 9)) (.lit (.int 1))))])) (envL t o x2 (some cd) many x5 (some (.int (i : Int))) (some (.ref W.length)) (some (.ref (W.length + 1))) y12) (cS W true (lkN t c) t.length i) =
          some (.next, envL t o x2 (some cd) many x5 (some (.int (i : Int))) (some (.ref W.length)) (some (.ref (W.length + 1))) (some (lkD t c i)), cS W true (lkN t c) t.length i) := by
        simp [envL, bind_name, hc2.ix hi, ix_tb hi, hc2.ix (Wt.lt i hi 0), hc2.ix (Wt.lt i hi 1), z3]
        rfl
      unfold forF
      have b9 : Tg.bind (.name 9) (.int (i : Int)) (envL t o x2 (some cd) many x5 y9 (some (.ref W.length)) (some (.ref (W.length + 1))) y12) = some (envL t o x2 (some cd) many x5 (some (.int (i : Int))) (some (.ref W.length)) (some (.ref (W.length + 1))) y12) := by
        simp [bind_name, envL]
      rw [b9]
      dsimp only
      unfold inB
      rw [ss_cons, asg]
      exact st)
  have hl : (natsD t.length).length = t.length := by simp [natsD]
  rw [hl, Nat.zero_add] at hS'
  subst hS' hρ
  exact ⟨y9, y12, h1⟩
def tuB : List IS := [.dnew 10, .new 11 (.lst []), .for_ (.name 9) true [(.bi .len [(.var 0)])] inB, .asg (.name 3) (.var 11), .ite (.cmp .Eq (.dlen (.var 10)) (.var 4)) [.brk] [], .asg (.name 4) (.dlen (.var 10))]
theorem turns {cf : CallF} (Wt : Wf t o) {x2 : Option D} : ∀ (ds : List D) (m : Nat) (c : Nat → Int) (many : Nat) (W : Store) (cd : D) (x5 x9 x10 x11 x12 : Option D), RC W t.length cd c → Cls t o c m → ((many = 0 ∧ m = 0) ∨ many = cnt c t.length) → m ≤ many → ds.length + m = t.length + 1 → S.length ≤ W.length →
    ∃ (c' : Nat → Int) (J' : Store) (r' : Nat) (many' : Nat) (y5 y9 y10 y11 y12 : Option D), evFor (fun _ => true) (forF cf G (.name 5) tuB) ds (envL t o x2 (some cd) many x5 x9 x10 x11 x12) W = some (.next, envL t o x2 (some (.ref r')) many' y5 y9 y10 y11 y12, W ++ J') ∧
      (W ++ J')[r']? = some (.lst ((List.range t.length).map fun i => D.int (c' i))) ∧ ∀ i j, i < t.length → j < t.length → (c' i = c' j ↔ Sim t o i t o j)
  | [], m, c, many, W, cd, x5, x9, x10, x11, x12, hc, C, hm, hmm, hl, hW => by
    have := Mo.firsts_le (ks := c) (n := t.length)
    simp only [List.length_nil, Nat.zero_add] at hl
    rcases hm with ⟨_, rfl⟩ | hm
    · omega
    · unfold cnt at hm
      omega
  | d :: ds, m, c, many, W, cd, x5, x9, x10, x11, x12, hc, C, hm, hmm, hl, hW => by
    have hle := Wt.le
    obtain ⟨y9, y12, h1⟩ := for_in (cf := cf) (x2 := x2) (x5 := some d) (x9 := x9) (x12 := x12) (many := many) Wt hc
    have C2 : Cls t o (fun i => (num (lkN t c) t.length i : Nat)) (m + 1) := fun i j hi hj => by
      rw [← C.key Wt hi hj, ← lkN_iff (t := t) (c := c) i j]
      show ((num (lkN t c) t.length i : Nat) : Int) = ((num (lkN t c) t.length j : Nat) : Int) ↔ _
      rw [Int.ofNat_inj]
      exact Mo.num_eq hi hj
    have cn : cnt (fun i => ((num (lkN t c) t.length i : Nat) : Int)) t.length = cnt (lkN t c) t.length := Mo.cnt_num
    have g2 : (cS W true (lkN t c) t.length t.length)[W.length + 1]? = some (.lst ((List.range t.length).map fun i => D.int (num (lkN t c) t.length i : Nat))) := by
      have : (cS W true (lkN t c) t.length t.length)[W.length + 1]? = some (.lst (nD ((List.range t.length).map (num (lkN t c) t.length)))) := g21
      rw [this]
      simp [nD]
    have dl : dicOf (cS W true (lkN t c) t.length t.length) (.ref W.length) = some (tkB true (firsts (lkN t c) t.length), dicO 0 (firsts (lkN t c) t.length)) := by
      simp only [dicOf, cS, g20]
    have b5 : Tg.bind (.name 5) d (envL t o x2 (some cd) many x5 x9 x10 x11 x12) = some (envL t o x2 (some cd) many (some d) x9 x10 x11 x12) := by
      simp [bind_name, envL]
    have wk : ∀ W, walk true [.int (t.length : Int)] W = some (natsD t.length) := fun W => walk_rg (by unfold sizeLine; omega)
    have z0 : 0 ≤ sizeLine := by decide
    have e0 : evS cf G (.dnew 10) (envL t o x2 (some cd) many (some d) x9 x10 x11 x12) W = some (.next, envL t o x2 (some cd) many (some d) x9 (some (.ref W.length)) x11 x12, W ++ [.dic true []]) := by
      simp [envL]
    have e1 : evS cf G (.new 11 (.lst [])) (envL t o x2 (some cd) many (some d) x9 (some (.ref W.length)) x11 x12) (W ++ [.dic true []]) = some (.next, envL t o x2 (some cd) many (some d) x9 (some (.ref W.length)) (some (.ref (W.length + 1))) x12, W ++ [.dic true [], .lst []]) := by
      simp [envL]
    have e2 : evS cf G (.for_ (.name 9) true [(.bi .len [(.var 0)])] inB) (envL t o x2 (some cd) many (some d) x9 (some (.ref W.length)) (some (.ref (W.length + 1))) x12) (W ++ [.dic true [], .lst []]) =
        some (.next, envL t o x2 (some cd) many (some d) y9 (some (.ref W.length)) (some (.ref (W.length + 1))) y12, cS W true (lkN t c) t.length t.length) := by
      have v0 : ∀ x9 x12, (envL t o x2 (some cd) many (some d) x9 (some (.ref W.length)) (some (.ref (W.length + 1))) x12)[0]? = some (some (tbD t)) := fun _ _ => rfl
      simp only [s_for, es_cons, es_nil, e_bi, e_var, v0, len_tb, Option.map_some, wk, stays_rg, h1]
    have e3 : evS cf G (.asg (.name 3) (.var 11)) (envL t o x2 (some cd) many (some d) y9 (some (.ref W.length)) (some (.ref (W.length + 1))) y12) (cS W true (lkN t c) t.length t.length) =
        some (.next, envL t o x2 (some (.ref (W.length + 1))) many (some d) y9 (some (.ref W.length)) (some (.ref (W.length + 1))) y12, cS W true (lkN t c) t.length t.length) := by
      simp [envL, bind_name]
    have v10 : (envL t o x2 (some (.ref (W.length + 1))) many (some d) y9 (some (.ref W.length)) (some (.ref (W.length + 1))) y12)[10]? = some (some (.ref W.length)) := rfl
    have v4 : (envL t o x2 (some (.ref (W.length + 1))) many (some d) y9 (some (.ref W.length)) (some (.ref (W.length + 1))) y12)[4]? = some (some (.int (many : Nat))) := rfl
    have app : ∀ J : Store, cS W true (lkN t c) t.length t.length ++ J = W ++ ([.dic (tkB true (firsts (lkN t c) t.length)) (dicO 0 (firsts (lkN t c) t.length)), .lst (nD ((List.range t.length).map (num (lkN t c) t.length)))] ++ J) := fun J => by
      unfold cS
      rw [List.append_assoc]
    by_cases h : cnt (lkN t c) t.length = many
    · have hcm : cnt c t.length = cnt (fun i => ((num (lkN t c) t.length i : Nat) : Int)) t.length := by
        rw [cn, h]
        rcases hm with ⟨rfl, rfl⟩ | hm
        · have := Mo.cnt_pos (ks := lkN t c) Wt.pos
          omega
        · exact hm.symm
      refine ⟨fun i => (num (lkN t c) t.length i : Nat), [.dic (tkB true (firsts (lkN t c) t.length)) (dicO 0 (firsts (lkN t c) t.length)), .lst (nD ((List.range t.length).map (num (lkN t c) t.length)))], W.length + 1, many, some d, y9, some (.ref W.length), some (.ref (W.length + 1)), y12, ?_, ?_, fun i j hi hj => C.done Wt C2 hcm hi hj⟩
      · rw [evFor, if_pos rfl]
        unfold forF
        rw [b5]
        dsimp only
        unfold tuB
        have ht : ((((firsts (lkN t c) t.length).length : Nat) : Int) = ((many : Nat) : Int)) := by
          unfold cnt at h
          omega
        simp only [ss_cons, e0, e1, e2, e3, s_ite, eT_cmp, e_dlen, e_var, v10, v4, dl, dicO_len, Option.map_some, cmp_eq, eq_int, ht, decide_true, s_brk]
        rfl
      · exact g2
    · have hmo : cnt c t.length ≤ cnt (fun i => ((num (lkN t c) t.length i : Nat) : Int)) t.length := C.mono C2
      have RC2 : RC (cS W true (lkN t c) t.length t.length) t.length (.ref (W.length + 1)) (fun i => ((num (lkN t c) t.length i : Nat) : Int)) := .inr ⟨_, rfl, g2⟩
      have hpos := Mo.cnt_pos (ks := lkN t c) Wt.pos
      obtain ⟨c', J', r', many', z5, z9, z10, z11, z12, i1, i2, i3⟩ := turns (cf := cf) (x2 := x2) Wt ds (m + 1) _ (cnt (lkN t c) t.length) (cS W true (lkN t c) t.length t.length) (.ref (W.length + 1)) (some d) y9 (some (.ref W.length)) (some (.ref (W.length + 1))) y12 RC2 C2 (.inr cn.symm) (by
          rcases hm with ⟨rfl, rfl⟩ | hm
          · omega
          · omega) (by simp only [List.length_cons] at hl; omega) (by simp [cS]; omega)
      refine ⟨c', [.dic (tkB true (firsts (lkN t c) t.length)) (dicO 0 (firsts (lkN t c) t.length)), .lst (nD ((List.range t.length).map (num (lkN t c) t.length)))] ++ J', r', many', z5, z9, z10, z11, z12, ?_, ?_, i3⟩
      · rw [evFor, if_pos rfl]
        unfold forF
        rw [b5]
        dsimp only
        have ht : ¬ ((((firsts (lkN t c) t.length).length : Nat) : Int) = ((many : Nat) : Int)) := by
          unfold cnt at h
          omega
        have e4 : evS cf G (.asg (.name 4) (.dlen (.var 10))) (envL t o x2 (some (.ref (W.length + 1))) many (some d) y9 (some (.ref W.length)) (some (.ref (W.length + 1))) y12) (cS W true (lkN t c) t.length t.length) =
            some (.next, envL t o x2 (some (.ref (W.length + 1))) (cnt (lkN t c) t.length) (some d) y9 (some (.ref W.length)) (some (.ref (W.length + 1))) y12, cS W true (lkN t c) t.length t.length) := by
          simp only [s_asg, e_dlen, e_var, v10, dl, dicO_len, Option.map_some]
          simp [envL, bind_name]
        have body : evSs cf G tuB (envL t o x2 (some cd) many (some d) x9 x10 x11 x12) W = some (.next, envL t o x2 (some (.ref (W.length + 1))) (cnt (lkN t c) t.length) (some d) y9 (some (.ref W.length)) (some (.ref (W.length + 1))) y12, cS W true (lkN t c) t.length t.length) := by
          unfold tuB
          simp only [ss_cons, e0, e1, e2, e3, s_ite, eT_cmp, e_dlen, e_var, v10, v4, dl, dicO_len, Option.map_some, cmp_eq, eq_int, ht, decide_false, ss_nil, e4]
        rw [body]
        dsimp only
        rw [← app]
        unfold forF at i1
        exact i1
      · rw [← app]
        exact i2
end Code

/-! M77n: the law's least sequence -/
namespace Code
open PySem Ab
open Mo (nx ot run bits val ibits Wf Sim spec Cls cnt num firsts push ixq)
variable {k : Nat} {S J W : Store} {t : Mo.Tab} {o : List Int}
theorem g30 {a b c : O} : (S ++ [a, b, c])[S.length]? = some a := by simp
theorem g31 {a b c : O} : (S ++ [a, b, c])[S.length + 1]? = some b := by
  rw [List.getElem?_append_right (by omega), Nat.add_sub_cancel_left]
  rfl
theorem g32 {a b c : O} : (S ++ [a, b, c])[S.length + 2]? = some c := by
  rw [List.getElem?_append_right (by omega), Nat.add_sub_cancel_left]
  rfl
theorem u30 {a b c d : O} : (S ++ [a, b, c]).set S.length d = S ++ [d, b, c] := by
  rw [List.set_append_right _ _ (Nat.le_refl _), Nat.sub_self]
  rfl
theorem u31 {a b c d : O} : (S ++ [a, b, c]).set (S.length + 1) d = S ++ [a, d, c] := by
  rw [List.set_append_right _ _ (by omega), Nat.add_sub_cancel_left]
  rfl
theorem u32 {a b c d : O} : (S ++ [a, b, c]).set (S.length + 2) d = S ++ [a, b, d] := by
  rw [List.set_append_right _ _ (by omega), Nat.add_sub_cancel_left]
  rfl
abbrev qC (c : Nat → Int) : Nat → Nat → Bool := fun x s => decide (c x = c s)
structure PL (pl : List (NestedKey × D)) (l : List Nat) (c : Nat → Int) : Prop where
  at_ : ∀ v : Int, kAt pl (.num v) = (l.findIdx? fun x => decide (c x = v)).map fun i => D.int (i : Nat)
  le : pl.length ≤ l.length
def st3 (W : Store) (l : List Nat) (pl : List (NestedKey × D)) (rs : List D) : Store := W ++ [.lst (nD l), .dic false pl, .lst rs]
def en3 (t : Mo.Tab) (o : List Int) (W : Store) (x2 cd x4 x5 x9 x10 x11 x12 x13 : Option D) : AEnv := [some (tbD t), some (otD o), x2, cd, x4, x5, some (.ref W.length), some (.ref (W.length + 1)), some (.ref (W.length + 2)), x9, x10, x11, x12, x13, none]
theorem PL.look {pl : List (NestedKey × D)} {l : List Nat} {c : Nat → Int} {rs : List D} (h : PL pl l c) (v : Int) : dicLook (st3 W l pl rs) (.ref (W.length + 1)) (.int v) = some ((l.findIdx? fun x => decide (c x = v)).map fun i => D.int (i : Nat)) := by
  have e : dicOf (st3 W l pl rs) (.ref (W.length + 1)) = some (false, pl) := by simp only [dicOf, st3, g31]
  unfold dicLook
  rw [e, ← h.at_ v]
  rfl
def wayB : List IS := [.ite (.din true (.ix (.var 3) (.var 13)) (.var 7)) [.dput (.var 7) (.ix (.var 3) (.var 13)) (.bi .len [(.var 6)]), .ex (.meth .append (.var 6) [(.var 13)])] []]
theorem way_step {cf : CallF} {n s : Nat} {c : Nat → Int} {cd : D} {pl : List (NestedKey × D)} {l : List Nat} {rs : List D} {x2 x4 x5 x9 x10 x11 x12 x13 : Option D} (hc : RC W n cd c) (hs : s < n) (P : PL pl l c) (hl : l.length ≤ 1000) :
    ∃ pl', PL pl' (push (qC c) l s) c ∧ forF cf G (.name 13) wayB (.int (s : Int)) (en3 t o W x2 (some cd) x4 x5 x9 x10 x11 x12 x13) (st3 W l pl rs) = some (.next, en3 t o W x2 (some cd) x4 x5 x9 x10 x11 x12 (some (.int (s : Int))), st3 W (push (qC c) l s) pl' rs) := by
  have b13 : Tg.bind (.name 13) (.int (s : Int)) (en3 t o W x2 (some cd) x4 x5 x9 x10 x11 x12 x13) = some (en3 t o W x2 (some cd) x4 x5 x9 x10 x11 x12 (some (.int (s : Int)))) := by
    simp [bind_name, en3]
  have ix : ∀ pl, dIx (st3 W l pl rs) cd (.int (s : Int)) = some (.int (c s)) := fun pl => (hc.app _).ix hs
  have lk := P.look (W := W) (rs := rs) (c s)
  have v3 : (en3 t o W x2 (some cd) x4 x5 x9 x10 x11 x12 (some (.int (s : Int))))[3]? = some (some cd) := rfl
  have v13 : (en3 t o W x2 (some cd) x4 x5 x9 x10 x11 x12 (some (.int (s : Int))))[13]? = some (some (.int (s : Int))) := rfl
  have v7 : (en3 t o W x2 (some cd) x4 x5 x9 x10 x11 x12 (some (.int (s : Int))))[7]? = some (some (.ref (W.length + 1))) := rfl
  have v6 : (en3 t o W x2 (some cd) x4 x5 x9 x10 x11 x12 (some (.int (s : Int))))[6]? = some (some (.ref W.length)) := rfl
  unfold push
  by_cases h : (l.any fun x => qC c x s) = true
  · rw [if_pos h]
    refine ⟨pl, P, ?_⟩
    obtain ⟨x, hx, hq⟩ := List.any_eq_true.mp h
    have hlt : l.findIdx (fun x => decide (c x = c s)) < l.length := List.findIdx_lt_length.mpr ⟨x, hx, hq⟩
    have hf : l.findIdx? (fun x => decide (c x = c s)) = some (l.findIdx (fun x => decide (c x = c s))) := by
      rw [List.findIdx?_eq_some_iff_findIdx_eq]
      exact ⟨hlt, rfl⟩
    rw [hf] at lk
    unfold forF
    rw [b13]
    dsimp only
    unfold wayB
    simp only [ss_cons, s_ite, eT_din, e_ix, e_var, v3, v13, v7, ix, lk, Option.map_some, Option.isSome_some, Bool.true_bne, Bool.not_true, ss_nil]
  · rw [if_neg h]
    have hno : ∀ x ∈ l, ¬ c x = c s := fun x hx e => h (List.any_eq_true.mpr ⟨x, hx, by simp [e]⟩)
    have hf : l.findIdx? (fun x => decide (c x = c s)) = none := by
      rw [List.findIdx?_eq_none_iff]
      intro x hx
      simpa using hno x hx
    rw [hf] at lk
    have k0 : kAt pl (.num (c s)) = none := by
      rw [P.at_, hf]
      rfl
    refine ⟨pl ++ [(.num (c s), .int (l.length : Nat))], ⟨fun v => ?_, by simp [P.le]⟩, ?_⟩
    · rw [kAt_snoc k0, List.findIdx?_append]
      by_cases e : c s = v
      · subst e
        rw [if_pos rfl, hf]
        simp [List.findIdx?_cons]
      · have c2 : ¬ (NestedKey.num (c s)) = .num v := fun z => e (by injection z)
        rw [if_neg c2, P.at_]
        have : List.findIdx? (fun x => decide (c x = v)) [s] = none := by simp [List.findIdx?_cons, e]
        rw [this]
        simp
    · have ln : dBi (st3 W l pl rs) .len [.ref W.length] = some (.int (l.length : Nat)) := by simp [dBi, items, st3, nD]
      have dp : dicPut (st3 W l pl rs) (.ref (W.length + 1)) (.int (c s)) (.int (l.length : Nat)) = some (st3 W l (pl ++ [(.num (c s), .int (l.length : Nat))]) rs) := by
        unfold dicPut st3
        dsimp only
        rw [g31]
        dsimp only
        have dk : dKey false pl.isEmpty (.int (c s)) = some (false, .num (c s)) := rfl
        rw [dk]
        dsimp only
        rw [if_pos (by have := P.le; unfold sizeLine; omega), u31]
        unfold kPut
        rw [k0]
        rfl
      have rv : ∀ pl, recvOk .append (.ref W.length) (st3 W l pl rs) = true := fun pl => recv_at g30
      have ap : ∀ pl, dMe .append (.ref W.length) [.int (s : Int)] (st3 W l pl rs) = some (.non, st3 W (l ++ [s]) pl rs) := fun pl => by
        unfold st3
        rw [app_at g30 (by simp [nD]; unfold sizeLine; omega), u30]
        simp [nD]
      unfold forF
      rw [b13]
      dsimp only
      unfold wayB
      simp only [ss_cons, s_ite, eT_din, e_ix, e_var, v3, v13, v7, ix, lk, Option.map_some, Option.map_none, Option.isSome_none, Bool.true_bne, Bool.not_false, s_dput, e_bi, es_cons, es_nil, v6, ln, dp, ss_nil, s_ex, e_meth, rv, if_true, ap]
def kB : List IS := [.ite (.cmp .Lt (.var 9) (.bi .len [(.var 6)])) [.for_ (.name 13) false [(.ix (.var 0) (.ix (.var 6) (.var 9)))] wayB,
    .ex (.meth .append (.var 8) [(.bi .tuple [(.lc [13] (.name 13) false [(.ix (.var 0) (.ix (.var 6) (.var 9)))] [] (.dget (.var 7) (.ix (.var 3) (.var 13))))])])] []]
def rsOf (t : Mo.Tab) (q : Nat → Nat → Bool) (l : List Nat) (a : Nat) : List D := (l.take a).map fun s => rwD (ixq q l (nx t s 0), ixq q l (nx t s 1))
theorem k_step {cf : CallF} (Wt : Wf t o) {f i : Nat} {c : Nat → Int} {cd : D} {pl : List (NestedKey × D)} {l : List Nat} {x2 x4 x5 x9 x10 x11 x12 x13 : Option D} (hc : RC W t.length cd c) (P : PL pl l c) (F : Mo.Fd t (qC c) f l i) (hi : i < l.length) :
    ∃ pl' y13, PL pl' (Mo.stp t (qC c) (l, i)).1 c ∧ forF cf G (.name 9) kB (.int (i : Int)) (en3 t o W x2 (some cd) x4 x5 x9 x10 x11 x12 x13) (st3 W l pl (rsOf t (qC c) l i)) =
      some (.next, en3 t o W x2 (some cd) x4 x5 (some (.int (i : Int))) x10 x11 x12 y13, st3 W (Mo.stp t (qC c) (l, i)).1 pl' (rsOf t (qC c) (Mo.stp t (qC c) (l, i)).1 (i + 1))) := by
  have hle := Wt.le
  have rf : ∀ s, qC c s s = true := fun s => by simp
  have e : l[i]? = some l[i] := List.getElem?_eq_getElem hi
  have hx := F.lt _ (List.getElem_mem hi)
  have hll := Mo.fd_len rf F
  obtain ⟨F1, _, _⟩ := F.snoc rf e (d := 0) (by omega) (Wt.lt _ hx 0)
  have hl1 := Mo.fd_len rf F1
  have F2 := F.step Wt.lt rf
  have hl2 := Mo.fd_len rf F2
  rw [Mo.stp_some e] at F2 hl2 ⊢
  obtain ⟨x, hxd⟩ : ∃ x, x = l[i] := ⟨_, rfl⟩
  rw [← hxd] at e hx F1 hl1 F2 hl2 ⊢
  obtain ⟨m1, p1⟩ := Mo.push_pre (q := qC c) l (nx t x 0)
  obtain ⟨m2, p2⟩ := Mo.push_pre (q := qC c) (push (qC c) l (nx t x 0)) (nx t x 1)
  obtain ⟨pl1, P1, s1⟩ := way_step (t := t) (o := o) (cf := cf) (s := nx t x 0) (rs := rsOf t (qC c) l i) (x2 := x2) (x4 := x4) (x5 := x5) (x9 := some (.int (i : Int))) (x10 := x10) (x11 := x11) (x12 := x12) (x13 := x13) hc (Wt.lt x hx 0) P (by omega)
  obtain ⟨pl2, P2, s2⟩ := way_step (t := t) (o := o) (cf := cf) (s := nx t x 1) (rs := rsOf t (qC c) l i) (x2 := x2) (x4 := x4) (x5 := x5) (x9 := some (.int (i : Int))) (x10 := x10) (x11 := x11) (x12 := x12) (x13 := some (.int (nx t x 0 : Nat))) hc (Wt.lt x hx 1) P1 (by omega)
  obtain ⟨l2, hl2d⟩ : ∃ l2, l2 = push (qC c) (push (qC c) l (nx t x 0)) (nx t x 1) := ⟨_, rfl⟩
  rw [← hl2d] at F2 hl2 P2 s2 p2 ⊢
  have pre : l2 = l ++ (m1 ++ m2) := by rw [p2, p1, List.append_assoc]
  have e2 : l2[i]? = some x := by
    rw [pre, List.getElem?_append_left hi]
    exact e
  refine ⟨pl2, some (.int (nx t x 1 : Nat)), P2, ?_⟩
  have b9 : Tg.bind (.name 9) (.int (i : Int)) (en3 t o W x2 (some cd) x4 x5 x9 x10 x11 x12 x13) = some (en3 t o W x2 (some cd) x4 x5 (some (.int (i : Int))) x10 x11 x12 x13) := by
    simp [bind_name, en3]
  have ln : ∀ pl rs, dBi (st3 W l pl rs) .len [.ref W.length] = some (.int (l.length : Nat)) := fun pl rs => by simp [dBi, items, st3, nD]
  have ixf : ∀ (l : List Nat) pl rs, l[i]? = some x → dIx (st3 W l pl rs) (.ref W.length) (.int (i : Int)) = some (.int (x : Nat)) := fun l pl rs e => by
    show ((items (st3 W l pl rs) (.ref W.length)).bind fun ds => at_ ds (i : Int)) = _
    rw [items_ref (show (st3 W l pl rs)[W.length]? = _ from g30)]
    exact at_map e
  have hlt : ((i : Nat) : Int) < ((l.length : Nat) : Int) := by omega
  have wk : ∀ S : Store, walk false [rwD (nx t x 0, nx t x 1)] S = some [.int (nx t x 0 : Nat), .int (nx t x 1 : Nat)] := fun S => rfl
  have tks : rsOf t (qC c) l2 i = rsOf t (qC c) l i := by
    unfold rsOf
    rw [pre, List.take_append_of_le_length (by omega)]
    refine List.map_congr_left fun s hs => ?_
    obtain ⟨j, hj⟩ := List.getElem?_of_mem hs
    rw [List.getElem?_take] at hj
    split at hj
    · rename_i hji
      rw [Mo.ixq_grow (F.cl j s hji hj 0 (by omega)), Mo.ixq_grow (F.cl j s hji hj 1 (by omega))]
    · cases hj
  have rs2 : rsOf t (qC c) l2 (i + 1) = rsOf t (qC c) l i ++ [rwD (ixq (qC c) l2 (nx t x 0), ixq (qC c) l2 (nx t x 1))] := by
    rw [← tks]
    unfold rsOf
    rw [List.take_succ, e2, List.map_append]
    rfl
  have lkv : ∀ d, d ≤ 1 → dicLook (st3 W l2 pl2 (rsOf t (qC c) l i)) (.ref (W.length + 1)) (.int (c (nx t x d))) = some (some (.int (ixq (qC c) l2 (nx t x d) : Nat))) := fun d hd => by
    obtain ⟨y, hy, hq⟩ := F2.cl i x (by omega) e2 d hd
    have hlt2 : l2.findIdx (fun z => decide (c z = c (nx t x d))) < l2.length := List.findIdx_lt_length.mpr ⟨y, hy, hq⟩
    have hf : l2.findIdx? (fun z => decide (c z = c (nx t x d))) = some (l2.findIdx (fun z => decide (c z = c (nx t x d)))) := by
      rw [List.findIdx?_eq_some_iff_findIdx_eq]
      exact ⟨hlt2, rfl⟩
    rw [P2.look, hf]
    rfl
  have rcx : ∀ s, s < t.length → dIx (st3 W l2 pl2 (rsOf t (qC c) l i)) cd (.int (s : Int)) = some (.int (c s)) := fun s hs => (hc.app _).ix hs
  have v0 : ∀ y, (en3 t o W x2 (some cd) x4 x5 (some (.int (i : Int))) x10 x11 x12 y)[0]? = some (some (tbD t)) := fun y => rfl
  have v6 : ∀ y, (en3 t o W x2 (some cd) x4 x5 (some (.int (i : Int))) x10 x11 x12 y)[6]? = some (some (.ref W.length)) := fun y => rfl
  have v8 : ∀ y, (en3 t o W x2 (some cd) x4 x5 (some (.int (i : Int))) x10 x11 x12 y)[8]? = some (some (.ref (W.length + 2))) := fun y => rfl
  have v9 : ∀ y, (en3 t o W x2 (some cd) x4 x5 (some (.int (i : Int))) x10 x11 x12 y)[9]? = some (some (.int (i : Int))) := fun y => rfl
  have l3 : evLc (fun _ => true) (lcBk cf G (.name 13) [] (.dget (.var 7) (.ix (.var 3) (.var 13))) (en3 t o W x2 (some cd) x4 x5 (some (.int (i : Int))) x10 x11 x12 none)) ([nx t x 0, nx t x 1].map fun n : Nat => D.int (n : Int)) [] (st3 W l2 pl2 (rsOf t (qC c) l i)) =
      some ([.int (ixq (qC c) l2 (nx t x 0) : Nat), .int (ixq (qC c) l2 (nx t x 1) : Nat)], st3 W l2 pl2 (rsOf t (qC c) l i)) :=
    lc_rw (p := (nx t x 0, nx t x 1)) (g := fun n => .int (ixq (qC c) l2 n : Nat)) (by simp [lcBk, bind_name, en3, rcx _ (Wt.lt x hx 0), lkv 0 (by omega)]) (by simp [lcBk, bind_name, en3, rcx _ (Wt.lt x hx 1), lkv 1 (by omega)])
  simp only [List.map_cons, List.map_nil] at l3
  have wp : ∀ y, wipeA (en3 t o W x2 (some cd) x4 x5 (some (.int (i : Int))) x10 x11 x12 y) [13] = en3 t o W x2 (some cd) x4 x5 (some (.int (i : Int))) x10 x11 x12 none := fun y => by
    simp [wipeA, en3]
  have rv : recvOk .append (.ref (W.length + 2)) (st3 W l2 pl2 (rsOf t (qC c) l i)) = true := recv_at g32
  have ap : ∀ d, dMe .append (.ref (W.length + 2)) [d] (st3 W l2 pl2 (rsOf t (qC c) l i)) = some (.non, st3 W l2 pl2 (rsOf t (qC c) l i ++ [d])) := fun d => by
    unfold st3
    rw [app_at g32 (by simp [rsOf]; unfold sizeLine; omega), u32]
  have er : D.tup [.int (ixq (qC c) l2 (nx t x 0) : Nat), .int (ixq (qC c) l2 (nx t x 1) : Nat)] = rwD (ixq (qC c) l2 (nx t x 0), ixq (qC c) l2 (nx t x 1)) := rfl
  unfold forF
  rw [b9]
  dsimp only
  unfold kB
  unfold forF at s1 s2
  simp only [ss_cons, s_ite, eT_cmp, e_var, e_bi, es_cons, es_nil, v9, v6, ln, Option.map_some, cmp_lt, hlt, decide_true, s_for, e_ix, v0, ixf _ _ _ e, ix_tb hx, wk, stays_rw, evFor, if_true, forF, s1, s2, s_ex, e_meth, v8, rv, e_lc, ixf _ _ _ e2, wp, l3, tp_lst, er, ap, ss_nil, rs2]
end Code

/-! M77o: the law's least sequence, whole -/
namespace Code
open PySem Ab
open Mo (nx ot run bits val ibits Wf Sim spec Cls cnt num firsts push ixq)
variable {k : Nat} {S J W : Store} {t : Mo.Tab} {o : List Int}
theorem for_k {cf : CallF} (Wt : Wf t o) {f : Nat} (hf : f < t.length) {c : Nat → Int} {cd : D} {x2 x4 x5 x9 x10 x11 x12 x13 : Option D} (hc : RC W t.length cd c) :
    ∃ l pl a y9 y13, Mo.itr t (qC c) t.length ([f], 0) = (l, a) ∧ evFor (fun _ => true) (forF cf G (.name 9) kB) (natsD t.length) (en3 t o W x2 (some cd) x4 x5 x9 x10 x11 x12 x13) (st3 W [f] [(.num (c f), .int 0)] []) =
      some (.next, en3 t o W x2 (some cd) x4 x5 y9 x10 x11 x12 y13, st3 W l pl (rsOf t (qC c) l a)) := by
  have rf : ∀ s, qC c s s = true := fun s => by simp
  obtain ⟨F0, _⟩ := Mo.fnd_closed (q := qC c) (f := f) Wt hf rf
  obtain ⟨ρ', S', h1, l, a, pl, h2, h3, h4, h5, y9, y13, hρ, hS'⟩ := evFor_inv (chk := fun _ => true) (body := forF cf G (.name 9) kB)
    (fun i ρ S' => ∃ l a pl, Mo.itr t (qC c) i ([f], 0) = (l, a) ∧ (a = i ∨ l.length ≤ a) ∧ a ≤ i ∧ PL pl l c ∧ ∃ y9 y13, ρ = en3 t o W x2 (some cd) x4 x5 y9 x10 x11 x12 y13 ∧ S' = st3 W l pl (rsOf t (qC c) l a))
    (ds := natsD t.length) (n := 0) (ρ := en3 t o W x2 (some cd) x4 x5 x9 x10 x11 x12 x13) (S := st3 W [f] [(.num (c f), .int 0)] []) (fun _ _ _ _ => rfl) ⟨[f], 0, [(.num (c f), .int 0)], rfl, .inl rfl, Nat.le_refl _, ⟨fun v => by
        by_cases e : c f = v
        · subst e
          simp [kAt, List.findIdx?_cons]
        · have c2 : ¬ (NestedKey.num (c f)) = .num v := fun z => e (by injection z)
          simp [kAt, List.find?_cons, c2, List.findIdx?_cons, e], by simp⟩, x9, x13, rfl, rfl⟩ (fun i hi ρ S' ⟨l, a, pl, h2, h3, h4, h5, y9, y13, hρ, hS'⟩ => by
      have hi : i < t.length := by simpa [natsD] using hi
      rw [Nat.zero_add] at *
      subst hρ hS'
      have en : (natsD t.length)[i]'(by simpa [natsD] using hi) = .int (i : Int) := by simp [natsD]
      rw [en]
      have Fi := (Mo.Fd.itr Wt.lt rf i F0).1
      rw [h2] at Fi
      have hs : Mo.itr t (qC c) (i + 1) ([f], 0) = Mo.stp t (qC c) (l, a) := by rw [Mo.itr_last, h2]
      by_cases h : i < l.length
      · have ea : a = i := by omega
        subst ea
        obtain ⟨pl', y13', P', e⟩ := k_step (W := W) (o := o) (cf := cf) (x2 := x2) (x4 := x4) (x5 := x5) (x9 := y9) (x10 := x10) (x11 := x11) (x12 := x12) (x13 := y13) Wt hc h5 Fi h
        have e2 : (Mo.stp t (qC c) (l, a)).2 = a + 1 := by
          rw [Mo.stp_some (List.getElem?_eq_getElem h)]
        exact ⟨_, _, e, (Mo.stp t (qC c) (l, a)).1, a + 1, pl', by rw [hs, ← e2], .inl rfl, Nat.le_refl _, P', _, y13', rfl, rfl⟩
      · have hla : l.length ≤ a := by omega
        rw [Mo.stp_end hla] at hs
        refine ⟨en3 t o W x2 (some cd) x4 x5 (some (.int (i : Int))) x10 x11 x12 y13, _, ?_, l, a, pl, hs, .inr hla, by omega, h5, some (.int (i : Int)), y13, rfl, rfl⟩
        have b9 : Tg.bind (.name 9) (.int (i : Int)) (en3 t o W x2 (some cd) x4 x5 y9 x10 x11 x12 y13) = some (en3 t o W x2 (some cd) x4 x5 (some (.int (i : Int))) x10 x11 x12 y13) := by
          simp [bind_name, en3]
        have ln : dBi (st3 W l pl (rsOf t (qC c) l a)) .len [.ref W.length] = some (.int (l.length : Nat)) := by simp [dBi, items, st3, nD]
        have hlt : ¬ ((i : Nat) : Int) < ((l.length : Nat) : Int) := by omega
        have v6 : (en3 t o W x2 (some cd) x4 x5 (some (.int (i : Int))) x10 x11 x12 y13)[6]? = some (some (.ref W.length)) := rfl
        have v9 : (en3 t o W x2 (some cd) x4 x5 (some (.int (i : Int))) x10 x11 x12 y13)[9]? = some (some (.int (i : Int))) := rfl
        unfold forF
        rw [b9]
        dsimp only
        unfold kB
        simp only [ss_cons, s_ite, eT_cmp, e_var, e_bi, es_cons, es_nil, v9, v6, ln, Option.map_some, cmp_lt, hlt, decide_false, ss_nil])
  have hl : (natsD t.length).length = t.length := by simp [natsD]
  rw [hl, Nat.zero_add] at h2
  subst hρ hS'
  exact ⟨l, pl, a, y9, y13, h2, h1⟩
theorem c_lleast (hS : okS S) (Wt : Wf t o) {f : Nat} (hf : f < t.length) : call (tab ts) G (k + 1) 295 [tbD t, otD o, .int (f : Int)] S = some (sqD (spec t o f).1 (spec t o f).2, S) := by
  have hle := Wt.le
  obtain ⟨c, J1, r, many, y5, y9, y10, y11, y12, h1, h2, h3⟩ := turns (cf := call (tab ts) G k) (S := S) (x2 := some (.int (f : Int))) Wt (natsD (t.length + 1)) 0 (ot o) 0 S (.lst (iD o)) none none none none none (.inl (by rw [otD_map Wt])) Cls.zero (.inl ⟨rfl, rfl⟩) (Nat.le_refl _) (by simp [natsD]) (Nat.le_refl _)
  obtain ⟨W, hW⟩ : ∃ W, W = S ++ J1 := ⟨_, rfl⟩
  rw [← hW] at h1 h2
  have hc : RC W t.length (.ref r) c := .inr ⟨r, rfl, h2⟩
  obtain ⟨l, pl, a, z9, z13, e1, e2⟩ := for_k (cf := call (tab ts) G k) (W := W) (o := o) (x2 := some (.int (f : Int))) (x4 := some (.int (many : Nat))) (x5 := y5) (x9 := y9) (x10 := y10) (x11 := y11) (x12 := y12) (x13 := none) Wt hf hc
  have rf : ∀ s, qC c s s = true := fun s => by simp
  obtain ⟨t1, t2⟩ := Mo.fnd_turns (q := qC c) Wt hf rf
  rw [e1] at t1 t2
  dsimp only at t1 t2
  have F := Mo.fnd_all (o := o) (q := qC c) Wt hf rf
  rw [← t1] at F
  have cs : Mo.canon t o (qC c) f = spec t o f := Mo.canon_spec Wt hf fun x s hx hs => by
    rw [decide_eq_true_iff]
    exact h3 x s hx hs
  have ra : rsOf t (qC c) l a = l.map fun s => rwD (ixq (qC c) l (nx t s 0), ixq (qC c) l (nx t s 1)) := by
    unfold rsOf
    rw [List.take_of_length_le t2]
  have wk1 : ∀ S : Store, walk true [.int ((t.length : Int) + 1)] S = some (natsD (t.length + 1)) := fun S => by
    have := walk_rg (S := S) (n := t.length + 1) (by unfold sizeLine; omega)
    rw [← this]
    simp
  have wk2 : ∀ S : Store, walk true [.int (t.length : Int)] S = some (natsD t.length) := fun S => walk_rg (by unfold sizeLine; omega)
  have z1 : 1 ≤ sizeLine := by decide
  have z0 : 0 ≤ sizeLine := by decide
  have z2 : 2 ≤ sizeLine := by decide
  have s0 : startA 15 [tbD t, otD o, .int (f : Int)] = [some (tbD t), some (otD o), some (.int (f : Int)), none, none, none, none, none, none, none, none, none, none, none, none] := rfl
  have a1 : evS (call (tab ts) G k) G (.asg (.name 3) (.list1 (.var 1))) [some (tbD t), some (otD o), some (.int (f : Int)), none, none, none, none, none, none, none, none, none, none, none, none] S = some (.next, [some (tbD t), some (otD o), some (.int (f : Int)), some (.lst (iD o)), none, none, none, none, none, none, none, none, none, none, none], S) := by
    have : items S (otD o) = some (iD o) := rfl
    simp [bind_name, this]
  have a2 : evS (call (tab ts) G k) G (.asg (.name 4) (.lit (.int 0))) [some (tbD t), some (otD o), some (.int (f : Int)), some (.lst (iD o)), none, none, none, none, none, none, none, none, none, none, none] S = some (.next, envL t o (some (.int (f : Int))) (some (.lst (iD o))) 0 none none none none none, S) := by
    simp [bind_name, envL]
  have a3 : evS (call (tab ts) G k) G (.for_ (.name 5) true [(.bin .Add (.bi .len [(.var 0)]) (.lit (.int 1)))] tuB) (envL t o (some (.int (f : Int))) (some (.lst (iD o))) 0 none none none none none) S = some (.next, envL t o (some (.int (f : Int))) (some (.ref r)) many y5 y9 y10 y11 y12, W) := by
    have v0 : (envL t o (some (.int (f : Int))) (some (.lst (iD o))) 0 none none none none none)[0]? = some (some (tbD t)) := rfl
    simp only [s_for, es_cons, es_nil, e_bin, e_bi, e_var, e_lit, v0, len_tb, Option.map_some, bin_int, dInt_add, wk1, stays_rg, h1]
  have a4 : evS (call (tab ts) G k) G (.new 6 (.lst [(.var 2)])) (envL t o (some (.int (f : Int))) (some (.ref r)) many y5 y9 y10 y11 y12) W = some (.next, [some (tbD t), some (otD o), some (.int (f : Int)), some (.ref r), some (.int (many : Nat)), y5, some (.ref W.length), none, none, y9, y10, y11, y12, none, none], W ++ [.lst [.int (f : Int)]]) := by
    simp [envL, z1]
  have a5 : evS (call (tab ts) G k) G (.ddisp 7 (.ix (.var 3) (.var 2)) (.lit (.int 0))) [some (tbD t), some (otD o), some (.int (f : Int)), some (.ref r), some (.int (many : Nat)), y5, some (.ref W.length), none, none, y9, y10, y11, y12, none, none] (W ++ [.lst [.int (f : Int)]]) =
      some (.next, [some (tbD t), some (otD o), some (.int (f : Int)), some (.ref r), some (.int (many : Nat)), y5, some (.ref W.length), some (.ref (W.length + 1)), none, y9, y10, y11, y12, none, none], W ++ [.lst [.int (f : Int)], .dic false [(.num (c f), .int 0)]]) := by
    have ix : dIx (W ++ [.lst [.int (f : Int)]]) (.ref r) (.int (f : Int)) = some (.int (c f)) := (hc.app _).ix hf
    have dk : dKey true true (.int (c f)) = some (false, .num (c f)) := rfl
    simp [ix, dk]
  have a6 : evS (call (tab ts) G k) G (.new 8 (.lst [])) [some (tbD t), some (otD o), some (.int (f : Int)), some (.ref r), some (.int (many : Nat)), y5, some (.ref W.length), some (.ref (W.length + 1)), none, y9, y10, y11, y12, none, none] (W ++ [.lst [.int (f : Int)], .dic false [(.num (c f), .int 0)]]) =
      some (.next, en3 t o W (some (.int (f : Int))) (some (.ref r)) (some (.int (many : Nat))) y5 y9 y10 y11 y12 none, st3 W [f] [(.num (c f), .int 0)] []) := by
    simp [en3, st3, nD]
  have a7 : evS (call (tab ts) G k) G (.for_ (.name 9) true [(.bi .len [(.var 0)])] kB) (en3 t o W (some (.int (f : Int))) (some (.ref r)) (some (.int (many : Nat))) y5 y9 y10 y11 y12 none) (st3 W [f] [(.num (c f), .int 0)] []) =
      some (.next, en3 t o W (some (.int (f : Int))) (some (.ref r)) (some (.int (many : Nat))) y5 z9 y10 y11 y12 z13, st3 W l pl (rsOf t (qC c) l a)) := by
    have v0 : (en3 t o W (some (.int (f : Int))) (some (.ref r)) (some (.int (many : Nat))) y5 y9 y10 y11 y12 none)[0]? = some (some (tbD t)) := rfl
    simp only [s_for, es_cons, es_nil, e_bi, e_var, v0, len_tb, Option.map_some, wk2, stays_rg, e2]
  have gl0 : (st3 W l pl (rsOf t (qC c) l a))[W.length]? = some (.lst (nD l)) := g30
  have gl2 : (st3 W l pl (rsOf t (qC c) l a))[W.length + 2]? = some (.lst (rsOf t (qC c) l a)) := g32
  have tp8 : dBi (st3 W l pl (rsOf t (qC c) l a)) .tuple [.ref (W.length + 2)] = some (.tup (rsOf t (qC c) l a)) := by
    simp only [dBi, items_ref gl2, Option.map_some]
  have wl : walk false [.ref W.length] (st3 W l pl (rsOf t (qC c) l a)) = some (l.map fun n : Nat => D.int (n : Int)) := by
    show items (st3 W l pl (rsOf t (qC c) l a)) (.ref W.length) = _
    rw [items_ref gl0]
    rfl
  have sl : stays false [.ref W.length] (l.map fun n : Nat => D.int (n : Int)) (st3 W l pl (rsOf t (qC c) l a)) = true := by
    simp only [stays, gl0]
    exact D.sames_refl _
  have l4 : evLc (stays false [.ref W.length] (l.map fun n : Nat => D.int (n : Int))) (lcBk (call (tab ts) G k) G (.name 14) [] (.ix (.var 1) (.var 14)) (en3 t o W (some (.int (f : Int))) (some (.ref r)) (some (.int (many : Nat))) y5 z9 y10 y11 y12 z13)) (l.map fun n : Nat => D.int (n : Int)) [] (st3 W l pl (rsOf t (qC c) l a)) =
      some (l.map (fun s => D.int (ot o s)), st3 W l pl (rsOf t (qC c) l a)) := lc_chk (mk := fun n : Nat => D.int (n : Int)) (g := fun s => D.int (ot o s)) sl (by have := F.le; unfold sizeLine; omega) fun s hs => by
    have hso : s < o.length := by rw [Wt.len]; exact F.lt s hs
    simp [lcBk, bind_name, en3, ix_ot hso]
  have wp : wipeA (en3 t o W (some (.int (f : Int))) (some (.ref r)) (some (.int (many : Nat))) y5 z9 y10 y11 y12 z13) [14] = en3 t o W (some (.int (f : Int))) (some (.ref r)) (some (.int (many : Nat))) y5 z9 y10 y11 y12 z13 := by
    simp [wipeA, en3]
  have fin : D.tup [.tup (rsOf t (qC c) l a), .tup (l.map (fun s => D.int (ot o s)))] = sqD (spec t o f).1 (spec t o f).2 := by
    rw [ra, ← cs, Mo.canon_eq, ← t1]
    simp [sqD, tbD, otD, iD]
  have tr : trunc S.length (sqD (spec t o f).1 (spec t o f).2) (st3 W l pl (rsOf t (qC c) l a)) = (sqD (spec t o f).1 (spec t o f).2, S) := by
    unfold st3
    rw [hW, List.append_assoc]
    exact trunc_j undr_sq hS
  have v8 : (en3 t o W (some (.int (f : Int))) (some (.ref r)) (some (.int (many : Nat))) y5 z9 y10 y11 y12 z13)[8]? = some (some (.ref (W.length + 2))) := rfl
  have v6 : (en3 t o W (some (.int (f : Int))) (some (.ref r)) (some (.int (many : Nat))) y5 z9 y10 y11 y12 z13)[6]? = some (some (.ref W.length)) := rfl
  rw [call_of T295 rfl]
  unfold tuB inB at a3
  unfold kB wayB at a7
  simp only [f__law_least, b__law_least]
  rw [show (["table", "outs", "first", "classes", "many", "turn", "found", "places", "rows", "k", "numbers", "later", "key", "way", "state"] : List Str).length = 15 from rfl, s0]
  simp only [ss_cons, a1, a2, a3, a4, a5, a6, a7, s_ret, e_tup, es_cons, es_nil, e_bi, e_var, v8, tp8, Option.map_some, e_lc, v6, wl, wp, l4, tp_lst, List.length_cons, List.length_nil, Nat.zero_add, Nat.reduceAdd, z2, if_true, fin, tr]
end Code

/-! M77p: the same; begun; words found by the law -/
namespace Code
open PySem Ab
open Mo (nx ot run bits val ibits Wf Sim spec Ws wst wsN WI Lst kw shf bgT bgO)
variable {k : Nat} {S J W : Store} {t : Mo.Tab} {o : List Int}
/-! ### the same -/
mutual
def pl : D → Bool
  | .int _ => true
  | .bl _ => true
  | .non => true
  | .tup ds => decide (ds.length ≤ sizeLine) && pls ds
  | _ => false
def pls : List D → Bool
  | [] => true
  | d :: ds => pl d && pls ds
end
theorem tup_tupF (ds : List D) : D.tup ds = tupF ds.length fun i => (ds[i]?).getD .non := by
  unfold tupF
  congr 1
  apply List.ext_getElem?
  intro i
  by_cases hi : i < ds.length
  · rw [List.getElem?_map, List.getElem?_range hi]
    simp [hi]
  · rw [List.getElem?_eq_none (by omega), List.getElem?_eq_none (by simpa using hi)]
mutual
theorem plain_of : ∀ {d : D} {n : Nat}, pl d = true → dep d ≤ n → plainD n d
  | .int i, n, _, _ => .int i
  | .bl i, n, _, _ => .bl i
  | .non, n, _, _ => .non
  | .tup ds, 0, _, h => by simp [dep] at h
  | .tup ds, n + 1, h, hd => by
    simp only [pl, Bool.and_eq_true, decide_eq_true_eq] at h
    rw [tup_tupF]
    refine .tup h.1 fun i hi => ?_
    rw [List.getElem?_eq_getElem hi]
    exact plains_of h.2 (by simp only [dep] at hd; omega) _ (List.getElem_mem hi)
  | .str _, n, h, _ => by simp [pl] at h
  | .lst _, n, h, _ => by simp [pl] at h
  | .scr _, n, h, _ => by simp [pl] at h
  | .ref _, n, h, _ => by simp [pl] at h
  | .fn _, n, h, _ => by simp [pl] at h
theorem plains_of : ∀ {ds : List D} {n : Nat}, pls ds = true → deps ds ≤ n → ∀ d ∈ ds, plainD n d
  | [], _, _, _, d, hd => nomatch hd
  | a :: ds, n, h, hd, d, hm => by
    simp only [pls, Bool.and_eq_true] at h
    simp only [deps] at hd
    rcases List.mem_cons.mp hm with e | hm
    · rw [e]
      exact plain_of h.1 (by omega)
    · exact plains_of h.2 (by omega) d hm
end
theorem s_pl {n : Nat} {d : D} (h : pl d = true) (hd : dep d ≤ n) : call (tab ts) G (k + n + 1) 22 [d, d] S = some (.bl true, S) := c_same (plain_of h hd)
theorem pls_map {α : Type} {g : α → D} : ∀ {l : List α}, (∀ x ∈ l, pl (g x) = true) → pls (l.map g) = true
  | [], _ => rfl
  | a :: l, h => by
    simp only [List.map_cons, pls, Bool.and_eq_true]
    exact ⟨h a (by simp), pls_map fun x hx => h x (by simp [hx])⟩
theorem deps_map {α : Type} {g : α → D} {n : Nat} : ∀ {l : List α}, (∀ x ∈ l, dep (g x) ≤ n) → deps (l.map g) ≤ n
  | [], _ => by simp [deps]
  | a :: l, h => by
    simp only [List.map_cons, deps]
    have h1 := h a (by simp)
    have h2 := deps_map (l := l) fun x hx => h x (by simp [hx])
    omega
theorem pl_rw {p : Nat × Nat} : pl (rwD p) = true ∧ dep (rwD p) ≤ 1 := ⟨by simp [pl, pls, rwD, sizeLine], by simp [dep, deps, rwD]⟩
theorem pl_sq (h1 : t.length ≤ 1000) (h2 : o.length ≤ 1000) : pl (sqD t o) = true ∧ dep (sqD t o) ≤ 3 := by
  have a1 : pls (t.map rwD) = true := pls_map fun x _ => pl_rw.1
  have a2 : pls (iD o) = true := pls_map fun x _ => rfl
  have b1 : deps (t.map rwD) ≤ 1 := deps_map fun x _ => pl_rw.2
  have b2 : deps (iD o) ≤ 0 := deps_map fun x _ => Nat.le_refl _
  constructor
  · simp only [sqD, tbD, otD, pl, pls, a1, a2, List.length_cons, List.length_nil, List.length_map, Bool.and_true, Bool.and_eq_true, decide_eq_true_eq]
    have : (iD o).length = o.length := by simp [iD]
    unfold sizeLine
    omega
  · simp only [sqD, tbD, otD, dep, deps]
    omega
theorem s_sq (W : Wf t o) : call (tab ts) G (k + 4) 22 [sqD t o, sqD t o] S = some (.bl true, S) := by
  have h1 := W.le
  have h2 := W.len
  have h := pl_sq (t := t) (o := o) (by omega) (by omega)
  exact s_pl (k := k) h.1 h.2
theorem s_int {i : Int} : call (tab ts) G (k + 1) 22 [.int i, .int i] S = some (.bl true, S) := s_pl (k := k) (n := 0) rfl (Nat.le_refl _)
theorem s_bl' {b : Bool} : call (tab ts) G (k + 1) 22 [.bl b, .bl b] S = some (.bl true, S) := s_pl (k := k) (n := 0) rfl (Nat.le_refl _)
theorem s_non' : call (tab ts) G (k + 1) 22 [.non, .non] S = some (.bl true, S) := s_pl (k := k) (n := 0) rfl (Nat.le_refl _)
/-! ### begun -/
/-! ### words found by the law -/
end Code

/-! M77q: sequences drawn -/
namespace Code
open PySem Ab
open Mo (nx ot run bits val ibits Wf Sim spec Ws wst wsN WI Lst kw shf bgT bgO)
variable {k : Nat} {S J W : Store} {t : Mo.Tab} {o : List Int} {A B : O} {X : List O} {ds : List Nat}
theorem T308 : tab ts 308 = some f__law_sequence := rfl
theorem lc_filter' {α : Type} {mk : α → D} {g : α → D} {p : α → Bool} {f : D → Store → Option (Option D × Store)} : ∀ {xs : List α} {acc : List D}, acc.length + xs.length ≤ sizeLine → (∀ x ∈ xs, f (mk x) S = some (if p x = true then some (g x) else none, S)) →
    evLc (fun _ => true) f (xs.map mk) acc S = some (acc ++ (xs.filter p).map g, S)
  | [], acc, _, _ => by rw [List.map_nil, evLc, if_pos rfl]; simp
  | x :: xs, acc, hn, h => by
    simp only [List.length_cons] at hn
    rw [List.map_cons, evLc, if_pos rfl, h x (by simp)]
    by_cases c : p x = true
    · rw [if_pos c]
      dsimp only
      rw [if_pos (by omega), lc_filter' (xs := xs) (by rw [List.length_append]; simp only [List.length_cons, List.length_nil]; omega) fun y hy => h y (by simp [hy]), List.filter_cons, if_pos c]
      simp
    · rw [if_neg c]
      dsimp only
      rw [lc_filter' (xs := xs) (by omega) fun y hy => h y (by simp [hy]), List.filter_cons, if_neg c]
theorem lc_filter {α : Type} {mk : α → D} {g : α → D} {p : α → Bool} {f : D → Store → Option (Option D × Store)} {xs : List α} (hn : xs.length ≤ sizeLine) (h : ∀ x ∈ xs, f (mk x) S = some (if p x = true then some (g x) else none, S)) :
    evLc (fun _ => true) f (xs.map mk) [] S = some ((xs.filter p).map g, S) := by
  rw [lc_filter' (acc := []) (by simpa using hn) h, List.nil_append]
def sqB : List IS := [.asg (.name 6) (.lc [7] (.name 7) true [(.var 1)] [(.cmp .Eq (.ix (.var 3) (.var 7)) (.ix (.var 3) (.var 5)))] (.var 7)),
    .ex (.meth .append (.var 4) [(.tup [(.ix (.var 6) (.call 20 [(.var 0), (.bi .len [(.var 6)])])), (.call 20 [(.var 0), (.var 1)])])])]
theorem seq_step {n i : Nat} {F : Nat → Int} {x2 y5 y6 y7 : Option D} {tb : Mo.Tab} (hn : n ≤ 10) (hi : i < n) (htb : tb.length ≤ 10) :
    ∃ (p : Nat × Nat) (ds' : List Nat) (y6' : Option D), p.1 < n ∧ F p.1 = F i ∧ p.2 < n ∧ forF (call (tab ts) G (k + 1)) G (.name 5) sqB (.int (i : Int)) [some (.ref 2), some (.int (n : Int)), x2, some (.lst ((List.range n).map fun i => D.int (F i))), some (.ref 3), y5, y6, y7] (st A B ds [.lst (tb.map rwD)]) =
      some (.next, [some (.ref 2), some (.int (n : Int)), x2, some (.lst ((List.range n).map fun i => D.int (F i))), some (.ref 3), some (.int (i : Int)), y6', y7], st A B ds' [.lst ((tb ++ [p]).map rwD)]) := by
  obtain ⟨sm, hsm⟩ : ∃ sm, sm = (List.range n).filter fun j => decide (F j = F i) := ⟨_, rfl⟩
  have hmem : i ∈ sm := by rw [hsm]; exact List.mem_filter.mpr ⟨List.mem_range.mpr hi, by simp⟩
  have hpos : 0 < sm.length := List.length_pos_of_mem hmem
  have hsl : sm.length ≤ n := by
    rw [hsm]
    exact Nat.le_trans (List.length_filter_le _ _) (by simp)
  obtain ⟨v, d1, h1, e1⟩ := c_take (k := k) (A := A) (B := B) (X := [.lst (tb.map rwD)]) (ds := ds) (m := sm.length) hpos
  obtain ⟨v2, d2, h2, e2⟩ := c_take (k := k) (A := A) (B := B) (X := [.lst (tb.map rwD)]) (ds := d1) (m := n) (by omega)
  have ev : sm[v]? = some sm[v] := List.getElem?_eq_getElem h1
  have key : ∀ x ∈ sm, x < n ∧ F x = F i := by
    rw [hsm]
    intro x hx
    have q := List.mem_filter.mp hx
    exact ⟨List.mem_range.mp q.1, of_decide_eq_true q.2⟩
  have hv := key _ (List.getElem_mem h1)
  refine ⟨(sm[v], v2), d2, some (.lst (nD sm)), hv.1, hv.2, h2, ?_⟩
  have ixo : ∀ S : Store, ∀ j, j < n → dIx S (.lst ((List.range n).map fun i => D.int (F i))) (.int (j : Int)) = some (.int (F j)) := fun S j hj => at_map (g := fun i => D.int (F i)) (List.getElem?_range hj)
  have wk : ∀ S : Store, walk true [.int (n : Int)] S = some ((List.range n).map fun j : Nat => D.int (j : Int)) := fun S => walk_rg (by unfold sizeLine; omega)
  have l1 : evLc (fun _ => true) (lcBk (call (tab ts) G (k + 1)) G (.name 7) [(.cmp .Eq (.ix (.var 3) (.var 7)) (.ix (.var 3) (.var 5)))] (.var 7) [some (.ref 2), some (.int (n : Int)), x2, some (.lst ((List.range n).map fun i => D.int (F i))), some (.ref 3), some (.int (i : Int)), y6, none])
      ((List.range n).map fun j : Nat => D.int (j : Int)) [] (st A B ds [.lst (tb.map rwD)]) = some (nD sm, st A B ds [.lst (tb.map rwD)]) := by
    rw [lc_filter (p := fun j => decide (F j = F i)) (g := fun j : Nat => D.int (j : Int)) (by simp; unfold sizeLine; omega) fun j hj => ?_, ← hsm]
    · rfl
    · have hj := List.mem_range.mp hj
      unfold lcBk
      simp only [bind_name, List.length_cons, List.length_nil, Nat.zero_add, Nat.reduceAdd, Nat.reduceLT, if_true, List.set_cons_succ, List.set_cons_zero, eTs_cons, eTs_nil, eT_cmp, e_ix, e_var, List.getElem?_cons_succ, List.getElem?_cons_zero, ixo _ j hj, ixo _ i hi, Option.map_some, cmp_eq, eq_int]
      by_cases c : F j = F i
      · simp [c]
      · simp [c]
  have ixs : ∀ S : Store, dIx S (.lst (nD sm)) (.int (v : Int)) = some (.int (sm[v] : Nat)) := fun S => at_map (g := fun n : Nat => D.int (n : Int)) ev
  have ln : ∀ S : Store, dBi S .len [.lst (nD sm)] = some (.int (sm.length : Nat)) := fun S => by simp [dBi, items, nD]
  have rv : ∀ ds, recvOk .append (.ref 3) (st A B ds [.lst (tb.map rwD)]) = true := fun ds => rfl
  have g3 : (st A B d2 [.lst (tb.map rwD)])[3]? = some (.lst (tb.map rwD)) := rfl
  have ap : dMe .append (.ref 3) [.tup [.int (sm[v] : Nat), .int (v2 : Int)]] (st A B d2 [.lst (tb.map rwD)]) = some (.non, st A B d2 [.lst ((tb ++ [(sm[v], v2)]).map rwD)]) := by
    rw [app_at g3 (by simp; unfold sizeLine; omega)]
    simp [st, rwD]
  have z2 : 2 ≤ sizeLine := by decide
  unfold forF sqB
  simp only [bind_name, List.length_cons, List.length_nil, Nat.zero_add, Nat.reduceAdd, Nat.reduceLT, if_true, List.set_cons_succ, List.set_cons_zero, ss_cons, s_asg, e_lc, es_cons, es_nil, e_var, List.getElem?_cons_succ, List.getElem?_cons_zero, wk, stays_rg, wipeA, l1, Option.map_some, s_ex, e_meth, rv, e_tup, e_ix, e_call, e_bi, ln, e1, ixs, e2, z2, ap, ss_nil]
theorem c_lseq {n : Nat} (hA : O.undr 3 A = true) (hB : O.undr 3 B = true) (h0 : 0 < n) (hn : n ≤ 10) : ∃ (t : Mo.Tab) (o : List Int) (ds' : List Nat), Wf t o ∧ t.length = n ∧ (∀ s, s < t.length → ot o (nx t s 0) = ot o s) ∧ (∃ vs : List Int, vs.length ≤ 3 ∧ ∀ v ∈ o, v ∈ vs) ∧
    call (tab ts) G (k + 2) 308 [.ref 2, .int (n : Int)] (st A B ds []) = some (sqD t o, st A B ds' []) := by
  obtain ⟨v1, d1, h1, e1⟩ := c_take (k := k) (A := A) (B := B) (X := []) (ds := ds) (m := 10) (by omega)
  obtain ⟨v2, d2, h2, e2⟩ := c_take (k := k) (A := A) (B := B) (X := []) (ds := d1) (m := 10) (by omega)
  obtain ⟨v3, d3, h3, e3⟩ := c_take (k := k) (A := A) (B := B) (X := []) (ds := d2) (m := 4) (by omega)
  obtain ⟨F, d4, hF, e4⟩ := lc_st (A := A) (B := B) (X := []) (ds := d3) (mk := fun i : Int => D.int i) (good := fun i => i ∈ [(v1 : Int), (v2 : Int) - 5, 9 - (v3 : Int)]) (f := lcBk (call (tab ts) G (k + 1)) G (.name 5) [] (.ix (.var 2) (.call 20 [(.var 0), (.lit (.int 3))])) [some (.ref 2), some (.int (n : Int)), some (.lst [.int (v1 : Int), .int ((v2 : Int) - 5), .int (9 - (v3 : Int))]), none, none, none, none, none]) (n := n) (by unfold sizeLine; omega) fun i hi ds => by
    obtain ⟨v, d, hv, e⟩ := c_take (k := k) (A := A) (B := B) (X := []) (ds := ds) (m := 3) (by omega)
    have e : call (tab ts) G (k + 1) 20 [.ref 2, .int 3] (st A B ds []) = _ := e
    have : v = 0 ∨ v = 1 ∨ v = 2 := by omega
    rcases this with rfl | rfl | rfl
    · exact ⟨(v1 : Int), d, by simp, by
        have ix : dIx (st A B d []) (.lst [.int (v1 : Int), .int ((v2 : Int) - 5), .int (9 - (v3 : Int))]) (.int ((0 : Nat) : Int)) = some (.int (v1 : Int)) := rfl
        simp only [Int.ofNat_zero] at ix e
        simp [lcBk, bind_name, e, ix]⟩
    · exact ⟨(v2 : Int) - 5, d, by simp, by
        have ix : dIx (st A B d []) (.lst [.int (v1 : Int), .int ((v2 : Int) - 5), .int (9 - (v3 : Int))]) (.int 1) = some (.int ((v2 : Int) - 5)) := rfl
        have e : call (tab ts) G (k + 1) 20 [.ref 2, .int 3] (st A B ds []) = some (.int 1, st A B d []) := e
        simp [lcBk, bind_name, e, ix]⟩
    · exact ⟨9 - (v3 : Int), d, by simp, by
        have ix : dIx (st A B d []) (.lst [.int (v1 : Int), .int ((v2 : Int) - 5), .int (9 - (v3 : Int))]) (.int 2) = some (.int (9 - (v3 : Int))) := rfl
        have e : call (tab ts) G (k + 1) 20 [.ref 2, .int 3] (st A B ds []) = some (.int 2, st A B d []) := e
        simp [lcBk, bind_name, e, ix]⟩
  obtain ⟨pa, hpa⟩ : ∃ pa, pa = D.lst [.int (v1 : Int), .int ((v2 : Int) - 5), .int (9 - (v3 : Int))] := ⟨_, rfl⟩
  obtain ⟨ou, hou⟩ : ∃ ou, ou = D.lst ((List.range n).map fun i => D.int (F i)) := ⟨_, rfl⟩
  obtain ⟨ρ', S', f1, ds5, tb, hl, hp, y5, y6, y7, hρ, hS'⟩ := evFor_inv (chk := fun _ => true) (body := forF (call (tab ts) G (k + 1)) G (.name 5) sqB)
    (fun i ρ S' => ∃ (ds : List Nat) (tb : Mo.Tab), tb.length = i ∧ (∀ (j : Nat) p, tb[j]? = some p → p.1 < n ∧ F p.1 = F j ∧ p.2 < n) ∧ ∃ y5 y6 y7, ρ = [some (.ref 2), some (.int (n : Int)), some pa, some ou, some (.ref 3), y5, y6, y7] ∧ S' = st A B ds [.lst (tb.map rwD)])
    (ds := natsD n) (n := 0) (ρ := [some (.ref 2), some (.int (n : Int)), some pa, some ou, some (.ref 3), none, none, none]) (S := st A B d4 [.lst []]) (fun _ _ _ _ => rfl) ⟨d4, [], rfl, (fun j p h => by simp at h), none, none, none, rfl, rfl⟩ (fun i hi ρ S' ⟨ds, tb, hl, hp, y5, y6, y7, hρ, hS'⟩ => by
      have hi : i < n := by simpa [natsD] using hi
      rw [Nat.zero_add] at *
      subst hρ hS'
      obtain ⟨p, ds', y6', q1, q2, q3, q4⟩ := seq_step (k := k) (A := A) (B := B) (ds := ds) (F := F) (x2 := some pa) (y5 := y5) (y6 := y6) (y7 := y7) (tb := tb) hn hi (by omega)
      refine ⟨[some (.ref 2), some (.int (n : Int)), some pa, some ou, some (.ref 3), some (.int (i : Int)), y6', y7], st A B ds' [.lst ((tb ++ [p]).map rwD)], ?_, ds', tb ++ [p], by simp [hl], fun j p' h => ?_, _, _, _, rfl, rfl⟩
      · rw [show (natsD n)[i]'(by simpa [natsD] using hi) = .int (i : Int) by simp [natsD], hou]
        exact q4
      · by_cases c : j < tb.length
        · rw [List.getElem?_append_left c] at h
          exact hp j p' h
        · rw [List.getElem?_append_right (by omega)] at h
          have : j - tb.length = 0 := by
            cases z : j - tb.length with
            | zero => rfl
            | succ m => rw [z] at h; simp at h
          rw [this] at h
          simp at h
          subst h
          have : j = i := by omega
          subst this
          exact ⟨q1, q2, q3⟩)
  have hln : (natsD n).length = n := by simp [natsD]
  rw [hln, Nat.zero_add] at hl
  subst hρ hS'
  have tg : ∀ s, s < n → ∃ p, tb[s]? = some p ∧ nx tb s 0 = p.1 ∧ (∀ d, nx tb s d = p.1 ∨ nx tb s d = p.2) := fun s hs => by
    refine ⟨tb[s], List.getElem?_eq_getElem (by omega), ?_, fun d => ?_⟩
    · simp [nx, hl, hs]
    · unfold nx
      split
      · left
        simp [hl, hs]
      · right
        simp [hl, hs]
  have og : ∀ s, s < n → ot ((List.range n).map F) s = F s := fun s hs => by
    unfold ot
    rw [List.getElem?_map, List.getElem?_range hs]
    rfl
  refine ⟨tb, (List.range n).map F, ds5, ⟨by omega, by simp [hl], fun s hs d => ?_, by omega⟩, hl, fun s hs => ?_, ⟨[(v1 : Int), (v2 : Int) - 5, 9 - (v3 : Int)], Nat.le_refl _, fun v hv => ?_⟩, ?_⟩
  · obtain ⟨p, a1, a2, a3⟩ := tg s (by omega)
    have := hp s p a1
    rcases a3 d with e | e <;> rw [e] <;> omega
  · obtain ⟨p, a1, a2, a3⟩ := tg s (by omega)
    have := hp s p a1
    rw [a2, og p.1 this.1, og s (by omega)]
    exact this.2.1
  · obtain ⟨i, hi, e⟩ := List.mem_map.mp hv
    rw [← e]
    exact hF i (List.mem_range.mp hi)
  · rw [call_of T308 rfl]
    unfold sqB at f1
    simp only [f__law_sequence, b__law_sequence, startA]
    have e1 : call (tab ts) G (k + 1) 20 [.ref 2, .int 10] (st A B ds []) = _ := e1
    have e2 : call (tab ts) G (k + 1) 20 [.ref 2, .int 10] (st A B d1 []) = _ := e2
    have e3 : call (tab ts) G (k + 1) 20 [.ref 2, .int 4] (st A B d2 []) = _ := e3
    have wk : ∀ S : Store, walk true [.int (n : Int)] S = some (natsD n) := fun S => walk_rg (by unfold sizeLine; omega)
    have z0 : 0 ≤ sizeLine := by decide
    have z2 : 2 ≤ sizeLine := by decide
    have z3 : 3 ≤ sizeLine := by decide
    have st4 : st A B d4 [] ++ [.lst []] = st A B d4 [.lst []] := rfl
    have ls : (st A B d4 []).length = 3 := rfl
    have tp4 : dBi (st A B ds5 [.lst (tb.map rwD)]) .tuple [.ref 3] = some (tbD tb) := by
      have : (st A B ds5 [.lst (tb.map rwD)])[3]? = some (.lst (tb.map rwD)) := rfl
      simp only [dBi, items_ref this, Option.map_some]
      rfl
    have tp3 : dBi (st A B ds5 [.lst (tb.map rwD)]) .tuple [ou] = some (otD ((List.range n).map F)) := by
      rw [hou, tp_lst]
      simp [otD, iD]
    have tr : ∀ S0 : Store, S0.length = 3 → trunc S0.length (sqD tb ((List.range n).map F)) (st A B ds5 [.lst (tb.map rwD)]) = (sqD tb ((List.range n).map F), st A B ds5 []) := fun S0 h3 => by
      unfold trunc
      rw [h3, undr_sq]
      have : ((st A B ds5 [.lst (tb.map rwD)]).take 3).all (O.undr 3) = true := by
        show (O.undr 3 A && (O.undr 3 B && (D.undrs 3 (nD ds5) && true))) = true
        rw [hA, hB, undr_nD]
        rfl
      rw [this]
      rfl
    have tr2 := tr (st A B ds []) rfl
    have fin : D.tup [tbD tb, otD ((List.range n).map F)] = sqD tb ((List.range n).map F) := rfl
    rw [← hpa] at e4
    simp only [ss_cons, s_asg, e_lst, es_cons, es_nil, e_call, e_var, e_lit, List.map_cons, List.map_nil, List.length_cons, List.length_nil, List.getElem?_cons_zero, List.getElem?_cons_succ, List.cons_append, List.nil_append, Nat.reduceAdd, Nat.reduceSub, Nat.zero_add, List.replicate_succ, List.replicate_zero, e1, e_bin, e2, bin_int, dInt_sub, Option.map_some, e3, z3, if_true, bind_name, Nat.reduceLT, List.set_cons_succ, List.set_cons_zero, ← hpa, e_lc, wk, stays_rg, wipeA, e4, ← hou, s_new, z0, st4, ls, s_for, f1, s_ret, e_tup, e_bi, tp4, tp3, z2, fin, tr2]
end Code

/-! M77r: tuples of outs found, a turn -/
namespace Code
open PySem Ab
open Mo (nx ot run bits val Wf Sim spec push ixq Md tw eqQ)
variable {k : Nat} {S J W : Store} {t B : Mo.Tab} {o oB : List Int} {f : Nat} {tp : Nat → List Int}
def kyU (u : List Int) : NestedKey := .tup (u.map .num)
theorem kyU_inj {u v : List Int} (h : kyU u = kyU v) : u = v := by
  unfold kyU at h
  injection h with h
  have : ∀ {a b : List Int}, a.map NestedKey.num = b.map NestedKey.num → a = b := by
    intro a
    induction a with
    | nil =>
      intro b h
      cases b with
      | nil => rfl
      | cons _ _ => cases h
    | cons x a ih =>
      intro b h
      cases b with
      | nil => cases h
      | cons y b =>
        simp only [List.map_cons, List.cons.injEq, NestedKey.num.injEq] at h
        rw [h.1, ih h.2]
  exact this h
theorem nks_iD : ∀ {u : List Int}, D.nks (iD u) = some (u.map .num)
  | [] => rfl
  | a :: u => by
    show (D.nk (.int a)).bind (fun k => (D.nks (iD u)).map fun ks => k :: ks) = _
    rw [nks_iD]
    rfl
theorem dep_nums : ∀ {u : List Int}, NestedKey.depthAll (u.map .num) ≤ 0 + 1
  | [] => by simp [NestedKey.depthAll]
  | a :: u => by
    simp only [List.map_cons, NestedKey.depthAll]
    have := @dep_nums u
    simp only [NestedKey.depth]
    omega
theorem dkey_U {emp : Bool} {u : List Int} : dKey true emp (otD u) = some (true, kyU u) := by
  have h : (NestedKey.tup (u.map .num)).depth ≤ 8 := by
    simp only [NestedKey.depth]
    have := @dep_nums u
    omega
  unfold dKey otD
  dsimp only
  rw [if_pos rfl, nks_iD]
  dsimp only
  rw [if_pos h]
  rfl
def uD (tp : Nat → List Int) (s : Nat) : D := otD (tp s)
structure PU (pl : List (NestedKey × D)) (l : List Nat) (tp : Nat → List Int) : Prop where
  at_ : ∀ v : List Int, kAt pl (kyU v) = (l.findIdx? fun x => decide (tp x = v)).map fun i => D.int (i : Nat)
  le : pl.length ≤ l.length
def st7 (W : Store) (tp : Nat → List Int) (l : List Nat) (pl : List (NestedKey × D)) (rs : List D) : Store := W ++ [.lst (l.map (uD tp)), .dic true pl, .lst rs]
def en7 (t : Mo.Tab) (o : List Int) (W : Store) (x5 x6 x7 : Option D) : AEnv := [some (tbD t), some (otD o), some (.ref W.length), some (.ref (W.length + 1)), some (.ref (W.length + 2)), x5, x6, x7, none, none]
theorem PU.look {pl : List (NestedKey × D)} {l : List Nat} {rs : List D} (h : PU pl l tp) (v : List Int) : dicLook (st7 W tp l pl rs) (.ref (W.length + 1)) (otD v) = some ((l.findIdx? fun x => decide (tp x = v)).map fun i => D.int (i : Nat)) := by
  have e : dicOf (st7 W tp l pl rs) (.ref (W.length + 1)) = some (true, pl) := by simp only [dicOf, st7, g31]
  unfold dicLook
  rw [e, ← h.at_ v]
  dsimp only
  rw [dkey_U]
def wayU : List IS := [.ite (.din true (.var 7) (.var 3)) [.dput (.var 3) (.var 7) (.bi .len [(.var 2)]), .ex (.meth .append (.var 2) [(.var 7)])] []]
theorem wayU_step {cf : CallF} {s : Nat} {pl : List (NestedKey × D)} {l : List Nat} {rs : List D} {x5 x6 x7 : Option D} (inj : ∀ x ∈ l, tp x = tp s → x = s) (P : PU pl l tp) (hl : l.length ≤ 1000) :
    ∃ pl', PU pl' (push eqQ l s) tp ∧ forF cf G (.name 7) wayU (uD tp s) (en7 t o W x5 x6 x7) (st7 W tp l pl rs) = some (.next, en7 t o W x5 x6 (some (uD tp s)), st7 W tp (push eqQ l s) pl' rs) := by
  have b7 : Tg.bind (.name 7) (uD tp s) (en7 t o W x5 x6 x7) = some (en7 t o W x5 x6 (some (uD tp s))) := by
    simp [bind_name, en7]
  have lk : dicLook (st7 W tp l pl rs) (.ref (W.length + 1)) (uD tp s) = _ := P.look (W := W) (rs := rs) (tp s)
  have v7 : (en7 t o W x5 x6 (some (uD tp s)))[7]? = some (some (uD tp s)) := rfl
  have v3 : (en7 t o W x5 x6 (some (uD tp s)))[3]? = some (some (.ref (W.length + 1))) := rfl
  have v2 : (en7 t o W x5 x6 (some (uD tp s)))[2]? = some (some (.ref W.length)) := rfl
  unfold push
  by_cases h : (l.any fun x => eqQ x s) = true
  · rw [if_pos h]
    refine ⟨pl, P, ?_⟩
    obtain ⟨x, hx, hq⟩ := List.any_eq_true.mp h
    have hq : x = s := by simpa using hq
    subst hq
    have hlt : l.findIdx (fun z => decide (tp z = tp x)) < l.length := List.findIdx_lt_length.mpr ⟨x, hx, by simp⟩
    have hf : l.findIdx? (fun z => decide (tp z = tp x)) = some (l.findIdx (fun z => decide (tp z = tp x))) := by
      rw [List.findIdx?_eq_some_iff_findIdx_eq]
      exact ⟨hlt, rfl⟩
    rw [hf] at lk
    unfold forF
    rw [b7]
    dsimp only
    unfold wayU
    simp only [ss_cons, s_ite, eT_din, e_var, v3, v7, lk, Option.map_some, Option.isSome_some, Bool.true_bne, Bool.not_true, ss_nil]
  · rw [if_neg h]
    have hno : ∀ x ∈ l, ¬ tp x = tp s := fun x hx e => h (List.any_eq_true.mpr ⟨x, hx, by simp [inj x hx e]⟩)
    have hf : l.findIdx? (fun x => decide (tp x = tp s)) = none := by
      rw [List.findIdx?_eq_none_iff]
      intro x hx
      simpa using hno x hx
    rw [hf] at lk
    have k0 : kAt pl (kyU (tp s)) = none := by
      rw [P.at_, hf]
      rfl
    refine ⟨pl ++ [(kyU (tp s), .int (l.length : Nat))], ⟨fun v => ?_, by simp [P.le]⟩, ?_⟩
    · rw [kAt_snoc k0, List.findIdx?_append]
      by_cases e : tp s = v
      · subst e
        rw [if_pos rfl, hf]
        simp [List.findIdx?_cons]
      · have c2 : ¬ kyU (tp s) = kyU v := fun z => e (kyU_inj z)
        rw [if_neg c2, P.at_]
        have : List.findIdx? (fun x => decide (tp x = v)) [s] = none := by simp [List.findIdx?_cons, e]
        rw [this]
        simp
    · have ln : dBi (st7 W tp l pl rs) .len [.ref W.length] = some (.int (l.length : Nat)) := by simp [dBi, items, st7]
      have dp : dicPut (st7 W tp l pl rs) (.ref (W.length + 1)) (uD tp s) (.int (l.length : Nat)) = some (st7 W tp l (pl ++ [(kyU (tp s), .int (l.length : Nat))]) rs) := by
        unfold dicPut st7 uD
        dsimp only
        rw [g31]
        dsimp only
        rw [dkey_U]
        dsimp only
        rw [if_pos (by have := P.le; unfold sizeLine; omega), u31]
        unfold kPut
        rw [k0]
        rfl
      have rv : ∀ pl, recvOk .append (.ref W.length) (st7 W tp l pl rs) = true := fun pl => recv_at g30
      have ap : ∀ pl, dMe .append (.ref W.length) [uD tp s] (st7 W tp l pl rs) = some (.non, st7 W tp (l ++ [s]) pl rs) := fun pl => by
        unfold st7
        rw [app_at g30 (by simp; unfold sizeLine; omega), u30]
        simp
      unfold forF
      rw [b7]
      dsimp only
      unfold wayU
      simp only [ss_cons, s_ite, eT_din, e_var, v3, v7, lk, Option.map_some, Option.map_none, Option.isSome_none, Bool.true_bne, Bool.not_false, s_dput, e_bi, es_cons, es_nil, v2, ln, dp, ss_nil, s_ex, e_meth, rv, if_true, ap]
def rsU (B : Mo.Tab) (l : List Nat) (a : Nat) : List D := (l.take a).map fun s => rwD (ixq eqQ l (nx B s 0), ixq eqQ l (nx B s 1))
def tailU : List IS := [.for_ (.name 7) false [(.var 6)] wayU, .ex (.meth .append (.var 4) [(.bi .tuple [(.lc [7] (.name 7) false [(.var 6)] [] (.dget (.var 3) (.var 7)))])])]
theorem tail_step {cf : CallF} (M : Md t o B oB f tp) {i x : Nat} {pl : List (NestedKey × D)} {l : List Nat} {x5 x7 : Option D} (P : PU pl l tp) (F : Mo.Fd B eqQ f l i) (e : l[i]? = some x) :
    ∃ pl' y7, PU pl' (Mo.stp B eqQ (l, i)).1 tp ∧ evSs cf G tailU (en7 t o W x5 (some (.lst [uD tp (nx B x 0), uD tp (nx B x 1)])) x7) (st7 W tp l pl (rsU B l i)) =
      some (.next, en7 t o W x5 (some (.lst [uD tp (nx B x 0), uD tp (nx B x 1)])) y7, st7 W tp (Mo.stp B eqQ (l, i)).1 pl' (rsU B (Mo.stp B eqQ (l, i)).1 (i + 1))) := by
  have hle := M.wf.le
  have rf : ∀ s, eqQ s s = true := fun s => by simp
  have hi : i < l.length := (List.getElem?_eq_some_iff.mp e).1
  have hx := F.lt _ (List.mem_of_getElem? e)
  have hll := Mo.fd_len rf F
  obtain ⟨F1, _, _⟩ := F.snoc rf e (d := 0) (by omega) (M.wf.lt _ hx 0)
  have hl1 := Mo.fd_len rf F1
  have F2 := F.step M.wf.lt rf
  have hl2 := Mo.fd_len rf F2
  rw [Mo.stp_some e] at F2 hl2 ⊢
  obtain ⟨m1, p1⟩ := Mo.push_pre (q := eqQ) l (nx B x 0)
  obtain ⟨m2, p2⟩ := Mo.push_pre (q := eqQ) (push eqQ l (nx B x 0)) (nx B x 1)
  obtain ⟨lt6, hlt6⟩ : ∃ lt6, lt6 = some (D.lst [uD tp (nx B x 0), uD tp (nx B x 1)]) := ⟨_, rfl⟩
  obtain ⟨pl1, P1, s1⟩ := wayU_step (t := t) (o := o) (cf := cf) (W := W) (s := nx B x 0) (rs := rsU B l i) (x5 := x5) (x6 := lt6) (x7 := x7) (fun z hz q => M.inj _ _ (F.lt z hz) (M.wf.lt x hx 0) q) P (by omega)
  obtain ⟨pl2, P2, s2⟩ := wayU_step (t := t) (o := o) (cf := cf) (W := W) (s := nx B x 1) (rs := rsU B l i) (x5 := x5) (x6 := lt6) (x7 := some (uD tp (nx B x 0))) (fun z hz q => M.inj _ _ (F1.lt z hz) (M.wf.lt x hx 1) q) P1 (by omega)
  obtain ⟨l2, hl2d⟩ : ∃ l2, l2 = push eqQ (push eqQ l (nx B x 0)) (nx B x 1) := ⟨_, rfl⟩
  rw [← hl2d] at F2 hl2 P2 s2 p2 ⊢
  have pre : l2 = l ++ (m1 ++ m2) := by rw [p2, p1, List.append_assoc]
  have e2 : l2[i]? = some x := by
    rw [pre, List.getElem?_append_left hi]
    exact e
  refine ⟨pl2, some (uD tp (nx B x 1)), P2, ?_⟩
  have tks : rsU B l2 i = rsU B l i := by
    unfold rsU
    rw [pre, List.take_append_of_le_length (by omega)]
    refine List.map_congr_left fun s hs => ?_
    obtain ⟨j, hj⟩ := List.getElem?_of_mem hs
    rw [List.getElem?_take] at hj
    split at hj
    · rename_i hji
      rw [Mo.ixq_grow (F.cl j s hji hj 0 (by omega)), Mo.ixq_grow (F.cl j s hji hj 1 (by omega))]
    · cases hj
  have rs2 : rsU B l2 (i + 1) = rsU B l i ++ [rwD (ixq eqQ l2 (nx B x 0), ixq eqQ l2 (nx B x 1))] := by
    rw [← tks]
    unfold rsU
    rw [List.take_succ, e2, List.map_append]
    rfl
  have lkv : ∀ d, d ≤ 1 → dicLook (st7 W tp l2 pl2 (rsU B l i)) (.ref (W.length + 1)) (uD tp (nx B x d)) = some (some (.int (ixq eqQ l2 (nx B x d) : Nat))) := fun d hd => by
    obtain ⟨y, hy, hq⟩ := F2.cl i x (by omega) e2 d hd
    have hyd : y = nx B x d := by simpa using hq
    have hfi : l2.findIdx (fun z => decide (tp z = tp (nx B x d))) = ixq eqQ l2 (nx B x d) := by
      unfold ixq
      have : ∀ (m : List Nat), (∀ z ∈ m, z < B.length) → m.findIdx (fun z => decide (tp z = tp (nx B x d))) = m.findIdx (fun z => eqQ z (nx B x d)) := by
        intro m
        induction m with
        | nil => intro _; rfl
        | cons z m ih =>
          intro hm
          rw [List.findIdx_cons, List.findIdx_cons, ih fun z hz => hm z (by simp [hz])]
          have : decide (tp z = tp (nx B x d)) = eqQ z (nx B x d) := by
            by_cases c : z = nx B x d
            · subst c
              simp
            · have : ¬ tp z = tp (nx B x d) := fun q => c (M.inj _ _ (hm z (by simp)) (M.wf.lt x hx d) q)
              simp [c, this]
          rw [this]
      exact this l2 F2.lt
    have hlt2 : l2.findIdx (fun z => decide (tp z = tp (nx B x d))) < l2.length := List.findIdx_lt_length.mpr ⟨y, hy, by simp [hyd]⟩
    have hf : l2.findIdx? (fun z => decide (tp z = tp (nx B x d))) = some (l2.findIdx (fun z => decide (tp z = tp (nx B x d)))) := by
      rw [List.findIdx?_eq_some_iff_findIdx_eq]
      exact ⟨hlt2, rfl⟩
    show dicLook (st7 W tp l2 pl2 (rsU B l i)) (.ref (W.length + 1)) (otD (tp (nx B x d))) = _
    rw [P2.look, hf, hfi]
    rfl
  have v6 : ∀ y, (en7 t o W x5 lt6 y)[6]? = some (some (D.lst [uD tp (nx B x 0), uD tp (nx B x 1)])) := fun y => by rw [hlt6]; rfl
  have v4 : ∀ y, (en7 t o W x5 lt6 y)[4]? = some (some (.ref (W.length + 2))) := fun y => rfl
  have wl : ∀ S : Store, walk false [D.lst [uD tp (nx B x 0), uD tp (nx B x 1)]] S = some ([nx B x 0, nx B x 1].map (uD tp)) := fun S => rfl
  have l3 : evLc (fun _ => true) (lcBk cf G (.name 7) [] (.dget (.var 3) (.var 7)) (en7 t o W x5 lt6 none)) ([nx B x 0, nx B x 1].map (uD tp)) [] (st7 W tp l2 pl2 (rsU B l i)) =
      some ([.int (ixq eqQ l2 (nx B x 0) : Nat), .int (ixq eqQ l2 (nx B x 1) : Nat)], st7 W tp l2 pl2 (rsU B l i)) := by
    have := lc_list (mk := uD tp) (g := fun s => D.int (ixq eqQ l2 s : Nat)) (f := lcBk cf G (.name 7) [] (.dget (.var 3) (.var 7)) (en7 t o W x5 lt6 none)) (xs := [nx B x 0, nx B x 1]) (S := st7 W tp l2 pl2 (rsU B l i)) (by show 2 ≤ sizeLine; decide) fun s hs => by
      have : s = nx B x 0 ∨ s = nx B x 1 := by simpa using hs
      rcases this with rfl | rfl
      · simp [lcBk, bind_name, en7, lkv 0 (by omega)]
      · simp [lcBk, bind_name, en7, lkv 1 (by omega)]
    exact this
  have wp : ∀ y, wipeA (en7 t o W x5 lt6 y) [7] = en7 t o W x5 lt6 none := fun y => by
    simp [wipeA, en7]
  have rv : recvOk .append (.ref (W.length + 2)) (st7 W tp l2 pl2 (rsU B l i)) = true := recv_at g32
  have ap : ∀ d, dMe .append (.ref (W.length + 2)) [d] (st7 W tp l2 pl2 (rsU B l i)) = some (.non, st7 W tp l2 pl2 (rsU B l i ++ [d])) := fun d => by
    unfold st7
    rw [app_at g32 (by simp [rsU]; unfold sizeLine; omega), u32]
  have er : D.tup [.int (ixq eqQ l2 (nx B x 0) : Nat), .int (ixq eqQ l2 (nx B x 1) : Nat)] = rwD (ixq eqQ l2 (nx B x 0), ixq eqQ l2 (nx B x 1)) := rfl
  rw [← hlt6]
  unfold tailU
  have wl' : ∀ S : Store, walk false [D.lst [uD tp (nx B x 0), uD tp (nx B x 1)]] S = some [uD tp (nx B x 0), uD tp (nx B x 1)] := fun S => rfl
  simp only [List.map_cons, List.map_nil] at l3
  simp only [ss_cons, s_for, es_cons, es_nil, e_var, v6, wl', stays_lst, evFor, if_true, s1, s2, s_ex, e_meth, v4, rv, e_bi, e_lc, wp, l3, Option.map_some, tp_lst, er, ap, ss_nil, rs2]
/-- what a tuple leads to -/
theorem lcU {cf : CallF} (M : Md t o B oB f tp) (Wt : Wf t o) {x d : Nat} (hx : x < B.length) (hd : d ≤ 1) {E : IE} {ρ : AEnv} (h0 : ρ[0]? = some (some (tbD t))) (h8 : ρ[8]? = some (some (.int (d : Int)))) (hl : ρ.length = 10) (hE : ∀ v, ev cf G E (ρ.set 9 v) S = some (uD tp x, S)) :
    ev cf G (.bi .tuple [(.lc [9] (.name 9) false [(.var 0)] [] (.ix E (.ix (.var 9) (.var 8))))]) ρ S = some (uD tp (nx B x d), S) := by
  have hle := Wt.le
  have ln : (tp x).length = t.length := M.len x hx
  have l1 : evLc (fun _ => true) (lcBk cf G (.name 9) [] (.ix E (.ix (.var 9) (.var 8))) (ρ.set 9 none)) (t.map rwD) [] S = some (t.map (fun p => D.int (ot (tp x) (if d = 0 then p.1 else p.2))), S) :=
    lc_list (mk := rwD) (g := fun p => D.int (ot (tp x) (if d = 0 then p.1 else p.2))) (by unfold sizeLine; omega) fun p hp => by
      obtain ⟨s, hs, e⟩ := List.getElem_of_mem hp
      have hp2 : (nx t s 0, nx t s 1) = p := by
        have := tb_get hs
        rw [List.getElem?_eq_getElem hs, e] at this
        exact (Option.some.inj this).symm
      have q1 := Wt.lt s hs 0
      have q2 := Wt.lt s hs 1
      have h9 : (ρ.set 9 (some (rwD p)))[9]? = some (some (rwD p)) := by simp [hl]
      have h8' : (ρ.set 9 (some (rwD p)))[8]? = some (some (.int (d : Int))) := by
        rw [List.getElem?_set_ne (by omega)]
        exact h8
      have ixr : dIx S (rwD p) (.int (d : Int)) = some (.int ((if d = 0 then p.1 else p.2 : Nat) : Int)) := by
        have : d = 0 ∨ d = 1 := by omega
        rcases this with rfl | rfl <;> rfl
      have ixt : dIx S (uD tp x) (.int ((if d = 0 then p.1 else p.2 : Nat) : Int)) = some (.int (ot (tp x) (if d = 0 then p.1 else p.2))) := by
        refine ix_ot ?_
        rw [ln, ← hp2]
        split
        · exact q1
        · exact q2
      have bd : Tg.bind (.name 9) (rwD p) (ρ.set 9 none) = some (ρ.set 9 (some (rwD p))) := by simp [bind_name, hl]
      unfold lcBk
      rw [bd]
      simp only [eTs_nil, e_ix, hE, e_var, h9, h8', Option.map_some, ixr, ixt]
  have wt : walk false [tbD t] S = some (t.map rwD) := rfl
  have st : ∀ xs, stays false [tbD t] xs = fun _ => true := fun xs => stays_tup
  have wp : wipeA ρ [9] = ρ.set 9 none := rfl
  have fin : D.tup (t.map (fun p => D.int (ot (tp x) (if d = 0 then p.1 else p.2)))) = uD tp (nx B x d) := by
    unfold uD
    rw [← M.step x hx d]
    simp [otD, tw, iD]
  simp only [e_bi, es_cons, es_nil, e_lc, e_var, h0, wt, st, wp, l1, Option.map_some, tp_lst, fin]
end Code

/-! M77s: tuples of outs found, by the program and by the law -/
namespace Code
open PySem Ab
open Mo (nx ot run bits val Wf Sim spec push ixq Md tw eqQ cB)
variable {k : Nat} {S J W : Store} {t B : Mo.Tab} {o oB : List Int} {f : Nat} {tp : Nat → List Int}
theorem T318 : tab ts 318 = some f_outs_and_rows := rfl
theorem T323 : tab ts 323 = some f__law_tuples := rfl
def eltU (E : IE) : IE := .bi .tuple [(.lc [9] (.name 9) false [(.var 0)] [] (.ix E (.ix (.var 9) (.var 8))))]
theorem PU_first (M : Md t o B oB f tp) : PU [(kyU o, .int 0)] [f] tp := ⟨fun v => by
    by_cases e : o = v
    · subst e
      simp [kAt, List.findIdx?_cons, M.start]
    · have c2 : ¬ kyU o = kyU v := fun z => e (kyU_inj z)
      simp [kAt, List.find?_cons, c2, List.findIdx?_cons, M.start, e], by simp⟩
theorem st7_0 (M : Md t o B oB f tp) : W ++ [O.lst [otD o], .dic true [(kyU o, .int 0)], .lst []] = st7 W tp [f] [(kyU o, .int 0)] (rsU B [f] 0) := by
  simp [st7, rsU, uD, M.start]
theorem ix_found {l : List Nat} {pl : List (NestedKey × D)} {rs : List D} {a x : Nat} (e : l[a]? = some x) : dIx (st7 W tp l pl rs) (.ref W.length) (.int (a : Int)) = some (uD tp x) := by
  show ((items (st7 W tp l pl rs) (.ref W.length)).bind fun ds => at_ ds (a : Int)) = _
  rw [items_ref (show (st7 W tp l pl rs)[W.length]? = _ from g30)]
  exact at_map e
theorem len_found {l : List Nat} {pl : List (NestedKey × D)} {rs : List D} : dBi (st7 W tp l pl rs) .len [.ref W.length] = some (.int (l.length : Nat)) := by simp [dBi, items, st7]
theorem len_rows {l : List Nat} {pl : List (NestedKey × D)} {rs : List D} : dBi (st7 W tp l pl rs) .len [.ref (W.length + 2)] = some (.int (rs.length : Nat)) := by
  have : (st7 W tp l pl rs)[W.length + 2]? = some (.lst rs) := g32
  simp only [dBi, items_ref this, Option.map_some]
theorem two_lst {cf : CallF} (M : Md t o B oB f tp) (Wt : Wf t o) {x : Nat} (hx : x < B.length) {E : IE} {x5 x6 x7 : Option D} (hE : ∀ v8 v9, ev cf G E ((en7 t o W x5 x6 x7).set 8 v8 |>.set 9 v9) S = some (uD tp x, S)) {d : Nat} (hd : d ≤ 1) :
    lcBk cf G (.name 8) [] (eltU E) (en7 t o W x5 x6 x7) (.int (d : Int)) S = some (some (uD tp (nx B x d)), S) := by
  have bd : Tg.bind (.name 8) (.int (d : Int)) (en7 t o W x5 x6 x7) = some ((en7 t o W x5 x6 x7).set 8 (some (.int (d : Int)))) := by simp [bind_name, en7]
  have q := lcU (cf := cf) (S := S) M Wt hx hd (E := E) (ρ := (en7 t o W x5 x6 x7).set 8 (some (.int (d : Int)))) rfl rfl rfl fun v => hE _ v
  unfold lcBk eltU
  rw [bd]
  simp only [eTs_nil, q, Option.map_some]
def bodyP : List IS := .asg (.name 5) (.ix (.var 2) (.bi .len [(.var 4)])) :: .asg (.name 6) (.lc [8] (.name 8) true [(.lit (.int 2))] [] (eltU (.var 5))) :: tailU
theorem rs_len {l : List Nat} {a : Nat} (h : a ≤ l.length) : (rsU B l a).length = a := by
  unfold rsU
  rw [List.length_map, List.length_take]
  omega
theorem turnP {cf : CallF} (M : Md t o B oB f tp) (Wt : Wf t o) {i x : Nat} {pl : List (NestedKey × D)} {l : List Nat} {x5 x6 x7 : Option D} (P : PU pl l tp) (F : Mo.Fd B eqQ f l i) (e : l[i]? = some x) :
    ∃ pl' y5 y6 y7, PU pl' (Mo.stp B eqQ (l, i)).1 tp ∧ evSs cf G bodyP (en7 t o W x5 x6 x7) (st7 W tp l pl (rsU B l i)) = some (.next, en7 t o W y5 y6 y7, st7 W tp (Mo.stp B eqQ (l, i)).1 pl' (rsU B (Mo.stp B eqQ (l, i)).1 (i + 1))) := by
  have hx := F.lt _ (List.mem_of_getElem? e)
  have hi : i < l.length := (List.getElem?_eq_some_iff.mp e).1
  obtain ⟨pl', y7, P', s⟩ := tail_step (cf := cf) (W := W) (x5 := some (uD tp x)) (x7 := x7) M P F e
  refine ⟨pl', some (uD tp x), some (.lst [uD tp (nx B x 0), uD tp (nx B x 1)]), y7, P', ?_⟩
  have v2 : ∀ a b c, (en7 t o W a b c)[2]? = some (some (.ref W.length)) := fun _ _ _ => rfl
  have v4 : ∀ a b c, (en7 t o W a b c)[4]? = some (some (.ref (W.length + 2))) := fun _ _ _ => rfl
  have b5 : Tg.bind (.name 5) (uD tp x) (en7 t o W x5 x6 x7) = some (en7 t o W (some (uD tp x)) x6 x7) := by simp [bind_name, en7]
  have b6 : Tg.bind (.name 6) (.lst [uD tp (nx B x 0), uD tp (nx B x 1)]) (en7 t o W (some (uD tp x)) x6 x7) = some (en7 t o W (some (uD tp x)) (some (.lst [uD tp (nx B x 0), uD tp (nx B x 1)])) x7) := by simp [bind_name, en7]
  have wk : ∀ S : Store, walk true [.int 2] S = some (natsD 2) := fun S => walk_rg (n := 2) (by decide)
  have l2 : evLc (fun _ => true) (lcBk cf G (.name 8) [] (eltU (.var 5)) (en7 t o W (some (uD tp x)) x6 x7)) (natsD 2) [] (st7 W tp l pl (rsU B l i)) = some ([uD tp (nx B x 0), uD tp (nx B x 1)], st7 W tp l pl (rsU B l i)) :=
    lc_nats (n := 2) (G := fun d => uD tp (nx B x d)) (by decide) fun d hd => two_lst M Wt hx (fun v8 v9 => by simp [en7]) (by omega)
  have wp : wipeA (en7 t o W (some (uD tp x)) x6 x7) [8] = en7 t o W (some (uD tp x)) x6 x7 := by simp [wipeA, en7]
  unfold bodyP
  simp only [ss_cons, s_asg, e_ix, e_var, v2, e_bi, es_cons, es_nil, v4, len_rows, rs_len (Nat.le_of_lt hi), Option.map_some, ix_found e, b5, e_lc, e_lit, wk, stays_rg, wp, l2, b6]
  exact s
theorem wh_U {cf : CallF} (M : Md t o B oB f tp) (Wt : Wf t o) : ∀ (n : Nat) (l : List Nat) (a fuel : Nat) (pl : List (NestedKey × D)) (x5 x6 x7 : Option D), Mo.Fd B eqQ f l a → PU pl l tp → n < fuel → (Mo.itr B eqQ n (l, a)).1.length ≤ (Mo.itr B eqQ n (l, a)).2 →
    ∃ a' pl' y5 y6 y7, (Mo.itr B eqQ n (l, a)).1.length ≤ a' ∧ a' ≤ (Mo.itr B eqQ n (l, a)).1.length ∧ evWh (evT cf G (.cmp .Lt (.bi .len [(.var 4)]) (.bi .len [(.var 2)]))) (evSs cf G bodyP) fuel (en7 t o W x5 x6 x7) (st7 W tp l pl (rsU B l a)) =
      some (.next, en7 t o W y5 y6 y7, st7 W tp (Mo.itr B eqQ n (l, a)).1 pl' (rsU B (Mo.itr B eqQ n (l, a)).1 a'))
  | n, l, a, 0, _, _, _, _, F, _, hf, _ => by omega
  | n, l, a, fuel + 1, pl, x5, x6, x7, F, P, hf, hc => by
    have v2 : (en7 t o W x5 x6 x7)[2]? = some (some (.ref W.length)) := rfl
    have v4 : (en7 t o W x5 x6 x7)[4]? = some (some (.ref (W.length + 2))) := rfl
    by_cases h : a < l.length
    · cases n with
      | zero => exact absurd hc (by show ¬ l.length ≤ a; omega)
      | succ n =>
        have e : l[a]? = some l[a] := List.getElem?_eq_getElem h
        have F' := F.step M.wf.lt (fun s => by simp)
        obtain ⟨pl1, y5, y6, y7, P1, s1⟩ := turnP (cf := cf) (W := W) (x5 := x5) (x6 := x6) (x7 := x7) M Wt P F e
        have e2 : (Mo.stp B eqQ (l, a)).2 = a + 1 := by rw [Mo.stp_some e]
        have hi : Mo.itr B eqQ (n + 1) (l, a) = Mo.itr B eqQ n ((Mo.stp B eqQ (l, a)).1, a + 1) := by
          show Mo.itr B eqQ n (Mo.stp B eqQ (l, a)) = _
          rw [← e2]
        rw [e2] at F'
        rw [hi] at hc ⊢
        obtain ⟨a', pl', z5, z6, z7, h1, h2, ih⟩ := wh_U M Wt n _ (a + 1) fuel pl1 y5 y6 y7 F' P1 (by omega) hc
        refine ⟨a', pl', z5, z6, z7, h1, h2, ?_⟩
        have hlt : ((a : Nat) : Int) < ((l.length : Nat) : Int) := by omega
        rw [evWh]
        simp only [eT_cmp, e_var, e_bi, es_cons, es_nil, v4, v2, len_rows, len_found, rs_len (Nat.le_of_lt h), Option.map_some, cmp_lt, hlt, decide_true, s1]
        exact ih
    · have fx := Mo.itr_end (t := B) (q := eqQ) (l := l) (a := a) (by omega)
      have hal := F.al
      have hlt : ¬ ((a : Nat) : Int) < ((l.length : Nat) : Int) := by omega
      refine ⟨a, pl, x5, x6, x7, by rw [fx]; show l.length ≤ a; omega, by rw [fx]; exact hal, ?_⟩
      rw [fx, evWh]
      simp only [eT_cmp, e_var, e_bi, es_cons, es_nil, v4, v2, len_rows, len_found, rs_len hal, Option.map_some, cmp_lt, hlt, decide_false]
theorem rsU_all {l : List Nat} {a : Nat} (h : l.length ≤ a) : rsU B l a = l.map fun s => rwD (ixq eqQ l (nx B s 0), ixq eqQ l (nx B s 1)) := by
  unfold rsU
  rw [List.take_of_length_le h]
theorem rows_cB {l : List Nat} (h : l = Mo.fnd B eqQ f) : D.tup (l.map fun s => rwD (ixq eqQ l (nx B s 0), ixq eqQ l (nx B s 1))) = tbD (cB B oB f).1 := by
  unfold cB
  rw [Mo.canon_eq, h]
  simp [tbD]
theorem undr_found {l : List Nat} {n : Nat} : D.undrs n (l.map (uD tp)) = true := by
  induction l with
  | nil => rfl
  | cons a l ih =>
    simp only [List.map_cons, D.undrs, Bool.and_eq_true]
    exact ⟨by simp [uD, otD, D.undr, undr_iD'], ih⟩
def fdD (B : Mo.Tab) (f : Nat) (tp : Nat → List Int) : D := .tup ((Mo.fnd B eqQ f).map (uD tp))
theorem c_oar (hS : okS S) (M : Md t o B oB f tp) (Wt : Wf t o) : call (tab ts) G (k + 1) 318 [tbD t, otD o] S = some (.tup [fdD B f tp, tbD (cB B oB f).1], S) := by
  obtain ⟨F, hc⟩ := Mo.fnd_closed (q := eqQ) (f := f) M.wf M.lt (fun s => by simp)
  obtain ⟨a', pl', y5, y6, y7, h1, h2, h⟩ := wh_U (cf := call (tab ts) G k) (W := S) M Wt 130 [f] 0 1000000 [(kyU o, .int 0)] none none none F (PU_first M) (by omega) hc
  rw [← Mo.fnd_def] at h h1 h2
  rw [rsU_all h1] at h
  have z1 : 1 ≤ sizeLine := by decide
  have z2 : 2 ≤ sizeLine := by decide
  have s0 : startA 10 [tbD t, otD o] = [some (tbD t), some (otD o), none, none, none, none, none, none, none, none] := rfl
  have a1 : evS (call (tab ts) G k) G (.new 2 (.lst [(.var 1)])) [some (tbD t), some (otD o), none, none, none, none, none, none, none, none] S = some (.next, [some (tbD t), some (otD o), some (.ref S.length), none, none, none, none, none, none, none], S ++ [.lst [otD o]]) := by
    simp [z1]
  have a2 : evS (call (tab ts) G k) G (.ddisp 3 (.var 1) (.lit (.int 0))) [some (tbD t), some (otD o), some (.ref S.length), none, none, none, none, none, none, none] (S ++ [.lst [otD o]]) = some (.next, [some (tbD t), some (otD o), some (.ref S.length), some (.ref (S.length + 1)), none, none, none, none, none, none], S ++ [.lst [otD o], .dic true [(kyU o, .int 0)]]) := by
    simp [dkey_U]
  have a3 : evS (call (tab ts) G k) G (.new 4 (.lst [])) [some (tbD t), some (otD o), some (.ref S.length), some (.ref (S.length + 1)), none, none, none, none, none, none] (S ++ [.lst [otD o], .dic true [(kyU o, .int 0)]]) = some (.next, en7 t o S none none none, st7 S tp [f] [(kyU o, .int 0)] (rsU B [f] 0)) := by
    rw [← st7_0 M]
    simp [en7]
  have a4 : evS (call (tab ts) G k) G (.whl 1000000 (.cmp .Lt (.bi .len [(.var 4)]) (.bi .len [(.var 2)])) bodyP) (en7 t o S none none none) (st7 S tp [f] [(kyU o, .int 0)] (rsU B [f] 0)) = _ := h
  obtain ⟨l, hl⟩ : ∃ l, l = Mo.fnd B eqQ f := ⟨_, rfl⟩
  rw [← hl] at a4
  have g0 : (st7 S tp l pl' (l.map fun s => rwD (ixq eqQ l (nx B s 0), ixq eqQ l (nx B s 1))))[S.length]? = some (.lst (l.map (uD tp))) := g30
  have g2 : (st7 S tp l pl' (l.map fun s => rwD (ixq eqQ l (nx B s 0), ixq eqQ l (nx B s 1))))[S.length + 2]? = some (.lst (l.map fun s => rwD (ixq eqQ l (nx B s 0), ixq eqQ l (nx B s 1)))) := g32
  have t2 : dBi (st7 S tp l pl' (l.map fun s => rwD (ixq eqQ l (nx B s 0), ixq eqQ l (nx B s 1)))) .tuple [.ref S.length] = some (.tup (l.map (uD tp))) := by simp only [dBi, items_ref g0, Option.map_some]
  have t4 : dBi (st7 S tp l pl' (l.map fun s => rwD (ixq eqQ l (nx B s 0), ixq eqQ l (nx B s 1)))) .tuple [.ref (S.length + 2)] = some (tbD (cB B oB f).1) := by
    simp only [dBi, items_ref g2, Option.map_some]
    rw [rows_cB hl]
  have v2 : (en7 t o S y5 y6 y7)[2]? = some (some (.ref S.length)) := rfl
  have v4 : (en7 t o S y5 y6 y7)[4]? = some (some (.ref (S.length + 2))) := rfl
  have tr : trunc S.length (D.tup [fdD B f tp, tbD (cB B oB f).1]) (st7 S tp l pl' (l.map fun s => rwD (ixq eqQ l (nx B s 0), ixq eqQ l (nx B s 1)))) = (.tup [fdD B f tp, tbD (cB B oB f).1], S) := by
    unfold st7
    exact trunc_j (by simp [D.undr, D.undrs, fdD, undr_found, tbD, undr_tb]) hS
  have fd : D.tup (l.map (uD tp)) = fdD B f tp := by rw [hl]; rfl
  rw [call_of T318 rfl]
  unfold bodyP eltU tailU wayU at a4
  simp only [f_outs_and_rows, b_outs_and_rows]
  rw [show (["ways", "outs", "found", "numbers", "rows", "own", "later", "row", "digit", "way"] : List Str).length = 10 from rfl, s0]
  simp only [ss_cons, a1, a2, a3, a4, s_ret, e_tup, es_cons, es_nil, e_bi, e_var, v2, v4, t2, t4, Option.map_some, List.length_cons, List.length_nil, Nat.zero_add, Nat.reduceAdd, z2, if_true, fd, tr]
end Code

/-! M77t: tuples of outs found, by the law; what comes of them -/
namespace Code
open PySem Ab
open Mo (nx ot run bits val Wf Sim spec push ixq Md tw eqQ cB)
variable {k : Nat} {S J W : Store} {t B : Mo.Tab} {o oB : List Int} {f : Nat} {tp : Nat → List Int}
theorem T319 : tab ts 319 = some f_sequence_of_substitution := rfl
theorem T320 : tab ts 320 = some f_substitution_of := rfl
def bodyL : List IS := [.ite (.cmp .Lt (.var 5) (.bi .len [(.var 2)])) (.asg (.name 6) (.lc [8] (.name 8) false [(.tup [(.lit (.int 0)), (.lit (.int 1))])] [] (eltU (.ix (.var 2) (.var 5)))) :: tailU) []]
theorem turnL {cf : CallF} (M : Md t o B oB f tp) (Wt : Wf t o) {i x : Nat} {pl : List (NestedKey × D)} {l : List Nat} {x5 x6 x7 : Option D} (P : PU pl l tp) (F : Mo.Fd B eqQ f l i) (e : l[i]? = some x) :
    ∃ pl' y6 y7, PU pl' (Mo.stp B eqQ (l, i)).1 tp ∧ forF cf G (.name 5) bodyL (.int (i : Int)) (en7 t o W x5 x6 x7) (st7 W tp l pl (rsU B l i)) = some (.next, en7 t o W (some (.int (i : Int))) y6 y7, st7 W tp (Mo.stp B eqQ (l, i)).1 pl' (rsU B (Mo.stp B eqQ (l, i)).1 (i + 1))) := by
  have hx := F.lt _ (List.mem_of_getElem? e)
  have hi : i < l.length := (List.getElem?_eq_some_iff.mp e).1
  obtain ⟨pl', y7, P', s⟩ := tail_step (cf := cf) (W := W) (x5 := some (.int (i : Int))) (x7 := x7) M P F e
  refine ⟨pl', some (.lst [uD tp (nx B x 0), uD tp (nx B x 1)]), y7, P', ?_⟩
  have v2 : ∀ a b c, (en7 t o W a b c)[2]? = some (some (.ref W.length)) := fun _ _ _ => rfl
  have v5 : ∀ b c, (en7 t o W (some (.int (i : Int))) b c)[5]? = some (some (.int (i : Int))) := fun _ _ => rfl
  have b5 : Tg.bind (.name 5) (.int (i : Int)) (en7 t o W x5 x6 x7) = some (en7 t o W (some (.int (i : Int))) x6 x7) := by simp [bind_name, en7]
  have b6 : Tg.bind (.name 6) (.lst [uD tp (nx B x 0), uD tp (nx B x 1)]) (en7 t o W (some (.int (i : Int))) x6 x7) = some (en7 t o W (some (.int (i : Int))) (some (.lst [uD tp (nx B x 0), uD tp (nx B x 1)])) x7) := by simp [bind_name, en7]
  have wk : ∀ S : Store, walk false [.tup [.int 0, .int 1]] S = some [.int 0, .int 1] := fun S => rfl
  have l2 : evLc (fun _ => true) (lcBk cf G (.name 8) [] (eltU (.ix (.var 2) (.var 5))) (en7 t o W (some (.int (i : Int))) x6 x7)) [.int 0, .int 1] [] (st7 W tp l pl (rsU B l i)) = some ([uD tp (nx B x 0), uD tp (nx B x 1)], st7 W tp l pl (rsU B l i)) := by
    have := lc_list (mk := fun d : Nat => D.int (d : Int)) (g := fun d => uD tp (nx B x d)) (f := lcBk cf G (.name 8) [] (eltU (.ix (.var 2) (.var 5))) (en7 t o W (some (.int (i : Int))) x6 x7)) (xs := [0, 1]) (S := st7 W tp l pl (rsU B l i)) (by decide) fun d hd => two_lst M Wt hx (fun v8 v9 => by
      have := ix_found (W := W) (tp := tp) (pl := pl) (rs := rsU B l i) e
      simp [en7, this]) (by
        have : d = 0 ∨ d = 1 := by simpa using hd
        omega)
    exact this
  have wp : wipeA (en7 t o W (some (.int (i : Int))) x6 x7) [8] = en7 t o W (some (.int (i : Int))) x6 x7 := by simp [wipeA, en7]
  have hlt : ((i : Nat) : Int) < ((l.length : Nat) : Int) := by omega
  have z2 : 2 ≤ sizeLine := by decide
  unfold forF
  rw [b5]
  dsimp only
  unfold bodyL
  simp only [ss_cons, s_ite, eT_cmp, e_var, v5, v2, e_bi, es_cons, es_nil, len_found, Option.map_some, cmp_lt, hlt, decide_true, s_asg, e_lc, e_tup, e_lit, List.length_cons, List.length_nil, Nat.zero_add, Nat.reduceAdd, z2, if_true, wk, stays_tup, wp, l2, b6, s, ss_nil]
theorem for_L {cf : CallF} (M : Md t o B oB f tp) (Wt : Wf t o) (hB : B.length ≤ 81) : ∃ l pl a y5 y6 y7, Mo.itr B eqQ 81 ([f], 0) = (l, a) ∧ evFor (fun _ => true) (forF cf G (.name 5) bodyL) (natsD 81) (en7 t o W none none none) (st7 W tp [f] [(kyU o, .int 0)] (rsU B [f] 0)) =
      some (.next, en7 t o W y5 y6 y7, st7 W tp l pl (rsU B l a)) := by
  have rf : ∀ s, eqQ s s = true := fun s => by simp
  obtain ⟨F0, _⟩ := Mo.fnd_closed (q := eqQ) (f := f) M.wf M.lt rf
  obtain ⟨ρ', S', h1, l, a, pl, h2, h3, h4, h5, y5, y6, y7, hρ, hS'⟩ := evFor_inv (chk := fun _ => true) (body := forF cf G (.name 5) bodyL)
    (fun i ρ S' => ∃ l a pl, Mo.itr B eqQ i ([f], 0) = (l, a) ∧ (a = i ∨ l.length ≤ a) ∧ a ≤ i ∧ PU pl l tp ∧ ∃ y5 y6 y7, ρ = en7 t o W y5 y6 y7 ∧ S' = st7 W tp l pl (rsU B l a))
    (ds := natsD 81) (n := 0) (ρ := en7 t o W none none none) (S := st7 W tp [f] [(kyU o, .int 0)] (rsU B [f] 0)) (fun _ _ _ _ => rfl) ⟨[f], 0, [(kyU o, .int 0)], rfl, .inl rfl, Nat.le_refl _, PU_first M, none, none, none, rfl, rfl⟩ (fun i hi ρ S' ⟨l, a, pl, h2, h3, h4, h5, y5, y6, y7, hρ, hS'⟩ => by
      have hi : i < 81 := by simpa [natsD] using hi
      rw [Nat.zero_add] at *
      subst hρ hS'
      have en : (natsD 81)[i]'(by simpa [natsD] using hi) = .int (i : Int) := by simp [natsD]
      rw [en]
      have Fi := (Mo.Fd.itr M.wf.lt rf i F0).1
      rw [h2] at Fi
      have hs : Mo.itr B eqQ (i + 1) ([f], 0) = Mo.stp B eqQ (l, a) := by rw [Mo.itr_last, h2]
      by_cases h : i < l.length
      · have ea : a = i := by omega
        subst ea
        obtain ⟨pl', y6', y7', P', e⟩ := turnL (W := W) (cf := cf) (x5 := y5) (x6 := y6) (x7 := y7) M Wt h5 Fi (List.getElem?_eq_getElem h)
        have e2 : (Mo.stp B eqQ (l, a)).2 = a + 1 := by
          rw [Mo.stp_some (List.getElem?_eq_getElem h)]
        exact ⟨_, _, e, (Mo.stp B eqQ (l, a)).1, a + 1, pl', by rw [hs, ← e2], .inl rfl, Nat.le_refl _, P', _, y6', y7', rfl, rfl⟩
      · have hla : l.length ≤ a := by omega
        rw [Mo.stp_end hla] at hs
        refine ⟨en7 t o W (some (.int (i : Int))) y6 y7, _, ?_, l, a, pl, hs, .inr hla, by omega, h5, some (.int (i : Int)), y6, y7, rfl, rfl⟩
        have b5 : Tg.bind (.name 5) (.int (i : Int)) (en7 t o W y5 y6 y7) = some (en7 t o W (some (.int (i : Int))) y6 y7) := by
          simp [bind_name, en7]
        have hlt : ¬ ((i : Nat) : Int) < ((l.length : Nat) : Int) := by omega
        have v2 : (en7 t o W (some (.int (i : Int))) y6 y7)[2]? = some (some (.ref W.length)) := rfl
        have v5 : (en7 t o W (some (.int (i : Int))) y6 y7)[5]? = some (some (.int (i : Int))) := rfl
        unfold forF
        rw [b5]
        dsimp only
        unfold bodyL
        simp only [ss_cons, s_ite, eT_cmp, e_var, e_bi, es_cons, es_nil, v5, v2, len_found, Option.map_some, cmp_lt, hlt, decide_false, ss_nil])
  have hl : (natsD 81).length = 81 := by simp [natsD]
  rw [hl, Nat.zero_add] at h2
  subst hρ hS'
  exact ⟨l, pl, a, y5, y6, y7, h2, h1⟩
theorem heads_cB (M : Md t o B oB f tp) : D.tup ((Mo.fnd B eqQ f).map fun s => D.int (ot (tp s) 0)) = otD (cB B oB f).2 := by
  unfold cB
  rw [Mo.canon_eq]
  have : ∀ l : List Nat, (∀ x ∈ l, x < B.length) → l.map (fun s => D.int (ot (tp s) 0)) = (l.map (ot oB)).map D.int := by
    intro l
    induction l with
    | nil => intro _; rfl
    | cons a l ih =>
      intro h
      rw [List.map_cons, List.map_cons, List.map_cons, ih fun x hx => h x (by simp [hx]), M.out a (h a (by simp))]
  rw [this _ M.al.lt]
  rfl
theorem ix_head (M : Md t o B oB f tp) (Wt : Wf t o) {s : Nat} (hs : s < B.length) : dIx S (uD tp s) (.int 0) = some (.int (ot (tp s) 0)) := ix_ot (s := 0) (by rw [M.len s hs]; exact Wt.pos)
theorem c_tuples (hS : okS S) (M : Md t o B oB f tp) (Wt : Wf t o) (hB : B.length ≤ 81) : call (tab ts) G (k + 1) 323 [tbD t, otD o] S = some (sqD (cB B oB f).1 (cB B oB f).2, S) := by
  have hle := M.wf.le
  obtain ⟨l, pl, a, y5, y6, y7, h1, h⟩ := for_L (cf := call (tab ts) G k) (W := S) M Wt hB
  obtain ⟨t1, t2⟩ := Mo.fnd_turns (q := eqQ) M.wf M.lt (fun s => by simp)
  have e81 : Mo.itr B eqQ 81 ([f], 0) = Mo.itr B eqQ B.length ([f], 0) := by
    have e2 := Mo.itr_add (t := B) (q := eqQ) B.length (81 - B.length) ([f], 0)
    rw [show B.length + (81 - B.length) = 81 by omega] at e2
    rw [e2]
    obtain ⟨q1, q2⟩ : ∃ q, q = Mo.itr B eqQ B.length ([f], 0) := ⟨_, rfl⟩
    rw [← q2] at t2 ⊢
    obtain ⟨a1, a2⟩ := q1
    exact Mo.itr_end t2 _
  rw [← e81, h1] at t1 t2
  dsimp only at t1 t2
  rw [rsU_all t2] at h
  have z1 : 1 ≤ sizeLine := by decide
  have z2 : 2 ≤ sizeLine := by decide
  have s0 : startA 10 [tbD t, otD o] = [some (tbD t), some (otD o), none, none, none, none, none, none, none, none] := rfl
  have tpl : dBi S .tuple [otD o] = some (otD o) := rfl
  have ix0 : dIx (S ++ [.lst [otD o]]) (.ref S.length) (.int 0) = some (otD o) := by
    show ((items (S ++ [.lst [otD o]]) (.ref S.length)).bind fun ds => at_ ds (0 : Int)) = _
    rw [items_ref (show (S ++ [O.lst [otD o]])[S.length]? = _ from g1)]
    rfl
  have a1 : evS (call (tab ts) G k) G (.new 2 (.lst [(.bi .tuple [(.var 1)])])) [some (tbD t), some (otD o), none, none, none, none, none, none, none, none] S = some (.next, [some (tbD t), some (otD o), some (.ref S.length), none, none, none, none, none, none, none], S ++ [.lst [otD o]]) := by
    simp [z1, tpl]
  have a2 : evS (call (tab ts) G k) G (.ddisp 3 (.ix (.var 2) (.lit (.int 0))) (.lit (.int 0))) [some (tbD t), some (otD o), some (.ref S.length), none, none, none, none, none, none, none] (S ++ [.lst [otD o]]) = some (.next, [some (tbD t), some (otD o), some (.ref S.length), some (.ref (S.length + 1)), none, none, none, none, none, none], S ++ [.lst [otD o], .dic true [(kyU o, .int 0)]]) := by
    simp [ix0, dkey_U]
  have a3 : evS (call (tab ts) G k) G (.new 4 (.lst [])) [some (tbD t), some (otD o), some (.ref S.length), some (.ref (S.length + 1)), none, none, none, none, none, none] (S ++ [.lst [otD o], .dic true [(kyU o, .int 0)]]) = some (.next, en7 t o S none none none, st7 S tp [f] [(kyU o, .int 0)] (rsU B [f] 0)) := by
    rw [← st7_0 M]
    simp [en7]
  have wk : ∀ S : Store, walk true [.int 81] S = some (natsD 81) := fun S => walk_rg (n := 81) (by decide)
  have a4 : evS (call (tab ts) G k) G (.for_ (.name 5) true [(.lit (.int 81))] bodyL) (en7 t o S none none none) (st7 S tp [f] [(kyU o, .int 0)] (rsU B [f] 0)) = some (.next, en7 t o S y5 y6 y7, st7 S tp l pl (l.map fun s => rwD (ixq eqQ l (nx B s 0), ixq eqQ l (nx B s 1)))) := by
    simp only [s_for, es_cons, es_nil, e_lit, wk, stays_rg, h]
  have g0 : (st7 S tp l pl (l.map fun s => rwD (ixq eqQ l (nx B s 0), ixq eqQ l (nx B s 1))))[S.length]? = some (.lst (l.map (uD tp))) := g30
  have g2 : (st7 S tp l pl (l.map fun s => rwD (ixq eqQ l (nx B s 0), ixq eqQ l (nx B s 1))))[S.length + 2]? = some (.lst (l.map fun s => rwD (ixq eqQ l (nx B s 0), ixq eqQ l (nx B s 1)))) := g32
  have t4 : dBi (st7 S tp l pl (l.map fun s => rwD (ixq eqQ l (nx B s 0), ixq eqQ l (nx B s 1)))) .tuple [.ref (S.length + 2)] = some (tbD (cB B oB f).1) := by
    simp only [dBi, items_ref g2, Option.map_some]
    rw [rows_cB t1]
  have lB : ∀ s ∈ l, s < B.length := fun s hs => M.al.lt s (by rw [← t1]; exact hs)
  have llen : l.length ≤ 130 := by
    have := M.al.le
    rw [t1]
    omega
  have wl : walk false [.ref S.length] (st7 S tp l pl (l.map fun s => rwD (ixq eqQ l (nx B s 0), ixq eqQ l (nx B s 1)))) = some (l.map (uD tp)) := by
    show items (st7 S tp l pl _) (.ref S.length) = _
    rw [items_ref g0]
  have sl : stays false [.ref S.length] (l.map (uD tp)) (st7 S tp l pl (l.map fun s => rwD (ixq eqQ l (nx B s 0), ixq eqQ l (nx B s 1)))) = true := by
    simp only [stays, g0]
    exact D.sames_refl _
  have l5 : evLc (stays false [.ref S.length] (l.map (uD tp))) (lcBk (call (tab ts) G k) G (.name 7) [] (.ix (.var 7) (.lit (.int 0))) (en7 t o S y5 y6 none)) (l.map (uD tp)) [] (st7 S tp l pl (l.map fun s => rwD (ixq eqQ l (nx B s 0), ixq eqQ l (nx B s 1)))) =
      some (l.map (fun s => D.int (ot (tp s) 0)), st7 S tp l pl (l.map fun s => rwD (ixq eqQ l (nx B s 0), ixq eqQ l (nx B s 1)))) :=
    lc_chk (mk := uD tp) (g := fun s => D.int (ot (tp s) 0)) sl (by unfold sizeLine; omega) fun s hs => by
      simp [lcBk, bind_name, en7, ix_head M Wt (lB s hs)]
  have wp : wipeA (en7 t o S y5 y6 y7) [7] = en7 t o S y5 y6 none := by simp [wipeA, en7]
  have v2 : (en7 t o S y5 y6 y7)[2]? = some (some (.ref S.length)) := rfl
  have v4 : (en7 t o S y5 y6 y7)[4]? = some (some (.ref (S.length + 2))) := rfl
  have hd : D.tup (l.map fun s => D.int (ot (tp s) 0)) = otD (cB B oB f).2 := by rw [t1]; exact heads_cB M
  have fin : D.tup [tbD (cB B oB f).1, otD (cB B oB f).2] = sqD (cB B oB f).1 (cB B oB f).2 := rfl
  have tr : trunc S.length (sqD (cB B oB f).1 (cB B oB f).2) (st7 S tp l pl (l.map fun s => rwD (ixq eqQ l (nx B s 0), ixq eqQ l (nx B s 1)))) = (sqD (cB B oB f).1 (cB B oB f).2, S) := by
    unfold st7
    exact trunc_j undr_sq hS
  rw [call_of T323 rfl]
  unfold bodyL eltU tailU wayU at a4
  simp only [f__law_tuples, b__law_tuples]
  rw [show (["ways", "outs", "found", "places", "rows", "k", "later", "own", "digit", "way"] : List Str).length = 10 from rfl, s0]
  simp only [ss_cons, a1, a2, a3, a4, s_ret, e_tup, es_cons, es_nil, e_bi, e_var, v4, t4, Option.map_some, e_lc, v2, wl, wp, l5, tp_lst, hd, List.length_cons, List.length_nil, Nat.zero_add, Nat.reduceAdd, z2, if_true, fin, tr]
/-! ### what comes of them -/
theorem ev_heads {cf : CallF} (M : Md t o B oB f tp) (Wt : Wf t o) {i j : Nat} {ρ : AEnv} (hi : ρ[i]? = some (some (fdD B f tp))) (hj : j < ρ.length) : ev cf G (.bi .tuple [(.lc [j] (.name j) false [(.var i)] [] (.ix (.var j) (.lit (.int 0))))]) ρ S = some (otD (cB B oB f).2, S) := by
  have hle := M.wf.le
  have wl : walk false [fdD B f tp] S = some ((Mo.fnd B eqQ f).map (uD tp)) := rfl
  have st : ∀ xs, stays false [fdD B f tp] xs = fun _ => true := fun xs => stays_tup
  have l1 : evLc (fun _ => true) (lcBk cf G (.name j) [] (.ix (.var j) (.lit (.int 0))) (ρ.set j none)) ((Mo.fnd B eqQ f).map (uD tp)) [] S = some ((Mo.fnd B eqQ f).map (fun s => D.int (ot (tp s) 0)), S) :=
    lc_list (mk := uD tp) (g := fun s => D.int (ot (tp s) 0)) (by have := M.al.le; unfold sizeLine; omega) fun s hs => by
      have bd : Tg.bind (.name j) (uD tp s) (ρ.set j none) = some (ρ.set j (some (uD tp s))) := by simp [bind_name, hj]
      have gj : (ρ.set j (some (uD tp s)))[j]? = some (some (uD tp s)) := by simp [hj]
      unfold lcBk
      rw [bd]
      simp only [eTs_nil, e_ix, e_var, e_lit, gj, ix_head M Wt (M.al.lt s hs), Option.map_some]
  have wp : wipeA ρ [j] = ρ.set j none := rfl
  simp only [e_bi, es_cons, es_nil, e_lc, e_var, hi, wl, st, wp, l1, Option.map_some, tp_lst, heads_cB M]
theorem c_seqof (hS : okS S) (M : Md t o B oB f tp) (Wt : Wf t o) : call (tab ts) G (k + 6) 319 [tbD t, otD o] S = some (sqD (spec (cB B oB f).1 (cB B oB f).2 0).1 (spec (cB B oB f).1 (cB B oB f).2 0).2, S) := by
  have e1 := c_oar (k := k + 4) hS M Wt
  have e2 := c_least (k := k) (S := S) hS M.cwf
  have z2 : 2 ≤ sizeLine := by decide
  have bd : Tg.bind (.tup [.name 2, .name 3]) (.tup [fdD B f tp, tbD (cB B oB f).1]) [some (tbD t), some (otD o), none, none, none] = some [some (tbD t), some (otD o), some (fdD B f tp), some (tbD (cB B oB f).1), none] := by simp [Tg.bind, Tg.binds]
  have hd := ev_heads (cf := call (tab ts) G (k + 5)) (S := S) M Wt (i := 2) (j := 4) (ρ := [some (tbD t), some (otD o), some (fdD B f tp), some (tbD (cB B oB f).1), none]) rfl (by simp)
  have fin : D.tup [tbD (cB B oB f).1, otD (cB B oB f).2] = sqD (cB B oB f).1 (cB B oB f).2 := rfl
  rw [call_of T319 rfl]
  simp only [f_sequence_of_substitution, b_sequence_of_substitution]
  rw [show startA (["rows", "outs", "found", "table", "own"] : List Str).length [tbD t, otD o] = [some (tbD t), some (otD o), none, none, none] from rfl]
  simp only [ss_cons, s_asg, e_call, es_cons, es_nil, e_var, List.getElem?_cons_succ, List.getElem?_cons_zero, e1, bd, Option.map_some, s_ret, e_tup, hd, List.length_cons, List.length_nil, Nat.zero_add, Nat.reduceAdd, z2, if_true, fin, e2, trunc_len]
theorem c_substof (hS : okS S) (Wt : Wf t o) (M : Md (spec t o 0).1 (spec t o 0).2 B oB f tp) : call (tab ts) G (k + 6) 320 [sqD t o] S = some (sqD (cB B oB f).1 (cB B oB f).2, S) := by
  have Ws := Mo.spec_wf Wt Wt.pos
  have e1 := c_oar (k := k + 4) hS M Ws
  have e2 := c_least (k := k) (S := S) hS Wt
  have z2 : 2 ≤ sizeLine := by decide
  have b1 : Tg.bind (.tup [.name 1, .name 2]) (sqD (spec t o 0).1 (spec t o 0).2) [some (sqD t o), none, none, none, none, none] = some [some (sqD t o), some (tbD (spec t o 0).1), some (otD (spec t o 0).2), none, none, none] := by simp [Tg.bind, Tg.binds, sqD]
  have bd : Tg.bind (.tup [.name 3, .name 4]) (.tup [fdD B f tp, tbD (cB B oB f).1]) [some (sqD t o), some (tbD (spec t o 0).1), some (otD (spec t o 0).2), none, none, none] = some [some (sqD t o), some (tbD (spec t o 0).1), some (otD (spec t o 0).2), some (fdD B f tp), some (tbD (cB B oB f).1), none] := by simp [Tg.bind, Tg.binds]
  have hd := ev_heads (cf := call (tab ts) G (k + 5)) (S := S) M Ws (i := 3) (j := 5) (ρ := [some (sqD t o), some (tbD (spec t o 0).1), some (otD (spec t o 0).2), some (fdD B f tp), some (tbD (cB B oB f).1), none]) rfl (by simp)
  have fin : D.tup [tbD (cB B oB f).1, otD (cB B oB f).2] = sqD (cB B oB f).1 (cB B oB f).2 := rfl
  rw [call_of T320 rfl]
  simp only [f_substitution_of, b_substitution_of]
  rw [show startA (["sequence", "table", "outs", "found", "rows", "own"] : List Str).length [sqD t o] = [some (sqD t o), none, none, none, none, none] from rfl]
  simp only [ss_cons, s_asg, e_call, es_cons, es_nil, e_var, List.getElem?_cons_succ, List.getElem?_cons_zero, e1, e2, b1, bd, Option.map_some, s_ret, e_tup, hd, List.length_cons, List.length_nil, Nat.zero_add, Nat.reduceAdd, z2, if_true, fin, trunc_len]
end Code

/-! M77u: rows, letters, substitutions checked -/
namespace Code
open PySem Ab
open Mo (nx ot run bits val Wf Sim spec lt')
variable {k : Nat} {S J W : Store} {t : Mo.Tab} {o : List Int}
theorem T314 : tab ts 314 = some f_is_pair_of_letters := rfl
theorem T315 : tab ts 315 = some f_is_substitution := rfl
theorem T316 : tab ts 316 = some f_check_substitution := rfl
theorem T317 : tab ts 317 = some f_substituted_row := rfl
theorem T322 : tab ts 322 = some f__law_letter_at := rfl
theorem T324 : tab ts 324 = some f__law_is_refused := rfl
theorem T927 : tab ts 927 = some f_q_check_substitution := rfl
theorem T273 : tab ts 273 = some f_sequence_row := rfl
@[simp] theorem e_chain {cf : CallF} {gl : Str → Option D} {ρ : AEnv} {op op' : CmpOp} {a b c : IE} : ev cf gl (.chain op op' a b c) ρ S = (match ev cf gl a ρ S with
    | some (x, S1) => (match ev cf gl b ρ S1 with
      | some (y, S2) => (match dCmp S2 op x y with
        | some true => (match ev cf gl c ρ S2 with
          | some (z, S3) => (dCmp S3 op' y z).map fun r => (.bl r, S3)
          | none => none)
        | some false => some (.bl false, S2)
        | none => none)
      | none => none)
    | none => none) := nd rfl
@[simp] theorem cmp_le {i j : Int} : dCmp S .LtE (.int i) (.int j) = some (decide (i ≤ j)) := nd rfl
/-! ### the row -/
def ltL (t : Mo.Tab) (n : Nat) : List Nat := (List.range n).map (lt' t)
theorem ltL_succ {n : Nat} : ltL t (n + 1) = ltL t n ++ [lt' t n] := by simp [ltL, List.range_succ]
theorem c_subrow {n : Nat} (hS : okS S) (Wt : Wf t o) (hn : n ≤ 1000) : call (tab ts) G (k + 1) 317 [tbD t, .int (n : Int)] S = some (.tup (nD (ltL t n)), S) := by
  have z0 : 0 ≤ sizeLine := by decide
  obtain ⟨ρ', S', h1, x3, hρ, hS'⟩ := evFor_inv (chk := fun _ => true) (body := forF (call (tab ts) G k) G (.name 3) [.ex (.meth .append (.var 2) [(.ite (.cmp .Gt (.var 3) (.lit (.int 0))) (.ix (.ix (.var 0) (.ix (.var 2) (.bin .FloorDiv (.var 3) (.lit (.int 2))))) (.bin .Mod (.var 3) (.lit (.int 2)))) (.lit (.int 0)))])])
    (fun i ρ S' => ∃ x3, ρ = [some (tbD t), some (.int (n : Int)), some (.ref S.length), x3] ∧ S' = S ++ [.lst (nD (ltL t i))])
    (ds := natsD n) (n := 0) (ρ := [some (tbD t), some (.int (n : Int)), some (.ref S.length), none]) (S := S ++ [.lst []]) (fun _ _ _ _ => rfl) ⟨none, rfl, rfl⟩ (fun i hi ρ S' ⟨x3, hρ, hS'⟩ => by
      have hi : i < n := by simpa [natsD] using hi
      rw [Nat.zero_add] at *
      subst hρ hS'
      have en : (natsD n)[i]'(by simpa [natsD] using hi) = .int (i : Int) := by simp [natsD]
      rw [en]
      have g : (S ++ [O.lst (nD (ltL t i))])[S.length]? = some (.lst (nD (ltL t i))) := g1
      have rv : recvOk .append (.ref S.length) (S ++ [O.lst (nD (ltL t i))]) = true := recv_at g
      have ap : dMe .append (.ref S.length) [.int (lt' t i : Nat)] (S ++ [O.lst (nD (ltL t i))]) = some (.non, S ++ [.lst (nD (ltL t (i + 1)))]) := by
        rw [app_at g (by simp [nD, ltL]; unfold sizeLine; omega), u1, ltL_succ]
        simp [nD]
      refine ⟨[some (tbD t), some (.int (n : Int)), some (.ref S.length), some (.int (i : Int))], _, ?_, _, rfl, rfl⟩
      unfold forF
      have b3 : Tg.bind (.name 3) (.int (i : Int)) [some (tbD t), some (.int (n : Int)), some (.ref S.length), x3] = some [some (tbD t), some (.int (n : Int)), some (.ref S.length), some (.int (i : Int))] := by simp [bind_name]
      rw [b3]
      by_cases h0 : i = 0
      · subst h0
        have e0 : lt' t 0 = 0 := Mo.lt_zero
        rw [e0] at ap
        have ap : dMe .append (.ref S.length) [.int 0] (S ++ [O.lst (nD (ltL t 0))]) = some (.non, S ++ [.lst (nD (ltL t 1))]) := ap
        simp [rv, ap]
      · have e0 := Mo.lt_pos (t := t) h0
        have hp : (0 : Int) < (i : Int) := by omega
        have dv : ev (call (tab ts) G k) G (.bin .FloorDiv (.var 3) (.lit (.int 2))) [some (tbD t), some (.int (n : Int)), some (.ref S.length), some (.int (i : Int))] (S ++ [O.lst (nD (ltL t i))]) = some (.int ((i / 2 : Nat) : Int), S ++ [O.lst (nD (ltL t i))]) := by
          simp only [e_bin, e_var, e_lit, List.getElem?_cons_succ, List.getElem?_cons_zero, bin_int, div2, Option.map_some]
        have md : ev (call (tab ts) G k) G (.bin .Mod (.var 3) (.lit (.int 2))) [some (tbD t), some (.int (n : Int)), some (.ref S.length), some (.int (i : Int))] (S ++ [O.lst (nD (ltL t i))]) = some (.int ((i % 2 : Nat) : Int), S ++ [O.lst (nD (ltL t i))]) := by
          simp only [e_bin, e_var, e_lit, List.getElem?_cons_succ, List.getElem?_cons_zero, bin_int, mod2, Option.map_some]
        have ixl : dIx (S ++ [O.lst (nD (ltL t i))]) (.ref S.length) (.int ((i / 2 : Nat) : Int)) = some (.int (lt' t (i / 2) : Nat)) := by
          show ((items (S ++ [O.lst (nD (ltL t i))]) (.ref S.length)).bind fun ds => at_ ds ((i / 2 : Nat) : Int)) = _
          rw [items_ref g]
          refine at_map (g := fun n : Nat => D.int (n : Int)) ?_
          unfold ltL
          rw [List.getElem?_map, List.getElem?_range (by omega)]
          rfl
        have ixt := ix_tb (S := S ++ [O.lst (nD (ltL t i))]) (Mo.lt_lt Wt (i / 2))
        have ixr := ix_rw (S := S ++ [O.lst (nD (ltL t i))]) (t := t) (s := lt' t (i / 2)) (d := i % 2) (by omega)
        rw [← e0] at ixr
        simp only [ss_cons, s_ex, e_meth, e_var, List.getElem?_cons_succ, List.getElem?_cons_zero, rv, if_true, es_cons, es_nil, e_ite, eT_cmp, e_lit, cmp_gt, hp, decide_true, e_ix, dv, md, ixl, ixt, ixr, Option.map_some, ap, ss_nil])
  have hl : (natsD n).length = n := by simp [natsD]
  rw [hl, Nat.zero_add] at hS'
  subst hρ hS'
  have g : (S ++ [O.lst (nD (ltL t n))])[S.length]? = some (.lst (nD (ltL t n))) := g1
  have tp2 : dBi (S ++ [O.lst (nD (ltL t n))]) .tuple [.ref S.length] = some (.tup (nD (ltL t n))) := by simp only [dBi, items_ref g, Option.map_some]
  have wk : walk true [.int (n : Int)] (S ++ [.lst []]) = some (natsD n) := walk_rg (by unfold sizeLine; omega)
  have tr : trunc S.length (D.tup (nD (ltL t n))) (S ++ [O.lst (nD (ltL t n))]) = (.tup (nD (ltL t n)), S) := trunc_j (by simp [D.undr]) hS
  rw [call_of T317 rfl]
  simp only [f_substituted_row, b_substituted_row]
  rw [show startA (["rows", "many", "letters", "n"] : List Str).length [tbD t, .int (n : Int)] = [some (tbD t), some (.int (n : Int)), none, none] from rfl]
  have a1 : evS (call (tab ts) G k) G (.new 2 (.lst [])) [some (tbD t), some (.int (n : Int)), none, none] S = some (.next, [some (tbD t), some (.int (n : Int)), some (.ref S.length), none], S ++ [.lst []]) := by simp
  simp only [ss_cons, a1, s_for, es_cons, es_nil, e_var, List.getElem?_cons_succ, List.getElem?_cons_zero, wk, stays_rg, h1, s_ret, e_bi, tp2, Option.map_some, tr]
theorem c_letter {n b : Nat} (Wt : Wf t o) (hn : n < 2 ^ b) (hb : b ≤ 1000) : call (tab ts) G (k + 3) 322 [tbD t, .int (n : Int)] S = some (.int (lt' t n : Nat), S) := by
  obtain ⟨ρ', S', h1, h2, _, x, h3⟩ := for_fold (fun n : Nat => D.int (n : Int)) (body := forF (call (tab ts) G (k + 2)) G (.name 3) [.asg (.name 2) (.ix (.ix (.var 0) (.var 2)) (.var 3))]) (nx t)
    (fun s ρ S' => S' = S ∧ s < t.length ∧ ∃ x, ρ = [some (tbD t), some (.int (n : Int)), some (.int ((s : Nat) : Int)), x]) (xs := (bits n).reverse) (b := 0) (ρ := [some (tbD t), some (.int (n : Int)), some (.int 0), none]) (S := S) ⟨rfl, Wt.pos, none, rfl⟩ (fun d hd s ρ S' ⟨hS, hs, x, hρ⟩ => by
      subst hS hρ
      have hd' := Mo.bits_01 (List.mem_reverse.mp hd)
      refine ⟨[some (tbD t), some (.int (n : Int)), some (.int (nx t s d : Nat)), some (.int (d : Int))], _, ?_, rfl, Wt.lt s hs d, _, rfl⟩
      simp [forF, Tg.bind, ix_tb hs, ix_rw hd'])
  rw [h2, h3] at h1
  have rv : dRev S (.lst (nD (bits n))) = some (.lst ((bits n).reverse.map fun n : Nat => D.int (n : Int))) := by
    simp [dRev, items, nD]
  rw [call_of T322 rfl]
  simp only [f__law_letter_at, b__law_letter_at]
  rw [show startA (["rows", "n", "letter", "digit"] : List Str).length [tbD t, .int (n : Int)] = [some (tbD t), some (.int (n : Int)), none, none] from rfl]
  have a1 : evS (call (tab ts) G (k + 2)) G (.asg (.name 2) (.lit (.int 0))) [some (tbD t), some (.int (n : Int)), none, none] S = some (.next, [some (tbD t), some (.int (n : Int)), some (.int 0), none], S) := by simp [bind_name]
  simp only [ss_cons, a1, s_for, es_cons, es_nil, e_rev, e_call, e_var, List.getElem?_cons_succ, List.getElem?_cons_zero, c_ldigits hn hb, rv, Option.map_some, walk_lst, stays_lst, h1, s_ret, trunc_len]
  rfl
/-! ### checked -/
def rzD (p : Int × Int) : D := .tup [.int p.1, .int p.2]
def tbZ (rs : List (Int × Int)) : D := .tup (rs.map rzD)
def zt (t : Mo.Tab) : List (Int × Int) := t.map fun p => ((p.1 : Int), (p.2 : Int))
theorem tbZ_zt : tbZ (zt t) = tbD t := by
  unfold tbZ zt tbD
  rw [List.map_map]
  rfl
def pairOk (n : Nat) (p : Int × Int) : Bool := (decide (0 ≤ p.1) && decide (p.1 < (n : Int))) && (decide (0 ≤ p.2) && decide (p.2 < (n : Int)))
theorem c_pair {n : Nat} {p : Int × Int} : call (tab ts) G (k + 1) 314 [rzD p, .int (n : Int)] S = some (.bl (pairOk n p), S) := by
  have ln : dBi S .len [rzD p] = some (.int 2) := rfl
  have wk : walk false [rzD p] S = some ([p.1, p.2].map D.int) := rfl
  have st : ∀ xs, stays false [rzD p] xs = fun _ => true := fun xs => stays_tup
  have l1 : evLc (fun _ => true) (lcBk (call (tab ts) G k) G (.name 2) [] (.chain .LtE .Lt (.lit (.int 0)) (.var 2) (.var 1)) [some (rzD p), some (.int (n : Int)), none]) ([p.1, p.2].map D.int) [] S = some ([p.1, p.2].map (fun i => D.bl (decide (0 ≤ i) && decide (i < (n : Int)))), S) :=
    lc_list (by show 2 ≤ sizeLine; decide) fun i _ => by
      have e1 : ev (call (tab ts) G k) G (.chain .LtE .Lt (.lit (.int 0)) (.var 2) (.var 1)) [some (rzD p), some (.int (n : Int)), some (.int i)] S = some (.bl (decide (0 ≤ i) && decide (i < (n : Int))), S) := by
        by_cases c : 0 ≤ i <;> simp [c]
      have bd : Tg.bind (.name 2) (.int i) [some (rzD p), some (.int (n : Int)), none] = some [some (rzD p), some (.int (n : Int)), some (.int i)] := by simp [bind_name]
      unfold lcBk
      rw [bd]
      simp only [eTs_nil, e1, Option.map_some]
  have al : dBi S .all [.lst ([p.1, p.2].map (fun i => D.bl (decide (0 ≤ i) && decide (i < (n : Int)))))] = some (.bl (pairOk n p)) := by
    simp [dBi, Ab.listOf, bls?, pairOk]
  rw [call_of T314 rfl]
  simp only [f_is_pair_of_letters, b_is_pair_of_letters]
  rw [show startA (["row", "size", "letter"] : List Str).length [rzD p, .int (n : Int)] = [some (rzD p), some (.int (n : Int)), none] from rfl]
  have wp : wipeA [some (rzD p), some (.int (n : Int)), none] [2] = [some (rzD p), some (.int (n : Int)), none] := rfl
  simp only [ss_cons, s_ret, e_bop, eB_cons, e_cmp, e_bi, es_cons, es_nil, e_var, List.getElem?_cons_succ, List.getElem?_cons_zero, ln, Option.map_some, e_lit, cmp_eq, eq_int, decide_true, List.isEmpty_cons, isAnd, if_true, e_lc, wk, st, wp, l1, al, List.isEmpty_nil, trunc_len, Bool.false_eq_true, if_false]
def isSub (rs : List (Int × Int)) (o : List Int) : Bool := decide (rs.length ≠ 0) && (decide (o.length = rs.length) && (rs.all (pairOk rs.length) && decide (((rs[0]?).getD (0, 0)).1 = 0)))
theorem bls_map {α : Type} {g : α → Bool} : ∀ {l : List α}, bls? (l.map fun x => D.bl (g x)) = some (l.map g)
  | [] => rfl
  | a :: l => by
    show (bls? (l.map fun x => D.bl (g x))).map (g a :: ·) = _
    rw [bls_map]
    rfl
theorem c_issub {rs : List (Int × Int)} (h : rs.length ≤ 1000) (ho : o.length ≤ 1000) : call (tab ts) G (k + 2) 315 [tbZ rs, otD o] S = some (.bl (isSub rs o), S) := by
  have ln : dBi S .len [tbZ rs] = some (.int (rs.length : Nat)) := by simp [dBi, tbZ, items]
  have lo : dBi S .len [otD o] = some (.int (o.length : Nat)) := by simp [dBi, otD, items, iD]
  have wk : walk false [tbZ rs] S = some (rs.map rzD) := rfl
  have st : ∀ xs, stays false [tbZ rs] xs = fun _ => true := fun xs => stays_tup
  have l1 : evLc (fun _ => true) (lcBk (call (tab ts) G (k + 1)) G (.name 2) [] (.call 314 [(.var 2), (.bi .len [(.var 0)])]) [some (tbZ rs), some (otD o), none]) (rs.map rzD) [] S = some (rs.map (fun p => D.bl (pairOk rs.length p)), S) :=
    lc_list (by unfold sizeLine; omega) fun p _ => by
      have bd : Tg.bind (.name 2) (rzD p) [some (tbZ rs), some (otD o), none] = some [some (tbZ rs), some (otD o), some (rzD p)] := by simp [bind_name]
      unfold lcBk
      rw [bd]
      simp only [eTs_nil, e_call, es_cons, es_nil, e_var, List.getElem?_cons_succ, List.getElem?_cons_zero, e_bi, ln, Option.map_some, c_pair]
  have al : dBi S .all [.lst (rs.map (fun p => D.bl (pairOk rs.length p)))] = some (.bl (rs.all (pairOk rs.length))) := by
    simp [dBi, Ab.listOf, bls_map]
  have wp : wipeA [some (tbZ rs), some (otD o), none] [2] = [some (tbZ rs), some (otD o), none] := rfl
  rw [call_of T315 rfl]
  simp only [f_is_substitution, b_is_substitution]
  rw [show startA (["rows", "outs", "row"] : List Str).length [tbZ rs, otD o] = [some (tbZ rs), some (otD o), none] from rfl]
  have c0 : ((rs.length : Nat) : Int) = 0 ↔ rs.length = 0 := by omega
  have c1 : ((o.length : Nat) : Int) = ((rs.length : Nat) : Int) ↔ o.length = rs.length := by omega
  simp only [ss_cons, s_ite, eT_bop, eBT_cons, eBT_nil, eT_cmp, e_bi, es_cons, es_nil, e_var, List.getElem?_cons_succ, List.getElem?_cons_zero, ln, lo, Option.map_some, e_lit, cmp_eq, cmp_ne, eq_int, isAnd]
  by_cases h0 : rs.length = 0
  · simp [h0, isSub]
  · have d0 : decide (((rs.length : Nat) : Int) = 0) = false := decide_eq_false (fun z => h0 (c0.mp z))
    by_cases h1 : o.length = rs.length
    · have d1 : decide (((o.length : Nat) : Int) = ((rs.length : Nat) : Int)) = true := decide_eq_true (c1.mpr h1)
      have hp : 0 < rs.length := by omega
      have ixz : dIx S (tbZ rs) (.int 0) = some (rzD rs[0]) := at_map (i := 0) (List.getElem?_eq_getElem hp)
      have ixy : dIx S (rzD rs[0]) (.int 0) = some (.int rs[0].1) := rfl
      simp only [d0, d1, Bool.not_true, if_true, ss_nil, s_ret, e_bop, eB_cons, e_bi, es_cons, es_nil, e_lc, e_var, List.getElem?_cons_succ, List.getElem?_cons_zero, wk, st, wp, l1, Option.map_some, al, List.isEmpty_cons, isAnd, Bool.false_eq_true, if_false, List.isEmpty_nil]
      cases ha : rs.all (pairOk rs.length) with
      | false => simp [isSub, ha]
      | true =>
        simp only [e_cmp, e_ix, e_var, List.getElem?_cons_succ, List.getElem?_cons_zero, e_lit, ixz, ixy, Option.map_some, cmp_eq, eq_int, trunc_len, if_true]
        simp [isSub, ha, h0, h1, hp]
    · have d1 : decide (((o.length : Nat) : Int) = ((rs.length : Nat) : Int)) = false := decide_eq_false (fun z => h1 (c1.mp z))
      simp [d0, d1, isSub, h1, h0]
theorem c_refused {rs : List (Int × Int)} (h : rs.length ≤ 1000) (ho : o.length ≤ 1000) : call (tab ts) G (k + 4) 324 [tbZ rs, otD o] S = some (.bl (!isSub rs o), S) := by
  have e1 : call (tab ts) G (k + 3) 927 [tbZ rs, otD o] S = some (.bl (!isSub rs o), S) := by
    rw [call_of T927 rfl]
    simp only [f_q_check_substitution, c_q_check_substitution]
    rw [show startA (["rows", "outs"] : List Str).length [tbZ rs, otD o] = [some (tbZ rs), some (otD o)] from rfl]
    simp only [ss_cons, s_ite, eT_not, eT_call, es_cons, es_nil, e_var, List.getElem?_cons_succ, List.getElem?_cons_zero, c_issub h ho]
    cases isSub rs o <;> simp
  rw [call_of T324 rfl]
  simp only [f__law_is_refused, b__law_is_refused]
  rw [show startA (["rows", "outs", "e"] : List Str).length [tbZ rs, otD o] = [some (tbZ rs), some (otD o), none] from rfl]
  simp only [ss_cons, s_ret, e_call, es_cons, es_nil, e_var, List.getElem?_cons_succ, List.getElem?_cons_zero, e1, trunc_len]
theorem c_check {rs : List (Int × Int)} (h : rs.length ≤ 1000) (ho : o.length ≤ 1000) (hs : isSub rs o = true) : call (tab ts) G (k + 3) 316 [tbZ rs, otD o] S = some (.non, S) := by
  rw [call_of T316 rfl]
  simp only [f_check_substitution, b_check_substitution]
  rw [show startA (["rows", "outs"] : List Str).length [tbZ rs, otD o] = [some (tbZ rs), some (otD o)] from rfl]
  simp only [ss_cons, s_ite, eT_not, eT_call, es_cons, es_nil, e_var, List.getElem?_cons_succ, List.getElem?_cons_zero, c_issub h ho, hs, Bool.not_true, ss_nil, trunc_len]
theorem sub_good (Wt : Wf t o) (h0 : nx t 0 0 = 0) : isSub (zt t) o = true := by
  have hp := Wt.pos
  have hl : (zt t).length = t.length := by simp [zt]
  unfold isSub
  rw [hl]
  simp only [Bool.and_eq_true, decide_eq_true_eq]
  refine ⟨by omega, Wt.len, List.all_eq_true.mpr fun p hp => ?_, ?_⟩
  · unfold zt at hp
    obtain ⟨q, hq, rfl⟩ := List.mem_map.mp hp
    obtain ⟨s, hs, e⟩ := List.getElem_of_mem hq
    have := tb_get hs
    rw [List.getElem?_eq_getElem hs, e] at this
    have this := Option.some.inj this
    have q1 := Wt.lt s hs 0
    have q2 := Wt.lt s hs 1
    rw [this]
    simp [pairOk, q1, q2]
  · have := tb_get hp
    unfold zt
    rw [List.getElem?_map, this]
    show ((nx t 0 0 : Nat) : Int) = 0
    rw [h0]
    rfl
theorem sub_bad {rs : List (Int × Int)} {p : Int × Int} (h : p ∈ rs) (hp : pairOk rs.length p = false) : isSub rs o = false := by
  unfold isSub
  have : rs.all (pairOk rs.length) = false := by
    rw [Bool.eq_false_iff]
    intro z
    have := List.all_eq_true.mp z p h
    rw [hp] at this
    cases this
  simp [this]
theorem sub_len {rs : List (Int × Int)} (h : o.length ≠ rs.length) : isSub rs o = false := by
  unfold isSub
  simp [h]
theorem sub_first {rs : List (Int × Int)} {p : Int × Int} (hp : p.1 ≠ 0) : isSub (p :: rs) o = false := by
  unfold isSub
  simp [hp]
theorem c_srow {n : Nat} (hS : okS S) (Wt : Wf t o) (hn : n ≤ 1000) : call (tab ts) G (k + 4) 273 [sqD t o, .int (n : Int)] S = some (.tup (iD ((List.range n).map fun i => ot o (run t 0 (bits i)))), S) := by
  have wk : walk true [.int (n : Int)] S = some (natsD n) := walk_rg (by unfold sizeLine; omega)
  have l1 : evLc (fun _ => true) (lcBk (call (tab ts) G (k + 3)) G (.name 2) [] (.call 108 [(.var 0), (.var 2)]) [some (sqD t o), some (.int (n : Int)), none]) (natsD n) [] S = some ((List.range n).map (fun i => D.int (ot o (run t 0 (bits i)))), S) :=
    lc_nats (by unfold sizeLine; omega) fun i hi => by
      have bd : Tg.bind (.name 2) (.int (i : Int)) [some (sqD t o), some (.int (n : Int)), none] = some [some (sqD t o), some (.int (n : Int)), some (.int (i : Int))] := by simp [bind_name]
      unfold lcBk
      rw [bd]
      simp only [eTs_nil, e_call, es_cons, es_nil, e_var, List.getElem?_cons_succ, List.getElem?_cons_zero, c_at hS Wt (Mo.lt_pow_self i) (by omega), Option.map_some]
  have wp : wipeA [some (sqD t o), some (.int (n : Int)), none] [2] = [some (sqD t o), some (.int (n : Int)), none] := rfl
  rw [call_of T273 rfl]
  simp only [f_sequence_row, b_sequence_row]
  rw [show startA (["sequence", "many", "n"] : List Str).length [sqD t o, .int (n : Int)] = [some (sqD t o), some (.int (n : Int)), none] from rfl]
  simp only [ss_cons, s_ret, e_bi, es_cons, es_nil, e_lc, e_var, List.getElem?_cons_succ, List.getElem?_cons_zero, wk, stays_rg, wp, l1, Option.map_some, tp_lst, trunc_len]
  simp [iD]
end Code

/-! M77v: substitutions drawn -/
namespace Code
open PySem Ab
open Mo (nx ot run bits val Wf Sim spec lt')
variable {k : Nat} {A B : O} {ds : List Nat} {S J W : Store} {t : Mo.Tab} {o : List Int}
theorem T321 : tab ts 321 = some f__law_substitution := rfl
theorem okS_st (hA : O.undr 3 A = true) (hB : O.undr 3 B = true) : okS (st A B ds []) := by
  show (O.undr 3 A && (O.undr 3 B && (D.undrs 3 (nD ds) && true))) = true
  rw [hA, hB, undr_nD]
  rfl
theorem c_lsubst (hA : O.undr 3 A = true) (hB : O.undr 3 B = true) : ∃ (t : Mo.Tab) (o : List Int) (ds' : List Nat), Wf t o ∧ t.length ≤ 4 ∧ nx t 0 0 = 0 ∧ (∃ vs : List Int, vs.length ≤ 3 ∧ ∀ v ∈ o, v ∈ vs) ∧
    call (tab ts) G (k + 2) 321 [.ref 2] (st A B ds []) = some (sqD t o, st A B ds' []) := by
  obtain ⟨v0, d0, h0, e0⟩ := c_take (k := k) (A := A) (B := B) (X := []) (ds := ds) (m := 4) (by omega)
  obtain ⟨v1, d1, h1, e1⟩ := c_take (k := k) (A := A) (B := B) (X := []) (ds := d0) (m := 10) (by omega)
  obtain ⟨v2, d2, h2, e2⟩ := c_take (k := k) (A := A) (B := B) (X := []) (ds := d1) (m := 10) (by omega)
  obtain ⟨v3, d3, h3, e3⟩ := c_take (k := k) (A := A) (B := B) (X := []) (ds := d2) (m := 4) (by omega)
  obtain ⟨n, hn⟩ : ∃ n, n = 1 + v0 := ⟨_, rfl⟩
  obtain ⟨pa, hpa⟩ : ∃ pa, pa = D.lst [.int (v1 : Int), .int ((v2 : Int) - 5), .int (9 - (v3 : Int))] := ⟨_, rfl⟩
  obtain ⟨F, d4, hF, e4⟩ := lc_st (A := A) (B := B) (X := []) (ds := d3) (mk := rwD) (good := fun p : Nat × Nat => p.1 < n ∧ p.2 < n) (f := lcBk (call (tab ts) G (k + 1)) G (.name 4) [] (.tup [(.call 20 [(.var 0), (.var 1)]), (.call 20 [(.var 0), (.var 1)])]) [some (.ref 2), some (.int (n : Int)), some pa, none, none]) (n := n) (by unfold sizeLine; omega) fun i hi ds => by
    obtain ⟨a, da, ha, ea⟩ := c_take (k := k) (A := A) (B := B) (X := []) (ds := ds) (m := n) (by omega)
    obtain ⟨b, db, hb, eb⟩ := c_take (k := k) (A := A) (B := B) (X := []) (ds := da) (m := n) (by omega)
    refine ⟨(a, b), db, ⟨ha, hb⟩, ?_⟩
    simp [lcBk, bind_name, ea, eb, sizeLine, rwD]
  obtain ⟨rows, hrows⟩ : ∃ rows : Mo.Tab, rows = (List.range n).map F := ⟨_, rfl⟩
  obtain ⟨t, ht⟩ : ∃ t : Mo.Tab, t = rows.set 0 (0, (F 0).2) := ⟨_, rfl⟩
  have lr : rows.length = n := by rw [hrows]; simp
  have lt : t.length = n := by rw [ht, List.length_set, lr]
  obtain ⟨Fo, d5, hFo, e5⟩ := lc_st (A := A) (B := B) (X := [.lst (t.map rwD)]) (ds := d4) (mk := fun i : Int => D.int i) (good := fun i => i ∈ [(v1 : Int), (v2 : Int) - 5, 9 - (v3 : Int)]) (f := lcBk (call (tab ts) G (k + 1)) G (.name 4) [] (.ix (.var 2) (.call 20 [(.var 0), (.lit (.int 3))])) [some (.ref 2), some (.int (n : Int)), some pa, some (.ref 3), none]) (n := n) (by unfold sizeLine; omega) fun i hi ds => by
    obtain ⟨v, d, hv, e⟩ := c_take (k := k) (A := A) (B := B) (X := [.lst (t.map rwD)]) (ds := ds) (m := 3) (by omega)
    have e : call (tab ts) G (k + 1) 20 [.ref 2, .int 3] (st A B ds [.lst (t.map rwD)]) = _ := e
    have : v = 0 ∨ v = 1 ∨ v = 2 := by omega
    rcases this with rfl | rfl | rfl
    · exact ⟨(v1 : Int), d, by simp, by
        have ix : dIx (st A B d [.lst (t.map rwD)]) pa (.int ((0 : Nat) : Int)) = some (.int (v1 : Int)) := by rw [hpa]; rfl
        simp only [Int.ofNat_zero] at ix e
        simp [lcBk, bind_name, e, ix]⟩
    · exact ⟨(v2 : Int) - 5, d, by simp, by
        have ix : dIx (st A B d [.lst (t.map rwD)]) pa (.int 1) = some (.int ((v2 : Int) - 5)) := by rw [hpa]; rfl
        have e : call (tab ts) G (k + 1) 20 [.ref 2, .int 3] (st A B ds [.lst (t.map rwD)]) = some (.int 1, st A B d [.lst (t.map rwD)]) := e
        simp [lcBk, bind_name, e, ix]⟩
    · exact ⟨9 - (v3 : Int), d, by simp, by
        have ix : dIx (st A B d [.lst (t.map rwD)]) pa (.int 2) = some (.int (9 - (v3 : Int))) := by rw [hpa]; rfl
        have e : call (tab ts) G (k + 1) 20 [.ref 2, .int 3] (st A B ds [.lst (t.map rwD)]) = some (.int 2, st A B d [.lst (t.map rwD)]) := e
        simp [lcBk, bind_name, e, ix]⟩
  obtain ⟨o, ho⟩ : ∃ o : List Int, o = (List.range n).map Fo := ⟨_, rfl⟩
  have np : 0 < n := by omega
  have r0 : rows[0]? = some (F 0) := by
    rw [hrows, List.getElem?_map, List.getElem?_range np]
    rfl
  have tg : ∀ s, s < n → ∃ p, t[s]? = some p ∧ p.1 < n ∧ p.2 < n := fun s hs => by
    rw [ht]
    by_cases c : s = 0
    · subst c
      rw [List.getElem?_set_self (by omega)]
      exact ⟨_, rfl, np, (hF 0 np).2⟩
    · rw [List.getElem?_set_ne (by omega), hrows, List.getElem?_map, List.getElem?_range hs]
      exact ⟨_, rfl, hF s hs⟩
  refine ⟨t, o, d5, ⟨by omega, by rw [ho, lt]; simp, fun s hs d => ?_, by omega⟩, by omega, ?_, ⟨[(v1 : Int), (v2 : Int) - 5, 9 - (v3 : Int)], Nat.le_refl _, fun v hv => ?_⟩, ?_⟩
  · rw [lt] at hs ⊢
    obtain ⟨p, q1, q2, q3⟩ := tg s hs
    unfold nx
    rw [q1]
    split
    · exact q2
    · exact q3
  · unfold nx
    rw [ht, List.getElem?_set_self (by omega)]
    rfl
  · rw [ho] at hv
    obtain ⟨i, hi, e⟩ := List.mem_map.mp hv
    rw [← e]
    exact hFo i (List.mem_range.mp hi)
  · have e0 : call (tab ts) G (k + 1) 20 [.ref 2, .int 4] (st A B ds []) = _ := e0
    have e1 : call (tab ts) G (k + 1) 20 [.ref 2, .int 10] (st A B d0 []) = _ := e1
    have e2 : call (tab ts) G (k + 1) 20 [.ref 2, .int 10] (st A B d1 []) = _ := e2
    have e3 : call (tab ts) G (k + 1) 20 [.ref 2, .int 4] (st A B d2 []) = _ := e3
    have wk : ∀ S : Store, walk true [.int (n : Int)] S = some (natsD n) := fun S => walk_rg (by unfold sizeLine; omega)
    have z2 : 2 ≤ sizeLine := by decide
    have z3 : 3 ≤ sizeLine := by decide
    have en : (1 : Int) + (v0 : Int) = (n : Int) := by omega
    have e4' : (List.range n).map (fun i => rwD (F i)) = rows.map rwD := by rw [hrows, List.map_map]; rfl
    rw [e4'] at e4
    have e5' : (List.range n).map (fun i => D.int (Fo i)) = iD o := by rw [ho]; simp [iD]
    rw [e5'] at e5
    have a1 : evS (call (tab ts) G (k + 1)) G (.asg (.name 1) (.bin .Add (.lit (.int 1)) (.call 20 [(.var 0), (.lit (.int 4))]))) [some (.ref 2), none, none, none, none] (st A B ds []) = some (.next, [some (.ref 2), some (.int (n : Int)), none, none, none], st A B d0 []) := by
      simp [e0, bind_name, en]
    have a2 : evS (call (tab ts) G (k + 1)) G (.asg (.name 2) (.lst [(.call 20 [(.var 0), (.lit (.int 10))]), (.bin .Sub (.call 20 [(.var 0), (.lit (.int 10))]) (.lit (.int 5))), (.bin .Sub (.lit (.int 9)) (.call 20 [(.var 0), (.lit (.int 4))]))])) [some (.ref 2), some (.int (n : Int)), none, none, none] (st A B d0 []) = some (.next, [some (.ref 2), some (.int (n : Int)), some pa, none, none], st A B d3 []) := by
      rw [hpa]
      simp [e1, e2, e3, bind_name, z3]
    have s34 : st A B d4 [] ++ [.lst (rows.map rwD)] = st A B d4 [.lst (rows.map rwD)] := rfl
    have wp1 : wipeA [some (D.ref 2), some (.int (n : Int)), some pa, none, none] [4] = [some (.ref 2), some (.int (n : Int)), some pa, none, none] := rfl
    have a3 : evS (call (tab ts) G (k + 1)) G (.new 3 (.lc [4] (.name 4) true [(.var 1)] [] (.tup [(.call 20 [(.var 0), (.var 1)]), (.call 20 [(.var 0), (.var 1)])]))) [some (.ref 2), some (.int (n : Int)), some pa, none, none] (st A B d3 []) = some (.next, [some (.ref 2), some (.int (n : Int)), some pa, some (.ref 3), none], st A B d4 [.lst (rows.map rwD)]) := by
      simp only [s_new, e_lc, es_cons, es_nil, e_var, List.getElem?_cons_succ, List.getElem?_cons_zero, wk, stays_rg, wp1, e4, Option.map_some, s34]
      rfl
    have g3 : (st A B d4 [.lst (rows.map rwD)])[3]? = some (.lst (rows.map rwD)) := rfl
    have ixr : dIx (st A B d4 [.lst (rows.map rwD)]) (.ref 3) (.int 0) = some (rwD (F 0)) := by
      show ((items (st A B d4 [.lst (rows.map rwD)]) (.ref 3)).bind fun ds => at_ ds (0 : Int)) = _
      rw [items_ref g3]
      exact at_map (i := 0) r0
    have ixn : L2.ixN (rows.map rwD).length 0 = some 0 := by
      rw [List.length_map, lr]
      unfold L2.ixN
      simp [np]
    have sset : (st A B d4 [.lst (rows.map rwD)]).set 3 (.lst ((rows.map rwD).set 0 (.tup [.int 0, .int ((F 0).2 : Int)]))) = st A B d4 [.lst (t.map rwD)] := by
      rw [ht, List.map_set]
      rfl
    have a4 : evS (call (tab ts) G (k + 1)) G (.seti (.var 3) (.lit (.int 0)) (.tup [(.lit (.int 0)), (.ix (.ix (.var 3) (.lit (.int 0))) (.lit (.int 1)))])) [some (.ref 2), some (.int (n : Int)), some pa, some (.ref 3), none] (st A B d4 [.lst (rows.map rwD)]) = some (.next, [some (.ref 2), some (.int (n : Int)), some pa, some (.ref 3), none], st A B d4 [.lst (t.map rwD)]) := by
      simp only [s_seti, e_tup, es_cons, es_nil, e_lit, e_ix, e_var, List.getElem?_cons_succ, List.getElem?_cons_zero, ixr, Option.map_some, ix_rw1, List.length_cons, List.length_nil, Nat.zero_add, Nat.reduceAdd, z2, if_true, g3, ixn, sset]
    have g3' : (st A B d4 [.lst (t.map rwD)])[3]? = some (.lst (t.map rwD)) := rfl
    have tp3 : dBi (st A B d4 [.lst (t.map rwD)]) .tuple [.ref 3] = some (tbD t) := by
      simp only [dBi, items_ref g3', Option.map_some]
      rfl
    have wp2 : wipeA [some (D.ref 2), some (.int (n : Int)), some pa, some (.ref 3), none] [4] = [some (.ref 2), some (.int (n : Int)), some pa, some (.ref 3), none] := rfl
    have fin : D.tup [tbD t, .tup (iD o)] = sqD t o := rfl
    have tr : trunc (st A B ds []).length (sqD t o) (st A B d5 [.lst (t.map rwD)]) = (sqD t o, st A B d5 []) := by
      unfold trunc
      rw [show (st A B ds []).length = 3 from rfl, undr_sq]
      have : ((st A B d5 [.lst (t.map rwD)]).take 3).all (O.undr 3) = true := by
        show (O.undr 3 A && (O.undr 3 B && (D.undrs 3 (nD d5) && true))) = true
        rw [hA, hB, undr_nD]
        rfl
      rw [this]
      rfl
    rw [call_of T321 rfl]
    simp only [f__law_substitution, b__law_substitution]
    rw [show startA (["draws", "many", "palette", "rows", "k"] : List Str).length [D.ref 2] = [some (.ref 2), none, none, none, none] from rfl]
    simp only [ss_cons, a1, a2, a3, a4, s_ret, e_tup, es_cons, es_nil, e_bi, e_var, List.getElem?_cons_succ, List.getElem?_cons_zero, tp3, Option.map_some, e_lc, wk, stays_rg, wp2, e5, tp_lst, List.length_cons, List.length_nil, Nat.zero_add, Nat.reduceAdd, z2, if_true, fin, tr]
end Code

/-! M77w: checked by the law -/
namespace Code
open PySem Ab
open Mo (nx ot run bits val Wf Sim spec lt')
variable {k : Nat} {A B : O} {ds : List Nat} {S J W : Store} {t : Mo.Tab} {o : List Int}
theorem T325 : tab ts 325 = some f__law_are_checked := rfl
theorem cut_to {α : Type} {xs : List α} {a : Nat} : cut xs none (some (a : Int)) = xs.take a := by
  unfold cut
  rw [HT.sIx_none, HT.sIx_nat, List.drop_zero, Nat.sub_zero]
  by_cases h : a ≤ xs.length
  · rw [Nat.min_eq_left h]
  · rw [Nat.min_eq_right (by omega), List.take_of_length_le (Nat.le_refl _), List.take_of_length_le (by omega)]
theorem cut_from {α : Type} {xs : List α} {a : Nat} : cut xs (some (a : Int)) none = xs.drop a := by
  unfold cut
  rw [HT.sIx_none, HT.sIx_nat]
  by_cases h : a ≤ xs.length
  · rw [Nat.min_eq_left h, List.take_of_length_le (by simp)]
  · rw [Nat.min_eq_right (by omega), List.drop_of_length_le (Nat.le_refl _), List.drop_of_length_le (by omega), List.take_nil]
theorem sl_to {xs : List D} {a : Nat} : dSl S (.tup xs) none (some (a : Int)) = some (.tup (xs.take a)) := by
  show some (D.tup (cut xs none (some (a : Int)))) = _
  rw [cut_to]
theorem sl_from {xs : List D} {a : Nat} : dSl S (.tup xs) (some (a : Int)) none = some (.tup (xs.drop a)) := by
  show some (D.tup (cut xs (some (a : Int)) none)) = _
  rw [cut_from]
theorem add_tup {xs ys : List D} (h : xs.length + ys.length ≤ sizeLine) : dBin S .Add (.tup xs) (.tup ys) = some (.tup (xs ++ ys)) := by
  unfold dBin
  dsimp only
  rw [if_pos h]
/-- with another row at a -/
def withR (rs : List (Int × Int)) (a : Nat) (p : Int × Int) : List (Int × Int) := rs.take a ++ [p] ++ rs.drop (a + 1)
theorem withR_len {rs : List (Int × Int)} {a : Nat} {p : Int × Int} (h : a < rs.length) : (withR rs a p).length = rs.length := by
  unfold withR
  simp
  omega
theorem ev_with {cf : CallF} {rs : List (Int × Int)} {a i j l : Nat} {p : Int × Int} {ρ : AEnv} (hl : rs.length ≤ 1000) (hi : ρ[i]? = some (some (tbZ rs))) (hj : ρ[j]? = some (some (.int (a : Int)))) (h7 : ρ[l]? = some (some (rzD p))) :
    ev cf G (.bin .Add (.bin .Add (.slc (.var i) none (some (.var j))) (.tup [(.var l)])) (.slc (.var i) (some (.bin .Add (.var j) (.lit (.int 1)))) none)) ρ S = some (tbZ (withR rs a p), S) := by
  have z1 : 1 ≤ sizeLine := by decide
  have s1 : dSl S (tbZ rs) none (some (a : Int)) = some (.tup ((rs.map rzD).take a)) := sl_to
  have s2 : dSl S (tbZ rs) (some ((a : Int) + 1)) none = some (.tup ((rs.map rzD).drop (a + 1))) := by
    rw [show (a : Int) + 1 = ((a + 1 : Nat) : Int) by omega]
    exact sl_from
  have b1 : dBin S .Add (.tup ((rs.map rzD).take a)) (.tup [rzD p]) = some (.tup ((rs.map rzD).take a ++ [rzD p])) := add_tup (by
    rw [List.length_take, List.length_map]
    have : min a rs.length ≤ rs.length := Nat.min_le_right _ _
    simp only [List.length_cons, List.length_nil]
    unfold sizeLine
    omega)
  have b2 : dBin S .Add (.tup ((rs.map rzD).take a ++ [rzD p])) (.tup ((rs.map rzD).drop (a + 1))) = some (.tup ((rs.map rzD).take a ++ [rzD p] ++ (rs.map rzD).drop (a + 1))) := add_tup (by
    rw [List.length_append, List.length_take, List.length_drop, List.length_map]
    have : min a rs.length ≤ rs.length := Nat.min_le_right _ _
    simp only [List.length_cons, List.length_nil]
    unfold sizeLine
    omega)
  have fin : D.tup ((rs.map rzD).take a ++ [rzD p] ++ (rs.map rzD).drop (a + 1)) = tbZ (withR rs a p) := by
    unfold tbZ withR
    simp [List.map_take, List.map_drop]
  simp only [e_bin, e_slc, e_var, hi, eO_none, eO_some, hj, Option.map_some, s1, e_tup, es_cons, es_nil, h7, List.length_cons, List.length_nil, Nat.zero_add, z1, if_true, b1, e_lit, bin_int, dInt_add, s2, b2, fin]
def inB7 : List IS := [.ite (.un .Not (.call 324 [(.bin .Add (.bin .Add (.slc (.var 1) none (some (.var 5))) (.tup [(.var 7)])) (.slc (.var 1) (some (.bin .Add (.var 5) (.lit (.int 1)))) none)), (.var 2)])) [.ret (.lit (.bl false))] []]
def outB6 : List IS := [.for_ (.name 7) false [(.lst [(.tup [(.var 6), (.ix (.ix (.var 1) (.var 5)) (.lit (.int 1)))]), (.tup [(.ix (.ix (.var 1) (.var 5)) (.lit (.int 0))), (.var 6)])])] inB7]
def en5 (rs : List (Int × Int)) (o : List Int) (cell : Int) (n a : Nat) (x6 x7 : Option D) : AEnv := [some (.ref 2), some (tbZ rs), some (otD o), some (.int cell), some (.int (n : Int)), some (.int (a : Int)), x6, x7]
theorem in7 {rs : List (Int × Int)} {cell : Int} {n a : Nat} {p : Int × Int} {x6 x7 : Option D} (hl : rs.length ≤ 1000) (ho : o.length ≤ 1000) (ha : a < rs.length) (hp : pairOk rs.length p = false) :
    forF (call (tab ts) G (k + 4)) G (.name 7) inB7 (rzD p) (en5 rs o cell n a x6 x7) S = some (.next, en5 rs o cell n a x6 (some (rzD p)), S) := by
  have b7 : Tg.bind (.name 7) (rzD p) (en5 rs o cell n a x6 x7) = some (en5 rs o cell n a x6 (some (rzD p))) := by simp [bind_name, en5]
  have bad : isSub (withR rs a p) o = false := sub_bad (p := p) (by simp [withR]) (by rw [withR_len ha]; exact hp)
  have cr := c_refused (k := k) (S := S) (rs := withR rs a p) (o := o) (by rw [withR_len ha]; exact hl) ho
  rw [bad] at cr
  have w := ev_with (cf := call (tab ts) G (k + 4)) (S := S) (rs := rs) (a := a) (i := 1) (j := 5) (l := 7) (p := p) (ρ := en5 rs o cell n a x6 (some (rzD p))) hl rfl rfl rfl
  have v2 : (en5 rs o cell n a x6 (some (rzD p)))[2]? = some (some (otD o)) := rfl
  unfold forF
  rw [b7]
  dsimp only
  unfold inB7
  simp only [ss_cons, s_ite, eT_not, eT_call, es_cons, es_nil, w, e_var, v2, cr, Bool.not_false, Bool.not_true, ss_nil]
theorem out6 {rs : List (Int × Int)} {cell b : Int} {n a : Nat} {x6 x7 : Option D} (hl : rs.length ≤ 1000) (ho : o.length ≤ 1000) (ha : a < rs.length) (hb : ¬ (0 ≤ b ∧ b < (rs.length : Int))) :
    ∃ y7, forF (call (tab ts) G (k + 4)) G (.name 6) outB6 (.int b) (en5 rs o cell n a x6 x7) S = some (.next, en5 rs o cell n a (some (.int b)) y7, S) := by
  have b6 : Tg.bind (.name 6) (.int b) (en5 rs o cell n a x6 x7) = some (en5 rs o cell n a (some (.int b)) x7) := by simp [bind_name, en5]
  have e : rs[a]? = some rs[a] := List.getElem?_eq_getElem ha
  have bf : (decide (0 ≤ b) && decide (b < (rs.length : Int))) = false := by
    rw [Bool.eq_false_iff]
    intro z
    rw [Bool.and_eq_true, decide_eq_true_eq, decide_eq_true_eq] at z
    exact hb z
  have p1 : pairOk rs.length (b, rs[a].2) = false := by
    unfold pairOk
    rw [bf]
    rfl
  have p2 : pairOk rs.length (rs[a].1, b) = false := by
    unfold pairOk
    rw [bf, Bool.and_false]
  have s1 := in7 (k := k) (S := S) (o := o) (cell := cell) (n := n) (x6 := some (.int b)) (x7 := x7) hl ho ha p1
  have s2 := in7 (k := k) (S := S) (o := o) (cell := cell) (n := n) (x6 := some (.int b)) (x7 := some (rzD (b, rs[a].2))) hl ho ha p2
  have ix1 : dIx S (tbZ rs) (.int (a : Int)) = some (rzD rs[a]) := at_map e
  have iy0 : dIx S (rzD rs[a]) (.int 0) = some (.int rs[a].1) := rfl
  have iy1 : dIx S (rzD rs[a]) (.int 1) = some (.int rs[a].2) := rfl
  have z2 : 2 ≤ sizeLine := by decide
  have v1 : (en5 rs o cell n a (some (.int b)) x7)[1]? = some (some (tbZ rs)) := rfl
  have v5 : (en5 rs o cell n a (some (.int b)) x7)[5]? = some (some (.int (a : Int))) := rfl
  have v6 : (en5 rs o cell n a (some (.int b)) x7)[6]? = some (some (.int b)) := rfl
  refine ⟨some (rzD (rs[a].1, b)), ?_⟩
  unfold forF
  rw [b6]
  dsimp only
  unfold outB6
  have r1 : D.tup [.int b, .int rs[a].2] = rzD (b, rs[a].2) := rfl
  have r2 : D.tup [.int rs[a].1, .int b] = rzD (rs[a].1, b) := rfl
  simp only [ss_cons, s_for, es_cons, es_nil, e_lst, e_tup, e_var, v6, e_ix, v1, v5, ix1, Option.map_some, e_lit, iy0, iy1, List.length_cons, List.length_nil, Nat.zero_add, Nat.reduceAdd, z2, if_true, r1, r2, walk_lst, stays_lst, evFor, s1, s2, ss_nil]
theorem c_checked {cell : Int} (hA : O.undr 3 A = true) (hB : O.undr 3 B = true) (Wt : Wf t o) (h0 : nx t 0 0 = 0) : ∃ ds', call (tab ts) G (k + 5) 325 [.ref 2, tbD t, otD o, .int cell] (st A B ds []) = some (.bl true, st A B ds' []) := by
  have hle := Wt.le
  have hpos := Wt.pos
  have hlo := Wt.len
  obtain ⟨rs, hrs⟩ : ∃ rs, rs = zt t := ⟨_, rfl⟩
  have lr : rs.length = t.length := by rw [hrs]; simp [zt]
  have lr1 : rs.length ≤ 1000 := by omega
  have lo1 : o.length ≤ 1000 := by omega
  have good := sub_good Wt h0
  rw [← hrs] at good
  obtain ⟨a, d1, ha, e1⟩ := c_take (k := k + 3) (A := A) (B := B) (X := []) (ds := ds) (m := rs.length) (by omega)
  rw [← tbZ_zt, ← hrs]
  obtain ⟨n, hn⟩ : ∃ n, n = rs.length := ⟨_, rfl⟩
  have ln : ∀ S : Store, dBi S .len [tbZ rs] = some (.int (n : Int)) := fun S => by rw [hn]; simp [dBi, tbZ, items]
  have ck := fun S => c_check (k := k + 1) (S := S) lr1 lo1 good
  have a1 : evS (call (tab ts) G (k + 4)) G (.ite (.cmp .IsNot (.call 316 [(.var 1), (.var 2)]) (.lit .non)) [.ret (.lit (.bl false))] []) [some (.ref 2), some (tbZ rs), some (otD o), some (.int cell), none, none, none, none] (st A B ds []) = some (.next, [some (.ref 2), some (tbZ rs), some (otD o), some (.int cell), none, none, none, none], st A B ds []) := by
    have ckx := ck (st A B ds [])
    have isn : ∀ S : Store, dCmp S .IsNot .non .non = some false := fun S => rfl
    simp only [s_ite, eT_cmp, e_call, es_cons, es_nil, e_var, List.getElem?_cons_succ, List.getElem?_cons_zero, ckx, e_lit, isn, Option.map_some, ss_nil]
  rw [← hn] at e1
  have a2 : evS (call (tab ts) G (k + 4)) G (.asg (.name 4) (.bi .len [(.var 1)])) [some (.ref 2), some (tbZ rs), some (otD o), some (.int cell), none, none, none, none] (st A B ds []) = some (.next, [some (.ref 2), some (tbZ rs), some (otD o), some (.int cell), some (.int (n : Int)), none, none, none], st A B ds []) := by
    simp [ln, bind_name]
  have a3 : evS (call (tab ts) G (k + 4)) G (.asg (.name 5) (.call 20 [(.var 0), (.var 4)])) [some (.ref 2), some (tbZ rs), some (otD o), some (.int cell), some (.int (n : Int)), none, none, none] (st A B ds []) = some (.next, en5 rs o cell n a none none, st A B d1 []) := by
    simp [e1, bind_name, en5]
  -- the spoilt rows
  obtain ⟨ρ', S', f1, hS', x6, x7, hρ⟩ := for_fold (fun b : Int => D.int b) (body := forF (call (tab ts) G (k + 4)) G (.name 6) outB6) (fun (_ : Unit) _ => ())
    (fun _ ρ S' => S' = st A B d1 [] ∧ ∃ x6 x7, ρ = en5 rs o cell n a x6 x7) (xs := [(n : Int), -1, (n : Int) + ((cell.natAbs : Nat) : Int), -1 - ((cell.natAbs : Nat) : Int)]) (b := ()) (ρ := en5 rs o cell n a none none) (S := st A B d1 []) ⟨rfl, none, none, rfl⟩ (fun b hb _ ρ S' ⟨h1, x6, x7, h2⟩ => by
      subst h1 h2
      obtain ⟨y7, e⟩ := out6 (k := k) (S := st A B d1 []) (o := o) (cell := cell) (b := b) (n := n) (a := a) (x6 := x6) (x7 := x7) lr1 lo1 (by omega) (by
        rw [← hn]
        have hb : b = (n : Int) ∨ b = -1 ∨ b = (n : Int) + ((cell.natAbs : Nat) : Int) ∨ b = -1 - ((cell.natAbs : Nat) : Int) := by simpa using hb
        rcases hb with h | h | h | h <;> subst h <;> omega)
      exact ⟨_, _, e, rfl, _, _, rfl⟩)
  rw [hS', hρ] at f1
  have z4 : 4 ≤ sizeLine := by decide
  have bab : ∀ S : Store, dBi S .abs [.int cell] = some (.int ((cell.natAbs : Nat) : Int)) := fun S => bi_abs
  have a4 : evS (call (tab ts) G (k + 4)) G (.for_ (.name 6) false [(.lst [(.var 4), (.un .USub (.lit (.int 1))), (.bin .Add (.var 4) (.bi .abs [(.var 3)])), (.bin .Sub (.un .USub (.lit (.int 1))) (.bi .abs [(.var 3)]))])] outB6) (en5 rs o cell n a none none) (st A B d1 []) = some (.next, en5 rs o cell n a x6 x7, st A B d1 []) := by
    have v3 : (en5 rs o cell n a none none)[3]? = some (some (.int cell)) := rfl
    have v4 : (en5 rs o cell n a none none)[4]? = some (some (.int (n : Int))) := rfl
    simp only [List.map_cons, List.map_nil] at f1
    simp only [s_for, es_cons, es_nil, e_lst, e_var, v3, v4, e_un, e_lit, un_neg, Option.map_some, e_bin, e_bi, bab, bin_int, dInt_add, dInt_sub, List.length_cons, List.length_nil, Nat.zero_add, Nat.reduceAdd, z4, if_true, walk_lst, stays_lst, f1]
  have v0 : (en5 rs o cell n a x6 x7)[0]? = some (some (.ref 2)) := rfl
  have v1 : (en5 rs o cell n a x6 x7)[1]? = some (some (tbZ rs)) := rfl
  have v2 : (en5 rs o cell n a x6 x7)[2]? = some (some (otD o)) := rfl
  have v3 : (en5 rs o cell n a x6 x7)[3]? = some (some (.int cell)) := rfl
  have v4 : (en5 rs o cell n a x6 x7)[4]? = some (some (.int (n : Int))) := rfl
  have z1 : 1 ≤ sizeLine := by decide
  have z2 : 2 ≤ sizeLine := by decide
  have z0 : 0 ≤ sizeLine := by decide
  obtain ⟨d2, a5⟩ : ∃ d2, evS (call (tab ts) G (k + 4)) G (.ite (.bop .And [(.cmp .Gt (.var 4) (.lit (.int 1))), (.un .Not (.call 324 [(.bin .Add (.tup [(.tup [(.bin .Add (.lit (.int 1)) (.call 20 [(.var 0), (.bin .Sub (.var 4) (.lit (.int 1)))])), (.lit (.int 0))])]) (.slc (.var 1) (some (.lit (.int 1))) none)), (.var 2)]))]) [.ret (.lit (.bl false))] []) (en5 rs o cell n a x6 x7) (st A B d1 []) = some (.next, en5 rs o cell n a x6 x7, st A B d2 []) := by
    by_cases c : 1 < n
    · obtain ⟨v, d2, hv, e2⟩ := c_take (k := k + 3) (A := A) (B := B) (X := []) (ds := d1) (m := n - 1) (by omega)
      have en1 : (n : Int) - 1 = ((n - 1 : Nat) : Int) := by omega
      have c1 : (1 : Int) < (n : Int) := by omega
      have sl1 : dSl (st A B d2 []) (tbZ rs) (some 1) none = some (.tup ((rs.map rzD).drop 1)) := sl_from (a := 1)
      have ad : dBin (st A B d2 []) .Add (.tup [rzD (1 + (v : Int), 0)]) (.tup ((rs.map rzD).drop 1)) = some (tbZ ((1 + (v : Int), 0) :: rs.drop 1)) := by
        rw [add_tup (by simp; unfold sizeLine; omega)]
        simp [tbZ]
      have cr := c_refused (k := k) (S := st A B d2 []) (rs := (1 + (v : Int), 0) :: rs.drop 1) (o := o) (by simp; omega) lo1
      rw [sub_first (by show (1 + (v : Int)) ≠ 0; omega)] at cr
      have r1 : D.tup [.int (1 + (v : Int)), .int 0] = rzD (1 + (v : Int), 0) := rfl
      refine ⟨d2, ?_⟩
      simp only [s_ite, eT_bop, eBT_cons, eT_cmp, e_var, v4, e_lit, cmp_gt, c1, decide_true, Option.map_some, isAnd, if_true, eT_not, eT_call, es_cons, es_nil, e_bin, e_tup, e_call, v0, bin_int, dInt_sub, en1, e2, dInt_add, List.length_cons, List.length_nil, Nat.zero_add, Nat.reduceAdd, z2, r1, z1, e_slc, v1, eO_some, eO_none, sl1, ad, v2, cr, Bool.not_false, Bool.not_true, Bool.false_eq_true, if_false, ss_nil]
    · have c1 : ¬ (1 : Int) < (n : Int) := by omega
      refine ⟨d1, ?_⟩
      simp only [s_ite, eT_bop, eBT_cons, eT_cmp, e_var, v4, e_lit, cmp_gt, c1, decide_false, Option.map_some, isAnd, Bool.false_eq_true, if_false, ss_nil]
  refine ⟨d2, ?_⟩
  have sl2 : dSl (st A B d2 []) (otD o) (some 1) none = some (otD (o.drop 1)) := by
    have := sl_from (S := st A B d2 []) (xs := iD o) (a := 1)
    rw [show D.tup ((iD o).drop 1) = otD (o.drop 1) from by simp [otD, iD, List.map_drop]] at this
    exact this
  have cr1 := c_refused (k := k) (S := st A B d2 []) (rs := rs) (o := o.drop 1) lr1 (by simp; omega)
  rw [sub_len (by simp; omega)] at cr1
  have ad2 : dBin (st A B d2 []) .Add (otD o) (.tup [.int cell]) = some (otD (o ++ [cell])) := by
    show dBin (st A B d2 []) .Add (.tup (iD o)) (.tup [.int cell]) = _
    rw [add_tup (by simp [iD]; unfold sizeLine; omega)]
    simp [otD, iD]
  have cr2 := c_refused (k := k) (S := st A B d2 []) (rs := rs) (o := o ++ [cell]) lr1 (by simp; omega)
  rw [sub_len (by simp; omega)] at cr2
  have cr3 : call (tab ts) G (k + 4) 324 [.tup [], .tup []] (st A B d2 []) = some (.bl true, st A B d2 []) := c_refused (k := k) (S := st A B d2 []) (rs := []) (o := []) (by simp) (by simp)
  have cr4 : call (tab ts) G (k + 4) 324 [.tup [], .tup [.int 0]] (st A B d2 []) = some (.bl true, st A B d2 []) := c_refused (k := k) (S := st A B d2 []) (rs := []) (o := [0]) (by simp) (by simp)
  have a6 : evS (call (tab ts) G (k + 4)) G (.ret (.bop .And [(.call 324 [(.var 1), (.slc (.var 2) (some (.lit (.int 1))) none)]), (.call 324 [(.var 1), (.bin .Add (.var 2) (.tup [(.var 3)]))]), (.call 324 [(.tup []), (.tup [])]), (.call 324 [(.tup []), (.tup [(.lit (.int 0))])])])) (en5 rs o cell n a x6 x7) (st A B d2 []) = some (.ret (.bl true), en5 rs o cell n a x6 x7, st A B d2 []) := by
    simp only [s_ret, e_bop, eB_cons, e_call, es_cons, es_nil, e_var, v1, v2, v3, e_slc, eO_some, eO_none, e_lit, sl2, Option.map_some, cr1, Bool.not_false, List.isEmpty_cons, Bool.false_eq_true, if_false, isAnd, if_true, e_bin, e_tup, List.length_cons, List.length_nil, Nat.zero_add, z1, ad2, cr2, z0, cr3, cr4, List.isEmpty_nil]
  rw [call_of T325 rfl]
  unfold outB6 inB7 at a4
  simp only [f__law_are_checked, b__law_are_checked]
  rw [show startA (["draws", "rows", "outs", "cell", "many", "at", "bad", "row"] : List Str).length [D.ref 2, tbZ rs, otD o, .int cell] = [some (.ref 2), some (tbZ rs), some (otD o), some (.int cell), none, none, none, none] from rfl]
  simp only [ss_cons, a1, a2, a3, a4, a5, a6]
  exact congrArg some (trunc_eq rfl)
end Code

/-! M77x: told, and back -/
namespace Code
open PySem Ab
open Mo (nx ot run bits val Wf Sim spec lt' Md cB eqQ)
variable {k : Nat} {A B : O} {ds : List Nat} {S J W : Store} {t : Mo.Tab} {o : List Int}
theorem T326 : tab ts 326 = some f__law_is_told := rfl
theorem T327 : tab ts 327 = some f__law_is_back := rfl
theorem pl_nD {l : List Nat} (h : l.length ≤ 1000) : pl (.tup (nD l)) = true ∧ dep (.tup (nD l)) ≤ 1 := by
  refine ⟨?_, ?_⟩
  · simp only [pl, Bool.and_eq_true, decide_eq_true_eq]
    exact ⟨by simp [nD]; unfold sizeLine; omega, pls_map fun x _ => rfl⟩
  · simp only [dep]
    have := deps_map (g := fun n : Nat => D.int (n : Int)) (n := 0) (l := l) fun x _ => Nat.le_refl _
    unfold nD
    omega
theorem pl_iD {l : List Int} (h : l.length ≤ 1000) : pl (.tup (iD l)) = true ∧ dep (.tup (iD l)) ≤ 1 := by
  refine ⟨?_, ?_⟩
  · simp only [pl, Bool.and_eq_true, decide_eq_true_eq]
    exact ⟨by simp [iD]; unfold sizeLine; omega, pls_map fun x _ => rfl⟩
  · simp only [dep]
    have := deps_map (g := D.int) (n := 0) (l := l) fun x _ => Nat.le_refl _
    unfold iD
    omega
theorem s_nD {l : List Nat} (h : l.length ≤ 1000) : call (tab ts) G (k + 2) 22 [.tup (nD l), .tup (nD l)] S = some (.bl true, S) := s_pl (k := k) (pl_nD h).1 (pl_nD h).2
theorem s_iD {l : List Int} (h : l.length ≤ 1000) : call (tab ts) G (k + 2) 22 [.tup (iD l), .tup (iD l)] S = some (.bl true, S) := s_pl (k := k) (pl_iD h).1 (pl_iD h).2
theorem out_of (Wt : Wf t o) {Bt : Mo.Tab} {oB : List Int} {f : Nat} {tp : Nat → List Int} (M : Md t o Bt oB f tp) (n : Nat) :
    ot (spec (cB Bt oB f).1 (cB Bt oB f).2 0).2 (run (spec (cB Bt oB f).1 (cB Bt oB f).2 0).1 0 (bits n)) = ot o (lt' t n) := by
  rw [Mo.spec_start M.cwf M.cwf.pos (bits n), M.clang Wt]
  rfl
def toldB : List IS := [.asg (.name 9) (.ix (.var 2) (.call 322 [(.var 1), (.var 8)])), .ite (.bop .Or [(.cmp .NotEq (.call 255 [(.var 5), (.var 8)]) (.var 9)), (.un .Not (.call 22 [(.call 108 [(.var 5), (.var 8)]), (.var 9)]))]) [.ret (.lit (.bl false))] []]
theorem c_told {cell : Int} (hA : O.undr 3 A = true) (hB : O.undr 3 B = true) (Wt : Wf t o) (h4 : t.length ≤ 4) {vs : List Int} (h3 : vs.length ≤ 3) (hv : ∀ x ∈ o, x ∈ vs) (hc : cell.natAbs < 10 ^ 59) :
    ∃ ds', call (tab ts) G (k + 7) 326 [.ref 2, tbD t, otD o, .int cell] (st A B ds []) = some (.bl true, st A B ds' []) := by
  obtain ⟨Bt, oB, f, tp, M, hB81⟩ := Mo.md_full Wt h4 h3 hv
  obtain ⟨m, d1, hm, e1⟩ := c_take (k := k + 5) (A := A) (B := B) (X := []) (ds := ds) (m := 40) (by omega)
  have e1 : call (tab ts) G (k + 6) 20 [.ref 2, .int 40] (st A B ds []) = _ := e1
  obtain ⟨v, d2, hv2, e2⟩ := c_take (k := k + 5) (A := A) (B := B) (X := []) (ds := d1) (m := 100000) (by omega)
  have e2 : call (tab ts) G (k + 6) 20 [.ref 2, .int 100000] (st A B d1 []) = _ := e2
  have ok : ∀ ds, okS (st A B ds []) := fun ds => okS_st hA hB
  have Ws := Mo.spec_wf M.cwf M.cwf.pos
  obtain ⟨Q, hQ⟩ : ∃ Q, Q = spec (cB Bt oB f).1 (cB Bt oB f).2 0 := ⟨_, rfl⟩
  have lto : ∀ n, lt' t n < o.length := fun n => by rw [Wt.len]; exact Mo.lt_lt Wt n
  have b200 : (10 : Nat) ^ 59 < 2 ^ 200 := by decide
  -- the row
  have wk : ∀ S : Store, walk true [.int (m : Int)] S = some (natsD m) := fun S => walk_rg (by unfold sizeLine; omega)
  have l1 : evLc (fun _ => true) (lcBk (call (tab ts) G (k + 6)) G (.name 8) [] (.call 322 [(.var 1), (.var 8)]) [some (.ref 2), some (tbD t), some (otD o), some (.int cell), some (.int (m : Int)), none, none, none, none, none]) (natsD m) [] (st A B d1 []) = some (nD (Mo.bits 0 ++ ltL t m), st A B d1 []) := by
    rw [Mo.bits_zero, List.nil_append]
    have := lc_nats (S := st A B d1 []) (f := lcBk (call (tab ts) G (k + 6)) G (.name 8) [] (.call 322 [(.var 1), (.var 8)]) [some (.ref 2), some (tbD t), some (otD o), some (.int cell), some (.int (m : Int)), none, none, none, none, none]) (n := m) (G := fun i => D.int (lt' t i : Nat)) (by unfold sizeLine; omega) fun i hi => by
      have bd : Tg.bind (.name 8) (.int (i : Int)) [some (D.ref 2), some (tbD t), some (otD o), some (.int cell), some (.int (m : Int)), none, none, none, none, none] = some [some (.ref 2), some (tbD t), some (otD o), some (.int cell), some (.int (m : Int)), none, none, none, some (.int (i : Int)), none] := by simp [bind_name]
      unfold lcBk
      rw [bd]
      simp only [eTs_nil, e_call, es_cons, es_nil, e_var, List.getElem?_cons_succ, List.getElem?_cons_zero, c_letter (k := k + 3) (S := st A B d1 []) Wt (Mo.lt_pow_self i) (by omega), Option.map_some]
    rw [this]
    simp [nD, ltL]
  rw [Mo.bits_zero, List.nil_append] at l1
  have sr : ∀ n : Nat, n ≤ 1000 → ∀ d, call (tab ts) G (k + 6) 317 [tbD t, .int (n : Int)] (st A B d []) = some (.tup (nD (ltL t n)), st A B d []) := fun n hn d => c_subrow (k := k + 5) (ok d) Wt hn
  have sm1 : call (tab ts) G (k + 6) 22 [.tup (nD (ltL t m)), .tup (nD (ltL t m))] (st A B d1 []) = some (.bl true, st A B d1 []) := s_nD (k := k + 4) (by simp [ltL]; omega)
  have a1 : evS (call (tab ts) G (k + 6)) G (.asg (.name 4) (.call 20 [(.var 0), (.lit (.int 40))])) [some (.ref 2), some (tbD t), some (otD o), some (.int cell), none, none, none, none, none, none] (st A B ds []) = some (.next, [some (.ref 2), some (tbD t), some (otD o), some (.int cell), some (.int (m : Int)), none, none, none, none, none], st A B d1 []) := by
    simp [e1, bind_name]
  have wp : wipeA [some (D.ref 2), some (tbD t), some (otD o), some (.int cell), some (.int (m : Int)), none, none, none, none, none] [8] = [some (.ref 2), some (tbD t), some (otD o), some (.int cell), some (.int (m : Int)), none, none, none, none, none] := rfl
  have a2 : evS (call (tab ts) G (k + 6)) G (.ite (.un .Not (.call 22 [(.call 317 [(.var 1), (.var 4)]), (.bi .tuple [(.lc [8] (.name 8) true [(.var 4)] [] (.call 322 [(.var 1), (.var 8)]))])])) [.ret (.lit (.bl false))] []) [some (.ref 2), some (tbD t), some (otD o), some (.int cell), some (.int (m : Int)), none, none, none, none, none] (st A B d1 []) = some (.next, [some (.ref 2), some (tbD t), some (otD o), some (.int cell), some (.int (m : Int)), none, none, none, none, none], st A B d1 []) := by
    simp only [s_ite, eT_not, eT_call, es_cons, es_nil, e_call, e_var, List.getElem?_cons_succ, List.getElem?_cons_zero, sr m (by omega) d1, e_bi, e_lc, wk, stays_rg, wp, l1, Option.map_some, tp_lst, sm1, Bool.not_true, ss_nil]
  have c5 := fun d => c_seqof (k := k) (S := st A B d []) (ok d) M Wt
  rw [← hQ] at c5
  have a3 : evS (call (tab ts) G (k + 6)) G (.asg (.name 5) (.call 319 [(.var 1), (.var 2)])) [some (.ref 2), some (tbD t), some (otD o), some (.int cell), some (.int (m : Int)), none, none, none, none, none] (st A B d1 []) = some (.next, [some (.ref 2), some (tbD t), some (otD o), some (.int cell), some (.int (m : Int)), some (sqD Q.1 Q.2), none, none, none, none], st A B d1 []) := by
    simp only [s_asg, e_call, es_cons, es_nil, e_var, List.getElem?_cons_succ, List.getElem?_cons_zero, c5 d1]
    simp [bind_name]
  have c6 := c_tuples (k := k + 5) (S := st A B d1 []) (ok d1) M Wt hB81
  have a4 : evS (call (tab ts) G (k + 6)) G (.asg (.tup [(.name 6), (.name 7)]) (.call 323 [(.var 1), (.var 2)])) [some (.ref 2), some (tbD t), some (otD o), some (.int cell), some (.int (m : Int)), some (sqD Q.1 Q.2), none, none, none, none] (st A B d1 []) = some (.next, [some (.ref 2), some (tbD t), some (otD o), some (.int cell), some (.int (m : Int)), some (sqD Q.1 Q.2), some (tbD (cB Bt oB f).1), some (otD (cB Bt oB f).2), none, none], st A B d1 []) := by
    simp only [s_asg, e_call, es_cons, es_nil, e_var, List.getElem?_cons_succ, List.getElem?_cons_zero, c6]
    simp [Tg.bind, Tg.binds, sqD]
  have c7 := c_lleast (k := k + 5) (S := st A B d1 []) (ok d1) M.cwf M.cwf.pos
  rw [← hQ] at c7
  have c7 : call (tab ts) G (k + 6) 295 [tbD (cB Bt oB f).1, otD (cB Bt oB f).2, .int 0] (st A B d1 []) = some (sqD Q.1 Q.2, st A B d1 []) := c7
  rw [← hQ] at Ws
  have sq := fun d => s_sq (k := k + 2) (S := st A B d []) Ws
  have a5 : evS (call (tab ts) G (k + 6)) G (.ite (.un .Not (.call 22 [(.var 5), (.call 295 [(.var 6), (.var 7), (.lit (.int 0))])])) [.ret (.lit (.bl false))] []) [some (.ref 2), some (tbD t), some (otD o), some (.int cell), some (.int (m : Int)), some (sqD Q.1 Q.2), some (tbD (cB Bt oB f).1), some (otD (cB Bt oB f).2), none, none] (st A B d1 []) = some (.next, [some (.ref 2), some (tbD t), some (otD o), some (.int cell), some (.int (m : Int)), some (sqD Q.1 Q.2), some (tbD (cB Bt oB f).1), some (otD (cB Bt oB f).2), none, none], st A B d1 []) := by
    simp only [s_ite, eT_not, eT_call, es_cons, es_nil, e_call, e_var, List.getElem?_cons_succ, List.getElem?_cons_zero, e_lit, c7, sq d1, Bool.not_true, ss_nil]
  -- far places
  obtain ⟨x6, hx6⟩ : ∃ x6, x6 = some (tbD (cB Bt oB f).1) := ⟨_, rfl⟩
  obtain ⟨x7, hx7⟩ : ∃ x7, x7 = some (otD (cB Bt oB f).2) := ⟨_, rfl⟩
  rw [← hx6, ← hx7] at a4 a5
  obtain ⟨ρ', S', f1, hS', x8, x9, hρ⟩ := for_fold (fun n : Nat => D.int (n : Int)) (body := forF (call (tab ts) G (k + 6)) G (.name 8) toldB) (fun (_ : Unit) _ => ())
    (fun _ ρ S' => S' = st A B d2 [] ∧ ∃ x8 x9, ρ = [some (.ref 2), some (tbD t), some (otD o), some (.int cell), some (.int (m : Int)), some (sqD Q.1 Q.2), x6, x7, x8, x9]) (xs := [m, cell.natAbs, v]) (b := ()) (ρ := [some (.ref 2), some (tbD t), some (otD o), some (.int cell), some (.int (m : Int)), some (sqD Q.1 Q.2), x6, x7, none, none]) (S := st A B d2 []) ⟨rfl, none, none, rfl⟩ (fun n hn _ ρ S' ⟨h1, x8, x9, h2⟩ => by
      subst h1 h2
      have hn2 : n < 2 ^ 200 := by
        have hn : n = m ∨ n = cell.natAbs ∨ n = v := by simpa using hn
        have q1 : (100000 : Nat) < 2 ^ 200 := by decide
        rcases hn with h | h | h
        · subst h; omega
        · subst h; exact Nat.lt_trans hc b200
        · subst h; omega
      have cl := c_letter (k := k + 3) (S := st A B d2 []) Wt hn2 (by omega)
      have co := c_lout (k := k + 3) (S := st A B d2 []) Ws hn2 (by omega)
      have ca := c_at (k := k + 3) (ok d2) Ws hn2 (by omega)
      have oe : ot Q.2 (run Q.1 0 (bits n)) = ot o (lt' t n) := by rw [hQ]; exact out_of Wt M n
      rw [oe] at co ca
      have ixo := ix_ot (S := st A B d2 []) (lto n)
      have si := s_int (k := k + 5) (S := st A B d2 []) (i := ot o (lt' t n))
      refine ⟨[some (.ref 2), some (tbD t), some (otD o), some (.int cell), some (.int (m : Int)), some (sqD Q.1 Q.2), x6, x7, some (.int (n : Int)), some (.int (ot o (lt' t n)))], _, ?_, rfl, _, _, rfl⟩
      have b8 : Tg.bind (.name 8) (.int (n : Int)) [some (D.ref 2), some (tbD t), some (otD o), some (.int cell), some (.int (m : Int)), some (sqD Q.1 Q.2), x6, x7, x8, x9] = some [some (.ref 2), some (tbD t), some (otD o), some (.int cell), some (.int (m : Int)), some (sqD Q.1 Q.2), x6, x7, some (.int (n : Int)), x9] := by simp [bind_name]
      have b9 : Tg.bind (.name 9) (.int (ot o (lt' t n))) [some (D.ref 2), some (tbD t), some (otD o), some (.int cell), some (.int (m : Int)), some (sqD Q.1 Q.2), x6, x7, some (.int (n : Int)), x9] = some [some (.ref 2), some (tbD t), some (otD o), some (.int cell), some (.int (m : Int)), some (sqD Q.1 Q.2), x6, x7, some (.int (n : Int)), some (.int (ot o (lt' t n)))] := by simp [bind_name]
      unfold forF
      rw [b8]
      dsimp only
      unfold toldB
      simp only [ss_cons, s_asg, e_ix, e_var, List.getElem?_cons_succ, List.getElem?_cons_zero, e_call, es_cons, es_nil, cl, ixo, Option.map_some, b9, s_ite, eT_bop, eBT_cons, eT_cmp, co, cmp_ne, eq_int, decide_true, Bool.not_true, isAnd, Bool.false_eq_true, if_true, eT_not, eT_call, ca, si, eBT_nil, ss_nil])
  rw [hS', hρ] at f1
  simp only [List.map_cons, List.map_nil] at f1
  have z3 : 3 ≤ sizeLine := by decide
  have z1 : 1 ≤ sizeLine := by decide
  have bab : ∀ S : Store, dBi S .abs [.int cell] = some (.int ((cell.natAbs : Nat) : Int)) := fun S => bi_abs
  have a6 : evS (call (tab ts) G (k + 6)) G (.for_ (.name 8) false [(.lst [(.var 4), (.bi .abs [(.var 3)]), (.call 20 [(.var 0), (.lit (.int 100000))])])] toldB) [some (.ref 2), some (tbD t), some (otD o), some (.int cell), some (.int (m : Int)), some (sqD Q.1 Q.2), x6, x7, none, none] (st A B d1 []) = some (.next, [some (.ref 2), some (tbD t), some (otD o), some (.int cell), some (.int (m : Int)), some (sqD Q.1 Q.2), x6, x7, x8, x9], st A B d2 []) := by
    simp only [s_for, es_cons, es_nil, e_lst, e_var, List.getElem?_cons_succ, List.getElem?_cons_zero, e_bi, bab, Option.map_some, e_call, e_lit, e2, List.length_cons, List.length_nil, Nat.zero_add, Nat.reduceAdd, z3, if_true, walk_lst, stays_lst, f1]
  have sr1 := sr 1 (by omega) d2
  have l10 : D.tup (nD (ltL t 1)) = .tup [.int 0] := by
    have : ltL t 1 = [0] := by
      show [lt' t 0] = [0]
      rw [Mo.lt_zero]
    rw [this]
    rfl
  have sr1 : call (tab ts) G (k + 6) 317 [tbD t, .int 1] (st A B d2 []) = some (.tup [.int 0], st A B d2 []) := by
    rw [l10] at sr1
    exact sr1
  have s0 : call (tab ts) G (k + 6) 22 [.tup [.int 0], .tup [.int 0]] (st A B d2 []) = some (.bl true, st A B d2 []) := s_nD (k := k + 4) (l := [0]) (by simp)
  have a7 : evS (call (tab ts) G (k + 6)) G (.ret (.bop .And [(.call 22 [(.call 319 [(.var 1), (.var 2)]), (.var 5)]), (.call 22 [(.call 317 [(.var 1), (.lit (.int 1))]), (.tup [(.lit (.int 0))])])])) [some (.ref 2), some (tbD t), some (otD o), some (.int cell), some (.int (m : Int)), some (sqD Q.1 Q.2), x6, x7, x8, x9] (st A B d2 []) = some (.ret (.bl true), [some (.ref 2), some (tbD t), some (otD o), some (.int cell), some (.int (m : Int)), some (sqD Q.1 Q.2), x6, x7, x8, x9], st A B d2 []) := by
    simp only [s_ret, e_bop, eB_cons, e_call, es_cons, es_nil, e_var, List.getElem?_cons_succ, List.getElem?_cons_zero, c5 d2, sq d2, List.isEmpty_cons, Bool.false_eq_true, if_false, isAnd, if_true, e_lit, sr1, e_tup, List.length_cons, List.length_nil, Nat.zero_add, z1, s0, List.isEmpty_nil]
  refine ⟨d2, ?_⟩
  rw [call_of T326 rfl]
  unfold toldB at a6
  simp only [f__law_is_told, b__law_is_told]
  rw [show startA (["draws", "rows", "outs", "cell", "many", "told", "table", "values", "n", "due"] : List Str).length [D.ref 2, tbD t, otD o, .int cell] = [some (.ref 2), some (tbD t), some (otD o), some (.int cell), none, none, none, none, none, none] from rfl]
  simp only [ss_cons, a1, a2, a3, a4, a5, a6, a7]
  exact congrArg some (trunc_eq rfl)
theorem c_back (hA : O.undr 3 A = true) (hB : O.undr 3 B = true) (Wt : Wf t o) (h4 : t.length ≤ 4) {vs : List Int} (h3 : vs.length ≤ 3) (hv : ∀ x ∈ o, x ∈ vs) (hz : ∀ s, s < t.length → ot o (nx t s 0) = ot o s) :
    ∃ ds', call (tab ts) G (k + 7) 327 [.ref 2, sqD t o] (st A B ds []) = some (.bl true, st A B ds' []) := by
  have ok : ∀ ds, okS (st A B ds []) := fun ds => okS_st hA hB
  obtain ⟨Q, hQ⟩ : ∃ Q, Q = spec t o 0 := ⟨_, rfl⟩
  have L := Mo.spec_lst Wt Wt.pos
  have Ws := Mo.spec_wf Wt Wt.pos
  have hsim := Mo.spec_start Wt Wt.pos
  have hlen := Mo.spec_len Wt Wt.pos
  have hout := fun v => @Mo.spec_outs t o 0 Wt Wt.pos v
  rw [← hQ] at L Ws hsim hlen hout
  have hz' : ∀ s, s < Q.1.length → ot Q.2 (nx Q.1 s 0) = ot Q.2 s := fun s hs => by
    obtain ⟨w, _, hw, _, _⟩ := Mo.kw_get L hs
    have q := hsim.run w
    rw [hw] at q
    rw [(q.nx 0).out, q.out]
    exact hz _ (Wt.run Wt.pos w)
  obtain ⟨Bt, oB, f, tp, M, hB81⟩ := Mo.md_full Ws (Nat.le_trans hlen h4) h3 (fun x hx => by
    obtain ⟨s, hs, e⟩ := hout x hx
    rw [← e]
    refine hv _ ?_
    unfold ot
    rw [List.getElem?_eq_getElem (show s < o.length by rw [Wt.len]; exact hs)]
    exact List.getElem_mem _)
  obtain ⟨R, hR⟩ : ∃ R, R = cB Bt oB f := ⟨_, rfl⟩
  obtain ⟨m, d1, hm, e1⟩ := c_take (k := k + 5) (A := A) (B := B) (X := []) (ds := ds) (m := 30) (by omega)
  have e1 : call (tab ts) G (k + 6) 20 [.ref 2, .int 30] (st A B ds []) = _ := e1
  have c2 : call (tab ts) G (k + 6) 295 [tbD t, otD o, .int 0] (st A B ds []) = some (sqD Q.1 Q.2, st A B ds []) := by
    have := c_lleast (k := k + 5) (S := st A B ds []) (ok ds) Wt Wt.pos
    rw [← hQ] at this
    exact this
  have c3 : call (tab ts) G (k + 6) 320 [sqD t o] (st A B ds []) = some (sqD R.1 R.2, st A B ds []) := by
    rw [hQ] at M
    rw [hR]
    exact c_substof (k := k) (ok ds) Wt M
  have c4 : call (tab ts) G (k + 6) 323 [tbD Q.1, otD Q.2] (st A B ds []) = some (sqD R.1 R.2, st A B ds []) := by
    rw [hR]
    exact c_tuples (k := k + 5) (ok ds) M Ws hB81
  have Wr : Wf R.1 R.2 := by rw [hR]; exact M.cwf
  have sr := s_sq (k := k + 2) (S := st A B ds []) Wr
  have sub := sub_good Wr (by rw [hR]; exact M.sub0 Ws hz')
  have c5 : call (tab ts) G (k + 6) 316 [tbD R.1, otD R.2] (st A B ds []) = some (.non, st A B ds []) := by
    have h1 := Wr.le
    have h2 := Wr.len
    have := c_check (k := k + 3) (S := st A B ds []) (rs := zt R.1) (o := R.2) (by simp [zt]; omega) (by omega) sub
    rw [tbZ_zt] at this
    exact this
  have c6 : call (tab ts) G (k + 6) 319 [tbD R.1, otD R.2] (st A B ds []) = some (sqD Q.1 Q.2, st A B ds []) := by
    have Mb := M.back L
    rw [← hR] at Mb
    have := c_seqof (k := k) (S := st A B ds []) (ok ds) Mb Wr
    have e2 : spec (cB Q.1 Q.2 0).1 (cB Q.1 Q.2 0).2 0 = Q := by
      have s1 : Sim (cB Q.1 Q.2 0).1 (cB Q.1 Q.2 0).2 0 Q.1 Q.2 0 := Mo.canon_sim Mb.wf Mb.lt Mo.eqQ_ok Mb.al.head
      rw [Mo.spec_congr (s1.trans hsim)]
      exact hQ.symm
    rw [e2] at this
    exact this
  have sq := s_sq (k := k + 2) (S := st A B ds []) Ws
  have c7 := c_subrow (k := k + 5) (S := st A B d1 []) (n := m) (ok d1) Wr (by omega)
  have c8 := c_srow (k := k + 2) (S := st A B d1 []) (n := m) (ok d1) Wt (by omega)
  have wk : ∀ S : Store, walk false [.tup (nD (ltL R.1 m))] S = some ((ltL R.1 m).map fun n : Nat => D.int (n : Int)) := fun S => rfl
  have wp : wipeA [some (D.ref 2), some (sqD t o), some (sqD Q.1 Q.2), some (sqD R.1 R.2), some (tbD R.1), some (otD R.2), some (.int (m : Int)), none] [7] = [some (.ref 2), some (sqD t o), some (sqD Q.1 Q.2), some (sqD R.1 R.2), some (tbD R.1), some (otD R.2), some (.int (m : Int)), none] := rfl
  have l1 : evLc (fun _ => true) (lcBk (call (tab ts) G (k + 6)) G (.name 7) [] (.ix (.var 5) (.var 7)) [some (.ref 2), some (sqD t o), some (sqD Q.1 Q.2), some (sqD R.1 R.2), some (tbD R.1), some (otD R.2), some (.int (m : Int)), none]) ((ltL R.1 m).map fun n : Nat => D.int (n : Int)) [] (st A B d1 []) = some ((ltL R.1 m).map (fun s => D.int (ot R.2 s)), st A B d1 []) :=
    lc_list (by simp [ltL]; unfold sizeLine; omega) fun s hs => by
      obtain ⟨n, _, hn⟩ := List.mem_map.mp hs
      have hs2 : s < R.2.length := by
        rw [Wr.len, ← hn]
        exact Mo.lt_lt Wr n
      have bd : Tg.bind (.name 7) (.int (s : Int)) [some (D.ref 2), some (sqD t o), some (sqD Q.1 Q.2), some (sqD R.1 R.2), some (tbD R.1), some (otD R.2), some (.int (m : Int)), none] = some [some (.ref 2), some (sqD t o), some (sqD Q.1 Q.2), some (sqD R.1 R.2), some (tbD R.1), some (otD R.2), some (.int (m : Int)), some (.int (s : Int))] := by simp [bind_name]
      unfold lcBk
      rw [bd]
      simp only [eTs_nil, e_ix, e_var, List.getElem?_cons_succ, List.getElem?_cons_zero, ix_ot hs2, Option.map_some]
  have row : (ltL R.1 m).map (fun s => D.int (ot R.2 s)) = iD ((List.range m).map fun i => ot o (run t 0 (bits i))) := by
    unfold ltL iD
    rw [List.map_map, List.map_map]
    refine List.map_congr_left fun i _ => ?_
    show D.int (ot R.2 (lt' R.1 i)) = D.int (ot o (run t 0 (bits i)))
    have q1 := M.clang Ws (bits i).reverse
    rw [← hR, List.reverse_reverse] at q1
    have q2 : ot R.2 (lt' R.1 i) = ot Q.2 (run Q.1 0 (bits i)) := q1
    rw [q2, hsim (bits i)]
  rw [row] at l1
  have si := s_iD (k := k + 4) (S := st A B d1 []) (l := (List.range m).map fun i => ot o (run t 0 (bits i))) (by simp; omega)
  refine ⟨d1, ?_⟩
  have isn : ∀ S : Store, dCmp S .IsNot .non .non = some false := fun S => rfl
  have a1 : evS (call (tab ts) G (k + 6)) G (.asg (.name 2) (.call 295 [(.ix (.var 1) (.lit (.int 0))), (.ix (.var 1) (.lit (.int 1))), (.lit (.int 0))])) [some (.ref 2), some (sqD t o), none, none, none, none, none, none] (st A B ds []) = some (.next, [some (.ref 2), some (sqD t o), some (sqD Q.1 Q.2), none, none, none, none, none], st A B ds []) := by
    simp [c2, bind_name]
  have a2 : evS (call (tab ts) G (k + 6)) G (.asg (.name 3) (.call 320 [(.var 1)])) [some (.ref 2), some (sqD t o), some (sqD Q.1 Q.2), none, none, none, none, none] (st A B ds []) = some (.next, [some (.ref 2), some (sqD t o), some (sqD Q.1 Q.2), some (sqD R.1 R.2), none, none, none, none], st A B ds []) := by
    simp [c3, bind_name]
  have a3 : evS (call (tab ts) G (k + 6)) G (.ite (.un .Not (.call 22 [(.var 3), (.call 323 [(.ix (.var 2) (.lit (.int 0))), (.ix (.var 2) (.lit (.int 1)))])])) [.ret (.lit (.bl false))] []) [some (.ref 2), some (sqD t o), some (sqD Q.1 Q.2), some (sqD R.1 R.2), none, none, none, none] (st A B ds []) = some (.next, [some (.ref 2), some (sqD t o), some (sqD Q.1 Q.2), some (sqD R.1 R.2), none, none, none, none], st A B ds []) := by
    simp only [s_ite, eT_not, eT_call, es_cons, es_nil, e_call, e_ix, e_var, List.getElem?_cons_succ, List.getElem?_cons_zero, e_lit, ix_sq0, ix_sq1, Option.map_some, c4, sr, Bool.not_true, ss_nil]
  have a4 : evS (call (tab ts) G (k + 6)) G (.asg (.tup [(.name 4), (.name 5)]) (.var 3)) [some (.ref 2), some (sqD t o), some (sqD Q.1 Q.2), some (sqD R.1 R.2), none, none, none, none] (st A B ds []) = some (.next, [some (.ref 2), some (sqD t o), some (sqD Q.1 Q.2), some (sqD R.1 R.2), some (tbD R.1), some (otD R.2), none, none], st A B ds []) := by
    simp [Tg.bind, Tg.binds, sqD]
  have a5 : evS (call (tab ts) G (k + 6)) G (.ite (.bop .Or [(.cmp .IsNot (.call 316 [(.var 4), (.var 5)]) (.lit .non)), (.un .Not (.call 22 [(.call 319 [(.var 4), (.var 5)]), (.var 2)]))]) [.ret (.lit (.bl false))] []) [some (.ref 2), some (sqD t o), some (sqD Q.1 Q.2), some (sqD R.1 R.2), some (tbD R.1), some (otD R.2), none, none] (st A B ds []) = some (.next, [some (.ref 2), some (sqD t o), some (sqD Q.1 Q.2), some (sqD R.1 R.2), some (tbD R.1), some (otD R.2), none, none], st A B ds []) := by
    simp only [s_ite, eT_bop, eBT_cons, eT_cmp, e_call, es_cons, es_nil, e_var, List.getElem?_cons_succ, List.getElem?_cons_zero, c5, e_lit, isn, Option.map_some, isAnd, Bool.false_eq_true, if_true, eT_not, eT_call, c6, sq, Bool.not_true, eBT_nil, ss_nil]
  have a6 : evS (call (tab ts) G (k + 6)) G (.asg (.name 6) (.call 20 [(.var 0), (.lit (.int 30))])) [some (.ref 2), some (sqD t o), some (sqD Q.1 Q.2), some (sqD R.1 R.2), some (tbD R.1), some (otD R.2), none, none] (st A B ds []) = some (.next, [some (.ref 2), some (sqD t o), some (sqD Q.1 Q.2), some (sqD R.1 R.2), some (tbD R.1), some (otD R.2), some (.int (m : Int)), none], st A B d1 []) := by
    simp [e1, bind_name]
  have st7 : ∀ xs, stays false [.tup (nD (ltL R.1 m))] xs = fun _ => true := fun xs => stays_tup
  have a7 : evS (call (tab ts) G (k + 6)) G (.ret (.call 22 [(.bi .tuple [(.lc [7] (.name 7) false [(.call 317 [(.var 4), (.var 6)])] [] (.ix (.var 5) (.var 7)))]), (.call 273 [(.var 1), (.var 6)])])) [some (.ref 2), some (sqD t o), some (sqD Q.1 Q.2), some (sqD R.1 R.2), some (tbD R.1), some (otD R.2), some (.int (m : Int)), none] (st A B d1 []) = some (.ret (.bl true), [some (.ref 2), some (sqD t o), some (sqD Q.1 Q.2), some (sqD R.1 R.2), some (tbD R.1), some (otD R.2), some (.int (m : Int)), none], st A B d1 []) := by
    simp only [s_ret, e_call, es_cons, es_nil, e_bi, e_lc, e_var, List.getElem?_cons_succ, List.getElem?_cons_zero, c7, wk, st7, wp, l1, Option.map_some, tp_lst, c8, si]
  rw [call_of T327 rfl]
  simp only [f__law_is_back, b__law_is_back]
  rw [show startA (["draws", "sequence", "due", "told", "rows", "outs", "many", "letter"] : List Str).length [D.ref 2, sqD t o] = [some (.ref 2), some (sqD t o), none, none, none, none, none, none] from rfl]
  simp only [ss_cons, a1, a2, a3, a4, a5, a6, a7]
  exact congrArg some (trunc_eq rfl)
end Code

/-! M77y: fixed ones -/
namespace Code
open PySem Ab
open Mo (nx ot run bits val Wf Sim spec lt' Md cB eqQ tw)
variable {k : Nat} {A B : O} {ds : List Nat} {S J W : Store} {t : Mo.Tab} {o : List Int}
def onT : Mo.Tab := [(0, 1), (1, 0)]
def onO : List Int := [0, 1]
def poT : Mo.Tab := [(0, 1), (1, 2), (2, 2)]
def poO : List Int := [0, 1, 0]
def foT : Mo.Tab := [(0, 1), (2, 1), (0, 3), (2, 3)]
def foO : List Int := [0, 0, 1, 1]
theorem wf_of {t : Mo.Tab} {o : List Int} (h1 : 0 < t.length) (h2 : o.length = t.length) (h3 : ∀ s, s < t.length → nx t s 0 < t.length ∧ nx t s 1 < t.length) (h4 : t.length ≤ 130) : Wf t o := ⟨h1, h2, fun s hs d => by
  by_cases hd : d = 0
  · rw [hd]
    exact (h3 s hs).1
  · rw [Mo.nx_pos hd]
    exact (h3 s hs).2, h4⟩
theorem on_wf : Wf onT onO := wf_of (by decide) (by decide) (by decide) (by decide)
theorem po_wf : Wf poT poO := wf_of (by decide) (by decide) (by decide) (by decide)
theorem fo_wf : Wf foT foO := wf_of (by decide) (by decide) (by decide) (by decide)
theorem on_q : ∀ x s, x < onT.length → s < onT.length → (eqQ x s = true ↔ Sim onT onO x onT onO s) := by
  intro x s hx hs
  have hx : x = 0 ∨ x = 1 := by have : onT.length = 2 := rfl; omega
  have hs : s = 0 ∨ s = 1 := by have : onT.length = 2 := rfl; omega
  constructor
  · intro h
    have : x = s := by simpa using h
    rw [this]
    exact Sim.rfl'
  · intro h
    have h0 := h []
    rcases hx with rfl | rfl <;> rcases hs with rfl | rfl <;> first | rfl | (revert h0; decide)
theorem po_q : ∀ x s, x < poT.length → s < poT.length → (eqQ x s = true ↔ Sim poT poO x poT poO s) := by
  intro x s hx hs
  have hx : x = 0 ∨ x = 1 ∨ x = 2 := by have : poT.length = 3 := rfl; omega
  have hs : s = 0 ∨ s = 1 ∨ s = 2 := by have : poT.length = 3 := rfl; omega
  constructor
  · intro h
    have : x = s := by simpa using h
    rw [this]
    exact Sim.rfl'
  · intro h
    have h0 := h []
    have h1 := h [1]
    rcases hx with rfl | rfl | rfl <;> rcases hs with rfl | rfl | rfl <;> first | rfl | (revert h0; decide) | (revert h1; decide)
theorem on_cB : cB onT onO 0 = (onT, onO) := by
  unfold cB
  rw [Mo.canon_eq, Mo.fnd_def]
  decide +kernel
theorem po_cB : cB poT poO 0 = (poT, poO) := by
  unfold cB
  rw [Mo.canon_eq, Mo.fnd_def]
  decide +kernel
theorem on_sp : spec onT onO 0 = (onT, onO) := by
  rw [← Mo.canon_spec on_wf (by decide) on_q]
  exact on_cB
theorem po_sp : spec poT poO 0 = (poT, poO) := by
  rw [← Mo.canon_spec po_wf (by decide) po_q]
  exact po_cB
def tpOn (s : Nat) : List Int := if s = 0 then [0, 1] else [1, 0]
def tpPo (s : Nat) : List Int := if s = 0 then [0, 1, 0] else if s = 1 then [1, 0, 0] else [0, 0, 0]
theorem tw_one {t : Mo.Tab} {u : List Int} {d : Nat} (h : d ≠ 0) : tw t u d = tw t u 1 := by simp [tw, h]
theorem on_md : Md onT onO onT onO 0 tpOn := by
  have two : ∀ s, s < onT.length → s = 0 ∨ s = 1 := fun s hs => by have : onT.length = 2 := rfl; omega
  refine ⟨on_wf, by decide, rfl, fun s hs d => ?_, fun s s' hs hs' e => ?_, fun s hs => ?_, fun s hs => ?_⟩
  · by_cases h : d = 0
    · subst h
      rcases two s hs with rfl | rfl <;> decide
    · rw [tw_one h, Mo.nx_pos h]
      rcases two s hs with rfl | rfl <;> decide
  · rcases two s hs with rfl | rfl <;> rcases two s' hs' with rfl | rfl <;> first | rfl | (revert e; decide)
  · rcases two s hs with rfl | rfl <;> decide
  · rcases two s hs with rfl | rfl <;> decide
theorem po_md : Md poT poO poT poO 0 tpPo := by
  have two : ∀ s, s < poT.length → s = 0 ∨ s = 1 ∨ s = 2 := fun s hs => by have : poT.length = 3 := rfl; omega
  refine ⟨po_wf, by decide, rfl, fun s hs d => ?_, fun s s' hs hs' e => ?_, fun s hs => ?_, fun s hs => ?_⟩
  · by_cases h : d = 0
    · subst h
      rcases two s hs with rfl | rfl | rfl <;> decide
    · rw [tw_one h, Mo.nx_pos h]
      rcases two s hs with rfl | rfl | rfl <;> decide
  · rcases two s hs with rfl | rfl | rfl <;> rcases two s' hs' with rfl | rfl | rfl <;> first | rfl | (revert e; decide)
  · rcases two s hs with rfl | rfl | rfl <;> decide
  · rcases two s hs with rfl | rfl | rfl <;> decide
theorem lt_fo : lt' foT 0 = 0 ∧ lt' foT 1 = 1 ∧ lt' foT 2 = 2 ∧ lt' foT 3 = 1 ∧ lt' foT 4 = 0 ∧ lt' foT 5 = 3 ∧ lt' foT 6 = 2 ∧ lt' foT 7 = 1 := by
  have l0 : lt' foT 0 = 0 := Mo.lt_zero
  have l1 : lt' foT 1 = 1 := by
    rw [Mo.lt_pos (by decide), show 1 / 2 = 0 from rfl, l0]
    rfl
  have l2 : lt' foT 2 = 2 := by
    rw [Mo.lt_pos (by decide), show 2 / 2 = 1 from rfl, l1]
    rfl
  have l3 : lt' foT 3 = 1 := by
    rw [Mo.lt_pos (by decide), show 3 / 2 = 1 from rfl, l1]
    rfl
  have l4 : lt' foT 4 = 0 := by
    rw [Mo.lt_pos (by decide), show 4 / 2 = 2 from rfl, l2]
    rfl
  have l5 : lt' foT 5 = 3 := by
    rw [Mo.lt_pos (by decide), show 5 / 2 = 2 from rfl, l2]
    rfl
  have l6 : lt' foT 6 = 2 := by
    rw [Mo.lt_pos (by decide), show 6 / 2 = 3 from rfl, l3]
    rfl
  have l7 : lt' foT 7 = 1 := by
    rw [Mo.lt_pos (by decide), show 7 / 2 = 3 from rfl, l3]
    rfl
  exact ⟨l0, l1, l2, l3, l4, l5, l6, l7⟩
theorem ltL_fo : ltL foT 8 = [0, 1, 2, 1, 0, 3, 2, 1] := by
  obtain ⟨l0, l1, l2, l3, l4, l5, l6, l7⟩ := lt_fo
  show [lt' foT 0, lt' foT 1, lt' foT 2, lt' foT 3, lt' foT 4, lt' foT 5, lt' foT 6, lt' foT 7] = _
  rw [l0, l1, l2, l3, l4, l5, l6, l7]
/-- the four fixed ones -/
def foldE : IE := .tup [(.tup [(.tup [(.lit (.int 0)), (.lit (.int 1))]), (.tup [(.lit (.int 2)), (.lit (.int 1))]), (.tup [(.lit (.int 0)), (.lit (.int 3))]), (.tup [(.lit (.int 2)), (.lit (.int 3))])]), (.tup [(.lit (.int 0)), (.lit (.int 0)), (.lit (.int 1)), (.lit (.int 1))])]
def onE : IE := .tup [(.tup [(.tup [(.lit (.int 0)), (.lit (.int 1))]), (.tup [(.lit (.int 1)), (.lit (.int 0))])]), (.tup [(.lit (.int 0)), (.lit (.int 1))])]
def poE : IE := .tup [(.tup [(.tup [(.lit (.int 0)), (.lit (.int 1))]), (.tup [(.lit (.int 1)), (.lit (.int 2))]), (.tup [(.lit (.int 2)), (.lit (.int 2))])]), (.tup [(.lit (.int 0)), (.lit (.int 1)), (.lit (.int 0))])]
theorem ev_fold {cf : CallF} {ρ : AEnv} : ev cf G foldE ρ S = some (sqD foT foO, S) := by
  have z2 : 2 ≤ sizeLine := by decide
  have z4 : 4 ≤ sizeLine := by decide
  unfold foldE
  simp only [e_tup, es_cons, es_nil, e_lit, List.length_cons, List.length_nil, Nat.zero_add, Nat.reduceAdd, z2, z4, if_true]
  rfl
theorem ev_on {cf : CallF} {ρ : AEnv} : ev cf G onE ρ S = some (sqD onT onO, S) := by
  have z2 : 2 ≤ sizeLine := by decide
  unfold onE
  simp only [e_tup, es_cons, es_nil, e_lit, List.length_cons, List.length_nil, Nat.zero_add, Nat.reduceAdd, z2, if_true]
  rfl
theorem ev_po {cf : CallF} {ρ : AEnv} : ev cf G poE ρ S = some (sqD poT poO, S) := by
  have z2 : 2 ≤ sizeLine := by decide
  have z3 : 3 ≤ sizeLine := by decide
  unfold poE
  simp only [e_tup, es_cons, es_nil, e_lit, List.length_cons, List.length_nil, Nat.zero_add, Nat.reduceAdd, z2, z3, if_true]
  rfl
theorem c_on (hS : okS S) : call (tab ts) G (k + 6) 320 [sqD onT onO] S = some (sqD onT onO, S) := by
  have h := c_substof (k := k) (t := onT) (o := onO) (B := onT) (oB := onO) (f := 0) (tp := tpOn) hS on_wf (by rw [on_sp]; exact on_md)
  rw [on_cB] at h
  exact h
theorem c_po (hS : okS S) : call (tab ts) G (k + 6) 320 [sqD poT poO] S = some (sqD poT poO, S) := by
  have h := c_substof (k := k) (t := poT) (o := poO) (B := poT) (oB := poO) (f := 0) (tp := tpPo) hS po_wf (by rw [po_sp]; exact po_md)
  rw [po_cB] at h
  exact h
theorem c_forow (hS : okS S) : call (tab ts) G (k + 1) 317 [tbD foT, .int 8] S = some (.tup (nD [0, 1, 2, 1, 0, 3, 2, 1]), S) := by
  have h := c_subrow (k := k) (n := 8) hS fo_wf (by omega)
  rw [ltL_fo] at h
  exact h
theorem c_foseq (hS : okS S) : ∃ Q : Mo.Tab × List Int, call (tab ts) G (k + 6) 319 [tbD foT, otD foO] S = some (sqD Q.1 Q.2, S) ∧ call (tab ts) G (k + 6) 273 [sqD Q.1 Q.2, .int 6] S = some (.tup (iD [0, 0, 1, 0, 0, 1]), S) := by
  obtain ⟨Bt, oB, f, tp, M, _⟩ := Mo.md_full fo_wf (by decide) (vs := [0, 1]) (by decide) (by decide)
  refine ⟨spec (cB Bt oB f).1 (cB Bt oB f).2 0, c_seqof (k := k) hS M fo_wf, ?_⟩
  have h := c_srow (k := k + 2) (n := 6) hS (Mo.spec_wf M.cwf M.cwf.pos) (by omega)
  have e : ((List.range 6).map fun i => ot (spec (cB Bt oB f).1 (cB Bt oB f).2 0).2 (run (spec (cB Bt oB f).1 (cB Bt oB f).2 0).1 0 (bits i))) = [0, 0, 1, 0, 0, 1] := by
    have q : ((List.range 6).map fun i => ot (spec (cB Bt oB f).1 (cB Bt oB f).2 0).2 (run (spec (cB Bt oB f).1 (cB Bt oB f).2 0).1 0 (bits i))) = (List.range 6).map fun i => ot foO (lt' foT i) := List.map_congr_left fun i _ => out_of fo_wf M i
    rw [q]
    obtain ⟨l0, l1, l2, l3, l4, l5, l6, l7⟩ := lt_fo
    show [ot foO (lt' foT 0), ot foO (lt' foT 1), ot foO (lt' foT 2), ot foO (lt' foT 3), ot foO (lt' foT 4), ot foO (lt' foT 5)] = _
    rw [l0, l1, l2, l3, l4, l5]
    decide
  rw [e] at h
  exact h
end Code

/-! M77z: the law -/
namespace Code
open PySem Ab
open Mo (nx ot run bits val Wf Sim spec lt' Md cB eqQ tw)
variable {k : Nat} {A B : O} {ds : List Nat} {S J W : Store} {t : Mo.Tab} {o : List Int}
theorem T36 : tab ts 36 = some f_law := rfl
def turnB : List IS := [.ite (.bop .Or [(.un .Not (.call 326 [(.var 1), (.var 3), (.var 4), (.var 2)])), (.un .Not (.call 327 [(.var 1), (.call 308 [(.var 1), (.bin .Add (.lit (.int 1)) (.call 20 [(.var 1), (.lit (.int 4))]))])]))]) [.ret (.lit (.bl false))] [],
    .asg (.tup [(.name 3), (.name 4)]) (.call 321 [(.var 1)])]
def enL (ns : List Int) (cell : Int) (t : Mo.Tab) (o : List Int) (x5 x6 x7 : Option D) : AEnv := [some (.scr ns), some (.ref 2), some (.int cell), some (tbD t), some (otD o), x5, x6, x7]
structure Dr (t : Mo.Tab) (o : List Int) : Prop where
  wf : Wf t o
  le : t.length ≤ 4
  z : nx t 0 0 = 0
  vs : ∃ vs : List Int, vs.length ≤ 3 ∧ ∀ v ∈ o, v ∈ vs
theorem turn_ok {ns : List Int} {cell : Int} {d : D} {x5 x6 x7 : Option D} (hA : O.undr 3 A = true) (hB : O.undr 3 B = true) (hc : cell.natAbs < 10 ^ 59) (H : Dr t o) : ∃ t' o' ds', Dr t' o' ∧ forF (call (tab ts) G (k + 8)) G (.name 5) turnB d (enL ns cell t o x5 x6 x7) (st A B ds []) = some (.next, enL ns cell t' o' (some d) x6 x7, st A B ds' []) := by
  obtain ⟨vs, h3, hv⟩ := H.vs
  obtain ⟨d1, e1⟩ := c_told (k := k + 1) (A := A) (B := B) (ds := ds) (cell := cell) hA hB H.wf H.le h3 hv hc
  obtain ⟨v, d2, hv2, e2⟩ := c_take (k := k + 7) (A := A) (B := B) (X := []) (ds := d1) (m := 4) (by omega)
  have e2 : call (tab ts) G (k + 8) 20 [.ref 2, .int 4] (st A B d1 []) = _ := e2
  obtain ⟨n, hn⟩ : ∃ n, n = 1 + v := ⟨_, rfl⟩
  have en : (1 : Int) + (v : Int) = (n : Int) := by omega
  obtain ⟨ts', os, d3, W', hl', hz', ⟨ws, hw3, hwv⟩, e3⟩ := c_lseq (k := k + 6) (A := A) (B := B) (ds := d2) (n := n) hA hB (by omega) (by omega)
  obtain ⟨d4, e4⟩ := c_back (k := k + 1) (A := A) (B := B) (ds := d3) hA hB W' (by omega) hw3 hwv hz'
  obtain ⟨t', o', d5, W5, h5, z5, vs5, e5⟩ := c_lsubst (k := k + 6) (A := A) (B := B) (ds := d4) hA hB
  refine ⟨t', o', d5, ⟨W5, h5, z5, vs5⟩, ?_⟩
  have b5 : Tg.bind (.name 5) d (enL ns cell t o x5 x6 x7) = some (enL ns cell t o (some d) x6 x7) := by simp [bind_name, enL]
  have b34 : Tg.bind (.tup [.name 3, .name 4]) (sqD t' o') (enL ns cell t o (some d) x6 x7) = some (enL ns cell t' o' (some d) x6 x7) := by simp [Tg.bind, Tg.binds, sqD, enL]
  have v1 : (enL ns cell t o (some d) x6 x7)[1]? = some (some (.ref 2)) := rfl
  have v2 : (enL ns cell t o (some d) x6 x7)[2]? = some (some (.int cell)) := rfl
  have v3 : (enL ns cell t o (some d) x6 x7)[3]? = some (some (tbD t)) := rfl
  have v4 : (enL ns cell t o (some d) x6 x7)[4]? = some (some (otD o)) := rfl
  unfold forF
  rw [b5]
  dsimp only
  unfold turnB
  simp only [ss_cons, s_ite, eT_bop, eBT_cons, eBT_nil, eT_not, eT_call, es_cons, es_nil, e_var, v1, v2, v3, v4, e1, Bool.not_true, isAnd, Bool.false_eq_true, if_true, e_call, e_bin, e_lit, e2, bin_int, dInt_add, Option.map_some, en, e3, e4, ss_nil, s_asg, e5, b34]
theorem c_law {ns : List Int} (hn : ns.length ≤ 63) : ∃ S', call (tab ts) G (k + 9) 36 [.scr ns] [] = some (.bl true, S') := by
  obtain ⟨A, B, ds, hA, hB, e1⟩ := c_draws (k := k + 7) (m := 110) hn (by omega)
  obtain ⟨cell, hc, e2⟩ := c_cell (k := k + 7) (ns := ns) (S := st A B ds [])
  have ok : ∀ ds, okS (st A B ds []) := fun ds => okS_st hA hB
  obtain ⟨t0, o0, d0, W0, h04, z0, vs0, e3⟩ := c_lsubst (k := k + 6) (A := A) (B := B) (ds := ds) hA hB
  obtain ⟨d1, e4⟩ := c_checked (k := k + 3) (A := A) (B := B) (ds := d0) (cell := cell) hA hB W0 z0
  obtain ⟨ρ', S', h1, t', o', d2, x5, H', hρ, hS'⟩ := evFor_inv (chk := fun _ => true) (body := forF (call (tab ts) G (k + 8)) G (.name 5) turnB)
    (fun i ρ S' => ∃ t o ds x5, Dr t o ∧ ρ = enL ns cell t o x5 none none ∧ S' = st A B ds [])
    (ds := natsD 2) (n := 0) (ρ := enL ns cell t0 o0 none none none) (S := st A B d1 []) (fun _ _ _ _ => rfl) ⟨t0, o0, d1, none, ⟨W0, h04, z0, vs0⟩, rfl, rfl⟩ (fun i hi ρ S' ⟨t, o, ds, x5, H, hρ, hS'⟩ => by
      subst hρ hS'
      obtain ⟨t', o', ds', H', e⟩ := turn_ok (k := k) (A := A) (B := B) (ds := ds) (ns := ns) (d := (natsD 2)[i]) (x5 := x5) (x6 := none) (x7 := none) hA hB hc H
      exact ⟨_, _, e, t', o', ds', _, H', rfl, rfl⟩)
  subst hρ hS'
  have okd := ok d2
  have wk : ∀ S : Store, walk true [.int 2] S = some (natsD 2) := fun S => walk_rg (S := S) (n := 2) (by decide)
  have z1 : 1 ≤ sizeLine := by decide
  have z2 : 2 ≤ sizeLine := by decide
  have z6 : 6 ≤ sizeLine := by decide
  have z8 : 8 ≤ sizeLine := by decide
  have e1 : call (tab ts) G (k + 8) 19 [.scr ns, .int 110] [] = _ := e1
  have e2 : call (tab ts) G (k + 8) 21 [.scr ns] (st A B ds []) = _ := e2
  have a1 : evS (call (tab ts) G (k + 8)) G (.asg (.name 1) (.call 19 [(.var 0), (.lit (.int 110))])) [some (.scr ns), none, none, none, none, none, none, none] [] = some (.next, [some (.scr ns), some (.ref 2), none, none, none, none, none, none], st A B ds []) := by
    simp only [s_asg, e_call, es_cons, es_nil, e_var, e_lit, List.getElem?_cons_zero, e1]
    simp [bind_name]
  have a2 : evS (call (tab ts) G (k + 8)) G (.asg (.name 2) (.call 21 [(.var 0)])) [some (.scr ns), some (.ref 2), none, none, none, none, none, none] (st A B ds []) = some (.next, [some (.scr ns), some (.ref 2), some (.int cell), none, none, none, none, none], st A B ds []) := by
    simp only [s_asg, e_call, es_cons, es_nil, e_var, List.getElem?_cons_zero, e2]
    simp [bind_name]
  have a3 : evS (call (tab ts) G (k + 8)) G (.asg (.tup [(.name 3), (.name 4)]) (.call 321 [(.var 1)])) [some (.scr ns), some (.ref 2), some (.int cell), none, none, none, none, none] (st A B ds []) = some (.next, enL ns cell t0 o0 none none none, st A B d0 []) := by
    simp only [s_asg, e_call, es_cons, es_nil, e_var, List.getElem?_cons_succ, List.getElem?_cons_zero, e3]
    simp [Tg.bind, Tg.binds, sqD, enL]
  have v1 : ∀ t o x y z, (enL ns cell t o x y z)[1]? = some (some (.ref 2)) := fun _ _ _ _ _ => rfl
  have v2 : ∀ t o x y z, (enL ns cell t o x y z)[2]? = some (some (.int cell)) := fun _ _ _ _ _ => rfl
  have v3 : ∀ t o x y z, (enL ns cell t o x y z)[3]? = some (some (tbD t)) := fun _ _ _ _ _ => rfl
  have v4 : ∀ t o x y z, (enL ns cell t o x y z)[4]? = some (some (otD o)) := fun _ _ _ _ _ => rfl
  have v6 : ∀ t o x y z, (enL ns cell t o x y z)[6]? = some y := fun _ _ _ _ _ => rfl
  have v7 : ∀ t o x y z, (enL ns cell t o x y z)[7]? = some z := fun _ _ _ _ _ => rfl
  have a4 : evS (call (tab ts) G (k + 8)) G (.ite (.un .Not (.call 325 [(.var 1), (.var 3), (.var 4), (.var 2)])) [.ret (.lit (.bl false))] []) (enL ns cell t0 o0 none none none) (st A B d0 []) = some (.next, enL ns cell t0 o0 none none none, st A B d1 []) := by
    simp only [s_ite, eT_not, eT_call, es_cons, es_nil, e_var, v1, v2, v3, v4, e4, Bool.not_true, ss_nil]
  have a5 : evS (call (tab ts) G (k + 8)) G (.for_ (.name 5) true [(.lit (.int 2))] turnB) (enL ns cell t0 o0 none none none) (st A B d1 []) = some (.next, enL ns cell t' o' x5 none none, st A B d2 []) := by
    simp only [s_for, es_cons, es_nil, e_lit, wk, stays_rg, h1]
  have a6 : evS (call (tab ts) G (k + 8)) G (.asg (.name 6) foldE) (enL ns cell t' o' x5 none none) (st A B d2 []) = some (.next, enL ns cell t' o' x5 (some (sqD foT foO)) none, st A B d2 []) := by
    simp only [s_asg, ev_fold]
    simp [bind_name, enL]
  have f1 := c_forow (k := k + 7) (S := st A B d2 []) okd
  obtain ⟨Q, f2, f3⟩ := c_foseq (k := k + 2) (S := st A B d2 []) okd
  have f4 : call (tab ts) G (k + 8) 22 [.tup (nD [0, 1, 2, 1, 0, 3, 2, 1]), .tup (nD [0, 1, 2, 1, 0, 3, 2, 1])] (st A B d2 []) = some (.bl true, st A B d2 []) := s_nD (k := k + 6) (by simp)
  have f5 : call (tab ts) G (k + 8) 22 [.tup (iD [0, 0, 1, 0, 0, 1]), .tup (iD [0, 0, 1, 0, 0, 1])] (st A B d2 []) = some (.bl true, st A B d2 []) := s_iD (k := k + 6) (by simp)
  have t1 : D.tup [.int 0, .int 1, .int 2, .int 1, .int 0, .int 3, .int 2, .int 1] = .tup (nD [0, 1, 2, 1, 0, 3, 2, 1]) := rfl
  have t2 : D.tup [.int 0, .int 0, .int 1, .int 0, .int 0, .int 1] = .tup (iD [0, 0, 1, 0, 0, 1]) := rfl
  have a7 : evS (call (tab ts) G (k + 8)) G (.ite (.bop .Or [(.un .Not (.call 22 [(.call 317 [(.ix (.var 6) (.lit (.int 0))), (.lit (.int 8))]), (.tup [(.lit (.int 0)), (.lit (.int 1)), (.lit (.int 2)), (.lit (.int 1)), (.lit (.int 0)), (.lit (.int 3)), (.lit (.int 2)), (.lit (.int 1))])])), (.un .Not (.call 22 [(.call 273 [(.call 319 [(.ix (.var 6) (.lit (.int 0))), (.ix (.var 6) (.lit (.int 1)))]), (.lit (.int 6))]), (.tup [(.lit (.int 0)), (.lit (.int 0)), (.lit (.int 1)), (.lit (.int 0)), (.lit (.int 0)), (.lit (.int 1))])]))]) [.ret (.lit (.bl false))] []) (enL ns cell t' o' x5 (some (sqD foT foO)) none) (st A B d2 []) = some (.next, enL ns cell t' o' x5 (some (sqD foT foO)) none, st A B d2 []) := by
    simp only [s_ite, eT_bop, eBT_cons, eBT_nil, eT_not, eT_call, es_cons, es_nil, e_call, e_ix, e_var, v6, e_lit, ix_sq0, ix_sq1, Option.map_some, f1, e_tup, List.length_cons, List.length_nil, Nat.zero_add, Nat.reduceAdd, z8, z6, if_true, t1, f4, Bool.not_true, isAnd, Bool.false_eq_true, f2, f3, t2, f5, ss_nil]
  have g1 := c_on (k := k + 2) (S := st A B d2 []) okd
  have g2 := s_sq (k := k + 4) (S := st A B d2 []) on_wf
  have a8 : evS (call (tab ts) G (k + 8)) G (.ite (.un .Not (.call 22 [(.call 320 [onE]), onE])) [.ret (.lit (.bl false))] []) (enL ns cell t' o' x5 (some (sqD foT foO)) none) (st A B d2 []) = some (.next, enL ns cell t' o' x5 (some (sqD foT foO)) none, st A B d2 []) := by
    simp only [s_ite, eT_not, eT_call, es_cons, es_nil, e_call, ev_on, g1, g2, Bool.not_true, ss_nil]
  have a9 : evS (call (tab ts) G (k + 8)) G (.asg (.name 7) poE) (enL ns cell t' o' x5 (some (sqD foT foO)) none) (st A B d2 []) = some (.next, enL ns cell t' o' x5 (some (sqD foT foO)) (some (sqD poT poO)), st A B d2 []) := by
    simp only [s_asg, ev_po]
    simp [bind_name, enL]
  have g3 := c_po (k := k + 2) (S := st A B d2 []) okd
  have g4 := s_sq (k := k + 4) (S := st A B d2 []) po_wf
  have a10 : evS (call (tab ts) G (k + 8)) G (.ite (.un .Not (.call 22 [(.call 320 [(.var 7)]), poE])) [.ret (.lit (.bl false))] []) (enL ns cell t' o' x5 (some (sqD foT foO)) (some (sqD poT poO))) (st A B d2 []) = some (.next, enL ns cell t' o' x5 (some (sqD foT foO)) (some (sqD poT poO)), st A B d2 []) := by
    simp only [s_ite, eT_not, eT_call, es_cons, es_nil, e_call, e_var, v7, ev_po, g3, g4, Bool.not_true, ss_nil]
  have r1 : call (tab ts) G (k + 8) 316 [.tup [.tup [.int 0, .int 0]], .tup [.int 5]] (st A B d2 []) = some (.non, st A B d2 []) := c_check (k := k + 5) (rs := [(0, 0)]) (o := [5]) (by simp) (by simp) (by decide)
  have r2 : call (tab ts) G (k + 8) 324 [.tup [.tup [.int 1, .int 0], .tup [.int 0, .int 0]], .tup [.int 1, .int 2]] (st A B d2 []) = some (.bl true, st A B d2 []) := c_refused (k := k + 4) (S := st A B d2 []) (rs := [(1, 0), (0, 0)]) (o := [1, 2]) (by simp) (by simp)
  have r3 : call (tab ts) G (k + 8) 324 [.tup [.tup [.int 0, .int 1]], .tup [.int 3]] (st A B d2 []) = some (.bl true, st A B d2 []) := c_refused (k := k + 4) (S := st A B d2 []) (rs := [(0, 1)]) (o := [3]) (by simp) (by simp)
  have isn : ∀ S : Store, dCmp S .Is .non .non = some true := fun S => rfl
  have a11 : evS (call (tab ts) G (k + 8)) G (.ret (.bop .And [(.cmp .Is (.call 316 [(.tup [(.tup [(.lit (.int 0)), (.lit (.int 0))])]), (.tup [(.lit (.int 5))])]) (.lit .non)), (.call 324 [(.tup [(.tup [(.lit (.int 1)), (.lit (.int 0))]), (.tup [(.lit (.int 0)), (.lit (.int 0))])]), (.tup [(.lit (.int 1)), (.lit (.int 2))])]), (.call 324 [(.tup [(.tup [(.lit (.int 0)), (.lit (.int 1))])]), (.tup [(.lit (.int 3))])])])) (enL ns cell t' o' x5 (some (sqD foT foO)) (some (sqD poT poO))) (st A B d2 []) = some (.ret (.bl true), enL ns cell t' o' x5 (some (sqD foT foO)) (some (sqD poT poO)), st A B d2 []) := by
    simp only [s_ret, e_bop, eB_cons, e_cmp, e_call, es_cons, es_nil, e_tup, e_lit, List.length_cons, List.length_nil, Nat.zero_add, Nat.reduceAdd, z1, z2, if_true, r1, isn, Option.map_some, List.isEmpty_cons, Bool.false_eq_true, if_false, isAnd, r2, r3, List.isEmpty_nil]
  refine ⟨(trunc 0 (.bl true) (st A B d2 [])).2, ?_⟩
  have tr : trunc 0 (.bl true) (st A B d2 []) = (.bl true, (trunc 0 (.bl true) (st A B d2 [])).2) := by
    unfold trunc
    split <;> rfl
  rw [call_of T36 rfl]
  unfold turnB at a5
  unfold foldE at a6
  unfold onE at a8
  unfold poE at a9 a10
  simp only [f_law, b_law]
  rw [show startA (["script", "draws", "cell", "rows", "outs", "turn", "folds", "powers"] : List Str).length [D.scr ns] = [some (.scr ns), none, none, none, none, none, none, none] from rfl]
  simp only [ss_cons, a1, a2, a3, a4, a5, a6, a7, a8, a9, a10, a11]
  exact congrArg some tr
def depth : Nat := 8
theorem math (ns : List Int) (hn : ns.length ≤ 63) : ∃ S', call (tab ts) (glT gls) (depth + 1) 36 [.scr ns] [] = some (.bl true, S') := c_law (k := 0) hn
end Code

namespace Code
open PySem PySem.Spec PyProof.Rows L2 Ab
abbrev ex : PySem.W.Frag → Bool := exfB "InvalidSequence" "NumberError" "InvalidForm" "InvalidMachine" "InvalidSentence"
theorem o_digits_of : t_digits_of.Ok gcdB gls ts := ⟨⟨rfl, rfl, rfl, by decide +kernel, rfl, by decide +kernel, by decide +kernel⟩, by kernel_rfl, fun _ _ _ _ _ _ us hl => match us, hl with | [_], _ => rfl⟩
theorem o_order_of_states : t_order_of_states.Ok gcdB gls ts := ⟨⟨rfl, rfl, rfl, by decide +kernel, rfl, by decide +kernel, by decide +kernel⟩, by kernel_rfl, fun _ _ _ _ _ _ us hl => match us, hl with | [_], _ => rfl⟩
theorem o_numbers_by : t_numbers_by.Ok gcdB gls ts := ⟨⟨rfl, rfl, rfl, by decide +kernel, rfl, by decide +kernel, by decide +kernel⟩, by kernel_rfl, fun _ _ _ _ _ _ us hl => match us, hl with | [_, _], _ => rfl⟩
theorem o_machine_in_order : t_machine_in_order.Ok gcdB gls ts := ⟨⟨rfl, rfl, rfl, by decide +kernel, rfl, by decide +kernel, by decide +kernel⟩, by kernel_rfl, fun _ _ _ _ _ _ us hl => match us, hl with | [_], _ => rfl⟩
theorem o_classes_by : t_classes_by.Ok gcdB gls ts := ⟨⟨rfl, rfl, rfl, by decide +kernel, rfl, by decide +kernel, by decide +kernel⟩, by kernel_rfl, fun _ _ _ _ _ _ us hl => match us, hl with | [_], _ => rfl⟩
theorem o_parted_classes : t_parted_classes.Ok gcdB gls ts := ⟨⟨rfl, rfl, rfl, by decide +kernel, rfl, by decide +kernel, by decide +kernel⟩, by kernel_rfl, fun _ _ _ _ _ _ us hl => match us, hl with | [_, _], _ => rfl⟩
theorem o_state_classes : t_state_classes.Ok gcdB gls ts := ⟨⟨rfl, rfl, rfl, by decide +kernel, rfl, by decide +kernel, by decide +kernel⟩, by kernel_rfl, fun _ _ _ _ _ _ us hl => match us, hl with | [_], _ => rfl⟩
theorem o_with_states_joined : t_with_states_joined.Ok gcdB gls ts := ⟨⟨rfl, rfl, rfl, by decide +kernel, rfl, by decide +kernel, by decide +kernel⟩, by kernel_rfl, fun _ _ _ _ _ _ us hl => match us, hl with | [_, _], _ => rfl⟩
theorem o_least_machine : t_least_machine.Ok gcdB gls ts := ⟨⟨rfl, rfl, rfl, by decide +kernel, rfl, by decide +kernel, by decide +kernel⟩, by kernel_rfl, fun _ _ _ _ _ _ us hl => match us, hl with | [_], _ => rfl⟩
theorem o_state_of_number : t_state_of_number.Ok gcdB gls ts := ⟨⟨rfl, rfl, rfl, by decide +kernel, rfl, by decide +kernel, by decide +kernel⟩, by kernel_rfl, fun _ _ _ _ _ _ us hl => match us, hl with | [_, _], _ => rfl⟩
theorem o_sequence_at : t_sequence_at.Ok gcdB gls ts := ⟨⟨rfl, rfl, rfl, by decide +kernel, rfl, by decide +kernel, by decide +kernel⟩, by kernel_rfl, fun _ _ _ _ _ _ us hl => match us, hl with | [_, _], _ => rfl⟩
theorem o_sequence_row : t_sequence_row.Ok gcdB gls ts := ⟨⟨rfl, rfl, rfl, by decide +kernel, rfl, by decide +kernel, by decide +kernel⟩, by kernel_rfl, fun _ _ _ _ _ _ us hl => match us, hl with | [_, _], _ => rfl⟩
theorem o_least_sequence : t_least_sequence.Ok gcdB gls ts := ⟨⟨rfl, rfl, rfl, by decide +kernel, rfl, by decide +kernel, by decide +kernel⟩, by kernel_rfl, fun _ _ _ _ _ _ us hl => match us, hl with | [_], _ => rfl⟩
theorem o_is_pair_of_letters : t_is_pair_of_letters.Ok gcdB gls ts := ⟨⟨rfl, rfl, rfl, by decide +kernel, rfl, by decide +kernel, by decide +kernel⟩, by kernel_rfl, fun _ _ _ _ _ _ us hl => match us, hl with | [_, _], _ => rfl⟩
theorem o_is_substitution : t_is_substitution.Ok gcdB gls ts := ⟨⟨rfl, rfl, rfl, by decide +kernel, rfl, by decide +kernel, by decide +kernel⟩, by kernel_rfl, fun _ _ _ _ _ _ us hl => match us, hl with | [_, _], _ => rfl⟩
theorem o_check_substitution : t_check_substitution.Ok gcdB gls ts := ⟨⟨rfl, rfl, rfl, by decide +kernel, rfl, by decide +kernel, by decide +kernel⟩, by kernel_rfl, fun _ _ _ _ _ _ us hl => match us, hl with | [_, _], _ => rfl⟩
theorem o_substituted_row : t_substituted_row.Ok gcdB gls ts := ⟨⟨rfl, rfl, rfl, by decide +kernel, rfl, by decide +kernel, by decide +kernel⟩, by kernel_rfl, fun _ _ _ _ _ _ us hl => match us, hl with | [_, _], _ => rfl⟩
theorem o_outs_and_rows : t_outs_and_rows.Ok gcdB gls ts := ⟨⟨rfl, rfl, rfl, by decide +kernel, rfl, by decide +kernel, by decide +kernel⟩, by kernel_rfl, fun _ _ _ _ _ _ us hl => match us, hl with | [_, _], _ => rfl⟩
theorem o_sequence_of_substitution : t_sequence_of_substitution.Ok gcdB gls ts := ⟨⟨rfl, rfl, rfl, by decide +kernel, rfl, by decide +kernel, by decide +kernel⟩, by kernel_rfl, fun _ _ _ _ _ _ us hl => match us, hl with | [_, _], _ => rfl⟩
theorem o_substitution_of : t_substitution_of.Ok gcdB gls ts := ⟨⟨rfl, rfl, rfl, by decide +kernel, rfl, by decide +kernel, by decide +kernel⟩, by kernel_rfl, fun _ _ _ _ _ _ us hl => match us, hl with | [_], _ => rfl⟩
theorem o__law_draws : t__law_draws.Ok gcdB gls ts := ⟨⟨rfl, rfl, rfl, by decide +kernel, rfl, by decide +kernel, by decide +kernel⟩, by kernel_rfl, fun _ _ _ _ _ _ us hl => match us, hl with | [_, _], _ => rfl⟩
theorem o__law_take : t__law_take.Ok gcdB gls ts := ⟨⟨rfl, rfl, rfl, by decide +kernel, rfl, by decide +kernel, by decide +kernel⟩, by kernel_rfl, fun _ _ _ _ _ _ us hl => match us, hl with | [_, _], _ => rfl⟩
theorem o__law_cell : t__law_cell.Ok gcdB gls ts := ⟨⟨rfl, rfl, rfl, by decide +kernel, rfl, by decide +kernel, by decide +kernel⟩, by kernel_rfl, fun _ _ _ _ _ _ us hl => match us, hl with | [_], _ => rfl⟩
theorem o__law_same : t__law_same.Ok gcdB gls ts := ⟨⟨rfl, rfl, rfl, by decide +kernel, rfl, by decide +kernel, by decide +kernel⟩, by kernel_rfl, fun _ _ _ _ _ _ us hl => match us, hl with | [_, _], _ => rfl⟩
theorem o__law_long : t__law_long.Ok gcdB gls ts := ⟨⟨rfl, rfl, rfl, by decide +kernel, rfl, by decide +kernel, by decide +kernel⟩, by kernel_rfl, fun _ _ _ _ _ _ us hl => match us, hl with | [_], _ => rfl⟩
theorem o__law_digits : t__law_digits.Ok gcdB gls ts := ⟨⟨rfl, rfl, rfl, by decide +kernel, rfl, by decide +kernel, by decide +kernel⟩, by kernel_rfl, fun _ _ _ _ _ _ us hl => match us, hl with | [_], _ => rfl⟩
theorem o__law_out : t__law_out.Ok gcdB gls ts := ⟨⟨rfl, rfl, rfl, by decide +kernel, rfl, by decide +kernel, by decide +kernel⟩, by kernel_rfl, fun _ _ _ _ _ _ us hl => match us, hl with | [_, _], _ => rfl⟩
theorem o__law_least : t__law_least.Ok gcdB gls ts := ⟨⟨rfl, rfl, rfl, by decide +kernel, rfl, by decide +kernel, by decide +kernel⟩, by kernel_rfl, fun _ _ _ _ _ _ us hl => match us, hl with | [_, _, _], _ => rfl⟩
theorem o__law_sequence : t__law_sequence.Ok gcdB gls ts := ⟨⟨rfl, rfl, rfl, by decide +kernel, rfl, by decide +kernel, by decide +kernel⟩, by kernel_rfl, fun _ _ _ _ _ _ us hl => match us, hl with | [_, _], _ => rfl⟩
theorem o__law_substitution : t__law_substitution.Ok gcdB gls ts := ⟨⟨rfl, rfl, rfl, by decide +kernel, rfl, by decide +kernel, by decide +kernel⟩, by kernel_rfl, fun _ _ _ _ _ _ us hl => match us, hl with | [_], _ => rfl⟩
theorem o__law_letter_at : t__law_letter_at.Ok gcdB gls ts := ⟨⟨rfl, rfl, rfl, by decide +kernel, rfl, by decide +kernel, by decide +kernel⟩, by kernel_rfl, fun _ _ _ _ _ _ us hl => match us, hl with | [_, _], _ => rfl⟩
theorem o__law_tuples : t__law_tuples.Ok gcdB gls ts := ⟨⟨rfl, rfl, rfl, by decide +kernel, rfl, by decide +kernel, by decide +kernel⟩, by kernel_rfl, fun _ _ _ _ _ _ us hl => match us, hl with | [_, _], _ => rfl⟩
theorem o__law_are_checked : t__law_are_checked.Ok gcdB gls ts := ⟨⟨rfl, rfl, rfl, by decide +kernel, rfl, by decide +kernel, by decide +kernel⟩, by kernel_rfl, fun _ _ _ _ _ _ us hl => match us, hl with | [_, _, _, _], _ => rfl⟩
theorem o__law_is_told : t__law_is_told.Ok gcdB gls ts := ⟨⟨rfl, rfl, rfl, by decide +kernel, rfl, by decide +kernel, by decide +kernel⟩, by kernel_rfl, fun _ _ _ _ _ _ us hl => match us, hl with | [_, _, _, _], _ => rfl⟩
theorem o__law_is_back : t__law_is_back.Ok gcdB gls ts := ⟨⟨rfl, rfl, rfl, by decide +kernel, rfl, by decide +kernel, by decide +kernel⟩, by kernel_rfl, fun _ _ _ _ _ _ us hl => match us, hl with | [_, _], _ => rfl⟩
theorem o_law : t_law.Ok gcdB gls ts := ⟨⟨rfl, rfl, rfl, by decide +kernel, rfl, by decide +kernel, by decide +kernel⟩, by kernel_rfl, fun _ _ _ _ _ _ us hl => match us, hl with | [_], _ => rfl⟩
set_option maxRecDepth 1000000 in
theorem sp__law_is_refused : t__law_is_refused.Sp gcdB gls ts ex := by
  intro P w K mg h base X G ce c fdat F k top low
  have E := exfB_ok X G ce
  have hm : t_check_substitution ∈ real ts := mem_real (by simp [ts, ts0, ts1]) (by decide +kernel)
  obtain ⟨fdF, FF⟩ := funD_of c hm
  exact try_ok (fd := f__law_is_refused) (f := 324) (fdP := f_q_check_substitution) (pid := 927) (i := 2) (c := c_q_check_substitution) (vars := [.var 0, .var 1]) (n := "e") (fn := "check_substitution") (fdatF := fdF) top low (by rfl) rfl (by rfl) rfl F ⟨rfl, rfl, rfl, by decide +kernel, rfl, by decide +kernel, by decide +kernel⟩
    (fun j tj => raiser_ok (fd := f_check_substitution) (c := c_q_check_substitution) tj FF o_check_substitution.sc (by kernel_rfl) (by kernel_rfl) (by kernel_rfl) E) (glo_of X G c hm) FF.kp (FF.bindsN o_check_substitution.bnd) E (by kernel_rfl) rfl (by kernel_rfl) ⟨by kernel_rfl, by kernel_rfl⟩ (by kernel_rfl) ⟨by kernel_rfl, by kernel_rfl, by kernel_rfl, by kernel_rfl, by kernel_rfl, by kernel_rfl⟩
theorem o__law_is_refused : t__law_is_refused.OkS gcdB gls ts ex := ⟨fun _ _ _ _ _ _ us hl => match us, hl with | [_, _], _ => rfl, ⟨rfl, rfl, rfl, by decide +kernel, rfl, by decide +kernel, by decide +kernel⟩, .inr sp__law_is_refused⟩
theorem ok0 : ∀ t ∈ ts0, t.fd.name ≠ ("" : Str) → t.OkS gcdB gls ts ex := by
  intro t h hn
  unfold ts0 at h
  rcases List.mem_cons.mp h with rfl | h
  · exact o_digits_of.s
  rcases List.mem_cons.mp h with rfl | h
  · exact o_order_of_states.s
  rcases List.mem_cons.mp h with rfl | h
  · exact o_numbers_by.s
  rcases List.mem_cons.mp h with rfl | h
  · exact o_machine_in_order.s
  rcases List.mem_cons.mp h with rfl | h
  · exact o_classes_by.s
  rcases List.mem_cons.mp h with rfl | h
  · exact o_parted_classes.s
  rcases List.mem_cons.mp h with rfl | h
  · exact o_state_classes.s
  rcases List.mem_cons.mp h with rfl | h
  · exact o_with_states_joined.s
  rcases List.mem_cons.mp h with rfl | h
  · exact o_least_machine.s
  rcases List.mem_cons.mp h with rfl | h
  · exact o_state_of_number.s
  rcases List.mem_cons.mp h with rfl | h
  · exact o_sequence_at.s
  rcases List.mem_cons.mp h with rfl | h
  · exact o_sequence_row.s
  rcases List.mem_cons.mp h with rfl | h
  · exact o_least_sequence.s
  rcases List.mem_cons.mp h with rfl | h
  · exact o_is_pair_of_letters.s
  rcases List.mem_cons.mp h with rfl | h
  · exact o_is_substitution.s
  rcases List.mem_cons.mp h with rfl | h
  · exact o_check_substitution.s
  rcases List.mem_cons.mp h with rfl | h
  · exact o_substituted_row.s
  rcases List.mem_cons.mp h with rfl | h
  · exact o_outs_and_rows.s
  rcases List.mem_cons.mp h with rfl | h
  · exact o_sequence_of_substitution.s
  rcases List.mem_cons.mp h with rfl | h
  · exact o_substitution_of.s
  rcases List.mem_cons.mp h with rfl | h
  · exact o__law_draws.s
  rcases List.mem_cons.mp h with rfl | h
  · exact o__law_take.s
  rcases List.mem_cons.mp h with rfl | h
  · exact o__law_cell.s
  rcases List.mem_cons.mp h with rfl | h
  · exact o__law_same.s
  rcases List.mem_cons.mp h with rfl | h
  · exact o__law_long.s
  rcases List.mem_cons.mp h with rfl | h
  · exact o__law_digits.s
  rcases List.mem_cons.mp h with rfl | h
  · exact o__law_out.s
  rcases List.mem_cons.mp h with rfl | h
  · exact o__law_least.s
  rcases List.mem_cons.mp h with rfl | h
  · exact o__law_sequence.s
  rcases List.mem_cons.mp h with rfl | h
  · exact o__law_substitution.s
  cases h
theorem ok1 : ∀ t ∈ ts1, t.fd.name ≠ ("" : Str) → t.OkS gcdB gls ts ex := by
  intro t h hn
  unfold ts1 at h
  rcases List.mem_cons.mp h with rfl | h
  · exact o__law_letter_at.s
  rcases List.mem_cons.mp h with rfl | h
  · exact o__law_tuples.s
  rcases List.mem_cons.mp h with rfl | h
  · exact o__law_is_refused
  rcases List.mem_cons.mp h with rfl | h
  · exact o__law_are_checked.s
  rcases List.mem_cons.mp h with rfl | h
  · exact o__law_is_told.s
  rcases List.mem_cons.mp h with rfl | h
  · exact o__law_is_back.s
  rcases List.mem_cons.mp h with rfl | h
  · exact o_law.s
  rcases List.mem_cons.mp h with rfl | h
  · exact absurd rfl hn
  cases h
theorem ok : ∀ t ∈ real ts, t.OkS gcdB gls ts ex := by
  intro t h
  obtain ⟨h, hn⟩ := List.mem_filter.mp h
  have hn : t.fd.name ≠ ("" : Str) := by simpa using hn
  unfold ts at h
  refine (List.mem_append.mp h).elim (fun h => ?_) (fun h => ok1 t h hn)
  exact ok0 t h hn
abbrev R : PySem.W.OpenRow := PySem.W.OpenLaw.row PySem.Challenge.rw_everynumber_k77_whole_doubling_substitut
abbrev hk : PySem.W.Hook := Ab.hookY 4 gcdB gls ts ex
def ob (s : PySem.W.SharedT) : Ab.AlX := Ab.obsYG 4 gcdB gls ts ex (HandSHeadRun.getT s)
theorem ob_eq (s : PySem.W.SharedT) : ob s = hk.obs s.abs := Ab.obsY_eq (HandSHeadRun.getT_eq s)
abbrev loose0 : List Str := [("NumberError" : Str), ("InvalidMachine" : Str), ("InvalidSentence" : Str), ("InvalidSequence" : Str), ("InvalidForm" : Str), ("digits_of" : Str), ("order_of_states" : Str), ("numbers_by" : Str), ("machine_in_order" : Str), ("classes_by" : Str), ("parted_classes" : Str), ("state_classes" : Str), ("with_states_joined" : Str), ("least_machine" : Str), ("state_of_number" : Str), ("sequence_at" : Str), ("sequence_row" : Str), ("least_sequence" : Str), ("is_pair_of_letters" : Str), ("is_substitution" : Str), ("check_substitution" : Str), ("substituted_row" : Str), ("outs_and_rows" : Str), ("sequence_of_substitution" : Str), ("substitution_of" : Str), ("_law_draws" : Str), ("_law_take" : Str), ("_law_cell" : Str), ("_law_same" : Str), ("_law_long" : Str), ("_law_digits" : Str), ("_law_out" : Str), ("_law_least" : Str), ("_law_sequence" : Str), ("_law_substitution" : Str), ("_law_letter_at" : Str), ("_law_tuples" : Str), ("_law_is_refused" : Str), ("_law_are_checked" : Str), ("_law_is_told" : Str)]
abbrev loose1 : List Str := [("_law_is_back" : Str)]
abbrev loose : List Str := loose0 ++ loose1
set_option maxRecDepth 1000000 in
theorem run (w : World) : HandSHeadRun.RunEq R (PySem.W.view R.prog [48]) hk ob 6000 loose w := by
  intro os
  kernel_rfl
end Code
open PySem PySem.W PySem.Calls PyProof.Rows
theorem PySem.Challenge.cw_everynumber_k77_whole_doubling_substitut_holds : PySem.Challenge.rw_everynumber_k77_whole_doubling_substitut.Holds := by
  w_on; o_law
  refine HandSHeadRun.head_any (r := OpenLaw.row PySem.Challenge.rw_everynumber_k77_whole_doubling_substitut) (q := view (OpenLaw.row PySem.Challenge.rw_everynumber_k77_whole_doubling_substitut).prog [48]) (H := Code.hk) (ob := Code.ob) (M := 6000) (loose := Code.loose) (d := HandSHeadRun.topDef (OpenLaw.row PySem.Challenge.rw_everynumber_k77_whole_doubling_substitut).prog 48) (kwd := []) Code.ob_eq
    (by kernel_rfl) (fun s => by kernel_rfl) Code.run (by kernel_rfl) (by kernel_rfl) (by kernel_rfl) (by rfl) (by first | assumption | decide +kernel) (by decide +kernel) ⟨rfl, rfl, rfl, rfl, rfl, by decide +kernel⟩ ?hw ?hc
  case hw => w_witness2
  case hc =>
    refine L2.walk_ofE (l := PySem.Challenge.rw_everynumber_k77_whole_doubling_substitut) (n := 63) (k := Code.depth + 1) (x := "script") (CX := L2.CX0) rfl (by decide) (by kernel_rfl) ⟨rfl, by decide, by decide⟩ ?F (fun _ _ _ _ z => z)
    intro w mg fa h Y G hmg0
    obtain ⟨K, KX, c⟩ := Y
    have hmg : mg ("law" : PySem.Str) = some (.ref fa) := by
      have e : (HandSHeadRun.topDef (OpenLaw.row PySem.Challenge.rw_everynumber_k77_whole_doubling_substitut).prog 48).name = ("law" : PySem.Str) := by kernel_rfl
      rw [← e]
      exact hmg0
    obtain ⟨fd, sp, hb, hp, hF⟩ := Ab.lawY_of (P := (PySem.Challenge.rw_everynumber_k77_whole_doubling_substitut).prog) (w := w) KX G c Code.ok Code.depth (t := Code.t_law) (by rfl) (by decide +kernel) Code.o_law.good rfl hmg Code.math
    exact ⟨K, fd, sp, KX, hb, hp, hF⟩

