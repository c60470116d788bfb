import PyProof.Rows.All
import Wide.All
import OpenK.AllK
import Wide.FinOn
import KE.KStateDown
import HandS.ForMost
import HandS.TupAny
import HandS.Exc
import HandS.WordsExc
import HandS.Defaults
import HandS.Deep
import HandS.Zip
import HandS.IsInst
import HandS.Wide
import HandS.TupLe
import HandS.Strs
import HandS.CallSlots
import HandS.ExcOwn
import HandS.TupLen
import HandS.HeadEnd
import HandS.HeadHook1
import HandS.HeadHook2
import HandS.Head1
import HandS.Head2
import HandS.Head0
import HandS.Style
import KE.DataFind
import HandS.Small
import HandS.Dict
import HandS.Conv
import KE.KDictPairs
import HandS.More
import KE.KDictZip
import KE.GoesMore
import PyProof.CollectWalk
import PyProof.TupleOfGen
import KE.GoesEnum
import HandS.Keys
import HandS.TupSets
import PyProof.StrOps2
import PyProof.StrWalks
import PyProof.StrLoop
import KE.KUnpack
import HandS.Base
import HandS.Call
import HandS.Ends
import HandS.Words
import PySem.Challenge.RW_mostrows_k36_most_by_covers
set_option Elab.async false
set_option linter.all false
set_option maxRecDepth 100000
set_option maxHeartbeats 0
/-! Dz 0: tuples whose very object is known (it has no dict of its own): their methods may be called. -/
namespace Dz
open PySem PySem.Spec PyProof.Rows L2 HT
def TupZ (H : Hp) (a : Addr) (vs : List V) : Prop := ∃ o : Obj, H a = some (.frz o (.tup vs)) ∧ o.dict = none
theorem TupZ.sq {K : PySem.W.Frag} {H : Hp} {a : Addr} {vs : List V} (h : TupZ H a vs) : SqT K H a vs := by
  obtain ⟨o, e, _⟩ := h
  exact .inl (.inr ⟨o, e⟩)
theorem TupZ.trk {H : Hp} {a : Addr} {vs : List V} (h : TupZ H a vs) : H a ≠ none := by
  obtain ⟨o, e, _⟩ := h
  rw [e]
  simp
/-- what a new tuple brings -/
abbrev NewT (H : Hp) (vs : List V) (Q : VK) : Prop := ∀ (p : Addr) (o : Obj), H p = none → o.dict = none → Q (.ref p) (upd H p (.frz o (.tup vs)))
section
variable {X : Cx} {pins : List (Addr × Obj)} {σ : L2.St} {H : Hp} {s : Shared}
theorem laidT {h' : Heap} {vs : List V} {its : List Value} (I : Inv X pins σ H { s with heap := h' }) (r : Vals vs its) (hz : vs.length ≤ sizeLine) :
    Inv X pins σ (upd H h'.objs.size (.frz { cls := .type "tuple", data := .seq its.toArray } (.tup vs))) { s with heap := h'.push { cls := .type "tuple", data := .seq its.toArray } } :=
  I.laid (t' := s.toks) (fun b o e => Heap.get?_push_of_some _ e) (Nat.le_refl _) ⟨Heap.get?_push_size _ rfl, hz, its, r, IsTup.new _ _⟩
variable {es : List Expr} {t : TA} {pos : Pos}
def tTupZ (t : TA) : TE := fun σ H Q => t σ H fun xs H1 => xs.length ≤ sizeLine ∧ NewT H1 xs Q
theorem pe_tupZ {x1} (h : PA X es t) : PE X (.Tuple es x1 pos) (tTupZ t) := by
  refine ⟨fun pins s σ H Q I hq => ?_⟩
  refine wpAny_Tuple_spliced (thn (h.run pos pins s σ H _ I hq) fun us s1 ⟨xs, H1, I1, r, z, q⟩ => ⟨by rw [← r.length]; exact z, ?_⟩)
  exact ⟨.ref s1.heap.objs.size, _, laidT I1 r z, rfl, q _ _ (I1.hok.fresh (Nat.le_refl _)) rfl⟩
/-- tuple(x): of a list a new one; a tuple is itself -/
theorem call_tupleZ : CallR X (.type "tuple") (fun xs H Q => ∃ p ys, xs = [.ref p] ∧ ((SqL X.K H p ys ∧ NewT H ys Q) ∨ (SqT X.K H p ys ∧ Q (.ref p) H))) := by
  intro pins s σ H xs us Q I r h
  obtain ⟨p, ys, rfl, h⟩ := h
  obtain ⟨u, rfl, rx⟩ := vals1 r
  cases rx
  rcases h with ⟨hq, q⟩ | ⟨hq, q⟩
  · obtain ⟨its, r', pl, hz⟩ := I.list hq
    refine call_tuple_list pl.isList (fun h' kp => ?_) (by simp only [List.size_toArray]; have := r'.length; omega)
    have I1 : Inv X pins σ H { s with heap := h' } := I.kept (t' := s.toks) kp
    exact ⟨.ref h'.objs.size, _, laidT I1 r' hz, rfl, q _ _ (I1.hok.fresh (Nat.le_refl _)) rfl⟩
  · obtain ⟨its, r', pl, hz⟩ := I.tuple hq
    exact call_tuple_same pl ⟨.ref p, H, I, rfl, q⟩
theorem vnil {xs : List V} {us : List Value} (r : Vals xs us) : us = [] ↔ xs = [] := by
  cases r with
  | nil => simp
  | cons _ _ => simp
/-- t + u -/
def rCatZ (K : PySem.W.Frag) : R2 := fun x y H Q => ∃ a b xs ys, x = .ref a ∧ y = .ref b ∧ SqT K H a xs ∧ SqT K H b ys ∧ xs.length + ys.length ≤ sizeLine ∧
  (xs = [] → Q (.ref b) H) ∧ (xs ≠ [] → ys = [] → Q (.ref a) H) ∧ (xs ≠ [] → ys ≠ [] → NewT H (xs ++ ys) Q)
theorem op_catZ : OpR X (binaryOp .Add) (rCatZ X.K) := by
  intro pins s σ H x y v u Q I rx ry h
  obtain ⟨a, b, xs, ys, rfl, rfl, ha, hb, hz, q0, q1, q2⟩ := h
  cases rx
  cases ry
  obtain ⟨its, r1, p1, _⟩ := I.tuple ha
  obtain ⟨its2, r2, p2, _⟩ := I.tuple hb
  by_cases hx : xs = []
  · subst hx
    cases r1
    exact cat_tup0 p1 p2 ⟨.ref b, H, I, rfl, q0 rfl⟩
  · refine HT.cat_tup p1 p2 (fun z => hx ((vnil r1).mp z)) (fun z => ⟨.ref a, H, I, rfl, q1 hx ((vnil r2).mp z)⟩) (fun z => ?_) (by rw [← r1.length, ← r2.length]; exact hz)
    exact ⟨.ref s.heap.objs.size, _, laidT I (r1.append r2) (by rw [List.length_append]; exact hz), rfl, q2 hx (fun w => z ((vnil r2).mpr w)) _ _ (I.hok.fresh (Nat.le_refl _)) rfl⟩
/-- t[lo:hi]: the whole of it is t itself -/
def rSlZ (K : PySem.W.Frag) : V → Option Int → Option Int → Hp → VK → Prop := fun x lo hi H Q => ∃ a xs, x = .ref a ∧ SqT K H a xs ∧
  (HT.sIx xs.length 0 lo = 0 ∧ HT.sIx xs.length xs.length hi = xs.length → Q (.ref a) H) ∧ (¬ (HT.sIx xs.length 0 lo = 0 ∧ HT.sIx xs.length xs.length hi = xs.length) → NewT H (cutV xs lo hi) Q)
theorem cut_vals {xs : List V} {us : List Value} (r : Vals xs us) (i k : Nat) : Vals ((xs.drop i).take k) ((us.drop i).take k) := (r.drop i).take k
theorem sl_tupZ : SlR X (rSlZ X.K) := by
  intro pins s σ H x v vl vu lo hi sl Q I rx hs pl pu h
  obtain ⟨a, xs, rfl, hx, q1, q2⟩ := h
  cases rx
  obtain ⟨its, r, ht, hz⟩ := I.tuple hx
  have hlen : its.toArray.size = xs.length := by rw [List.size_toArray]; exact r.length.symm
  refine ⟨"tuple", _, PyProof.Rows.slot_tuple_getitem.lookup, ht.typeIs, ?_⟩
  by_cases hw : HT.sIx xs.length 0 lo = 0 ∧ HT.sIx xs.length xs.length hi = xs.length
  · exact getItem_tuple_whole ht hs pl pu (by rw [hlen]; exact hw) ⟨.ref a, H, I, rfl, q1 hw⟩
  · refine HT.getItem_tuple_cut ht hs pl pu (by rw [hlen]; exact hw) ?_ (by rw [hlen]; exact hz)
    have e : (its.toArray.toList.drop (HT.sIx its.toArray.size 0 lo)).take (HT.sIx its.toArray.size its.toArray.size hi - HT.sIx its.toArray.size 0 lo) = (its.drop (HT.sIx xs.length 0 lo)).take (HT.sIx xs.length xs.length hi - HT.sIx xs.length 0 lo) := by rw [hlen]
    rw [e]
    exact ⟨.ref s.heap.objs.size, _, laidT I (cut_vals r _ _) (Nat.le_trans (cutV_length xs lo hi) hz), rfl, q2 hw _ _ (I.hok.fresh (Nat.le_refl _)) rfl⟩
end
section
variable {X : Cx} {o e : Expr} {es : List Expr} {to : TE} {t : TA} {name : Str} {apos cpos : Pos} {id : String} {r : V → List V → Hp → VK → Prop}
/-- a method of a tuple -/
def tTM (r : V → List V → Hp → VK → Prop) (to : TE) (t : TA) : TE := fun σ H Q => to σ H fun x H1 => (∃ a vs, x = .ref a ∧ TupZ H1 a vs) ∧ t σ H1 fun xs H2 => r x xs H2 Q
theorem tupZ_is {pins : List (Addr × Obj)} {σ : L2.St} {H : Hp} {s : Shared} (I : Inv X pins σ H s) {a : Addr} {vs : List V} (h : TupZ H a vs) : s.TypeIs (.ref a) "tuple" ∧ ∀ b, Value.ref a = .ref b → ∃ ob, s.heap.get? b = some ob ∧ ob.dict = none := by
  obtain ⟨o, e, d⟩ := h
  obtain ⟨e1, _, its, r, ob, e2, c, _⟩ := I.hok a _ e
  rw [e1] at e2
  cases e2
  exact ⟨⟨o, e1, c⟩, fun b q => by cases q; exact ⟨o, e1, d⟩⟩
theorem pe_tm (slot : Slot "tuple" name id) (hty : typeOf (.builtin id) = pure (.type "method_descriptor")) (hm : MtR X id r) (ho : PE X o to) (ha : PA X (e :: es) t)
    (hbase : attributeBase o name X.env (eval o X.env) = eval o X.env := by rfl)
    (hfew : ((backTo cpos (starEach (e :: es) X.env)).all (fun x => !x.1) && (backToKw cpos (keywordEach [] X.env)).all (fun x => x.1.isSome)
      && decide ((e :: es).length + ([] : List Keyword).length + (if ([] : List Keyword).isEmpty then 0 else 1) < 30)) = true := by rfl)
    (hline : (apos.endLine == cpos.line) = true := by rfl) (hs : starEach (e :: es) X.env = (false, eval e X.env) :: starEach es X.env := by rfl) (hplain : (backTo cpos (starEach es X.env)).any (·.1) = false := by rfl) :
    PE X (.Call (.Attribute o name apos) (e :: es) [] cpos) (tTM r to t) := by
  refine ⟨fun pins s σ H Q I h => ?_⟩
  refine wpAny_Call_method_late hbase hfew hline rfl (thn (ho.run pins s σ H _ I h) fun v s1 ⟨x, H1, I1, r1, ⟨a, vs, ex, z⟩, q1⟩ => ?_)
  subst ex
  cases r1
  obtain ⟨h1, h2⟩ := tupZ_is I1 z
  refine ⟨"tuple", id, PySem.F.plainAttrs_tuple, slot, hty, h1, h2, ?_⟩
  have hA := ha.run cpos pins s1 σ H1 _ I1 q1
  rw [hs] at hA ⊢
  refine Calls.callWith_builtin (by show (false || (backTo cpos (starEach es X.env)).any (·.1)) = false; rw [hplain] <;> rfl) (Calls.evalArgs_plain ?_)
  exact thn hA fun us s2 ⟨ws, H2, I2, r2, q2⟩ => hm pins s2 σ H2 (V.ref a) ws (Value.ref a) us Q I2 rfl r2 q2
end
end Dz
/-! Dz 1: data trees, what stands for them in the abstract heap, environments, readings on data. -/
namespace Dz
open PySem PySem.Spec PyProof.Rows L2

/-- data: what a program's value is, as a tree -/
inductive D where
  | non | bl (b : Bool) | int (i : Int) | str (s : Str)
  | tup (xs : List D) | lst (xs : List D)
  | dK (ks : List Key) (vs : List D) | dT (ks : List (List Key)) (vs : List D)
  | scr (ns : List Int) | tpl (xs : List D)
  | cell (n : Nat) | obj (c : Str) (ks : List Str) (vs : List D)
instance : Inhabited D := ⟨.non⟩

/-- a set of addresses; where the cells are; the classes by name -/
structure AP (mg : Str → Option Value) where
  p : Addr → Prop
  t : Nat → Option Addr
  h : Bool
instance {mg : Str → Option Value} : CoeFun (AP mg) fun _ => Addr → Prop := ⟨AP.p⟩
/-- either -/
def Eo (N M : AP mg) : AP mg := ⟨fun a => N a ∨ M a, N.t, N.h⟩
/-- one more -/
def Pl (N : AP mg) (b : Addr) : AP mg := ⟨fun a => N a ∨ a = b, N.t, N.h⟩
/-- the one within the other; its cells are known -/
structure Ls (N' N : AP mg) : Prop where
  sub : ∀ a, N' a → N a
  tab : N'.t = N.t
  cl : N'.h = N.h
instance {mg : Str → Option Value} {N' N : AP mg} : CoeFun (Ls N' N) fun _ => ∀ a, N' a → N a := ⟨Ls.sub⟩
theorem Ls.rfl' {N : AP mg} : Ls N N := ⟨fun _ z => z, rfl, rfl⟩
theorem Ls.trans {N N' N'' : AP mg} (p : Ls N'' N') (q : Ls N' N) : Ls N'' N := ⟨fun a z => q a (p a z), p.tab.trans q.tab, p.cl.trans q.cl⟩
structure Lf (N' N : AP mg) (H : Hp) : Prop where
  sub : ∀ a, N' a → N a ∨ H a = none
  tab : ∀ n a, N.t n = some a → N'.t n = some a
instance {mg : Str → Option Value} {N' N : AP mg} {H : Hp} : CoeFun (Lf N' N H) fun _ => ∀ a, N' a → N a ∨ H a = none := ⟨Lf.sub⟩
theorem Ls.f {N N' : AP mg} (h : Ls N' N) {H : Hp} : Lf N' N H := ⟨fun a z => .inl (h a z), fun n a e => by rw [h.tab]; exact e⟩

mutual
/-- v stands for d; none of the objects at N is part of it -/
def Rep (N : AP mg) (H : Hp) : D → V → Prop
  | .non, v => v = .non
  | .bl b, v => v = .bl b
  | .int i, v => v = .int i
  | .str s, v => v = .str s
  | .scr ns, v => ∃ a, v = .ref a ∧ Rd H a (.lst (ns.map V.int)) ∧ ¬ N a
  | .tup ds, v => ∃ a vs, v = .ref a ∧ TupZ H a vs ∧ ¬ N a ∧ Reps N H ds vs
  | .tpl ds, v => ∃ a vs, v = .ref a ∧ H a = some (.tup vs) ∧ ¬ N a ∧ Reps N H ds vs
  | .lst ds, v => ∃ a vs, v = .ref a ∧ H a = some (.lst vs) ∧ ¬ N a ∧ Reps N H ds vs
  | .dK ks ds, v => ∃ a kvs, v = .ref a ∧ H a = some (.dK kvs) ∧ ¬ N a ∧ kvs.map (·.1) = ks ∧ Reps N H ds (kvs.map (·.2))
  | .dT ks ds, v => ∃ a kvs, v = .ref a ∧ H a = some (.dT kvs) ∧ ¬ N a ∧ kvs.map (·.1) = ks ∧ Reps N H ds (kvs.map (·.2))
  | .cell n, v => ∃ a, N.t n = some a ∧ v = .ref a
  | .obj _ _ _, _ => False
def Reps (N : AP mg) (H : Hp) : List D → List V → Prop
  | [], vs => vs = []
  | d :: ds, vs => ∃ v r, vs = v :: r ∧ Rep N H d v ∧ Reps N H ds r
end

theorem rd_keep {N : AP mg} {H H' : Hp} {a : Addr} {u : HO} (hk : ∀ a o, H a = some o → ¬ N a → H' a = some o) (h : Rd H a u) (n : ¬ N a) : Rd H' a u := by
  rcases h with h | ⟨o, h⟩
  · exact .inl (hk a _ h n)
  · exact .inr ⟨o, hk a _ h n⟩
theorem TupZ.keep {N : AP mg} {H H' : Hp} {a : Addr} {vs : List V} (hk : ∀ a o, H a = some o → ¬ N a → H' a = some o) (h : TupZ H a vs) (n : ¬ N a) : TupZ H' a vs := by
  obtain ⟨o, e, d⟩ := h
  exact ⟨o, hk a _ e n, d⟩
theorem rd_trk {H : Hp} {a : Addr} {u : HO} (h : Rd H a u) : H a ≠ none := by
  rcases h with h | ⟨o, h⟩ <;> rw [h] <;> simp
theorem nn {N N' : AP mg} {H : Hp} {a : Addr} (hN : Lf N' N H) (n : ¬ N a) (t : H a ≠ none) : ¬ N' a := fun z => by
  rcases hN a z with q | q
  · exact n q
  · exact t q

mutual
theorem Rep.mono {N N' : AP mg} {H H' : Hp} (hN : Lf N' N H) (hk : ∀ a o, H a = some o → ¬ N a → H' a = some o) : ∀ (d : D) (v : V), Rep N H d v → Rep N' H' d v
  | .non, _, h => h
  | .bl _, _, h => h
  | .int _, _, h => h
  | .str _, _, h => h
  | .scr _, v, h => by
    obtain ⟨a, e, r, n⟩ := h
    exact ⟨a, e, rd_keep hk r n, nn hN n (rd_trk r)⟩
  | .tup ds, v, h => by
    obtain ⟨a, vs, e, r, n, q⟩ := h
    exact ⟨a, vs, e, r.keep hk n, nn hN n r.trk, Reps.mono hN hk ds vs q⟩
  | .tpl ds, v, h => by
    obtain ⟨a, vs, e, r, n, q⟩ := h
    exact ⟨a, vs, e, hk _ _ r n, nn hN n (by rw [r]; simp), Reps.mono hN hk ds vs q⟩
  | .lst ds, v, h => by
    obtain ⟨a, vs, e, r, n, q⟩ := h
    exact ⟨a, vs, e, hk _ _ r n, nn hN n (by rw [r]; simp), Reps.mono hN hk ds vs q⟩
  | .dK ks ds, v, h => by
    obtain ⟨a, kvs, e, r, n, z, q⟩ := h
    exact ⟨a, kvs, e, hk _ _ r n, nn hN n (by rw [r]; simp), z, Reps.mono hN hk ds _ q⟩
  | .dT ks ds, v, h => by
    obtain ⟨a, kvs, e, r, n, z, q⟩ := h
    exact ⟨a, kvs, e, hk _ _ r n, nn hN n (by rw [r]; simp), z, Reps.mono hN hk ds _ q⟩
  | .cell n, v, h => by
    obtain ⟨a, e, q⟩ := h
    exact ⟨a, hN.tab n a e, q⟩
  | .obj _ _ _, _, h => h.elim
theorem Reps.mono {N N' : AP mg} {H H' : Hp} (hN : Lf N' N H) (hk : ∀ a o, H a = some o → ¬ N a → H' a = some o) : ∀ (ds : List D) (vs : List V), Reps N H ds vs → Reps N' H' ds vs
  | [], _, h => h
  | d :: ds, vs, h => by
    obtain ⟨v, r, e, p, q⟩ := h
    exact ⟨v, r, e, Rep.mono hN hk d v p, Reps.mono hN hk ds r q⟩
end
theorem Rep.less {N N' : AP mg} {H : Hp} {d : D} {v : V} (h : Rep N H d v) (hN : Ls N' N) : Rep N' H d v := Rep.mono hN.f (fun _ _ e _ => e) d v h
theorem Reps.less {N N' : AP mg} {H : Hp} {ds : List D} {vs : List V} (h : Reps N H ds vs) (hN : Ls N' N) : Reps N' H ds vs := Reps.mono hN.f (fun _ _ e _ => e) ds vs h
theorem Reps.length {N : AP mg} {H : Hp} : ∀ {ds : List D} {vs : List V}, Reps N H ds vs → vs.length = ds.length
  | [], _, h => by rw [show _ = [] from h]; rfl
  | d :: ds, _, ⟨v, r, e, _, q⟩ => by rw [e, List.length_cons, List.length_cons, Reps.length q]
theorem Reps.get {N : AP mg} {H : Hp} : ∀ {ds : List D} {vs : List V} {i : Nat} {d : D}, Reps N H ds vs → ds[i]? = some d → ∃ v, vs[i]? = some v ∧ Rep N H d v
  | [], _, _, _, _, e => by simp at e
  | d :: ds, _, 0, d', ⟨v, r, e1, p, q⟩, e => by
    simp at e
    subst e
    exact ⟨v, by simp [e1], p⟩
  | d :: ds, _, i + 1, d', ⟨v, r, e1, p, q⟩, e => by
    obtain ⟨u, h1, h2⟩ := Reps.get (i := i) q (by simpa using e)
    exact ⟨u, by simp [e1, h1], h2⟩
theorem Reps.getv {N : AP mg} {H : Hp} : ∀ {ds : List D} {vs : List V} {i : Nat} {v : V}, Reps N H ds vs → vs[i]? = some v → ∃ d, ds[i]? = some d ∧ Rep N H d v
  | [], _, _, _, h, e => by rw [show _ = [] from h] at e; simp at e
  | d :: ds, _, 0, v', ⟨v, r, e1, p, q⟩, e => by
    subst e1
    simp at e
    subst e
    exact ⟨d, by simp, p⟩
  | d :: ds, _, i + 1, d', ⟨v, r, e1, p, q⟩, e => by
    subst e1
    obtain ⟨u, h1, h2⟩ := Reps.getv (i := i) q (by simpa using e)
    exact ⟨u, by simp [h1], h2⟩
theorem Reps.append {N : AP mg} {H : Hp} : ∀ {ds es : List D} {vs ws : List V}, Reps N H ds vs → Reps N H es ws → Reps N H (ds ++ es) (vs ++ ws)
  | [], _, _, _, h, k => by rw [show _ = [] from h]; exact k
  | d :: ds, es, _, ws, ⟨v, r, e1, p, q⟩, k => by
    subst e1
    exact ⟨v, r ++ ws, rfl, p, Reps.append q k⟩
theorem Reps.one {N : AP mg} {H : Hp} {d : D} {v : V} (h : Rep N H d v) : Reps N H [d] [v] := ⟨v, [], rfl, h, rfl⟩
theorem Reps.set {N : AP mg} {H : Hp} {d : D} {v : V} (h : Rep N H d v) : ∀ {ds : List D} {vs : List V} (i : Nat), Reps N H ds vs → Reps N H (ds.set i d) (vs.set i v)
  | [], _, _, k => by rw [show _ = [] from k]; exact rfl
  | _ :: ds, _, 0, ⟨w, r, e1, p, q⟩ => by subst e1; exact ⟨v, r, rfl, h, q⟩
  | _ :: ds, _, i + 1, ⟨w, r, e1, p, q⟩ => by subst e1; exact ⟨w, _, rfl, p, Reps.set h i q⟩
theorem Reps.take {N : AP mg} {H : Hp} : ∀ {ds : List D} {vs : List V} (i : Nat), Reps N H ds vs → Reps N H (ds.take i) (vs.take i)
  | _, _, 0, _ => by simp [Reps]
  | [], _, _, k => by rw [show _ = [] from k]; simp [Reps]
  | _ :: ds, _, i + 1, ⟨w, r, e1, p, q⟩ => by subst e1; exact ⟨w, _, rfl, p, Reps.take i q⟩
theorem Reps.drop {N : AP mg} {H : Hp} : ∀ {ds : List D} {vs : List V} (i : Nat), Reps N H ds vs → Reps N H (ds.drop i) (vs.drop i)
  | _, _, 0, k => by simpa using k
  | [], _, _, k => by rw [show _ = [] from k]; simp [Reps]
  | _ :: ds, _, i + 1, ⟨w, r, e1, p, q⟩ => by subst e1; exact Reps.drop i q

/-- the object at a holds d (its own top apart) -/
def Top (N : AP mg) (H : Hp) (a : Addr) : D → Prop
  | .lst ds => ∃ vs, H a = some (.lst vs) ∧ Reps N H ds vs
  | .dK ks ds => ∃ kvs, H a = some (.dK kvs) ∧ kvs.map (·.1) = ks ∧ Reps N H ds (kvs.map (·.2))
  | .dT ks ds => ∃ kvs, H a = some (.dT kvs) ∧ kvs.map (·.1) = ks ∧ Reps N H ds (kvs.map (·.2))
  | _ => False
abbrev TopR {mg : Str → Option Value} := @Top mg
theorem Top.r {N : AP mg} {H : Hp} {a : Addr} {d : D} (h : Top N H a d) : TopR N H a d := h
theorem Top.trk {N : AP mg} {H : Hp} {a : Addr} {d : D} (h : TopR N H a d) : H a ≠ none := by
  cases d <;> first
    | exact h.elim
    | (obtain ⟨x, e, q⟩ := h; rw [e]; simp)
theorem Top.mono {N N' : AP mg} {M : Addr → Prop} {H H' : Hp} {a : Addr} {d : D} (hN : Lf N' N H) (hk : ∀ a o, H a = some o → ¬ M a → H' a = some o) (hM : ∀ b, M b → N b) (n : ¬ M a) (h : Top N H a d) : Top N' H' a d := by
  have hk' : ∀ a o, H a = some o → ¬ N a → H' a = some o := fun b o e z => hk b o e fun m => z (hM b m)
  cases d <;> first
    | exact h.elim
    | (obtain ⟨x, e, q⟩ := h; exact ⟨x, hk _ _ e n, Reps.mono hN hk' _ _ q⟩)
    | (obtain ⟨x, e, z, q⟩ := h; exact ⟨x, hk _ _ e n, z, Reps.mono hN hk' _ _ q⟩)
theorem Top.less {N N' : AP mg} {H : Hp} {a : Addr} {d : D} (hN : Ls N' N) (h : Top N H a d) : Top N' H a d :=
  Top.mono (M := fun _ => False) hN.f (fun _ _ e _ => e) (fun _ z => z.elim) (fun z => z) h
theorem Top.rep {N : AP mg} {H : Hp} {a : Addr} {d : D} (h : TopR N H a d) (n : ¬ N a) : Rep N H d (.ref a) := by
  cases d <;> first
    | exact h.elim
    | (obtain ⟨x, e, q⟩ := h; exact ⟨a, x, rfl, e, n, q⟩)
/-- an instance's fields -/
def ObjAt (N : AP mg) (H : Hp) (a : Addr) (d : D) : Prop := ∃ c ks ds C dx fs, d = .obj c ks ds ∧ mg c = some (.ref C) ∧ H a = some (.ins C dx fs) ∧ H dx = some (.own a) ∧ ¬ N dx ∧ fs.map (·.1) = ks ∧ Reps N H ds (fs.map (·.2))
/-- the cell at a holds d -/
def CTop (N : AP mg) (H : Hp) (a : Addr) (d : D) : Prop := Top N H a d ∨ ObjAt N H a d
theorem CTop.trk {N : AP mg} {H : Hp} {a : Addr} {d : D} (h : CTop N H a d) : H a ≠ none := by
  rcases h with h | ⟨c, ks, ds, C, dx, fs, _, _, e, _⟩
  · exact Top.trk h
  · rw [e]; simp
theorem CTop.mono {N N' : AP mg} {M : Addr → Prop} {H H' : Hp} {a : Addr} {d : D} (hN : Lf N' N H) (hk : ∀ a o, H a = some o → ¬ M a → H' a = some o) (hM : ∀ b, M b → N b) (n : ¬ M a) (h : CTop N H a d) : CTop N' H' a d := by
  have hk' : ∀ a o, H a = some o → ¬ N a → H' a = some o := fun b o e z => hk b o e fun m => z (hM b m)
  rcases h with h | ⟨c, ks, ds, C, dx, fs, e0, ec, e, ed, nd, ek, q⟩
  · exact .inl (Top.mono hN hk hM n h)
  · exact .inr ⟨c, ks, ds, C, dx, fs, e0, ec, hk _ _ e n, hk' _ _ ed nd, fun z => (hN dx z).elim nd fun k => (by rw [ed] at k; cases k), ek, Reps.mono hN hk' _ _ q⟩
theorem CTop.less {N N' : AP mg} {H : Hp} {a : Addr} {d : D} (hN : Ls N' N) (h : CTop N H a d) : CTop N' H a d :=
  CTop.mono (M := fun _ => False) hN.f (fun _ _ e _ => e) (fun _ z => z.elim) (fun z => z) h
/-- a value that is at hand: it stands for d, or its top is a known object's -/
def PRep (N : AP mg) (H : Hp) (d : D) (v : V) : Prop := Rep N H d v ∨ ∃ a, v = .ref a ∧ TopR N H a d
def PReps (N : AP mg) (H : Hp) : List D → List V → Prop
  | [], vs => vs = []
  | d :: ds, vs => ∃ v r, vs = v :: r ∧ PRep N H d v ∧ PReps N H ds r
theorem PRep.less {N N' : AP mg} {H : Hp} {d : D} {v : V} (h : PRep N H d v) (hN : Ls N' N) : PRep N' H d v := by
  rcases h with h | ⟨a, e, h⟩
  · exact .inl (h.less hN)
  · exact .inr ⟨a, e, h.less hN⟩
theorem PReps.less {N N' : AP mg} {H : Hp} (hN : Ls N' N) : ∀ {ds : List D} {vs : List V}, PReps N H ds vs → PReps N' H ds vs
  | [], _, h => h
  | d :: ds, _, ⟨v, r, e, p, q⟩ => ⟨v, r, e, p.less hN, PReps.less hN q⟩
theorem PRep.int {N : AP mg} {H : Hp} {i : Int} {v : V} (h : PRep N H (.int i) v) : v = .int i := by
  rcases h with h | ⟨a, e, h⟩
  · exact h
  · exact h.elim
theorem PRep.bl {N : AP mg} {H : Hp} {i : Bool} {v : V} (h : PRep N H (.bl i) v) : v = .bl i := by
  rcases h with h | ⟨a, e, h⟩
  · exact h
  · exact h.elim
theorem PRep.str {N : AP mg} {H : Hp} {i : Str} {v : V} (h : PRep N H (.str i) v) : v = .str i := by
  rcases h with h | ⟨a, e, h⟩
  · exact h
  · exact h.elim
theorem PRep.non {N : AP mg} {H : Hp} {v : V} (h : PRep N H .non v) : v = .non := by
  rcases h with h | ⟨a, e, h⟩
  · exact h
  · exact h.elim
theorem PRep.lst {N : AP mg} {H : Hp} {ds : List D} {v : V} (h : PRep N H (.lst ds) v) : ∃ a vs, v = .ref a ∧ H a = some (.lst vs) ∧ Reps N H ds vs := by
  rcases h with ⟨a, vs, e, r, _, q⟩ | ⟨a, e, vs, r, q⟩
  · exact ⟨a, vs, e, r, q⟩
  · exact ⟨a, vs, e, r, q⟩
theorem PRep.tup {N : AP mg} {H : Hp} {ds : List D} {v : V} (h : PRep N H (.tup ds) v) : ∃ a vs, v = .ref a ∧ TupZ H a vs ∧ ¬ N a ∧ Reps N H ds vs := by
  rcases h with h | ⟨a, e, h⟩
  · exact h
  · exact h.elim
theorem PRep.dK {N : AP mg} {H : Hp} {ks : List Key} {ds : List D} {v : V} (h : PRep N H (.dK ks ds) v) : ∃ a kvs, v = .ref a ∧ H a = some (.dK kvs) ∧ kvs.map (·.1) = ks ∧ Reps N H ds (kvs.map (·.2)) := by
  rcases h with ⟨a, vs, e, r, _, q⟩ | ⟨a, e, vs, r, q⟩
  · exact ⟨a, vs, e, r, q⟩
  · exact ⟨a, vs, e, r, q⟩
theorem PRep.dT {N : AP mg} {H : Hp} {ks : List (List Key)} {ds : List D} {v : V} (h : PRep N H (.dT ks ds) v) : ∃ a kvs, v = .ref a ∧ H a = some (.dT kvs) ∧ kvs.map (·.1) = ks ∧ Reps N H ds (kvs.map (·.2)) := by
  rcases h with ⟨a, vs, e, r, _, q⟩ | ⟨a, e, vs, r, q⟩
  · exact ⟨a, vs, e, r, q⟩
  · exact ⟨a, vs, e, r, q⟩

/-! ### environments -/
/-- a local name: not set; a value nobody changes any more; an object of this name alone; one lent for reading; one lent for writing -/
inductive Slot where
  | emp | frz (d : D) | own (d : D) | bor (d : D) | lent (d : D) | hp (cs : List D)
abbrev Env := List Slot
def Slot.cont : Slot → Option D
  | .emp => none
  | .frz d => some d
  | .own d => some d
  | .bor d => some d
  | .lent d => some d
  | .hp _ => none
/-- may be written -/
def Slot.wr : Slot → Bool
  | .own _ => true
  | .lent _ => true
  | _ => false
def sv (σ : L2.St) (i : Nat) : Option V := σ.getD i none
theorem sv_some {σ : L2.St} {i : Nat} {v : V} (h : sv σ i = some v) : σ[i]? = some (some v) := by
  unfold sv at h
  rw [List.getD_eq_getElem?_getD] at h
  cases e : σ[i]? with
  | none => rw [e] at h; simp at h
  | some x => rw [e] at h; simp at h; rw [h]
theorem sv_of {σ : L2.St} {i : Nat} {v : Option V} (h : σ[i]? = some v) : sv σ i = v := by
  unfold sv
  rw [List.getD_eq_getElem?_getD, h]
  rfl
theorem sv_set {σ : L2.St} {i : Nat} (v : Option V) (h : i < σ.length) : sv (σ.set i v) i = v := sv_of (by simp [h])
theorem sv_set_ne {σ : L2.St} {i j : Nat} (v : Option V) (h : i ≠ j) : sv (σ.set i v) j = sv σ j := by
  unfold sv
  rw [List.getD_eq_getElem?_getD, List.getD_eq_getElem?_getD, List.getElem?_set_ne h]
/-- the cells hold cs -/
structure HpOk (W B : AP mg) (H : Hp) (cs : List D) : Prop where
  on : W.h = true
  at_ : ∀ n d, cs[n]? = some d → ∃ a, W.t n = some a ∧ W a ∧ CTop (Eo W B) H a d
  lt : ∀ n a, W.t n = some a → n < cs.length
  inj : ∀ n m a, W.t n = some a → W.t m = some a → n = m
def SlotOk (W B : AP mg) (H : Hp) (v : Option V) : Slot → Prop
  | .emp => True
  | .frz d => ∃ x, v = some x ∧ Rep (Eo W B) H d x
  | .own d => ∃ a, v = some (.ref a) ∧ W a ∧ Top (Eo W B) H a d
  | .lent d => ∃ a, v = some (.ref a) ∧ W a ∧ Top (Eo W B) H a d
  | .bor d => ∃ a, v = some (.ref a) ∧ B a ∧ TopR (Eo W B) H a d
  | .hp cs => HpOk W B H cs
/-- W: the objects that are ours to write; B: objects that nothing here may change or hand on -/
structure St (W B : AP mg) (σ : L2.St) (H : Hp) (ρ : Env) : Prop where
  len : σ.length = ρ.length
  slot : ∀ i s, ρ[i]? = some s → SlotOk W B H (sv σ i) s
  dom : ∀ a, W a ∨ B a → H a ≠ none
  dis : ∀ a, W a → B a → False
  apart : ∀ i j s t a, i ≠ j → ρ[i]? = some s → ρ[j]? = some t → s.wr = true → t.wr = true → sv σ i = some (.ref a) → sv σ j = some (.ref a) → False
  hpa : ∀ (i j : Nat) (s : Slot) (cs : List D) (n : Nat) (a : Addr), ρ[i]? = some s → s.wr = true → sv σ i = some (.ref a) → ρ[j]? = some (Slot.hp cs) → W.t n = some a → False
  hp1 : ∀ (i j : Nat) (cs cs' : List D), ρ[i]? = some (Slot.hp cs) → ρ[j]? = some (Slot.hp cs') → i = j
structure Fr (W : AP mg) (H : Hp) (W' : AP mg) (H' : Hp) : Prop where
  keep : ∀ a o, H a = some o → ¬ W a → H' a = some o
  sub : ∀ a, W' a → W a ∨ H a = none
  tab : ∀ n a, W.t n = some a → W'.t n = some a
  th : W.h = false → W'.t = W.t
  hh : W'.h = W.h
theorem Fr.refl {W : AP mg} {H : Hp} : Fr W H W H := ⟨fun _ _ e _ => e, fun _ z => .inl z, fun _ _ e => e, fun _ => rfl, rfl⟩
theorem Fr.less {W W' : AP mg} {H : Hp} (h : Ls W' W) : Fr W H W' H := ⟨fun _ _ e _ => e, fun a z => .inl (h a z), fun n a e => by rw [h.tab]; exact e, fun _ => h.tab, h.cl⟩
theorem Fr.trans {W W1 W2 : AP mg} {H H1 H2 : Hp} (p : Fr W H W1 H1) (q : Fr W1 H1 W2 H2) : Fr W H W2 H2 := by
  have back : ∀ a o, H a = some o → ¬ W a → ¬ W1 a := fun a o e n z => by
    rcases p.sub a z with k | k
    · exact n k
    · rw [e] at k; cases k
  refine ⟨fun a o e n => q.keep a o (p.keep a o e n) (back a o e n), fun a z => ?_, fun n a e => q.tab n a (p.tab n a e), fun z => (q.th (p.hh.trans z)).trans (p.th z), q.hh.trans p.hh⟩
  rcases q.sub a z with k | k
  · exact p.sub a k
  · cases e : H a with
    | none => exact .inr rfl
    | some o =>
      by_cases n : W a
      · exact .inl n
      · rw [p.keep a o e n] at k; cases k
/-- a new object -/
theorem Fr.new {W : AP mg} {H : Hp} {p : Addr} {o : HO} (hp : H p = none) : Fr W H W (upd H p o) := ⟨fun a u e _ => by rw [upd_ne (ne_of_none e hp)]; exact e, fun _ z => .inl z, fun _ _ e => e, fun _ => rfl, rfl⟩
theorem Fr.eo {W W' B : AP mg} {H H' : Hp} (p : Fr W H W' H') : Lf (Eo W' B) (Eo W B) H := ⟨fun a z => by
  rcases z with z | z
  · rcases p.sub a z with k | k
    · exact .inl (.inl k)
    · exact .inr k
  · exact .inl (.inr z), p.tab⟩
theorem Fr.keepO {W W' B : AP mg} {H H' : Hp} (p : Fr W H W' H') : ∀ a o, H a = some o → ¬ Eo W B a → H' a = some o := fun a o e n => p.keep a o e fun z => n (.inl z)
theorem Rep.fr {W W' B : AP mg} {H H' : Hp} {d : D} {v : V} (h : Rep (Eo W B) H d v) (p : Fr W H W' H') : Rep (Eo W' B) H' d v := Rep.mono p.eo p.keepO d v h
theorem Reps.fr {W W' B : AP mg} {H H' : Hp} {ds : List D} {vs : List V} (h : Reps (Eo W B) H ds vs) (p : Fr W H W' H') : Reps (Eo W' B) H' ds vs := Reps.mono p.eo p.keepO ds vs h
theorem Top.fr {W W' B : AP mg} {H H' : Hp} {a : Addr} {d : D} (h : Top (Eo W B) H a d) (p : Fr W H W' H') (n : ¬ W a) : Top (Eo W' B) H' a d := Top.mono p.eo p.keep (fun _ z => .inl z) n h
theorem HpOk.w {W B : AP mg} {H : Hp} {cs : List D} (h : HpOk W B H cs) {n : Nat} {a : Addr} (e : W.t n = some a) : ∃ d, cs[n]? = some d ∧ W a ∧ CTop (Eo W B) H a d := by
  have hd : cs[n]? = some (cs[n]'(h.lt n a e)) := List.getElem?_eq_getElem (h.lt n a e)
  obtain ⟨b, e2, w, t⟩ := h.at_ n _ hd
  rw [e] at e2
  cases e2
  exact ⟨_, hd, w, t⟩
theorem HpOk.less {W W' B B' : AP mg} {H : Hp} {cs : List D} (h : HpOk W B H cs) (hE : Ls (Eo W' B') (Eo W B)) (hW : ∀ n a, W.t n = some a → W a → W' a) (ht : W'.t = W.t) (hh : W'.h = W.h) : HpOk W' B' H cs :=
  ⟨hh.trans h.on, fun n d e => let ⟨a, e1, w, t⟩ := h.at_ n d e; ⟨a, by rw [ht]; exact e1, hW n a e1 w, t.less hE⟩, fun n a e => h.lt n a (by rw [← ht]; exact e), fun n m a e1 e2 => h.inj n m a (by rw [← ht]; exact e1) (by rw [← ht]; exact e2)⟩
theorem HpOk.mono {W W' B B' : AP mg} {M : Addr → Prop} {H H' : Hp} {cs : List D} (h : HpOk W B H cs) (hN : Lf (Eo W' B') (Eo W B) H) (hk : ∀ a o, H a = some o → ¬ M a → H' a = some o) (hM : ∀ b, M b → Eo W B b) (nM : ∀ n a, W.t n = some a → ¬ M a) (hW : ∀ n a, W.t n = some a → W a → W' a) (ht : W'.t = W.t) (hh : W'.h = W.h) : HpOk W' B' H' cs :=
  ⟨hh.trans h.on, fun n d e => let ⟨a, e1, w, t⟩ := h.at_ n d e; ⟨a, by rw [ht]; exact e1, hW n a e1 w, t.mono hN hk hM (nM n a e1)⟩, fun n a e => h.lt n a (by rw [← ht]; exact e), fun n m a e1 e2 => h.inj n m a (by rw [← ht]; exact e1) (by rw [← ht]; exact e2)⟩
theorem SlotOk.less {W B B' : AP mg} {H : Hp} {v : Option V} {s : Slot} (h : SlotOk W B H v s) (hB : ∀ a, B' a → B a) (hb : ∀ d a, s = .bor d → v = some (.ref a) → B' a) : SlotOk W B' H v s := by
  have hE : Ls (Eo W B') (Eo W B) := ⟨fun a z => z.elim .inl fun k => .inr (hB a k), rfl, rfl⟩
  cases s with
  | hp cs => exact HpOk.less h hE (fun _ _ _ w => w) rfl rfl
  | emp => trivial
  | frz d => obtain ⟨x, e, r⟩ := h; exact ⟨x, e, r.less hE⟩
  | own d => obtain ⟨a, e, k, r⟩ := h; exact ⟨a, e, k, r.less hE⟩
  | lent d => obtain ⟨a, e, k, r⟩ := h; exact ⟨a, e, k, r.less hE⟩
  | bor d => obtain ⟨a, e, k, r⟩ := h; exact ⟨a, e, hb d a rfl e, r.less hE⟩

/-! ### what comes of an expression -/
inductive R where
  | frz (d : D) | own (d : D)
def R.d : R → D
  | .frz d => d
  | .own d => d
/-- no name owns it, no cell is there -/
structure Free (W : AP mg) (σ : L2.St) (ρ : Env) (a : Addr) : Prop where
  nm : ∀ (i : Nat) (s : Slot), ρ[i]? = some s → s.wr = true → sv σ i ≠ some (.ref a)
  ce : ∀ (j : Nat) (cs : List D) (n : Nat), ρ[j]? = some (Slot.hp cs) → W.t n ≠ some a
def VOk (W B : AP mg) (σ : L2.St) (H : Hp) (ρ : Env) (v : V) : R → Prop
  | .frz d => St W B σ H ρ ∧ Rep (Eo W B) H d v
  | .own d => ∃ a, v = .ref a ∧ W a ∧ St W B σ H ρ ∧ Top (Eo W B) H a d ∧ Free W σ ρ a
/-- one of ours goes -/
def Mi (W : AP mg) (a : Addr) : AP mg := ⟨fun b => W b ∧ b ≠ a, W.t, W.h⟩
theorem Ls.mi {W B : AP mg} {a : Addr} : Ls (Eo (Mi W a) B) (Eo W B) := ⟨fun b z => Or.elim z (fun k => Or.inl k.1) Or.inr, rfl, rfl⟩
theorem Ls.miW {W : AP mg} {a : Addr} : Ls (Mi W a) W := ⟨fun b z => z.1, rfl, rfl⟩
/-- an object of ours that no name owns is put aside -/
theorem St.aside {W B B' : AP mg} {σ : L2.St} {H : Hp} {ρ : Env} {a : Addr} (s : St W B σ H ρ) (wa : W a) (hn : Free W σ ρ a) (hB : ∀ b, B b → B' b) (hB' : ∀ b, B' b → B b ∨ b = a) : St (Mi W a) B' σ H ρ := by
  have hE : Ls (Eo (Mi W a) B') (Eo W B) := ⟨fun b z => by
    rcases z with ⟨z, _⟩ | z
    · exact .inl z
    · rcases hB' b z with k | k
      · exact .inr k
      · subst k; exact .inl wa, rfl, rfl⟩
  refine ⟨s.len, fun i t e => ?_, fun b z => s.dom b (hE b z), fun b p q => ?_, s.apart, s.hpa, s.hp1⟩
  · have q := s.slot i t e
    cases t with
    | emp => trivial
    | frz d => obtain ⟨x, e1, r⟩ := q; exact ⟨x, e1, r.less hE⟩
    | own d => obtain ⟨x, e1, w, r⟩ := q; exact ⟨x, e1, ⟨w, fun z => hn.nm i _ e rfl (by rw [e1, z])⟩, r.less hE⟩
    | lent d => obtain ⟨x, e1, w, r⟩ := q; exact ⟨x, e1, ⟨w, fun z => hn.nm i _ e rfl (by rw [e1, z])⟩, r.less hE⟩
    | bor d => obtain ⟨x, e1, w, r⟩ := q; exact ⟨x, e1, hB x w, r.less hE⟩
    | hp cs => exact HpOk.less q hE (fun n b e1 w => ⟨w, fun z => hn.ce i cs n e (by rw [e1, z])⟩) rfl rfl
  · rcases hB' b q with k | k
    · exact s.dis b p.1 k
    · exact p.2 k
theorem St.unpark {W B : AP mg} {σ : L2.St} {H : Hp} {ρ : Env} {a : Addr} (h : St W (Pl B a) σ H ρ) (hb : ∀ (i : Nat) (d : D), ρ[i]? = some (Slot.bor d) → sv σ i ≠ some (.ref a)) : St W B σ H ρ := by
  refine ⟨h.len, fun i s e => (h.slot i s e).less (fun _ z => .inl z) fun d b es ev => ?_, fun b z => h.dom b (z.elim .inl fun k => .inr (.inl k)), fun b p q => h.dis b p (.inl q), h.apart, h.hpa, h.hp1⟩
  subst es
  obtain ⟨c, e1, k, _⟩ := h.slot i _ e
  rw [ev] at e1
  cases e1
  rcases k with k | k
  · exact k
  · subst k
    exact absurd ev (hb i d e)
theorem VOk.st {W B : AP mg} {σ : L2.St} {H : Hp} {ρ : Env} {v : V} {r : R} (h : VOk W B σ H ρ v r) : St W B σ H ρ := by
  cases r with
  | frz d => exact h.1
  | own d => obtain ⟨a, _, _, s, _⟩ := h; exact s
/-- as a value that nobody changes any more -/
theorem VOk.any {W B : AP mg} {σ : L2.St} {H : Hp} {ρ : Env} {v : V} {r : R} (h : VOk W B σ H ρ v r) : ∃ W1, Ls W1 W ∧ St W1 B σ H ρ ∧ Rep (Eo W1 B) H r.d v := by
  cases r with
  | frz d => exact ⟨W, .rfl', h⟩
  | own d =>
    obtain ⟨a, e, wa, s, t, hn⟩ := h
    subst e
    exact ⟨Mi W a, .miW, s.aside wa hn (fun _ z => z) (fun _ z => .inl z), (t.less .mi).rep fun z => z.elim (fun k => k.2 rfl) (s.dis a wa)⟩
/-- a result, parked while more is done: the sets, the state, what stands for it -/
theorem VOk.park {W B : AP mg} {σ : L2.St} {H : Hp} {ρ : Env} {v : V} {r : R} (h : VOk W B σ H ρ v r) :
    ∃ W1 B1, Ls W1 W ∧ St W1 B1 σ H ρ ∧ (∀ a, B a → B1 a) ∧ (∀ W' H' : _, Fr W1 H W' H' → PRep (Eo W' B1) H' r.d v) ∧ (∀ (σ' : L2.St) (ρ' : Env) (H' : Hp) (W' : AP mg), (∀ (i : Nat) (d : D), ρ'[i]? = some (Slot.bor d) → ρ[i]? = some (Slot.bor d) ∧ sv σ' i = sv σ i) → St W' B1 σ' H' ρ' → St W' B σ' H' ρ') := by
  cases r with
  | frz d => exact ⟨W, B, .rfl', h.1, fun _ z => z, fun W' H' p => .inl (h.2.fr p), fun _ _ _ _ _ s => s⟩
  | own d =>
    obtain ⟨a, e, wa, s, t, hn⟩ := h
    subst e
    have hE : Ls (Eo (Mi W a) (Pl B a)) (Eo W B) := ⟨fun b z => by
      rcases z with z | z | z
      · exact .inl z.1
      · exact .inr z
      · subst z; exact .inl wa, rfl, rfl⟩
    refine ⟨Mi W a, Pl B a, .miW, s.aside wa hn (fun _ z => .inl z) (fun _ z => z), fun _ z => .inl z, fun W' H' p => .inr ⟨a, rfl, (t.less hE).fr p fun z => z.2 rfl⟩, fun σ' ρ' H' W' k s' => s'.unpark fun i d e ev => ?_⟩
    obtain ⟨e1, e2⟩ := k i d e
    rw [e2] at ev
    obtain ⟨c, e3, bc, _⟩ := s.slot i _ e1
    rw [ev] at e3
    cases e3
    exact s.dis a wa bc
end Dz
/-! Dz 2: semantic functions; readings; names, constants, operands, displays. -/
namespace Dz
open PySem PySem.Spec PyProof.Rows L2

/-- an exception: its class by name, the field it bears -/
structure Exc where
  cls : Str
  fld : Option (Str × D)
def XRep (mg : Str → Option Value) (N : AP mg) (H : Hp) (e : Exc) (c : Value) (dd : Option Addr) : Prop :=
  ∃ C, mg e.cls = some (.ref C) ∧ c = .ref C ∧ ∀ x d, e.fld = some (x, d) → ∃ a fs v, dd = some a ∧ ¬ N a ∧ H a = some (.xd fs) ∧ fs.lookup x = some v ∧ Rep N H d v
theorem XRep.less {mg : Str → Option Value} {N N' : AP mg} {H : Hp} {e : Exc} {c : Value} {dd : Option Addr} (h : XRep mg N H e c dd) (hN : Ls N' N) : XRep mg N' H e c dd := by
  obtain ⟨C, e1, e2, q⟩ := h
  refine ⟨C, e1, e2, fun x d ed => ?_⟩
  obtain ⟨a, fs, v, p1, p2, p3, p4, p5⟩ := q x d ed
  exact ⟨a, fs, v, p1, fun z => p2 (hN a z), p3, p4, p5.less hN⟩

inductive Res (α : Type) where
  | ok (a : α) (ρ : Env) | err (e : Exc) (ρ : Env)
def Res.env {α : Type} : Res α → Env
  | .ok _ ρ => ρ
  | .err _ ρ => ρ
abbrev M (α : Type) := Env → Option (Res α)
def mbind {α β : Type} (f : M α) (g : α → M β) : M β := fun ρ =>
  match f ρ with
  | none => none
  | some (.err e ρ') => some (.err e ρ')
  | some (.ok a ρ') => g a ρ'
def mret {α : Type} (a : α) : M α := fun ρ => some (.ok a ρ)
def mopt {α : Type} (o : Option α) : M α := fun ρ =>
  match o with
  | some a => some (.ok a ρ)
  | none => none
/-- what no semantic function changes: names lent stay lent, nothing comes to be borrowed -/
structure Evo (ρ ρ' : Env) : Prop where
  len : ρ'.length = ρ.length
  bor : ∀ (i : Nat) (d : D), ρ'[i]? = some (Slot.bor d) → ρ[i]? = some (Slot.bor d)
  lent : ∀ (i : Nat) (d : D), ρ[i]? = some (Slot.lent d) → ∃ d', ρ'[i]? = some (Slot.lent d')
  tnel : ∀ (i : Nat) (d : D), ρ'[i]? = some (Slot.lent d) → ∃ d', ρ[i]? = some (Slot.lent d')
  hp : ∀ (i : Nat) (cs : List D), ρ[i]? = some (Slot.hp cs) → ∃ cs', ρ'[i]? = some (Slot.hp cs')
  ph : ∀ (i : Nat) (cs : List D), ρ'[i]? = some (Slot.hp cs) → ∃ cs', ρ[i]? = some (Slot.hp cs')
theorem Evo.refl (ρ : Env) : Evo ρ ρ := ⟨rfl, fun _ _ e => e, fun _ d e => ⟨d, e⟩, fun _ d e => ⟨d, e⟩, fun _ d e => ⟨d, e⟩, fun _ d e => ⟨d, e⟩⟩
theorem Evo.trans {ρ ρ1 ρ2 : Env} (p : Evo ρ ρ1) (q : Evo ρ1 ρ2) : Evo ρ ρ2 :=
  ⟨q.len.trans p.len, fun i d e => p.bor i d (q.bor i d e), fun i d e => let ⟨d1, e1⟩ := p.lent i d e; q.lent i d1 e1, fun i d e => let ⟨d1, e1⟩ := q.tnel i d e; p.tnel i d1 e1, fun i d e => let ⟨d1, e1⟩ := p.hp i d e; q.hp i d1 e1, fun i d e => let ⟨d1, e1⟩ := q.ph i d e; p.ph i d1 e1⟩
/-- a slot that is neither borrowed nor lent gets one that is neither -/
theorem Evo.set {ρ : Env} {i : Nat} {s t : Slot} (e : ρ[i]? = some s) (hs : ∀ d, s ≠ .lent d) (ht : ∀ d, t ≠ .lent d) (hb : ∀ d, t ≠ .bor d) (hsh : ∀ cs, s ≠ Slot.hp cs := by intro _ z; cases z) (hth : ∀ cs, t ≠ Slot.hp cs := by intro _ z; cases z) : Evo ρ (ρ.set i t) := by
  have hi : i < ρ.length := (List.getElem?_eq_some_iff.mp e).1
  refine ⟨by simp, fun j d k => ?_, fun j d k => ?_, fun j d k => ?_, fun j d k => ?_, fun j d k => ?_⟩
  rotate_left 3
  · by_cases q : i = j
    · subst q; rw [e] at k; exact absurd (Option.some.inj k) (hsh d)
    · exact ⟨d, by rw [List.getElem?_set_ne q]; exact k⟩
  · by_cases q : i = j
    · subst q; rw [List.getElem?_set_self hi] at k; exact absurd (Option.some.inj k) (hth d)
    · rw [List.getElem?_set_ne q] at k; exact ⟨d, k⟩
  · by_cases q : i = j
    · subst q; rw [List.getElem?_set_self hi] at k; exact absurd (Option.some.inj k) (hb d)
    · rw [List.getElem?_set_ne q] at k; exact k
  · by_cases q : i = j
    · subst q; rw [e] at k; exact absurd (Option.some.inj k) (hs d)
    · exact ⟨d, by rw [List.getElem?_set_ne q]; exact k⟩
  · by_cases q : i = j
    · subst q; rw [List.getElem?_set_self hi] at k; exact absurd (Option.some.inj k) (ht d)
    · rw [List.getElem?_set_ne q] at k; exact ⟨d, k⟩
def EvoF {α : Type} (f : M α) : Prop := ∀ ρ o, f ρ = some o → Evo ρ o.env
theorem evo_ret {α : Type} (a : α) : EvoF (mret a) := fun ρ o e => by cases e; exact .refl ρ
theorem evo_opt {α : Type} (o : Option α) : EvoF (mopt o) := fun ρ r e => by
  cases o with
  | none => cases e
  | some a => cases e; exact .refl ρ
theorem evo_bind {α β : Type} {f : M α} {g : α → M β} (hf : EvoF f) (hg : ∀ a, EvoF (g a)) : EvoF (mbind f g) := fun ρ o e => by
  unfold mbind at e
  cases q : f ρ with
  | none => rw [q] at e; cases e
  | some r =>
    rw [q] at e
    have h1 := hf ρ r q
    cases r with
    | err x ρ' => cases e; exact h1
    | ok a ρ' => exact h1.trans (hg a ρ' o e)

theorem Ls.bb {W B B1 : AP mg} (hB : ∀ a, B a → B1 a) : Ls (Eo W B) (Eo W B1) := ⟨fun _ z => Or.elim z Or.inl fun k => Or.inr (hB _ k), rfl, rfl⟩
section
variable {mg : Str → Option Value} {Wx : WX} {W B : AP mg} {σ : L2.St} {H : Hp} {α β : Type}
def After (mg : Str → Option Value) (Wx : WX) (W B : AP mg) (σ : L2.St) (H : Hp) (o : Option (Res α)) (Q : AP mg → Hp → α → Env → Prop) : Prop :=
  match o with
  | none => False
  | some (.ok a ρ') => ∀ W' H', Fr W H W' H' → Q W' H' a ρ'
  | some (.err e ρ') => ∀ W' H' c d, Fr W H W' H' → St W' B σ H' ρ' → XRep mg (Eo W' B) H' e c d → Wx c d σ H'
theorem After.mono {o : Option (Res α)} {Q Q' : AP mg → Hp → α → Env → Prop} (h : After mg Wx W B σ H o Q) (hq : ∀ W' H' a ρ', o = some (.ok a ρ') → Fr W H W' H' → Q W' H' a ρ' → Q' W' H' a ρ') : After mg Wx W B σ H o Q' := by
  cases o with
  | none => exact h
  | some r =>
    cases r with
    | err e ρ' => exact h
    | ok a ρ' => exact fun W' H' f => hq W' H' a ρ' rfl f (h W' H' f)
theorem After.bind {f : M α} {g : α → M β} {ρ : Env} {Q : AP mg → Hp → β → Env → Prop} (h : After mg Wx W B σ H (mbind f g ρ) Q) : After mg Wx W B σ H (f ρ) fun W1 H1 a ρ1 => After mg Wx W1 B σ H1 (g a ρ1) Q := by
  unfold mbind at h
  cases q : f ρ with
  | none => rw [q] at h; exact h
  | some r =>
    rw [q] at h
    cases r with
    | err e ρ' => exact h
    | ok a ρ1 =>
      refine fun W1 H1 f1 => ?_
      have h : After mg Wx W B σ H (g a ρ1) Q := h
      show After mg Wx W1 B σ H1 (g a ρ1) Q
      cases q2 : g a ρ1 with
      | none => rw [q2] at h; exact h
      | some r2 =>
        rw [q2] at h
        cases r2 with
        | err e ρ' => exact fun W' H' c d f2 s x => h W' H' c d (f1.trans f2) s x
        | ok b ρ' => exact fun W' H' f2 => h W' H' (f1.trans f2)
theorem After.sub {W0 : AP mg} {o : Option (Res α)} {Q : AP mg → Hp → α → Env → Prop} (h : After mg Wx W B σ H o Q) (hW : Ls W0 W) : After mg Wx W0 B σ H o Q := by
  cases o with
  | none => exact h
  | some r =>
    cases r with
    | err e ρ' => exact fun W' H' c d f s x => h W' H' c d ((Fr.less hW).trans f) s x
    | ok a ρ' => exact fun W' H' f => h W' H' ((Fr.less hW).trans f)
/-- under a wider shutter -/
theorem After.park {B1 : AP mg} {ρ1 : Env} {o : Option (Res α)} {Q : AP mg → Hp → α → Env → Prop} (h : After mg Wx W B σ H o Q) (hB : ∀ a, B a → B1 a) (he : ∀ r, o = some r → Evo ρ1 r.env)
    (hu : ∀ W' H' ρ', Evo ρ1 ρ' → St W' B1 σ H' ρ' → St W' B σ H' ρ') : After mg Wx W B1 σ H o Q := by
  cases o with
  | none => exact h
  | some r =>
    cases r with
    | ok a ρ' => exact h
    | err e ρ' => exact fun W' H' c d f s x => h W' H' c d f (hu W' H' ρ' (he _ rfl) s) (x.less (.bb hB))
/-- at the end, nothing more happens -/
theorem After.here {o : α} {ρ : Env} {Q : AP mg → Hp → α → Env → Prop} (h : After mg Wx W B σ H (some (.ok o ρ)) Q) : Q W H o ρ := h W H Fr.refl

/-! ### the readings -/
def rdE (mg : Str → Option Value) (Wx : WX) (f : M R) : TE := fun σ H Q => ∃ W B ρ, St W B σ H ρ ∧ After mg Wx W B σ H (f ρ) fun W' H' r ρ' => ∀ v, VOk W' B σ H' ρ' v r → Q v H'
def rdT (mg : Str → Option Value) (Wx : WX) (f : M Bool) : TT := fun σ H Q => ∃ W B ρ, St W B σ H ρ ∧ After mg Wx W B σ H (f ρ) fun W' H' b ρ' => St W' B σ H' ρ' → Q b H'
end
theorem pe_imp {X : Cx} {e : Expr} {t t' : TE} (h : PE X e t) (i : ∀ σ H Q, t' σ H Q → t σ H Q) : PE X e t' := ⟨fun pins s σ H Q I q => h.run pins s σ H Q I (i σ H Q q)⟩
theorem pt_imp {X : Cx} {e : Expr} {t t' : TT} (h : PT X e t) (i : ∀ σ H Q, t' σ H Q → t σ H Q) : PT X e t' := ⟨fun pins s σ H Q I q => h.run pins s σ H Q I (i σ H Q q)⟩
theorem pw_imp {X : Cx} {e : Expr} {t t' : TT} (h : PW X e t) (i : ∀ σ H Q, t' σ H Q → t σ H Q) : PW X e t' := ⟨fun wh pins s σ H Q I q => h.run wh pins s σ H Q I (i σ H Q q)⟩
theorem pa_imp {X : Cx} {es : List Expr} {t t' : TA} (h : PA X es t) (i : ∀ σ H Q, t' σ H Q → t σ H Q) : PA X es t' := ⟨fun pos pins s σ H Q I q => h.run pos pins s σ H Q I (i σ H Q q)⟩
structure DE (X : Cx) (Wx : WX) (e : Expr) (f : M R) : Prop where
  pe : PE X e (rdE X.mg Wx f)
  evo : EvoF f
structure DT (X : Cx) (Wx : WX) (e : Expr) (f : M Bool) : Prop where
  pt : PT X e (rdT X.mg Wx f)
  evo : EvoF f

/-! ### constants, names -/
section
variable {X : Cx} {Wx : WX} {pos : Pos}
def fC (d : D) : M R := mret (.frz d)
theorem rdE_c {mg : Str → Option Value} {d : D} {v : V} (hr : ∀ (N : AP mg) (H : Hp), Rep N H d v) : ∀ σ H Q, rdE mg Wx (fC d) σ H Q → tC v σ H Q := fun σ H Q ⟨W, B, ρ, s, a⟩ => a.here v ⟨s, hr _ _⟩
theorem de_int {i : Int} {j : Nat} : DE X Wx (.Constant (.int i) j pos) (fC (.int i)) := ⟨pe_imp pe_int (rdE_c fun _ _ => rfl), evo_ret _⟩
theorem de_bl {i : Bool} {j : Nat} : DE X Wx (.Constant (.bool i) j pos) (fC (.bl i)) := ⟨pe_imp pe_bl (rdE_c fun _ _ => rfl), evo_ret _⟩
theorem de_str {i : Str} {j : Nat} : DE X Wx (.Constant (.str i) j pos) (fC (.str i)) := ⟨pe_imp pe_str (rdE_c fun _ _ => rfl), evo_ret _⟩
theorem de_non {j : Nat} : DE X Wx (.Constant .none j pos) (fC .non) := ⟨pe_imp pe_non (rdE_c fun _ _ => rfl), evo_ret _⟩
/-- a constant of the module -/
theorem de_gint {x : Str} {i : Int} (hg : Gl X x) (hm : ∃ t, X.mg x = some (.int i t)) (hd : (x == ("__debug__" : Str)) = false := by decide) : DE X Wx (.Name x pos) (fC (.int i)) := by
  obtain ⟨t, hm⟩ := hm
  exact ⟨pe_imp (pe_glob (v := .int i) hg hm ⟨t, rfl⟩ hd) (rdE_c fun _ _ => rfl), evo_ret _⟩
theorem de_gstr {x z : Str} (hg : Gl X x) (hm : ∃ t, X.mg x = some (.str z t)) (hd : (x == ("__debug__" : Str)) = false := by decide) : DE X Wx (.Name x pos) (fC (.str z)) := by
  obtain ⟨t, hm⟩ := hm
  exact ⟨pe_imp (pe_glob (v := .str z) hg hm ⟨t, rfl⟩ hd) (rdE_c fun _ _ => rfl), evo_ret _⟩

theorem St.wr_at {W B : AP mg} {σ : L2.St} {H : Hp} {ρ : Env} (s : St W B σ H ρ) {i : Nat} {t : Slot} (e : ρ[i]? = some t) (hw : t.wr = true) : ∃ a d, t.cont = some d ∧ sv σ i = some (.ref a) ∧ W a ∧ Top (Eo W B) H a d := by
  have q := s.slot i t e
  cases t with
  | own d => obtain ⟨a, e1, w, t⟩ := q; exact ⟨a, d, rfl, e1, w, t⟩
  | lent d => obtain ⟨a, e1, w, t⟩ := q; exact ⟨a, d, rfl, e1, w, t⟩
  | emp => cases hw
  | frz d => cases hw
  | bor d => cases hw
  | hp cs => cases hw
/-- the slot i, that owns the object at a, changes to u; a leaves our set (u: what holds of it then) -/
theorem St.letgo {W B B' : AP mg} {σ : L2.St} {H : Hp} {ρ : Env} (s : St W B σ H ρ) {i : Nat} {t u : Slot} {a : Addr} (e : ρ[i]? = some t) (hw : t.wr = true) (ev : sv σ i = some (.ref a)) (wa : W a)
    (hu : SlotOk (Mi W a) B' H (some (.ref a)) u) (hnw : u.wr = false) (hnh : ∀ cs, u ≠ Slot.hp cs) (hB : ∀ b, B b → B' b) (hB' : ∀ b, B' b → B b ∨ b = a) : St (Mi W a) B' σ H (ρ.set i u) := by
  have hi : i < ρ.length := (List.getElem?_eq_some_iff.mp e).1
  have hE : Ls (Eo (Mi W a) B') (Eo W B) := ⟨fun b z => by
    rcases z with ⟨z, _⟩ | z
    · exact .inl z
    · rcases hB' b z with k | k
      · exact .inr k
      · subst k; exact .inl wa, rfl, rfl⟩
  have nh : ∀ (j : Nat) (cs : List D), (ρ.set i u)[j]? = some (Slot.hp cs) → i ≠ j ∧ ρ[j]? = some (Slot.hp cs) := fun j cs k => by
    by_cases hj : i = j
    · subst hj
      rw [List.getElem?_set_self hi] at k
      exact absurd (Option.some.inj k) (hnh cs)
    · rw [List.getElem?_set_ne hj] at k
      exact ⟨hj, k⟩
  have hne : ∀ (l : Nat) (x : Slot), (ρ.set i u)[l]? = some x → x.wr = true → i ≠ l ∧ ρ[l]? = some x := fun l x y wx => by
    by_cases hl : i = l
    · subst hl
      rw [List.getElem?_set_self hi] at y
      cases y
      rw [hnw] at wx
      cases wx
    · rw [List.getElem?_set_ne hl] at y
      exact ⟨hl, y⟩
  refine ⟨by rw [List.length_set]; exact s.len, fun j v k => ?_, fun b z => ?_, fun b p q => ?_, fun j k v v' b hjk p q w1 w2 x1 x2 => ?_, fun j k v cs n b p w1 x1 q e1 => s.hpa j k v cs n b (hne j v p w1).2 w1 x1 (nh k cs q).2 e1, fun j k cs cs' p q => s.hp1 j k cs cs' (nh j cs p).2 (nh k cs' q).2⟩
  · by_cases hj : i = j
    · subst hj
      rw [List.getElem?_set_self hi] at k
      cases k
      rw [ev]
      exact hu
    · rw [List.getElem?_set_ne hj] at k
      have q := s.slot j v k
      cases v with
      | emp => trivial
      | frz d => obtain ⟨x, e1, r⟩ := q; exact ⟨x, e1, r.less hE⟩
      | own d => obtain ⟨c, e1, w, r⟩ := q; exact ⟨c, e1, ⟨w, fun z => s.apart i j t _ a hj e k hw rfl ev (by rw [e1, z])⟩, r.less hE⟩
      | lent d => obtain ⟨c, e1, w, r⟩ := q; exact ⟨c, e1, ⟨w, fun z => s.apart i j t _ a hj e k hw rfl ev (by rw [e1, z])⟩, r.less hE⟩
      | bor d => obtain ⟨c, e1, w, r⟩ := q; exact ⟨c, e1, hB c w, r.less hE⟩
      | hp cs => exact HpOk.less q hE (fun n b e1 w => ⟨w, fun z => s.hpa i j t cs n a e hw ev k (by rw [e1, z])⟩) rfl rfl
  · exact s.dom b (hE b z)
  · rcases hB' b q with k | k
    · exact s.dis b p.1 k
    · exact p.2 k
  · obtain ⟨_, p'⟩ := hne j v p w1
    obtain ⟨_, q'⟩ := hne k v' q w2
    exact s.apart j k v v' b hjk p' q' w1 w2 x1 x2
/-- a name, for keeping: what it owned is let go -/
def fName (i : Nat) : M R := fun ρ =>
  match ρ[i]? with
  | some (.frz d) => some (.ok (.frz d) ρ)
  | some (.own d) => some (.ok (.frz d) (ρ.set i (.frz d)))
  | _ => none
/-- a name for the last time: what it owned goes on as its new owner's -/
def fMove (i : Nat) : M R := fun ρ =>
  match ρ[i]? with
  | some (.frz d) => some (.ok (.frz d) ρ)
  | some (.own d) => some (.ok (.own d) (ρ.set i .emp))
  | _ => none
theorem evo_name {i : Nat} : EvoF (fName i) := fun ρ o e => by
  unfold fName at e
  split at e
  · cases e; exact .refl _
  · rename_i d q
    cases e
    exact .set q (fun _ z => nomatch z) (fun _ z => nomatch z) (fun _ z => nomatch z)
  · cases e
theorem evo_move {i : Nat} : EvoF (fMove i) := fun ρ o e => by
  unfold fMove at e
  split at e
  · cases e; exact .refl _
  · rename_i d q
    cases e
    exact .set q (fun _ z => nomatch z) (fun _ z => nomatch z) (fun _ z => nomatch z)
  · cases e
theorem de_var {i : Nat} {e : Expr} (h : PE X e (tVar i)) : DE X Wx e (fName i) := by
  refine ⟨pe_imp h fun σ H Q ⟨W, B, ρ, s, a⟩ => ?_, evo_name⟩
  unfold fName at a
  split at a
  · rename_i d e1
    obtain ⟨x, e2, r⟩ := s.slot i _ e1
    exact ⟨x, sv_some e2, a.here x ⟨s, r⟩⟩
  · rename_i d e1
    obtain ⟨b, e2, wb, t⟩ := s.slot i _ e1
    refine ⟨.ref b, sv_some e2, a (Mi W b) H (.less .miW) _ ⟨?_, ?_⟩⟩
    · refine s.letgo e1 rfl e2 wb ?_ rfl (fun _ z => nomatch z) (fun _ z => z) (fun _ z => .inl z)
      exact ⟨_, rfl, (t.r.less .mi).rep fun z => z.elim (fun k => k.2 rfl) (s.dis b wb)⟩
    · exact (t.r.less .mi).rep fun z => z.elim (fun k => k.2 rfl) (s.dis b wb)
  · exact a.elim
theorem de_move {i : Nat} {e : Expr} (h : PE X e (tVar i)) : DE X Wx e (fMove i) := by
  refine ⟨pe_imp h fun σ H Q ⟨W, B, ρ, s, a⟩ => ?_, evo_move⟩
  unfold fMove at a
  split at a
  · rename_i d e1
    obtain ⟨x, e2, r⟩ := s.slot i _ e1
    exact ⟨x, sv_some e2, a.here x ⟨s, r⟩⟩
  · rename_i d e1
    obtain ⟨b, e2, wb, t⟩ := s.slot i _ e1
    have nh : ∀ (j : Nat) (cs : List D), (ρ.set i .emp)[j]? = some (Slot.hp cs) → ρ[j]? = some (Slot.hp cs) := fun j cs k => by
      by_cases hj : i = j
      · subst hj
        rw [List.getElem?_set_self (List.getElem?_eq_some_iff.mp e1).1] at k
        cases k
      · rw [List.getElem?_set_ne hj] at k
        exact k
    refine ⟨.ref b, sv_some e2, a W H .refl _ ⟨b, rfl, wb, ?_, t, fun j s' e3 w3 e4 => ?_, fun j cs n e3 e4 => s.hpa i j _ cs n b e1 rfl e2 (nh j cs e3) e4⟩⟩
    · have hi : i < ρ.length := (List.getElem?_eq_some_iff.mp e1).1
      have hne : ∀ (l : Nat) (x : Slot), (ρ.set i .emp)[l]? = some x → x.wr = true → ρ[l]? = some x := fun l x y wx => by
        by_cases hl : i = l
        · subst hl
          rw [List.getElem?_set_self hi] at y
          cases y
          cases wx
        · rw [List.getElem?_set_ne hl] at y
          exact y
      refine ⟨by rw [List.length_set]; exact s.len, fun j v k => ?_, s.dom, s.dis, fun j k v v' c hjk p q w1 w2 x1 x2 => ?_, fun j k v cs n c p w1 x1 q e1 => s.hpa j k v cs n c (hne j v p w1) w1 x1 (nh k cs q) e1, fun j k cs cs' p q => s.hp1 j k cs cs' (nh j cs p) (nh k cs' q)⟩
      · by_cases hj : i = j
        · subst hj
          rw [List.getElem?_set_self hi] at k
          cases k
          trivial
        · rw [List.getElem?_set_ne hj] at k
          exact s.slot j v k
      · exact s.apart j k v v' c hjk (hne j v p w1) (hne k v' q w2) w1 w2 x1 x2
    · have hj : i ≠ j := fun z => by
        subst z
        rw [List.getElem?_set_self (List.getElem?_eq_some_iff.mp e1).1] at e3
        cases e3
        cases w3
      rw [List.getElem?_set_ne hj] at e3
      exact s.apart i j _ _ b hj e1 e3 rfl w3 e2 e4
  · exact a.elim

/-! ### operands -/
inductive Opd where
  | ev (f : M R) | sl (i : Nat) | dr (hi : Nat) (f : M R)
def rdO (mg : Str → Option Value) (Wx : WX) : Opd → TE
  | .ev f => rdE mg Wx f
  | .sl i => tVar i
  | .dr _ f => rdE mg Wx f
def DO (X : Cx) (Wx : WX) (e : Expr) : Opd → Prop
  | .ev f => DE X Wx e f
  | .sl i => PE X e (tVar i)
  | .dr _ f => DE X Wx e f
theorem DO.pe {e : Expr} {o : Opd} (h : DO X Wx e o) : PE X e (rdO X.mg Wx o) := by
  cases o with
  | ev f => exact DE.pe h
  | sl i => exact h
  | dr hi f => exact DE.pe h
def Opd.Evo : Opd → Prop
  | .ev f => EvoF f
  | .sl _ => True
  | .dr _ f => EvoF f
theorem DO.evo {e : Expr} {o : Opd} (h : DO X Wx e o) : o.Evo := by
  cases o with
  | ev f => exact DE.evo h
  | sl i => trivial
  | dr hi f => exact DE.evo h
def contAt (ρ : Env) (i : Nat) : Option D :=
  match ρ[i]? with
  | some s => s.cont
  | none => none
def getSl (i : Nat) (ds : List D) : M (List D) := fun ρ =>
  match contAt ρ i with
  | some d => some (.ok (d :: ds) ρ)
  | none => none
def needSl (i : Nat) : M Unit := fun ρ =>
  match contAt ρ i with
  | some _ => some (.ok () ρ)
  | none => none
/-- what the cell holds now -/
def getCe (hi : Nat) (r : R) (ds : List D) : M (List D) := fun ρ =>
  match r with
  | .frz (.cell n) => match ρ[hi]? with
    | some (.hp cs) => match cs[n]? with
      | some (.obj _ _ _) => none
      | some d => some (.ok (d :: ds) ρ)
      | none => none
    | _ => none
  | _ => none
theorem getCe_some {hi : Nat} {r : R} {ds : List D} {ρ : Env} {o : Res (List D)} (h : getCe hi r ds ρ = some o) : ∃ n cs d, r = .frz (.cell n) ∧ ρ[hi]? = some (.hp cs) ∧ cs[n]? = some d ∧ o = .ok (d :: ds) ρ ∧ ∀ c ks vs, d ≠ .obj c ks vs := by
  unfold getCe at h
  split at h
  · split at h
    · split at h
      · cases h
      · rename_i d hd e; cases h; exact ⟨_, _, d, rfl, by assumption, e, rfl, fun c ks vs z => hd c ks vs z⟩
      · cases h
    · cases h
  · cases h
theorem evo_getCe {hi : Nat} {r : R} {ds : List D} : EvoF (getCe hi r ds) := fun ρ o e => by
  obtain ⟨_, _, _, _, _, _, eo, _⟩ := getCe_some e
  rw [eo]
  exact .refl _
def evs : List Opd → M (List D)
  | [] => mret []
  | .ev f :: os => mbind f fun r => mbind (evs os) fun ds => mret (r.d :: ds)
  | .sl i :: os => mbind (needSl i) fun _ => mbind (evs os) fun ds => getSl i ds
  | .dr hi f :: os => mbind f fun r => mbind (evs os) fun ds => getCe hi r ds
theorem evo_getSl {i : Nat} {ds : List D} : EvoF (getSl i ds) := fun ρ o e => by
  unfold getSl at e
  split at e
  · cases e; exact .refl _
  · cases e
theorem evo_needSl {i : Nat} : EvoF (needSl i) := fun ρ o e => by
  unfold needSl at e
  split at e
  · cases e; exact .refl _
  · cases e
theorem evo_evs : ∀ {os : List Opd}, (∀ o ∈ os, o.Evo) → EvoF (evs os)
  | [], _ => evo_ret _
  | .ev f :: os, h => evo_bind (h _ List.mem_cons_self) fun _ => evo_bind (evo_evs fun o z => h o (List.mem_cons_of_mem _ z)) fun _ => evo_ret _
  | .sl i :: os, h => evo_bind evo_needSl fun _ => evo_bind (evo_evs fun o z => h o (List.mem_cons_of_mem _ z)) fun _ => evo_getSl
  | .dr hi f :: os, h => evo_bind (h (.dr hi f) List.mem_cons_self) fun _ => evo_bind (evo_evs fun o z => h o (List.mem_cons_of_mem _ z)) fun _ => evo_getCe
def rdOs (mg : Str → Option Value) (Wx : WX) (os : List Opd) : TA := fun σ H Q => ∃ W B ρ, St W B σ H ρ ∧ After mg Wx W B σ H (evs os ρ) fun W' H' ds ρ' => ∀ vs, St W' B σ H' ρ' → PReps (Eo W' B) H' ds vs → Q vs H'
theorem St.at {W B : AP mg} {σ : L2.St} {H : Hp} {ρ : Env} (s : St W B σ H ρ) {i : Nat} {d : D} (h : contAt ρ i = some d) : ∃ v, sv σ i = some v ∧ PRep (Eo W B) H d v := by
  unfold contAt at h
  split at h
  · rename_i t e
    have q := s.slot i t e
    cases t with
    | emp => cases h
    | frz d' => cases h; obtain ⟨x, e1, r⟩ := q; exact ⟨x, e1, .inl r⟩
    | own d' => cases h; obtain ⟨x, e1, _, r⟩ := q; exact ⟨_, e1, .inr ⟨x, rfl, r.r⟩⟩
    | lent d' => cases h; obtain ⟨x, e1, _, r⟩ := q; exact ⟨_, e1, .inr ⟨x, rfl, r.r⟩⟩
    | bor d' => cases h; obtain ⟨x, e1, _, r⟩ := q; exact ⟨_, e1, .inr ⟨x, rfl, r⟩⟩
    | hp cs => cases h
  · cases h
theorem CTop.prep {mg : Str → Option Value} {N : AP mg} {H : Hp} {a : Addr} {d : D} (h : CTop N H a d) (n : ∀ c ks vs, d ≠ .obj c ks vs) : PRep N H d (.ref a) := by
  rcases h with h | ⟨c, ks, ds, _, _, _, e, _⟩
  · exact .inr ⟨a, rfl, h⟩
  · exact absurd e (n c ks ds)
theorem St.cell {W B : AP mg} {σ : L2.St} {H : Hp} {ρ : Env} (s : St W B σ H ρ) {hi n : Nat} {cs : List D} {d : D} {v : V} {W0 : AP mg} {N0 : AP mg} {H0 : Hp} (r : Rep N0 H0 (.cell n) v) (ht : ∀ n a, N0.t n = some a → W.t n = some a) (e : ρ[hi]? = some (Slot.hp cs)) (ed : cs[n]? = some d) : ∃ a, v = .ref a ∧ W.t n = some a ∧ W a ∧ CTop (Eo W B) H a d := by
  obtain ⟨a, ea, ev⟩ := r
  have q : HpOk W B H cs := s.slot hi _ e
  obtain ⟨d', e1, w, t⟩ := q.w (ht n a ea)
  rw [ed] at e1
  cases e1
  exact ⟨a, ev, ht n a ea, w, t⟩
theorem rdOs_cons {mg : Str → Option Value} {o : Opd} {os : List Opd} (ho : o.Evo) (hos : ∀ o ∈ os, o.Evo) {σ : L2.St} {H : Hp} {Q : List V → Hp → Prop} (h : rdOs mg Wx (o :: os) σ H Q) :
    rdO mg Wx o σ H fun x H1 => rdOs mg Wx os σ H1 fun xs H2 => Q (x :: xs) H2 := by
  obtain ⟨W, B, ρ, s, a⟩ := h
  cases o with
  | ev f =>
    refine ⟨W, B, ρ, s, After.mono (After.bind a) fun W1 H1 r ρ1 e1 fr1 a1 v hv => ?_⟩
    obtain ⟨W0, B1, hW, s1, hB, hp, hu⟩ := hv.park
    have hu' : ∀ W' H' ρ', Evo ρ1 ρ' → St W' B1 σ H' ρ' → St W' B σ H' ρ' := fun W' H' ρ' ev => hu σ ρ' H' W' fun i d q => ⟨ev.bor i d q, rfl⟩
    refine ⟨W0, B1, ρ1, s1, After.park (ρ1 := ρ1) (After.mono (After.bind (a1.sub hW)) fun W2 H2 ds ρ2 e2 fr2 a2 vs s2 r2 => ?_) hB (fun r q => evo_evs hos _ _ q) hu'⟩
    exact a2.here (v :: vs) (hu' W2 H2 ρ2 (evo_evs hos _ _ e2) s2) ⟨v, vs, rfl, (hp W2 H2 fr2).less (.bb hB), PReps.less (.bb hB) r2⟩
  | sl i =>
    have a := After.bind a
    unfold needSl at a
    split at a
    · rename_i d e
      obtain ⟨v, e1, _⟩ := s.at e
      refine ⟨v, sv_some e1, W, B, ρ, s, After.mono (After.bind a.here) fun W2 H2 ds ρ2 e2 fr2 a2 vs s2 r2 => ?_⟩
      unfold getSl at a2
      split at a2
      · rename_i d2 e3
        obtain ⟨v2, e4, r4⟩ := s2.at e3
        rw [e1] at e4
        cases e4
        exact a2.here (v :: vs) s2 ⟨v, vs, rfl, r4, r2⟩
      · exact a2.elim
    · exact a.elim
  | dr hi f =>
    refine ⟨W, B, ρ, s, After.mono (After.bind a) fun W1 H1 r ρ1 e1 fr1 a1 v hv => ⟨W1, B, ρ1, hv.st, (After.bind a1).mono fun W2 H2 ds ρ2 e2 fr2 a2 vs s2 r2 => ?_⟩⟩
    cases q : getCe hi r ds ρ2 with
    | none => rw [q] at a2; exact a2.elim
    | some o =>
      obtain ⟨n, cs, d, rfl, eh, ed, rfl, no⟩ := getCe_some q
      rw [q] at a2
      obtain ⟨a, rfl, _, _, t⟩ := s2.cell (W0 := W2) hv.2 fr2.tab eh ed
      exact a2.here (.ref a :: vs) s2 ⟨.ref a, vs, rfl, t.prep no, r2⟩
theorem rdOs_nil {mg : Str → Option Value} {σ : L2.St} {H : Hp} {Q : List V → Hp → Prop} (h : rdOs mg Wx [] σ H Q) : Q [] H := by
  obtain ⟨W, B, ρ, s, a⟩ := h
  exact a.here [] s rfl
structure DOs (X : Cx) (Wx : WX) (es : List Expr) (os : List Opd) : Prop where
  pa : PA X es (rdOs X.mg Wx os)
  evo : ∀ o ∈ os, o.Evo
theorem dos_nil : DOs X Wx [] [] := ⟨pa_imp pa_nil fun _ _ _ h => rdOs_nil h, fun _ z => nomatch z⟩
theorem dos_cons {e : Expr} {es : List Expr} {o : Opd} {os : List Opd} (h1 : DO X Wx e o) (h2 : DOs X Wx es os) (hs : starEach (e :: es) X.env = (false, eval e X.env) :: starEach es X.env := by rfl) : DOs X Wx (e :: es) (o :: os) :=
  ⟨pa_imp (pa_cons h1.pe h2.pa hs) fun _ _ _ h => rdOs_cons h1.evo h2.evo h, fun z hz => by
    rcases List.mem_cons.mp hz with e | k
    · rw [e]; exact h1.evo
    · exact h2.evo z k⟩

/-! ### operators by values -/
def ap2 (g : D → D → Option R) : List D → Option R
  | [a, b] => g a b
  | _ => none
def ap1 (g : D → Option R) : List D → Option R
  | [a] => g a
  | _ => none
theorem ap2_some {g : D → D → Option R} {ds : List D} {r : R} (h : ap2 g ds = some r) : ∃ a b, ds = [a, b] ∧ g a b = some r := by
  unfold ap2 at h
  split at h
  · exact ⟨_, _, rfl, h⟩
  · cases h
theorem ap1_some {g : D → Option R} {ds : List D} {r : R} (h : ap1 g ds = some r) : ∃ a, ds = [a] ∧ g a = some r := by
  unfold ap1 at h
  split at h
  · exact ⟨_, rfl, h⟩
  · cases h
theorem After.opt {mg : Str → Option Value} {Wx : WX} {W B : AP mg} {σ : L2.St} {H : Hp} {α : Type} {o : Option α} {ρ : Env} {Q : AP mg → Hp → α → Env → Prop} (h : After mg Wx W B σ H (mopt o ρ) Q) : ∃ a, o = some a ∧ ∀ W' H', Fr W H W' H' → Q W' H' a ρ := by
  cases o with
  | none => exact h.elim
  | some a => exact ⟨a, rfl, h⟩
def f2 (o1 o2 : Opd) (g : D → D → Option R) : M R := mbind (evs [o1, o2]) fun ds => mopt (ap2 g ds)
def f1 (o : Opd) (g : D → Option R) : M R := mbind (evs [o]) fun ds => mopt (ap1 g ds)
theorem evo_f2 {o1 o2 : Opd} {g : D → D → Option R} (h1 : o1.Evo) (h2 : o2.Evo) : EvoF (f2 o1 o2 g) :=
  evo_bind (evo_evs fun o z => by rcases List.mem_cons.mp z with e | z; exact e ▸ h1; rcases List.mem_cons.mp z with e | z; exact e ▸ h2; exact nomatch z) fun ds => evo_opt _
theorem evo_f1 {o1 : Opd} {g : D → Option R} (h1 : o1.Evo) : EvoF (f1 o1 g) :=
  evo_bind (evo_evs fun o z => by rcases List.mem_cons.mp z with e | z; exact e ▸ h1; exact nomatch z) fun ds => evo_opt _
/-- what a rule by values gives, on data -/
def VR2 (r : R2) (g : D → D → Option R) : Prop := ∀ {mg : Str → Option Value} (W B : AP mg) (σ : L2.St) (H : Hp) (ρ : Env) (x y : V) (a b : D) (res : R) (Q : VK), St W B σ H ρ → PRep (Eo W B) H a x → PRep (Eo W B) H b y → g a b = some res →
  (∀ W' H' v, Fr W H W' H' → VOk W' B σ H' ρ v res → Q v H') → r x y H Q
def VR1 (r : V → Hp → VK → Prop) (g : D → Option R) : Prop := ∀ {mg : Str → Option Value} (W B : AP mg) (σ : L2.St) (H : Hp) (ρ : Env) (x : V) (a : D) (res : R) (Q : VK), St W B σ H ρ → PRep (Eo W B) H a x → g a = some res →
  (∀ W' H' v, Fr W H W' H' → VOk W' B σ H' ρ v res → Q v H') → r x H Q
theorem rd2 {mg : Str → Option Value} {o1 o2 : Opd} {g : D → D → Option R} {r : R2} (hr : VR2 r g) (h1 : o1.Evo) (h2 : o2.Evo) {σ : L2.St} {H : Hp} {Q : VK} (h : rdE mg Wx (f2 o1 o2 g) σ H Q) :
    tOp r (rdO mg Wx o1) (rdO mg Wx o2) σ H Q := by
  obtain ⟨W, B, ρ, s, a⟩ := h
  have h : rdOs mg Wx [o1, o2] σ H fun vs H2 => ∃ x y, vs = [x, y] ∧ r x y H2 Q := by
    refine ⟨W, B, ρ, s, After.mono (After.bind a) fun W' H' ds ρ' _ _ a' vs s' rs => ?_⟩
    obtain ⟨res, k, a2⟩ := a'.opt
    obtain ⟨d, e, rfl, k⟩ := ap2_some k
    obtain ⟨x, _, rfl, p, y, _, rfl, q, z⟩ := rs
    rw [show _ = [] from z]
    exact ⟨x, y, rfl, hr W' B σ H' ρ' x y d e res Q s' p q k fun W2 H2 v f hv => a2 W2 H2 f v hv⟩
  have mem1 : ∀ o ∈ [o2], o.Evo := fun o z => by rcases List.mem_cons.mp z with e | z; exact e ▸ h2; exact nomatch z
  have mono : ∀ {o : Opd} {σ : L2.St} {H : Hp} {Q Q' : VK}, rdO mg Wx o σ H Q → (∀ v H, Q v H → Q' v H) → rdO mg Wx o σ H Q' := fun {o} {σ H Q Q'} q i => by
    cases o with
    | ev f => obtain ⟨W, B, ρ, s, a⟩ := q; exact ⟨W, B, ρ, s, a.mono fun W' H' r ρ' _ _ k v hv => i v H' (k v hv)⟩
    | sl j => obtain ⟨v, e, q⟩ := q; exact ⟨v, e, i _ _ q⟩
    | dr hi f => obtain ⟨W, B, ρ, s, a⟩ := q; exact ⟨W, B, ρ, s, a.mono fun W' H' r ρ' _ _ k v hv => i v H' (k v hv)⟩
  refine mono (rdOs_cons h1 mem1 h) fun x H1 q => mono (rdOs_cons (os := []) h2 (fun _ z => (List.not_mem_nil z).elim) q) fun y H2 q => ?_
  obtain ⟨x', y', e, k⟩ := rdOs_nil q
  cases e
  exact k
theorem rd1 {mg : Str → Option Value} {o1 : Opd} {g : D → Option R} {r : V → Hp → VK → Prop} (hr : VR1 r g) (h1 : o1.Evo) {σ : L2.St} {H : Hp} {Q : VK} (h : rdE mg Wx (f1 o1 g) σ H Q) :
    rdO mg Wx o1 σ H fun x H1 => r x H1 Q := by
  obtain ⟨W, B, ρ, s, a⟩ := h
  have h : rdOs mg Wx [o1] σ H fun vs H2 => ∃ x, vs = [x] ∧ r x H2 Q := by
    refine ⟨W, B, ρ, s, After.mono (After.bind a) fun W' H' ds ρ' _ _ a' vs s' rs => ?_⟩
    obtain ⟨res, k, a2⟩ := a'.opt
    obtain ⟨d, rfl, k⟩ := ap1_some k
    obtain ⟨x, _, rfl, p, z⟩ := rs
    rw [show _ = [] from z]
    exact ⟨x, rfl, hr W' B σ H' ρ' x d res Q s' p k fun W2 H2 v f hv => a2 W2 H2 f v hv⟩
  have mono : ∀ {o : Opd} {σ : L2.St} {H : Hp} {Q Q' : VK}, rdO mg Wx o σ H Q → (∀ v H, Q v H → Q' v H) → rdO mg Wx o σ H Q' := fun {o} {σ H Q Q'} q i => by
    cases o with
    | ev f => obtain ⟨W, B, ρ, s, a⟩ := q; exact ⟨W, B, ρ, s, a.mono fun W' H' r ρ' _ _ k v hv => i v H' (k v hv)⟩
    | sl j => obtain ⟨v, e, q⟩ := q; exact ⟨v, e, i _ _ q⟩
    | dr hi f => obtain ⟨W, B, ρ, s, a⟩ := q; exact ⟨W, B, ρ, s, a.mono fun W' H' r ρ' _ _ k v hv => i v H' (k v hv)⟩
  refine mono (rdOs_cons (os := []) h1 (fun _ z => (List.not_mem_nil z).elim) h) fun x H1 q => ?_
  obtain ⟨x', e, k⟩ := rdOs_nil q
  cases e
  exact k
theorem de_bin {a b : Expr} {op : Operator} {o1 o2 : Opd} {g : D → D → Option R} {r : R2} (ho : OpR X (binaryOp op) r) (hr : VR2 r g) (h1 : DO X Wx a o1) (h2 : DO X Wx b o2) : DE X Wx (.BinOp a op b pos) (f2 o1 o2 g) :=
  ⟨pe_imp (pe_op ho h1.pe h2.pe) fun _ _ _ h => rd2 hr h1.evo h2.evo h, evo_f2 h1.evo h2.evo⟩
theorem de_cmp {a b : Expr} {op : CmpOp} {o1 o2 : Opd} {g : D → D → Option R} {r : R2} (ho : OpR X (compareOp op) r) (hr : VR2 r g) (h1 : DO X Wx a o1) (h2 : DO X Wx b o2) (hm : behindInMarks op b = false) : DE X Wx (.Compare a [op] [b] pos) (f2 o1 o2 g) :=
  ⟨pe_imp (pe_cmpR ho h1.pe h2.pe hm) fun _ _ _ h => rd2 hr h1.evo h2.evo h, evo_f2 h1.evo h2.evo⟩
theorem de_un {a : Expr} {op : UnaryOp} {o1 : Opd} {g : D → Option R} {r : V → Hp → VK → Prop} (ho : UnR X (unaryOp op) r) (hr : VR1 r g) (h1 : DO X Wx a o1) : DE X Wx (.UnaryOp op a pos) (f1 o1 g) :=
  ⟨pe_imp (pe_un ho h1.pe) fun _ _ _ h => rd1 hr h1.evo h, evo_f1 h1.evo⟩

/-! ### values that go into something -/
def evF : List (M R) → M (List D)
  | [] => mret []
  | f :: fs => mbind f fun r => mbind (evF fs) fun ds => mret (r.d :: ds)
theorem evo_evF : ∀ {fs : List (M R)}, (∀ f ∈ fs, EvoF f) → EvoF (evF fs)
  | [], _ => evo_ret _
  | f :: fs, h => evo_bind (h _ List.mem_cons_self) fun _ => evo_bind (evo_evF fun o z => h o (List.mem_cons_of_mem _ z)) fun _ => evo_ret _
def rdF (mg : Str → Option Value) (Wx : WX) (fs : List (M R)) : TA := fun σ H Q => ∃ W B ρ, St W B σ H ρ ∧ After mg Wx W B σ H (evF fs ρ) fun W' H' ds ρ' => ∀ vs, St W' B σ H' ρ' → Reps (Eo W' B) H' ds vs → Q vs H'
theorem rdF_cons {mg : Str → Option Value} {f : M R} {fs : List (M R)} {σ : L2.St} {H : Hp} {Q : List V → Hp → Prop} (h : rdF mg Wx (f :: fs) σ H Q) :
    rdE mg Wx f σ H fun x H1 => rdF mg Wx fs σ H1 fun xs H2 => Q (x :: xs) H2 := by
  obtain ⟨W, B, ρ, s, a⟩ := h
  refine ⟨W, B, ρ, s, After.mono (After.bind a) fun W1 H1 r ρ1 e1 fr1 a1 v hv => ?_⟩
  obtain ⟨W0, hW, s1, r1⟩ := hv.any
  refine ⟨W0, B, ρ1, s1, After.mono (After.bind (a1.sub hW)) fun W2 H2 ds ρ2 e2 fr2 a2 vs s2 r2 => ?_⟩
  exact a2.here (v :: vs) s2 ⟨v, vs, rfl, r1.fr fr2, r2⟩
structure DF (X : Cx) (Wx : WX) (es : List Expr) (fs : List (M R)) : Prop where
  pa : PA X es (rdF X.mg Wx fs)
  evo : ∀ f ∈ fs, EvoF f
theorem df_nil : DF X Wx [] [] := ⟨pa_imp pa_nil fun _ _ _ ⟨W, B, ρ, s, a⟩ => a.here [] s rfl, fun _ z => nomatch z⟩
theorem df_cons {e : Expr} {es : List Expr} {f : M R} {fs : List (M R)} (h1 : DE X Wx e f) (h2 : DF X Wx es fs) (hs : starEach (e :: es) X.env = (false, eval e X.env) :: starEach es X.env := by rfl) : DF X Wx (e :: es) (f :: fs) :=
  ⟨pa_imp (pa_cons h1.pe h2.pa hs) fun _ _ _ h => rdF_cons h, fun z hz => by
    rcases List.mem_cons.mp hz with e | k
    · rw [e]; exact h1.evo
    · exact h2.evo z k⟩
/-- a new tuple: frozen -/
theorem St.new {W B : AP mg} {σ : L2.St} {H : Hp} {ρ : Env} {p : Addr} {o : HO} (s : St W B σ H ρ) (hp : H p = none) : St W B σ (upd H p o) ρ := by
  have fr : Fr W H W (upd H p o) := Fr.new hp
  have keepAll : ∀ a u, H a = some u → ¬ (fun _ : Addr => False) a → upd H p o a = some u := fun a u e _ => by rw [upd_ne (ne_of_none e hp)]; exact e
  have hR : Lf (Eo W B) (Eo W B) H := ⟨fun a z => .inl z, fun _ _ e => e⟩
  refine ⟨s.len, fun i t e => ?_, fun a z => ?_, s.dis, s.apart, s.hpa, s.hp1⟩
  · have q := s.slot i t e
    cases t with
    | emp => trivial
    | frz d => obtain ⟨x, e1, r⟩ := q; exact ⟨x, e1, r.fr fr⟩
    | own d => obtain ⟨x, e1, w, r⟩ := q; exact ⟨x, e1, w, Top.mono (M := fun _ => False) hR keepAll (fun _ z => z.elim) (fun z => z) r⟩
    | lent d => obtain ⟨x, e1, w, r⟩ := q; exact ⟨x, e1, w, Top.mono (M := fun _ => False) hR keepAll (fun _ z => z.elim) (fun z => z) r⟩
    | bor d => obtain ⟨x, e1, w, r⟩ := q; exact ⟨x, e1, w, Top.mono (M := fun _ => False) hR keepAll (fun _ z => z.elim) (fun z => z) r⟩
    | hp cs => exact HpOk.mono (M := fun _ => False) q hR keepAll (fun _ z => z.elim) (fun _ _ _ z => z) (fun _ _ _ w => w) rfl rfl
  · have q := s.dom a z
    unfold upd
    split
    · simp
    · exact q
theorem St.newB {W B : AP mg} {σ : L2.St} {H : Hp} {ρ : Env} {p : Addr} {o : HO} (s : St W B σ H ρ) (hp : H p = none) : St W (Pl B p) σ (upd H p o) ρ := by
  have fr : Fr W H W (upd H p o) := Fr.new hp
  have keepAll : ∀ a u, H a = some u → ¬ (fun _ : Addr => False) a → upd H p o a = some u := fun a u e _ => by rw [upd_ne (ne_of_none e hp)]; exact e
  have hN : Lf (Eo W (Pl B p)) (Eo W B) H := ⟨fun a z => by
    rcases z with z | z | z
    · exact .inl (.inl z)
    · exact .inl (.inr z)
    · subst z; exact .inr hp, fun _ _ e => e⟩
  have kO : ∀ a u, H a = some u → ¬ Eo W B a → upd H p o a = some u := fun a u e _ => keepAll a u e (fun z => z)
  refine ⟨s.len, fun i t e => ?_, fun a z => ?_, fun a w b => ?_, s.apart, s.hpa, s.hp1⟩
  · have q := s.slot i t e
    cases t with
    | emp => trivial
    | frz d => obtain ⟨x, e1, r⟩ := q; exact ⟨x, e1, Rep.mono hN kO _ _ r⟩
    | own d => obtain ⟨x, e1, w, r⟩ := q; exact ⟨x, e1, w, Top.mono (M := fun _ => False) hN keepAll (fun _ z => z.elim) (fun z => z) r⟩
    | lent d => obtain ⟨x, e1, w, r⟩ := q; exact ⟨x, e1, w, Top.mono (M := fun _ => False) hN keepAll (fun _ z => z.elim) (fun z => z) r⟩
    | bor d => obtain ⟨x, e1, w, r⟩ := q; exact ⟨x, e1, .inl w, Top.mono (M := fun _ => False) hN keepAll (fun _ z => z.elim) (fun z => z) r⟩
    | hp cs => exact HpOk.mono (M := fun _ => False) q hN keepAll (fun _ z => z.elim) (fun _ _ _ z => z) (fun _ _ _ w => w) rfl rfl
  · unfold upd
    split
    · simp
    · rename_i hne
      rcases z with z | z | z
      · exact s.dom a (.inl z)
      · exact s.dom a (.inr z)
      · exact absurd z hne
  · rcases b with b | b
    · exact s.dis a w b
    · subst b; exact s.dom a (.inl w) hp
theorem vok_tup {W B : AP mg} {σ : L2.St} {H : Hp} {ρ : Env} {p : Addr} {o : Obj} {ds : List D} {vs : List V} (hd : o.dict = none) (s : St W B σ H ρ) (r : Reps (Eo W B) H ds vs) (hp : H p = none) : VOk W B σ (upd H p (.frz o (.tup vs))) ρ (.ref p) (.frz (.tup ds)) :=
  ⟨s.new hp, p, vs, rfl, ⟨o, upd_same, hd⟩, fun z => by
    rcases z with z | z
    · exact s.dom p (.inl z) hp
    · exact s.dom p (.inr z) hp, r.fr (Fr.new hp)⟩
theorem Fr.newW {W : AP mg} {H : Hp} {p : Addr} {o : HO} (hp : H p = none) : Fr W H (Pl W p) (upd H p o) := ⟨fun a u e _ => by rw [upd_ne (ne_of_none e hp)]; exact e, fun a z => Or.elim z Or.inl fun k => Or.inr (by rw [k]; exact hp), fun _ _ e => e, fun _ => rfl, rfl⟩
theorem St.newW {W B : AP mg} {σ : L2.St} {H : Hp} {ρ : Env} {p : Addr} {o : HO} (s : St W B σ H ρ) (hp : H p = none) : St (Pl W p) B σ (upd H p o) ρ := by
  have q := s.newB (o := o) hp
  have hE : Ls (Eo (Pl W p) B) (Eo W (Pl B p)) := ⟨fun b z => by
    rcases z with (z | z) | z
    · exact .inl z
    · exact .inr (.inr z)
    · exact .inr (.inl z), rfl, rfl⟩
  refine ⟨s.len, fun i t e => ?_, fun a z => q.dom a (hE a z), fun a w b => ?_, s.apart, s.hpa, s.hp1⟩
  · have k := q.slot i t e
    cases t with
    | emp => trivial
    | frz d => obtain ⟨x, e1, r⟩ := k; exact ⟨x, e1, r.less hE⟩
    | own d => obtain ⟨x, e1, w, r⟩ := k; exact ⟨x, e1, .inl w, r.less hE⟩
    | lent d => obtain ⟨x, e1, w, r⟩ := k; exact ⟨x, e1, .inl w, r.less hE⟩
    | bor d =>
      obtain ⟨x, e1, w, r⟩ := k
      obtain ⟨y, e2, w2, r2⟩ := s.slot i _ e
      rw [e1] at e2
      cases e2
      exact ⟨x, e1, w2, r.less hE⟩
    | hp cs => exact HpOk.less k hE (fun _ _ _ w => .inl w) rfl rfl
  · rcases w with w | w
    · exact s.dis a w b
    · subst w; exact s.dom a (.inr b) hp
/-- a new object that holds its own: no name is at it -/
theorem St.noname {W B : AP mg} {σ : L2.St} {H : Hp} {ρ : Env} {p : Addr} (s : St W B σ H ρ) (hp : H p = none) : ∀ i t, ρ[i]? = some t → t.wr = true → sv σ i ≠ some (.ref p) := fun i t e w ev => by
  obtain ⟨a, d, _, e1, wa, tp⟩ := s.wr_at e w
  rw [ev] at e1
  cases e1
  exact s.dom _ (.inl wa) hp
theorem St.free {W B : AP mg} {σ : L2.St} {H : Hp} {ρ : Env} {p : Addr} (s : St W B σ H ρ) (hp : H p = none) : Free (Pl W p) σ ρ p := ⟨s.noname hp, fun j cs n e e1 => by
  have q : HpOk W B H cs := s.slot j _ e
  obtain ⟨d, hd⟩ : ∃ d, cs[n]? = some d := ⟨_, List.getElem?_eq_getElem (q.lt n p e1)⟩
  obtain ⟨a, e2, w, t⟩ := q.at_ n d hd
  have e1 : W.t n = some p := e1
  rw [e1] at e2
  cases e2
  exact t.trk hp⟩
theorem vok_lst {W B : AP mg} {σ : L2.St} {H : Hp} {ρ : Env} {p : Addr} {ds : List D} {vs : List V} (s : St W B σ H ρ) (r : Reps (Eo W B) H ds vs) (hp : H p = none) : VOk (Pl W p) B σ (upd H p (.lst vs)) ρ (.ref p) (.own (.lst ds)) := by
  refine ⟨p, rfl, .inr rfl, s.newW hp, ⟨vs, upd_same, ?_⟩, s.free hp⟩
  refine Reps.mono (N := Eo W B) (N' := Eo (Pl W p) B) (H' := upd H p (.lst vs)) ⟨fun a z => ?_, fun _ _ e => e⟩ (fun a o e _ => by rw [upd_ne (ne_of_none e hp)]; exact e) _ _ r
  rcases z with (z | z) | z
  · exact .inl (.inl z)
  · subst z; exact .inr hp
  · exact .inl (.inr z)
def fTup (fs : List (M R)) : M R := mbind (evF fs) fun ds => mopt (if ds.length ≤ sizeLine then some (.frz (.tup ds)) else none)
def fLst (fs : List (M R)) : M R := mbind (evF fs) fun ds => mopt (if ds.length ≤ sizeLine then some (.own (.lst ds)) else none)
theorem de_tup {es : List Expr} {fs : List (M R)} {x1} (h : DF X Wx es fs) : DE X Wx (.Tuple es x1 pos) (fTup fs) := by
  refine ⟨pe_imp (pe_tupZ h.pa) fun σ H Q ⟨W, B, ρ, s, a⟩ => ?_, evo_bind (evo_evF h.evo) fun _ => evo_opt _⟩
  refine ⟨W, B, ρ, s, After.mono (After.bind a) fun W1 H1 ds ρ1 e1 fr1 a1 vs s1 r1 => ?_⟩
  split at a1
  · rename_i hz
    refine ⟨by rw [r1.length]; exact hz, fun p o hp hd => a1 W1 _ (Fr.new hp) _ (vok_tup hd s1 r1 hp)⟩
  · exact a1.elim
theorem de_lst {es : List Expr} {fs : List (M R)} (h : DF X Wx es fs) : DE X Wx (.List es pos) (fLst fs) := by
  refine ⟨pe_imp (pe_lst h.pa) fun σ H Q ⟨W, B, ρ, s, a⟩ => ?_, evo_bind (evo_evF h.evo) fun _ => evo_opt _⟩
  refine ⟨W, B, ρ, s, After.mono (After.bind a) fun W1 H1 ds ρ1 e1 fr1 a1 vs s1 r1 => ?_⟩
  split at a1
  · rename_i hz
    refine ⟨by rw [r1.length]; exact hz, fun p hp => a1 _ _ (Fr.newW hp) _ (vok_lst s1 r1 hp)⟩
  · exact a1.elim
end
end Dz
/-! Dz 3: operators on data. -/
namespace Dz
open PySem PySem.Spec PyProof.Rows L2

theorem PRep.lst' {N : AP mg} {H : Hp} {ds : List D} {v : V} (h : PRep N H (.lst ds) v) : ∃ a vs, v = .ref a ∧ H a = some (.lst vs) ∧ Reps N H ds vs := h.lst
theorem PRep.scr {N : AP mg} {H : Hp} {ns : List Int} {v : V} (h : PRep N H (.scr ns) v) : ∃ a, v = .ref a ∧ Rd H a (.lst (ns.map V.int)) := by
  rcases h with ⟨a, e, r, _⟩ | ⟨a, e, h⟩
  · exact ⟨a, e, r⟩
  · exact h.elim
theorem vok_flat {W B : AP mg} {σ : L2.St} {H : Hp} {ρ : Env} {v : V} {d : D} (s : St W B σ H ρ) (r : Rep (Eo W B) H d v) : VOk W B σ H ρ v (.frz d) := ⟨s, r⟩

/-! ### whole numbers, texts, lists, tuples: + - * // % ** -/
instance (i j : Int) : Decidable (CMul i j) := by unfold CMul; infer_instance
instance (i j : Int) : Decidable (CMulW i j) := by unfold CMulW; infer_instance
instance (i j : Int) : Decidable (CDivW i j) := by unfold CDivW; infer_instance
instance (i j : Int) : Decidable (CPow i j) := by unfold CPow; infer_instance
def MulOk (i j : Int) : Prop := CMul i j ∨ CMulW i j
instance (i j : Int) : Decidable (MulOk i j) := by unfold MulOk; infer_instance
def addD : D → D → Option R
  | .int i, .int j => some (.frz (.int (i + j)))
  | .str x, .str y => if x.length + y.length ≤ sizeLine then some (.frz (.str (x ++ y))) else none
  | .tup xs, .tup ys => if xs.length + ys.length ≤ sizeLine then some (.frz (.tup (xs ++ ys))) else none
  | .lst xs, .lst ys => if xs.length + ys.length ≤ sizeLine then some (.own (.lst (xs ++ ys))) else none
  | _, _ => none
def subD : D → D → Option R
  | .int i, .int j => some (.frz (.int (i - j)))
  | _, _ => none
def mulD : D → D → Option R
  | .int i, .int j => if MulOk i j then some (.frz (.int (i * j))) else none
  | .lst xs, .int k => if -(2 ^ 63) ≤ k ∧ k < 2 ^ 63 ∧ xs.length * k.toNat ≤ sizeLine then some (.own (.lst (List.replicate k.toNat xs).flatten)) else none
  | _, _ => none
def fdivD : D → D → Option R
  | .int i, .int j => if CDivW i j then some (.frz (.int (i / j))) else none
  | _, _ => none
def modD : D → D → Option R
  | .int i, .int j => if 0 < j then some (.frz (.int (i % j))) else none
  | _, _ => none
def powD : D → D → Option R
  | .int i, .int j => if CPow i j then some (.frz (.int (i ^ j.toNat))) else none
  | _, _ => none
def negD : D → Option R
  | .int i => some (.frz (.int (-i)))
  | _ => none
section
variable {X : Cx}
def rAddS : R2 := fun x y H Q => ∃ i j, x = .str i ∧ y = .str j ∧ i.length + j.length ≤ sizeLine ∧ Q (.str (i ++ j)) H
def rAddD (K : PySem.W.Frag) : R2 := fun x y H Q => rI0 (fun i j => .int (i + j)) x y H Q ∨ rAddS x y H Q ∨ rCatZ K x y H Q ∨ rCat x y H Q
theorem op_addD : OpR X (binaryOp .Add) (rAddD X.K) := op_add.or (OpR.or (r := rAddS) op_add_str (op_catZ.or op_cat))
theorem vr_add {K : PySem.W.Frag} : VR2 (rAddD K) addD := by
  intro mg W B σ H ρ x y a b res Q s hx hy hg hq
  unfold addD at hg
  split at hg
  · cases hg
    exact .inl ⟨_, _, hx.int, hy.int, hq W H _ Fr.refl ⟨s, rfl⟩⟩
  · split at hg
    · rename_i hz
      cases hg
      exact .inr (.inl ⟨_, _, hx.str, hy.str, hz, hq W H _ Fr.refl ⟨s, rfl⟩⟩)
    · cases hg
  · rename_i xs ys
    split at hg
    · rename_i hz
      cases hg
      obtain ⟨p, vs, rfl, hp, np, rp⟩ := hx.tup
      obtain ⟨q, ws, rfl, hq', nq, rq⟩ := hy.tup
      refine .inr (.inr (.inl ⟨p, q, vs, ws, rfl, rfl, hp.sq, hq'.sq, by rw [rp.length, rq.length]; exact hz, fun e => ?_, fun _ e => ?_, fun _ _ t o ht hd => ?_⟩))
      · subst e
        have : xs = [] := by cases xs with | nil => rfl | cons _ _ => obtain ⟨_, _, e, _⟩ := rp; cases e
        subst this
        exact hq W H _ Fr.refl ⟨s, q, ws, rfl, hq', nq, rq⟩
      · subst e
        have : ys = [] := by cases ys with | nil => rfl | cons _ _ => obtain ⟨_, _, e, _⟩ := rq; cases e
        subst this
        rw [List.append_nil] at hq
        exact hq W H _ Fr.refl ⟨s, p, vs, rfl, hp, np, rp⟩
      · exact hq W _ _ (Fr.new ht) (vok_tup hd s (rp.append rq) ht)
    · cases hg
  · split at hg
    · rename_i hz
      cases hg
      obtain ⟨p, vs, rfl, hp, rp⟩ := hx.lst'
      obtain ⟨q, ws, rfl, hq', rq⟩ := hy.lst'
      refine .inr (.inr (.inr ⟨p, q, vs, ws, rfl, rfl, hp, hq', by rw [rp.length, rq.length]; exact hz, fun t ht => ?_⟩))
      exact hq _ _ _ (Fr.newW ht) (vok_lst s (rp.append rq) ht)
    · cases hg
  · cases hg
theorem vr_sub : VR2 (rI0 fun i j => .int (i - j)) subD := by
  intro mg W B σ H ρ x y a b res Q s hx hy hg hq
  unfold subD at hg
  split at hg
  · cases hg
    exact ⟨_, _, hx.int, hy.int, hq W H _ Fr.refl ⟨s, rfl⟩⟩
  · cases hg
def rMulD : R2 := fun x y H Q => rI CMul (fun i j => .int (i * j)) x y H Q ∨ rI CMulW (fun i j => .int (i * j)) x y H Q ∨ rRep x y H Q
theorem op_mulD : OpR X (binaryOp .Mult) rMulD := op_mul.or (op_mulW.or op_rep)
theorem reps_rep {N : AP mg} {H : Hp} {ds : List D} {vs : List V} (r : Reps N H ds vs) : ∀ n : Nat, Reps N H (List.replicate n ds).flatten (List.replicate n vs).flatten
  | 0 => rfl
  | n + 1 => by
    rw [List.replicate_succ, List.replicate_succ, List.flatten_cons, List.flatten_cons]
    exact r.append (reps_rep r n)
theorem vr_mul : VR2 rMulD mulD := by
  intro mg W B σ H ρ x y a b res Q s hx hy hg hq
  unfold mulD at hg
  split at hg
  · split at hg
    · rename_i hz
      cases hg
      rcases hz with hz | hz
      · exact .inl ⟨_, _, hx.int, hy.int, hz, hq W H _ Fr.refl ⟨s, rfl⟩⟩
      · exact .inr (.inl ⟨_, _, hx.int, hy.int, hz, hq W H _ Fr.refl ⟨s, rfl⟩⟩)
    · cases hg
  · split at hg
    · rename_i hz
      cases hg
      obtain ⟨p, vs, rfl, hp, rp⟩ := hx.lst'
      refine .inr (.inr ⟨p, _, vs, rfl, hy.int, hp, hz.1, hz.2.1, by rw [rp.length]; exact hz.2.2, fun t ht => ?_⟩)
      exact hq _ _ _ (Fr.newW ht) (vok_lst s (reps_rep rp _) ht)
    · cases hg
  · cases hg
theorem vr_fdiv : VR2 (rI CDivW fun i j => .int (i / j)) fdivD := by
  intro mg W B σ H ρ x y a b res Q s hx hy hg hq
  unfold fdivD at hg
  split at hg
  · split at hg
    · rename_i hz
      cases hg
      exact ⟨_, _, hx.int, hy.int, hz, hq W H _ Fr.refl ⟨s, rfl⟩⟩
    · cases hg
  · cases hg
theorem vr_mod : VR2 (rI (fun _ j => 0 < j) fun i j => .int (i % j)) modD := by
  intro mg W B σ H ρ x y a b res Q s hx hy hg hq
  unfold modD at hg
  split at hg
  · split at hg
    · rename_i hz
      cases hg
      exact ⟨_, _, hx.int, hy.int, hz, hq W H _ Fr.refl ⟨s, rfl⟩⟩
    · cases hg
  · cases hg
theorem vr_pow : VR2 (rI CPow fun i j => .int (i ^ j.toNat)) powD := by
  intro mg W B σ H ρ x y a b res Q s hx hy hg hq
  unfold powD at hg
  split at hg
  · split at hg
    · rename_i hz
      cases hg
      exact ⟨_, _, hx.int, hy.int, hz, hq W H _ Fr.refl ⟨s, rfl⟩⟩
    · cases hg
  · cases hg
theorem vr_neg : VR1 (rU fun i => .int (-i)) negD := by
  intro mg W B σ H ρ x a res Q s hx hg hq
  unfold negD at hg
  split at hg
  · cases hg
    exact ⟨_, hx.int, hq W H _ Fr.refl ⟨s, rfl⟩⟩
  · cases hg
variable {Wx : WX} {a b : Expr} {o1 o2 : Opd} {pos : Pos}
theorem de_add (h1 : DO X Wx a o1) (h2 : DO X Wx b o2) : DE X Wx (.BinOp a .Add b pos) (f2 o1 o2 addD) := de_bin op_addD vr_add h1 h2
theorem de_sub (h1 : DO X Wx a o1) (h2 : DO X Wx b o2) : DE X Wx (.BinOp a .Sub b pos) (f2 o1 o2 subD) := de_bin op_sub vr_sub h1 h2
theorem de_mul (h1 : DO X Wx a o1) (h2 : DO X Wx b o2) : DE X Wx (.BinOp a .Mult b pos) (f2 o1 o2 mulD) := de_bin op_mulD vr_mul h1 h2
theorem de_fdiv (h1 : DO X Wx a o1) (h2 : DO X Wx b o2) : DE X Wx (.BinOp a .FloorDiv b pos) (f2 o1 o2 fdivD) := de_bin op_fdivW vr_fdiv h1 h2
theorem de_mod (h1 : DO X Wx a o1) (h2 : DO X Wx b o2) : DE X Wx (.BinOp a .Mod b pos) (f2 o1 o2 modD) := de_bin op_mod vr_mod h1 h2
theorem de_pow (h1 : DO X Wx a o1) (h2 : DO X Wx b o2) : DE X Wx (.BinOp a .Pow b pos) (f2 o1 o2 powD) := de_bin op_pow vr_pow h1 h2
theorem de_neg (h1 : DO X Wx a o1) : DE X Wx (.UnaryOp .USub a pos) (f1 o1 negD) := de_un un_neg vr_neg h1
end

/-! ### as the library's data -/
mutual
def py : D → PyData
  | .non => .none
  | .bl b => .bool b
  | .int i => .int i
  | .str s => .str s
  | .tup xs => .tuple (pys xs)
  | .lst xs => .list (pys xs)
  | .dK _ _ => .dict []
  | .dT _ _ => .dict []
  | .scr _ => .dict []
  | .tpl _ => .dict []
  | .cell _ => .dict []
  | .obj _ _ _ => .dict []
def pys : List D → List PyData
  | [] => []
  | x :: xs => py x :: pys xs
end
theorem pys_map : ∀ xs : List D, pys xs = xs.map py
  | [] => rfl
  | x :: xs => by rw [List.map_cons, ← pys_map xs]; rfl
/-- it may be compared -/
def okD (d : D) : Bool := SeqAt.shaped (py d)
mutual
theorem Rep.dp {K : PySem.W.Frag} {N : AP mg} {H : Hp} : ∀ (d : D) (v : V), Rep N H d v → (py d).canLay0 = true → Dp K H v (py d)
  | .non, _, h, _ => by rw [show _ = V.non from h]; exact .non
  | .bl b, _, h, _ => by rw [show _ = V.bl b from h]; exact .bl b
  | .int i, _, h, _ => by rw [show _ = V.int i from h]; exact .int i
  | .str i, _, h, _ => by rw [show _ = V.str i from h]; exact .str i
  | .tup ds, v, ⟨a, vs, e, hp, _, r⟩, c => by
    rw [e]
    exact .tup hp.sq (Reps.dp ds vs r c)
  | .lst ds, v, ⟨a, vs, e, hp, _, r⟩, c => by
    rw [e]
    exact .lst (SqL.of hp) (Reps.dp ds vs r c)
  | .dK _ _, _, _, c => by cases c
  | .dT _ _, _, _, c => by cases c
  | .scr _, _, _, c => by cases c
  | .tpl _, _, _, c => by cases c
  | .cell _, _, _, c => by cases c
  | .obj _ _ _, _, _, c => by cases c
theorem Reps.dp {K : PySem.W.Frag} {N : AP mg} {H : Hp} : ∀ (ds : List D) (vs : List V), Reps N H ds vs → PyData.canLayAll0 (pys ds) = true → DpAll K H vs (pys ds)
  | [], _, h, _ => by rw [show _ = [] from h]; exact .nil
  | d :: ds, vs, ⟨v, r, e, p, q⟩, c => by
    have c : ((py d).canLay0 && PyData.canLayAll0 (pys ds)) = true := c
    obtain ⟨c1, c2⟩ := Bool.and_eq_true_iff.mp c
    rw [e]
    exact .cons (Rep.dp d v p c1) (Reps.dp ds r q c2)
end
theorem PRep.dp {K : PySem.W.Frag} {N : AP mg} {H : Hp} {d : D} {v : V} (h : PRep N H d v) (c : okD d = true) : Dp K H v (py d) := by
  have c := (Bool.and_eq_true_iff.mp c).1
  rcases h with h | ⟨a, e, h⟩
  · exact Rep.dp d v h c
  · subst e
    cases d with
    | lst ds =>
      obtain ⟨vs, hp, r⟩ := h
      exact .lst (SqL.of hp) (Reps.dp ds vs r c)
    | dK _ _ => cases c
    | dT _ _ => cases c
    | _ => exact h.elim
def eqB (a b : D) : Bool := PyData.eqv (py a) (py b)
def eqD (a b : D) : Option R := if okD a = true ∧ okD b = true then some (.frz (.bl (eqB a b))) else none
def neD (a b : D) : Option R := if okD a = true ∧ okD b = true then some (.frz (.bl (!eqB a b))) else none
def ltD : D → D → Option R
  | .int i, .int j => some (.frz (.bl (decide (i < j))))
  | _, _ => none
def leD : D → D → Option R
  | .int i, .int j => some (.frz (.bl (decide (i ≤ j))))
  | _, _ => none
def gtD : D → D → Option R
  | .int i, .int j => some (.frz (.bl (decide (j < i))))
  | _, _ => none
def geD : D → D → Option R
  | .int i, .int j => some (.frz (.bl (decide (j ≤ i))))
  | _, _ => none
/-- a key -/
def keyD : D → Option Key
  | .int i => some (.inl i)
  | .str s => some (.inr s)
  | _ => none
def keyTs : List D → Option (List Key)
  | [] => some []
  | d :: ds => match keyD d, keyTs ds with
    | some k, some ks => some (k :: ks)
    | _, _ => none
def keyT : D → Option (List Key)
  | .tup ds => keyTs ds
  | _ => none
def inB : D → D → Option Bool
  | .str x, .str y => some (!(Builtin.Str.occurrences y x 0 y.length 1).isEmpty)
  | x, .lst ds => if okD x = true ∧ okD (.lst ds) = true then some (ds.any fun z => eqB z x) else none
  | x, .tup ds => if okD x = true ∧ okD (.tup ds) = true then some (ds.any fun z => eqB z x) else none
  | x, .dK ks _ => (keyD x).map fun k => ks.any fun k' => decide (k' = k)
  | _, _ => none
def inD (x y : D) : Option R := (inB x y).map fun b => .frz (.bl b)
def ninD (x y : D) : Option R := (inB x y).map fun b => .frz (.bl (!b))
section
variable {X : Cx}
theorem vr_eq {K : PySem.W.Frag} : VR2 (rEqD K) eqD := by
  intro mg W B σ H ρ x y a b res Q s hx hy hg hq
  unfold eqD at hg
  split at hg
  · rename_i hz
    cases hg
    exact ⟨_, _, hx.dp hz.1, hy.dp hz.2, hz.1, hz.2, hq W H _ Fr.refl ⟨s, rfl⟩⟩
  · cases hg
theorem vr_ne {K : PySem.W.Frag} : VR2 (rNeD K) neD := by
  intro mg W B σ H ρ x y a b res Q s hx hy hg hq
  unfold neD at hg
  split at hg
  · rename_i hz
    cases hg
    exact ⟨_, _, hx.dp hz.1, hy.dp hz.2, hz.1, hz.2, hq W H _ Fr.refl ⟨s, rfl⟩⟩
  · cases hg
theorem vr_lt : VR2 (rI0 fun i j => .bl (decide (i < j))) ltD := by
  intro mg W B σ H ρ x y a b res Q s hx hy hg hq
  unfold ltD at hg
  split at hg
  · cases hg
    exact ⟨_, _, hx.int, hy.int, hq W H _ Fr.refl ⟨s, rfl⟩⟩
  · cases hg
theorem vr_le : VR2 (rI0 fun i j => .bl (decide (i ≤ j))) leD := by
  intro mg W B σ H ρ x y a b res Q s hx hy hg hq
  unfold leD at hg
  split at hg
  · cases hg
    exact ⟨_, _, hx.int, hy.int, hq W H _ Fr.refl ⟨s, rfl⟩⟩
  · cases hg
theorem vr_gt : VR2 (rI0 fun i j => .bl (decide (j < i))) gtD := by
  intro mg W B σ H ρ x y a b res Q s hx hy hg hq
  unfold gtD at hg
  split at hg
  · cases hg
    exact ⟨_, _, hx.int, hy.int, hq W H _ Fr.refl ⟨s, rfl⟩⟩
  · cases hg
theorem vr_ge : VR2 (rI0 fun i j => .bl (decide (j ≤ i))) geD := by
  intro mg W B σ H ρ x y a b res Q s hx hy hg hq
  unfold geD at hg
  split at hg
  · cases hg
    exact ⟨_, _, hx.int, hy.int, hq W H _ Fr.refl ⟨s, rfl⟩⟩
  · cases hg
/-- in a tuple of data -/
def rInT (K : PySem.W.Frag) (neg : Bool) : R2 := fun x y H Q => ∃ d ds, Dp K H x d ∧ Dp K H y (.tuple ds) ∧ SeqAt.shaped d = true ∧ SeqAt.shaped (.tuple ds) = true ∧ Q (.bl (if neg then !(ds.any fun z => PyData.eqv z d) else ds.any fun z => PyData.eqv z d)) H
theorem room_tup {A : Around} {ds : List PyData} {d : PyData} (h : SeqAt.shaped d = true) (hu : A.units + 65 < cLine) : A.units + 1 + min (PyData.depthAll ds) d.depth < cLine := by
  have h1 := SeqAt.depth_of_shaped h
  omega
theorem op_inT (hu : X.A.units + 65 < cLine) : OpR X (compareOp .In) (rInT X.K false) := by
  intro pins s σ H x y v u Q I rx ry h
  obtain ⟨d, ds, hd, he, sd, se, q⟩ := h
  obtain ⟨as, r1⟩ := Dp.reads I d x v hd rx
  obtain ⟨bs, r2⟩ := Dp.reads I (.tuple ds) y u he ry
  exact SeqAt.in_tuple_reads r2 r1 (SeqAt.canLay_of_shaped se) (SeqAt.canLay_of_shaped sd) (room_tup sd hu) ⟨.bl _, H, I, rfl, q⟩
theorem op_notInT (hu : X.A.units + 65 < cLine) : OpR X (compareOp .NotIn) (rInT X.K true) := by
  intro pins s σ H x y v u Q I rx ry h
  obtain ⟨d, ds, hd, he, sd, se, q⟩ := h
  obtain ⟨as, r1⟩ := Dp.reads I d x v hd rx
  obtain ⟨bs, r2⟩ := Dp.reads I (.tuple ds) y u he ry
  exact SeqAt.notIn_tuple_reads r2 r1 (SeqAt.canLay_of_shaped se) (SeqAt.canLay_of_shaped sd) (room_tup sd hu) ⟨.bl _, H, I, rfl, q⟩
def rInDict (neg : Bool) : R2 := fun y x H Q => ∃ a o, x = .ref a ∧ DGet H a y o ∧ Q (.bl (if neg then !o.isSome else o.isSome)) H
theorem op_inDict (hu : X.A.units + 1 < cLine) : OpR X (compareOp .In) (rInDict false) := by
  intro pins s σ H y x iv u Q I ry rx ⟨a, ov, ex, g, q⟩
  subst ex
  obtain rfl : u = Value.ref a := rx
  exact d_in hu I g ry fun s3 I3 => ⟨.bl ov.isSome, H, I3, rfl, q⟩
theorem op_ninDict (hu : X.A.units + 1 < cLine) : OpR X (compareOp .NotIn) (rInDict true) := by
  intro pins s σ H y x iv u Q I ry rx ⟨a, ov, ex, g, q⟩
  subst ex
  obtain rfl : u = Value.ref a := rx
  exact d_notIn hu I g ry fun s3 I3 => ⟨.bl (!ov.isSome), H, I3, rfl, q⟩
def rInStr (neg : Bool) : R2 := fun x y H Q => ∃ i j, x = .str i ∧ y = .str j ∧ Q (.bl (if neg then !(!(Builtin.Str.occurrences j i 0 j.length 1).isEmpty) else !(Builtin.Str.occurrences j i 0 j.length 1).isEmpty)) H
def rInA (K : PySem.W.Frag) : R2 := fun x y H Q => rInStr false x y H Q ∨ rInD K x y H Q ∨ rInT K false x y H Q ∨ rInDict false x y H Q
def rNinA (K : PySem.W.Frag) : R2 := fun x y H Q => rInStr true x y H Q ∨ rNotInD K x y H Q ∨ rInT K true x y H Q ∨ rInDict true x y H Q
theorem op_inA (hu : X.A.units + 65 < cLine) : OpR X (compareOp .In) (rInA X.K) := OpR.or (r := rInStr false) op_in_str ((op_inD hu).or ((op_inT hu).or (op_inDict (by omega))))
theorem op_ninA (hu : X.A.units + 65 < cLine) : OpR X (compareOp .NotIn) (rNinA X.K) := OpR.or (r := rInStr true) op_notin_str ((op_notInD hu).or ((op_notInT hu).or (op_ninDict (by omega))))
theorem valV_some {κ : Type} [DecidableEq κ] {k : κ} : ∀ {kvs : List (κ × V)}, (valV kvs k).isSome = (kvs.map (·.1)).any fun k' => decide (k' = k)
  | [] => by simp [valV]
  | p :: r => by
    by_cases e : p.1 = k
    · rw [valV_pos e]; simp [e]
    · rw [valV_neg e, valV_some]
      simp [e]
theorem keyD_rep {N : AP mg} {H : Hp} {x : D} {v : V} {k : Key} (h : PRep N H x v) (e : keyD x = some k) : v = kV k := by
  unfold keyD at e
  split at e
  · cases e; exact h.int
  · cases e; exact h.str
  · cases e
theorem keyTs_rep {N : AP mg} {H : Hp} : ∀ {ds : List D} {vs : List V} {ks : List Key}, Reps N H ds vs → keyTs ds = some ks → vs = ks.map kV
  | [], vs, ks, h, e => by cases e; exact h
  | d :: ds, vs, ks, ⟨v, r, e1, p, q⟩, e => by
    unfold keyTs at e
    split at e
    · rename_i k ks' h1 h2
      cases e
      rw [e1, keyD_rep (.inl p) h1, keyTs_rep q h2]
      rfl
    · cases e
theorem dget_dK {N : AP mg} {H : Hp} {x : D} {v : V} {k : Key} {a : Addr} {kvs : List (Key × V)} (h : PRep N H x v) (e : keyD x = some k) (hp : H a = some (.dK kvs)) : DGet H a v (valV kvs k) :=
  .inl ⟨kvs, k, .inl hp, keyD_rep h e, rfl⟩
theorem any_map_py (ds : List D) (x : D) : (ds.any fun z => eqB z x) = (pys ds).any fun z => PyData.eqv z (py x) := by
  rw [pys_map, List.any_map]
  rfl
theorem vr_in {K : PySem.W.Frag} : VR2 (rInA K) inD := by
  intro mg W B σ H ρ x y a b res Q s hx hy hg hq
  unfold inD at hg
  cases e : inB a b with
  | none => rw [e] at hg; cases hg
  | some c =>
    rw [e] at hg
    cases hg
    have fin : Q (.bl c) H := hq W H _ Fr.refl ⟨s, rfl⟩
    unfold inB at e
    split at e
    · cases e
      exact .inl ⟨_, _, hx.str, hy.str, fin⟩
    · split at e
      · rename_i hz
        cases e
        refine .inr (.inl ⟨_, pys _, hx.dp hz.1, hy.dp hz.2, hz.1, hz.2, ?_⟩)
        rw [← any_map_py]
        exact fin
      · cases e
    · split at e
      · rename_i hz
        cases e
        refine .inr (.inr (.inl ⟨_, pys _, hx.dp hz.1, hy.dp hz.2, hz.1, hz.2, ?_⟩))
        rw [← any_map_py]
        exact fin
      · cases e
    · cases k : keyD a with
      | none => rw [k] at e; cases e
      | some k' =>
        rw [k] at e
        cases e
        obtain ⟨p, kvs, rfl, hp, rfl, _⟩ := hy.dK
        refine .inr (.inr (.inr ⟨p, _, rfl, dget_dK hx k hp, ?_⟩))
        show Q (.bl (valV kvs k').isSome) H
        rw [valV_some]
        exact fin
    · cases e
theorem vr_nin {K : PySem.W.Frag} : VR2 (rNinA K) ninD := by
  intro mg W B σ H ρ x y a b res Q s hx hy hg hq
  unfold ninD at hg
  cases e : inB a b with
  | none => rw [e] at hg; cases hg
  | some c =>
    rw [e] at hg
    cases hg
    have fin : Q (.bl (!c)) H := hq W H _ Fr.refl ⟨s, rfl⟩
    unfold inB at e
    split at e
    · cases e
      exact .inl ⟨_, _, hx.str, hy.str, fin⟩
    · split at e
      · rename_i hz
        cases e
        refine .inr (.inl ⟨_, pys _, hx.dp hz.1, hy.dp hz.2, hz.1, hz.2, ?_⟩)
        rw [← any_map_py]
        exact fin
      · cases e
    · split at e
      · rename_i hz
        cases e
        refine .inr (.inr (.inl ⟨_, pys _, hx.dp hz.1, hy.dp hz.2, hz.1, hz.2, ?_⟩))
        rw [← any_map_py]
        exact fin
      · cases e
    · cases k : keyD a with
      | none => rw [k] at e; cases e
      | some k' =>
        rw [k] at e
        cases e
        obtain ⟨p, kvs, rfl, hp, rfl, _⟩ := hy.dK
        refine .inr (.inr (.inr ⟨p, _, rfl, dget_dK hx k hp, ?_⟩))
        show Q (.bl (!(valV kvs k').isSome)) H
        rw [valV_some]
        exact fin
    · cases e
end
/-! ### is None -/
def isNonB : D → Bool
  | .non => true
  | _ => false
def isND (a b : D) : Option R := match b with
  | .non => some (.frz (.bl (isNonB a)))
  | _ => none
def notND (a b : D) : Option R := match b with
  | .non => some (.frz (.bl (!isNonB a)))
  | _ => none
theorem isNon_of {N : AP mg} {H : Hp} {d : D} {v : V} (h : PRep N H d v) : decide (v = .non) = isNonB d := by
  rcases h with h | ⟨a, e, h⟩
  · cases d with
    | non => rw [show v = .non from h]; rfl
    | bl b => rw [show v = .bl b from h]; rfl
    | int b => rw [show v = .int b from h]; rfl
    | str b => rw [show v = .str b from h]; rfl
    | scr _ => obtain ⟨a, e, _⟩ := h; subst e; rfl
    | tup _ => obtain ⟨a, vs, e, _⟩ := h; subst e; rfl
    | tpl _ => obtain ⟨a, vs, e, _⟩ := h; subst e; rfl
    | lst _ => obtain ⟨a, vs, e, _⟩ := h; subst e; rfl
    | dK _ _ => obtain ⟨a, vs, e, _⟩ := h; subst e; rfl
    | dT _ _ => obtain ⟨a, vs, e, _⟩ := h; subst e; rfl
    | cell _ => obtain ⟨a, _, e⟩ := h; subst e; rfl
    | obj _ _ _ => exact h.elim
  · subst e
    cases d <;> first | exact h.elim | rfl
theorem vr_isN : VR2 (fun x y H Q => y = .non ∧ Q (.bl (decide (x = .non))) H) isND := by
  intro mg W B σ H ρ x y a b res Q s hx hy hg hq
  unfold isND at hg
  split at hg
  · cases hg
    exact ⟨hy.non, by rw [isNon_of hx]; exact hq W H _ Fr.refl ⟨s, rfl⟩⟩
  · cases hg
theorem vr_notN : VR2 (fun x y H Q => y = .non ∧ Q (.bl (!decide (x = .non))) H) notND := by
  intro mg W B σ H ρ x y a b res Q s hx hy hg hq
  unfold notND at hg
  split at hg
  · cases hg
    exact ⟨hy.non, by rw [isNon_of hx]; exact hq W H _ Fr.refl ⟨s, rfl⟩⟩
  · cases hg
section
variable {X : Cx} {Wx : WX} {a b : Expr} {o1 o2 : Opd} {pos : Pos}
theorem de_eq (hu : X.A.units + 64 < cLine) (h1 : DO X Wx a o1) (h2 : DO X Wx b o2) : DE X Wx (.Compare a [.Eq] [b] pos) (f2 o1 o2 eqD) := de_cmp (op_eqD hu) vr_eq h1 h2 (nomark _)
theorem de_ne (hu : X.A.units + 64 < cLine) (h1 : DO X Wx a o1) (h2 : DO X Wx b o2) : DE X Wx (.Compare a [.NotEq] [b] pos) (f2 o1 o2 neD) := de_cmp (op_neD hu) vr_ne h1 h2 (nomark _)
theorem de_lt (h1 : DO X Wx a o1) (h2 : DO X Wx b o2) : DE X Wx (.Compare a [.Lt] [b] pos) (f2 o1 o2 ltD) := de_cmp op_lt vr_lt h1 h2 (nomark _)
theorem de_le (h1 : DO X Wx a o1) (h2 : DO X Wx b o2) : DE X Wx (.Compare a [.LtE] [b] pos) (f2 o1 o2 leD) := de_cmp op_le vr_le h1 h2 (nomark _)
theorem de_gt (h1 : DO X Wx a o1) (h2 : DO X Wx b o2) : DE X Wx (.Compare a [.Gt] [b] pos) (f2 o1 o2 gtD) := de_cmp op_gt vr_gt h1 h2 (nomark _)
theorem de_ge (h1 : DO X Wx a o1) (h2 : DO X Wx b o2) : DE X Wx (.Compare a [.GtE] [b] pos) (f2 o1 o2 geD) := de_cmp op_ge vr_ge h1 h2 (nomark _)
theorem de_in (hu : X.A.units + 65 < cLine) (h1 : DO X Wx a o1) (h2 : DO X Wx b o2) (hm : behindInMarks .In b = false := by rfl) : DE X Wx (.Compare a [.In] [b] pos) (f2 o1 o2 inD) := de_cmp (op_inA hu) vr_in h1 h2 hm
theorem de_nin (hu : X.A.units + 65 < cLine) (h1 : DO X Wx a o1) (h2 : DO X Wx b o2) (hm : behindInMarks .NotIn b = false := by rfl) : DE X Wx (.Compare a [.NotIn] [b] pos) (f2 o1 o2 ninD) := de_cmp (op_ninA hu) vr_nin h1 h2 hm
theorem de_isN (h1 : DO X Wx a o1) (h2 : DO X Wx b o2) : DE X Wx (.Compare a [.Is] [b] pos) (f2 o1 o2 isND) := de_cmp op_isN vr_isN h1 h2 (nomark _)
theorem de_notN (h1 : DO X Wx a o1) (h2 : DO X Wx b o2) : DE X Wx (.Compare a [.IsNot] [b] pos) (f2 o1 o2 notND) := de_cmp op_notN vr_notN h1 h2 (nomark _)
end
end Dz
/-! Dz 4: tests, statements, loops. -/
namespace Dz
open PySem PySem.Spec PyProof.Rows L2

section
variable {X : Cx} {Wx : WX} {a b c e : Expr} {o o1 o2 o3 : Opd} {f f' : M R} {g h : M Bool} {pos : Pos} {rest : List Expr}
def asB (r : R) : Option Bool := match r.d with
  | .bl k => some k
  | _ => none
theorem asB_bl {W B : AP mg} {σ : L2.St} {H : Hp} {ρ : Env} {v : V} {r : R} {k : Bool} (hv : VOk W B σ H ρ v r) (q : asB r = some k) : v = .bl k := by
  unfold asB at q
  cases r with
  | frz d =>
    cases d <;> first
      | (cases q; exact hv.2)
      | (cases q)
  | own d =>
    obtain ⟨x, _, _, _, t, _⟩ := hv
    cases d <;> first
      | exact t.elim
      | (cases q)
/-- a value's truth, where it is True or False -/
def fB (f : M R) : M Bool := mbind f fun r => mopt (asB r)
theorem evo_fB {f : M R} (h : EvoF f) : EvoF (fB f) := evo_bind h fun _ => evo_opt _
theorem rdT_bool {mg : Str → Option Value} {f : M R} {σ : L2.St} {H : Hp} {Q : Bool → Hp → Prop} (q : rdT mg Wx (fB f) σ H Q) : rdE mg Wx f σ H fun x H' => ∃ k, x = .bl k ∧ Q k H' := by
  obtain ⟨W, B, ρ, s, a⟩ := q
  refine ⟨W, B, ρ, s, (After.bind a).mono fun W1 H1 r ρ1 _ _ a1 v hv => ?_⟩
  obtain ⟨k, e, a2⟩ := a1.opt
  exact ⟨k, asB_bl hv e, a2 W1 H1 .refl hv.st⟩
theorem dt_cmp {op : CmpOp} {g : D → D → Option R} {r : R2} (ho : OpR X (compareOp op) r) (hr : VR2 r g) (h1 : DO X Wx a o1) (h2 : DO X Wx b o2) (hm : behindInMarks op b = false) : DT X Wx (.Compare a [op] [b] pos) (fB (f2 o1 o2 g)) :=
  ⟨pt_imp (pt_cmpR ho h1.pe h2.pe hm) fun σ H Q q => rd2 hr h1.evo h2.evo (rdT_bool q), evo_fB (evo_f2 h1.evo h2.evo)⟩
theorem dt_eq (hu : X.A.units + 64 < cLine) (h1 : DO X Wx a o1) (h2 : DO X Wx b o2) : DT X Wx (.Compare a [.Eq] [b] pos) (fB (f2 o1 o2 eqD)) := dt_cmp (op_eqD hu) vr_eq h1 h2 (nomark _)
theorem dt_ne (hu : X.A.units + 64 < cLine) (h1 : DO X Wx a o1) (h2 : DO X Wx b o2) : DT X Wx (.Compare a [.NotEq] [b] pos) (fB (f2 o1 o2 neD)) := dt_cmp (op_neD hu) vr_ne h1 h2 (nomark _)
theorem dt_lt (h1 : DO X Wx a o1) (h2 : DO X Wx b o2) : DT X Wx (.Compare a [.Lt] [b] pos) (fB (f2 o1 o2 ltD)) := dt_cmp op_lt vr_lt h1 h2 (nomark _)
theorem dt_le (h1 : DO X Wx a o1) (h2 : DO X Wx b o2) : DT X Wx (.Compare a [.LtE] [b] pos) (fB (f2 o1 o2 leD)) := dt_cmp op_le vr_le h1 h2 (nomark _)
theorem dt_gt (h1 : DO X Wx a o1) (h2 : DO X Wx b o2) : DT X Wx (.Compare a [.Gt] [b] pos) (fB (f2 o1 o2 gtD)) := dt_cmp op_gt vr_gt h1 h2 (nomark _)
theorem dt_ge (h1 : DO X Wx a o1) (h2 : DO X Wx b o2) : DT X Wx (.Compare a [.GtE] [b] pos) (fB (f2 o1 o2 geD)) := dt_cmp op_ge vr_ge h1 h2 (nomark _)
theorem dt_in (hu : X.A.units + 65 < cLine) (h1 : DO X Wx a o1) (h2 : DO X Wx b o2) (hm : behindInMarks .In b = false := by rfl) : DT X Wx (.Compare a [.In] [b] pos) (fB (f2 o1 o2 inD)) := dt_cmp (op_inA hu) vr_in h1 h2 hm
theorem dt_nin (hu : X.A.units + 65 < cLine) (h1 : DO X Wx a o1) (h2 : DO X Wx b o2) (hm : behindInMarks .NotIn b = false := by rfl) : DT X Wx (.Compare a [.NotIn] [b] pos) (fB (f2 o1 o2 ninD)) := dt_cmp (op_ninA hu) vr_nin h1 h2 hm
theorem dt_isN (h1 : DO X Wx a o1) (h2 : DO X Wx b o2) : DT X Wx (.Compare a [.Is] [b] pos) (fB (f2 o1 o2 isND)) := dt_cmp op_isN vr_isN h1 h2 (nomark _)
theorem dt_notN (h1 : DO X Wx a o1) (h2 : DO X Wx b o2) : DT X Wx (.Compare a [.IsNot] [b] pos) (fB (f2 o1 o2 notND)) := dt_cmp op_notN vr_notN h1 h2 (nomark _)
/-- True or False as a test (a call, a name) -/
theorem dt_val (h : DE X Wx e f) (he : ∀ whole, isTrue e X.env whole = (do let v ← whole; standAt e.pos; holding [v] (truthy v)) := by intro _; rfl) : DT X Wx e (fB f) :=
  ⟨pt_imp (pt_val h.pe he) fun _ _ _ q => rdT_bool q, evo_fB h.evo⟩
/-- any value's truth -/
def truB : D → Option Bool
  | .non => some false
  | .bl k => some k
  | .int i => some (i != 0)
  | .str x => if x.length ≤ sizeLine then some ((x.length : Int) != 0) else none
  | .tup xs => some (!xs.isEmpty)
  | .lst xs => some (!xs.isEmpty)
  | .dK ks _ => some (!ks.isEmpty)
  | _ => none
def tru1 : List D → Option Bool
  | [d] => truB d
  | _ => none
def fTru (o : Opd) : M Bool := mbind (evs [o]) fun ds => mopt (tru1 ds)
theorem isEmpty_len {α β : Type} {xs : List α} {ys : List β} (h : xs.length = ys.length) : xs.isEmpty = ys.isEmpty := by
  cases xs <;> cases ys <;> first | rfl | cases h
theorem dt_tru (h : DO X Wx e o) (he : ∀ whole, isTrue e X.env whole = (do let v ← whole; standAt e.pos; holding [v] (truthy v)) := by intro _; rfl) : DT X Wx e (fTru o) := by
  refine ⟨pt_imp (pt_truth h.pe he) fun σ H Q ⟨W, B, ρ, s, a⟩ => ?_, evo_bind (evo_evs fun o z => by rcases List.mem_cons.mp z with e | z; exact e ▸ h.evo; exact (List.not_mem_nil z).elim) fun _ => evo_opt _⟩
  have q : rdOs X.mg Wx [o] σ H fun vs H' => ∃ x, vs = [x] ∧ ∃ k, TruV X.K x H' k ∧ Q k H' := by
    refine ⟨W, B, ρ, s, (After.bind a).mono fun W1 H1 ds ρ1 _ _ a1 vs s1 rs => ?_⟩
    obtain ⟨k, e, a2⟩ := a1.opt
    have fin := a2 W1 H1 .refl s1
    unfold tru1 at e
    split at e
    · obtain ⟨x, _, rfl, p, z⟩ := rs
      rw [show _ = [] from z]
      refine ⟨x, rfl, k, ?_, fin⟩
      unfold truB at e
      split at e
      · cases e; rw [p.non]; rfl
      · cases e; rw [p.bl]; rfl
      · cases e; rw [p.int]; rfl
      · split at e
        · rename_i hz
          cases e
          rw [p.str]
          exact ⟨hz, rfl⟩
        · cases e
      · cases e
        obtain ⟨q, ws, rfl, hq, _, r⟩ := p.tup
        exact .inr (.inl ⟨ws, hq.sq, by rw [isEmpty_len r.length]⟩)
      · cases e
        obtain ⟨q, ws, rfl, hq, r⟩ := p.lst
        exact .inl ⟨ws, SqL.of hq, by rw [isEmpty_len r.length]⟩
      · cases e
        obtain ⟨q, ws, rfl, hq, z, r⟩ := p.dK
        exact .inr (.inr ⟨ws, hq, by rw [← z]; rw [isEmpty_len (List.length_map _)]⟩)
      · cases e
    · cases e
  have mono : ∀ {o : Opd} {σ : L2.St} {H : Hp} {Q Q' : VK}, rdO X.mg Wx o σ H Q → (∀ v H, Q v H → Q' v H) → rdO X.mg Wx o σ H Q' := fun {o} {σ H Q Q'} q i => by
    cases o with
    | ev f => obtain ⟨W, B, ρ, s, a⟩ := q; exact ⟨W, B, ρ, s, a.mono fun W' H' r ρ' _ _ k v hv => i v H' (k v hv)⟩
    | sl j => obtain ⟨v, e, q⟩ := q; exact ⟨v, e, i _ _ q⟩
    | dr hi f => obtain ⟨W, B, ρ, s, a⟩ := q; exact ⟨W, B, ρ, s, a.mono fun W' H' r ρ' _ _ k v hv => i v H' (k v hv)⟩
  refine mono (rdOs_cons (os := []) h.evo (fun _ z => (List.not_mem_nil z).elim) q) fun x H1 q => ?_
  obtain ⟨x', e, k⟩ := rdOs_nil q
  cases e
  exact k

/-! ### and, or, not, if-else -/
structure DW (X : Cx) (Wx : WX) (e : Expr) (f : M Bool) : Prop where
  pw : PW X e (rdT X.mg Wx f)
  evo : EvoF f
def fAnd (f g : M Bool) : M Bool := mbind f fun c => if c = true then g else mret false
def fOr (f g : M Bool) : M Bool := mbind f fun c => if c = true then mret true else g
def fNot (f : M Bool) : M Bool := mbind f fun c => mret (!c)
def fIf {α : Type} (c : M Bool) (f g : M α) : M α := mbind c fun k => if k = true then f else g
theorem evo_if {α : Type} {c : M Bool} {f g : M α} (hc : EvoF c) (hf : EvoF f) (hg : EvoF g) : EvoF (fIf c f g) := evo_bind hc fun k => by cases k <;> assumption
theorem dw_and1 (h : DT X Wx a g) : DW X Wx (.BoolOp .And [a] pos) g := ⟨pw_and1 h.pt, h.evo⟩
theorem dw_or1 (h : DT X Wx a g) : DW X Wx (.BoolOp .Or [a] pos) g := ⟨pw_or1 h.pt, h.evo⟩
theorem dw_and (h1 : DT X Wx a g) (h2 : DW X Wx (.BoolOp .And (b :: rest) pos) h) : DW X Wx (.BoolOp .And (a :: b :: rest) pos) (fAnd g h) := by
  refine ⟨pw_imp (pw_and h1.pt h2.pw) fun σ H Q ⟨W, B, ρ, s, a⟩ => ⟨W, B, ρ, s, (After.bind a).mono fun W1 H1 c ρ1 _ _ a1 s1 => ?_⟩, evo_bind h1.evo fun c => by cases c; exact evo_ret _; exact h2.evo⟩
  cases c with
  | true => exact ⟨W1, B, ρ1, s1, a1⟩
  | false => exact a1.here s1
theorem dw_or (h1 : DT X Wx a g) (h2 : DW X Wx (.BoolOp .Or (b :: rest) pos) h) : DW X Wx (.BoolOp .Or (a :: b :: rest) pos) (fOr g h) := by
  refine ⟨pw_imp (pw_or h1.pt h2.pw) fun σ H Q ⟨W, B, ρ, s, a⟩ => ⟨W, B, ρ, s, (After.bind a).mono fun W1 H1 c ρ1 _ _ a1 s1 => ?_⟩, evo_bind h1.evo fun c => by cases c; exact h2.evo; exact evo_ret _⟩
  cases c with
  | false => exact ⟨W1, B, ρ1, s1, a1⟩
  | true => exact a1.here s1
theorem DW.dt (h : DW X Wx e g) : DT X Wx e g := ⟨h.pw.pt, h.evo⟩
theorem dt_not (h : DT X Wx a g) : DT X Wx (.UnaryOp .Not a pos) (fNot g) := by
  refine ⟨pt_imp (pt_not h.pt) fun σ H Q ⟨W, B, ρ, s, a⟩ => ⟨W, B, ρ, s, (After.bind a).mono fun W1 H1 c ρ1 _ _ a1 s1 => ?_⟩, evo_bind h.evo fun c => evo_ret _⟩
  exact a1.here s1
def needB (r : R) : M Bool := mopt (asB r)
def fAndV (f g : M R) : M R := mbind (fB f) fun c => if c = true then g else mret (.frz (.bl false))
def fOrV (f g : M R) : M R := mbind (fB f) fun c => if c = true then mret (.frz (.bl true)) else g
def fNotV (f : M R) : M R := mbind (fB f) fun c => mret (.frz (.bl (!c)))
theorem rdT_then {mg : Str → Option Value} {f : M R} {k : Bool → M R} {σ : L2.St} {H : Hp} {Q : VK} {P : Bool → Hp → Prop} (q : rdE mg Wx (mbind (fB f) k) σ H Q) (i : ∀ c H1, rdE mg Wx (k c) σ H1 Q → P c H1) : rdE mg Wx f σ H fun x H' => ∃ c, x = .bl c ∧ P c H' := by
  obtain ⟨W, B, ρ, s, a⟩ := q
  refine rdT_bool ⟨W, B, ρ, s, (After.bind a).mono fun W1 H1 c ρ1 _ _ a1 s1 => i c H1 ⟨W1, B, ρ1, s1, a1⟩⟩
theorem rdE_ret {mg : Str → Option Value} {d : D} {v : V} (hr : ∀ (N : AP mg) (H : Hp), Rep N H d v) {σ : L2.St} {H : Hp} {Q : VK} (q : rdE mg Wx (mret (.frz d)) σ H Q) : Q v H := by
  obtain ⟨W, B, ρ, s, a⟩ := q
  exact a.here v ⟨s, hr _ _⟩
theorem de_one {op : BoolOp} (h : DE X Wx a f) : DE X Wx (.BoolOp op [a] pos) f := ⟨pe_one h.pe, h.evo⟩
theorem de_and (h1 : DE X Wx a f) (h2 : DE X Wx (.BoolOp .And (b :: rest) pos) f') : DE X Wx (.BoolOp .And (a :: b :: rest) pos) (fAndV f f') := by
  refine ⟨pe_imp (pe_and h1.pe h2.pe) fun σ H Q q => rdT_then q fun c H1 k => ?_, evo_bind (evo_fB h1.evo) fun c => by cases c; exact evo_ret _; exact h2.evo⟩
  cases c with
  | true => exact k
  | false => exact rdE_ret (d := .bl false) (v := .bl false) (fun _ _ => rfl) k
theorem de_or (h1 : DE X Wx a f) (h2 : DE X Wx (.BoolOp .Or (b :: rest) pos) f') : DE X Wx (.BoolOp .Or (a :: b :: rest) pos) (fOrV f f') := by
  refine ⟨pe_imp (pe_or h1.pe h2.pe) fun σ H Q q => rdT_then q fun c H1 k => ?_, evo_bind (evo_fB h1.evo) fun c => by cases c; exact h2.evo; exact evo_ret _⟩
  cases c with
  | false => exact k
  | true => exact rdE_ret (d := .bl true) (v := .bl true) (fun _ _ => rfl) k
theorem de_not (h1 : DE X Wx a f) : DE X Wx (.UnaryOp .Not a pos) (fNotV f) := by
  refine ⟨pe_imp (pe_not h1.pe) fun σ H Q q => rdT_then q fun c H1 k => ?_, evo_bind (evo_fB h1.evo) fun c => evo_ret _⟩
  exact rdE_ret (d := .bl (!c)) (v := .bl (!c)) (fun _ _ => rfl) k
theorem de_if (hc : DT X Wx c g) (h1 : DE X Wx a f) (h2 : DE X Wx b f') : DE X Wx (.IfExp c a b pos) (fIf g f f') := by
  refine ⟨pe_imp (pe_ifExp hc.pt h1.pe h2.pe) fun σ H Q ⟨W, B, ρ, s, a⟩ => ⟨W, B, ρ, s, (After.bind a).mono fun W1 H1 c ρ1 _ _ a1 s1 => ?_⟩, evo_if hc.evo h1.evo h2.evo⟩
  cases c with
  | true => exact ⟨W1, B, ρ1, s1, a1⟩
  | false => exact ⟨W1, B, ρ1, s1, a1⟩
/-- a < b < c of whole numbers -/
def isI : D → Bool
  | .int _ => true
  | _ => false
def chK (g' : D → D → Option R) (o3 : Opd) (b : D) (c : Bool) : M R := if c = true then mbind (evs [o3]) fun ds => mopt (ap1 (g' b) ds) else mret (.frz (.bl false))
def chB (g : D → D → Option R) : List D → Option (D × Bool)
  | [.int i, .int j] => ((g (.int i) (.int j)).bind asB).map fun k => (.int j, k)
  | _ => none
theorem chB_some {g : D → D → Option R} {ds : List D} {d : D} {k : Bool} (h : chB g ds = some (d, k)) : ∃ i j, ds = [.int i, .int j] ∧ d = .int j ∧ (g (.int i) (.int j)).bind asB = some k := by
  unfold chB at h
  split at h
  · rename_i i j
    cases q : (g (.int i) (.int j)).bind asB with
    | none => rw [q] at h; cases h
    | some k' => rw [q] at h; cases h; exact ⟨i, j, rfl, rfl, q⟩
  · cases h
def fCh (g g' : D → D → Option R) (o1 o2 o3 : Opd) : M R := mbind (evs [o1, o2]) fun ds => mbind (mopt (chB g ds)) fun p => chK g' o3 p.1 p.2
theorem mono_rdO {mg : Str → Option Value} : ∀ {o : Opd} {σ : L2.St} {H : Hp} {Q Q' : VK}, rdO mg Wx o σ H Q → (∀ v H, Q v H → Q' v H) → rdO mg Wx o σ H Q' := fun {o} {σ H Q Q'} q i => by
  cases o with
  | ev f => obtain ⟨W, B, ρ, s, a⟩ := q; exact ⟨W, B, ρ, s, a.mono fun W' H' r ρ' _ _ k v hv => i v H' (k v hv)⟩
  | sl j => obtain ⟨v, e, q⟩ := q; exact ⟨v, e, i _ _ q⟩
  | dr hi f => obtain ⟨W, B, ρ, s, a⟩ := q; exact ⟨W, B, ρ, s, a.mono fun W' H' r ρ' _ _ k v hv => i v H' (k v hv)⟩
theorem evo1 {o : Opd} (h : o.Evo) : ∀ p ∈ [o], p.Evo := fun p z => by rcases List.mem_cons.mp z with e | z; exact e ▸ h; exact (List.not_mem_nil z).elim
theorem evo2 {o p : Opd} (h : o.Evo) (k : p.Evo) : ∀ q ∈ [o, p], q.Evo := fun q z => by rcases List.mem_cons.mp z with e | z; exact e ▸ h; exact evo1 k q z
theorem de_chain {op op' : CmpOp} {g g' : D → D → Option R} {p p' : Int → Int → Bool} (ho : OpR X (compareOp op) (rI0 fun i j => .bl (p i j))) (ho' : OpR X (compareOp op') (rI0 fun i j => .bl (p' i j)))
    (hg : ∀ i j, g (.int i) (.int j) = some (.frz (.bl (p i j)))) (hg' : ∀ j d, g' (.int j) d = match d with | .int k => some (.frz (.bl (p' j k))) | _ => none)
    (h1 : DO X Wx a o1) (h2 : DO X Wx b o2) (h3 : DO X Wx c o3) (hm : lastMarks [op, op'] [b, c] = false := by rfl) : DE X Wx (.Compare a [op, op'] [b, c] pos) (fCh g g' o1 o2 o3) := by
  refine ⟨pe_imp (pe_chain ho ho' h1.pe h2.pe h3.pe hm) fun σ H Q ⟨W, B, ρ, s, a⟩ => ?_, evo_bind (evo_evs (evo2 h1.evo h2.evo)) fun ds => evo_bind (evo_opt _) fun q => by
    unfold chK
    cases q.2
    · exact evo_ret _
    · exact evo_bind (evo_evs (evo1 h3.evo)) fun _ => evo_opt _⟩
  have q : rdOs X.mg Wx [o1, o2] σ H fun vs H2 => ∃ i j, vs = [.int i, .int j] ∧ if p i j = true then rdO X.mg Wx o3 σ H2 fun w' H4 => ∃ k, w' = .int k ∧ Q (.bl (p' j k)) H4 else Q (.bl false) H2 := by
    refine ⟨W, B, ρ, s, (After.bind a).mono fun W1 H1 ds ρ1 _ _ a1 vs s1 rs => ?_⟩
    obtain ⟨⟨d, k⟩, e, a2⟩ := (After.bind a1).opt
    have a2 := a2 W1 H1 .refl
    obtain ⟨i, j, rfl, rfl, e2⟩ := chB_some e
    · rw [hg] at e2
      cases e2
      obtain ⟨x, _, rfl, px, y, _, rfl, py, z⟩ := rs
      rw [show _ = [] from z, px.int, py.int]
      refine ⟨i, j, rfl, ?_⟩
      cases hk : p i j with
      | true =>
        rw [hk] at a2
        show if true = true then _ else _
        rw [if_pos rfl]
        have q3 : rdOs X.mg Wx [o3] σ H1 fun ws H4 => ∃ w', ws = [w'] ∧ ∃ k, w' = .int k ∧ Q (.bl (p' j k)) H4 := by
          refine ⟨W1, B, ρ1, s1, (After.bind (show After X.mg Wx W1 B σ H1 (mbind (evs [o3]) (fun ds => mopt (ap1 (g' (.int j)) ds)) ρ1) _ from a2)).mono fun W3 H3 ds3 ρ3 _ _ a3 ws s3 rs3 => ?_⟩
          obtain ⟨r3, e3, a4⟩ := a3.opt
          obtain ⟨d3, rfl, e4⟩ := ap1_some e3
          obtain ⟨w', _, rfl, pw, z⟩ := rs3
          rw [show _ = [] from z]
          rw [hg'] at e4
          split at e4
          · cases e4
            exact ⟨w', rfl, _, pw.int, a4 W3 H3 .refl _ ⟨s3, rfl⟩⟩
          · cases e4
        refine mono_rdO (rdOs_cons (os := []) h3.evo (fun _ z => (List.not_mem_nil z).elim) q3) fun w' H4 q => ?_
        obtain ⟨w2, e, k⟩ := rdOs_nil q
        cases e
        exact k
      | false =>
        rw [hk] at a2
        show if false = true then _ else _
        rw [if_neg Bool.false_ne_true]
        exact a2 W1 H1 .refl (V.bl false) ⟨s1, rfl⟩
  refine mono_rdO (rdOs_cons h1.evo (evo1 h2.evo) q) fun x H1 q => mono_rdO (rdOs_cons (os := []) h2.evo (fun _ z => (List.not_mem_nil z).elim) q) fun y H2 q => ?_
  obtain ⟨i, j, e, k⟩ := rdOs_nil q
  cases e
  refine ⟨i, j, rfl, rfl, p i j, rfl, ?_⟩
  cases hk : p i j with
  | true =>
    rw [hk] at k
    rw [if_pos rfl] at k ⊢
    exact mono_rdO k fun w' H4 ⟨k, e, q⟩ => ⟨j, k, rfl, e, q⟩
  | false =>
    rw [hk] at k
    rw [if_neg Bool.false_ne_true] at k ⊢
    exact k
theorem ltD_r (j : Int) (d : D) : ltD (.int j) d = match d with | .int k => some (.frz (.bl (decide (j < k)))) | _ => none := by cases d <;> rfl
theorem leD_r (j : Int) (d : D) : leD (.int j) d = match d with | .int k => some (.frz (.bl (decide (j ≤ k)))) | _ => none := by cases d <;> rfl
theorem de_lele (h1 : DO X Wx a o1) (h2 : DO X Wx b o2) (h3 : DO X Wx c o3) : DE X Wx (.Compare a [.LtE, .LtE] [b, c] pos) (fCh leD leD o1 o2 o3) := de_chain op_le op_le (fun _ _ => rfl) leD_r h1 h2 h3 (nomark c)
theorem de_lelt (h1 : DO X Wx a o1) (h2 : DO X Wx b o2) (h3 : DO X Wx c o3) : DE X Wx (.Compare a [.LtE, .Lt] [b, c] pos) (fCh leD ltD o1 o2 o3) := de_chain op_le op_lt (fun _ _ => rfl) ltD_r h1 h2 h3 (nomark c)
theorem de_ltlt (h1 : DO X Wx a o1) (h2 : DO X Wx b o2) (h3 : DO X Wx c o3) : DE X Wx (.Compare a [.Lt, .Lt] [b, c] pos) (fCh ltD ltD o1 o2 o3) := de_chain op_lt op_lt (fun _ _ => rfl) ltD_r h1 h2 h3 (nomark c)
theorem de_ltle (h1 : DO X Wx a o1) (h2 : DO X Wx b o2) (h3 : DO X Wx c o3) : DE X Wx (.Compare a [.Lt, .LtE] [b, c] pos) (fCh ltD leD o1 o2 o3) := de_chain op_lt op_le (fun _ _ => rfl) leD_r h1 h2 h3 (nomark c)
end

/-! ### statements -/
inductive Fl where
  | next | brk | cont | ret (r : R)
def Kp (σ σ' : L2.St) (ρ' : Env) : Prop := ∀ (i : Nat) (d : D), (ρ'[i]? = some (Slot.bor d) ∨ ρ'[i]? = some (Slot.lent d)) → sv σ' i = sv σ i
theorem Kp.refl {σ : L2.St} {ρ : Env} : Kp σ σ ρ := fun _ _ _ => rfl
theorem Kp.trans {σ σ1 σ2 : L2.St} {ρ1 ρ2 : Env} (p : Kp σ σ1 ρ1) (ev : Evo ρ1 ρ2) (q : Kp σ1 σ2 ρ2) : Kp σ σ2 ρ2 := fun i d h => by
  rw [q i d h]
  rcases h with h | h
  · exact p i d (.inl (ev.bor i d h))
  · obtain ⟨d', h'⟩ := ev.tnel i d h
    exact p i d' (.inr h')
section
variable {mg : Str → Option Value} {Wx : WX} {W B : AP mg} {σ : L2.St} {H : Hp}
def FlOk (W B : AP mg) (σ : L2.St) (H : Hp) (ρ : Env) (D : Ends) : Fl → Prop
  | .next => St W B σ H ρ → D.nx σ H
  | .brk => St W B σ H ρ → D.bk σ H
  | .cont => St W B σ H ρ → D.ct σ H
  | .ret r => ∀ v, VOk W B σ H ρ v r → D.rt v H
def AfterS (mg : Str → Option Value) (Wx : WX) (W B : AP mg) (σ : L2.St) (H : Hp) (o : Option (Res Fl)) (D : Ends) : Prop :=
  match o with
  | none => False
  | some (.ok fl ρ') => ∀ W' σ' H', Fr W H W' H' → Kp σ σ' ρ' → FlOk W' B σ' H' ρ' D fl
  | some (.err e ρ') => ∀ W' σ' H' c d, Fr W H W' H' → Kp σ σ' ρ' → St W' B σ' H' ρ' → XRep mg (Eo W' B) H' e c d → Wx c d σ' H'
def rdS (mg : Str → Option Value) (Wx : WX) (f : M Fl) : TS := fun D σ H => ∃ W B ρ, St W B σ H ρ ∧ AfterS mg Wx W B σ H (f ρ) D
/-- an expression ahead of a statement's rest -/
theorem AfterS.bindE {α : Type} {f : M α} {g : α → M Fl} {ρ : Env} {D : Ends} (h : AfterS mg Wx W B σ H (mbind f g ρ) D) (he : ∀ a, EvoF (g a)) : After mg Wx W B σ H (f ρ) fun W1 H1 a ρ1 => AfterS mg Wx W1 B σ H1 (g a ρ1) D := by
  unfold mbind at h
  cases q : f ρ with
  | none => rw [q] at h; exact h
  | some r =>
    rw [q] at h
    cases r with
    | err e ρ' => exact fun W' H' c d fr s x => h W' σ H' c d fr .refl s x
    | ok a ρ1 =>
      have h : AfterS mg Wx W B σ H (g a ρ1) D := h
      refine fun W1 H1 f1 => ?_
      show AfterS mg Wx W1 B σ H1 (g a ρ1) D
      cases q2 : g a ρ1 with
      | none => rw [q2] at h; exact h
      | some r2 =>
        rw [q2] at h
        cases r2 with
        | err e ρ' => exact fun W' σ' H' c d f2 k s x => h W' σ' H' c d (f1.trans f2) k s x
        | ok b ρ' => exact fun W' σ' H' f2 k => h W' σ' H' (f1.trans f2) k
theorem AfterS.bindS {f : M Fl} {g : Fl → M Fl} {ρ : Env} {D D' : Ends} (h : AfterS mg Wx W B σ H (mbind f g ρ) D) (he : ∀ a, EvoF (g a))
    (i : ∀ fl ρ1 W1 σ1 H1, AfterS mg Wx W1 B σ1 H1 (g fl ρ1) D → FlOk W1 B σ1 H1 ρ1 D' fl) : AfterS mg Wx W B σ H (f ρ) D' := by
  unfold mbind at h
  cases q : f ρ with
  | none => rw [q] at h; exact h
  | some r =>
    rw [q] at h
    cases r with
    | err e ρ' => exact h
    | ok a ρ1 =>
      have h : AfterS mg Wx W B σ H (g a ρ1) D := h
      refine fun W1 σ1 H1 f1 k1 => i a ρ1 W1 σ1 H1 ?_
      cases q2 : g a ρ1 with
      | none => rw [q2] at h; exact h
      | some r2 =>
        have ev := he a ρ1 r2 q2
        rw [q2] at h
        cases r2 with
        | err e ρ' => exact fun W' σ' H' c d f2 k s x => h W' σ' H' c d (f1.trans f2) (k1.trans ev k) s x
        | ok b ρ' => exact fun W' σ' H' f2 k => h W' σ' H' (f1.trans f2) (k1.trans ev k)
end
theorem ps_imp {X : Cx} {st : Stmt} {t t' : TS} (h : PS X st t) (i : ∀ D σ H, t' D σ H → t D σ H) : PS X st t' := ⟨fun pins s σ H D I q => h.run pins s σ H D I (i D σ H q)⟩
theorem pss_imp {X : Cx} {st : List Stmt} {t t' : TS} (h : PSs X st t) (i : ∀ D σ H, t' D σ H → t D σ H) : PSs X st t' := ⟨fun pins s σ H D I q => h.run pins s σ H D I (i D σ H q)⟩
structure DS (X : Cx) (Wx : WX) (st : Stmt) (f : M Fl) : Prop where
  ps : PS X st (rdS X.mg Wx f)
  evo : EvoF f
structure DSs (X : Cx) (Wx : WX) (st : List Stmt) (f : M Fl) : Prop where
  pss : PSs X st (rdS X.mg Wx f)
  evo : EvoF f
section
variable {X : Cx} {Wx : WX} {st : Stmt} {sts : List Stmt} {e : Expr} {fe : M R} {f g : M Fl} {c : M Bool} {pos : Pos}
def sSeq (f g : M Fl) : M Fl := mbind f fun fl => match fl with
  | .next => g
  | .brk => mret .brk
  | .cont => mret .cont
  | .ret r => mret (.ret r)
theorem evo_seq (hf : EvoF f) (hg : EvoF g) : EvoF (sSeq f g) := evo_bind hf fun fl => by cases fl <;> first | exact hg | exact evo_ret _
theorem AfterS.here {mg : Str → Option Value} {W B : AP mg} {σ : L2.St} {H : Hp} {fl : Fl} {ρ : Env} {D : Ends} (h : AfterS mg Wx W B σ H (mret fl ρ) D) : FlOk W B σ H ρ D fl := h W σ H .refl .refl
theorem dss_nil : DSs X Wx [] (mret .next) := ⟨pss_imp pss_nil fun D σ H ⟨W, B, ρ, s, a⟩ => a.here s, evo_ret _⟩
theorem dss_cons (h1 : DS X Wx st f) (h2 : DSs X Wx sts g) : DSs X Wx (st :: sts) (sSeq f g) := by
  refine ⟨pss_imp (pss_cons h1.ps h2.pss) fun D σ H ⟨W, B, ρ, s, a⟩ => ⟨W, B, ρ, s, ?_⟩, evo_seq h1.evo h2.evo⟩
  refine a.bindS (fun fl => by cases fl <;> first | exact h2.evo | exact evo_ret _) fun fl ρ1 W1 σ1 H1 a1 => ?_
  cases fl with
  | next => exact fun s1 => ⟨W1, B, ρ1, s1, a1⟩
  | brk => exact a1.here
  | cont => exact a1.here
  | ret r => exact a1.here
theorem dss_one (h1 : DS X Wx st f) : DSs X Wx [st] f := ⟨pss_one h1.ps, h1.evo⟩
def sPass : M Fl := mret .next
theorem ds_pass : DS X Wx (.Pass pos) sPass := ⟨ps_imp ps_pass fun D σ H ⟨W, B, ρ, s, a⟩ => a.here s, evo_ret _⟩
theorem ds_doc {x j pos'} : DS X Wx (.Expr (.Constant (.str x) j pos) pos') sPass := ⟨ps_imp ps_doc fun D σ H ⟨W, B, ρ, s, a⟩ => a.here s, evo_ret _⟩
theorem ds_break : DS X Wx (.Break pos) (mret .brk) := ⟨ps_imp ps_break fun D σ H ⟨W, B, ρ, s, a⟩ => a.here s, evo_ret _⟩
theorem ds_continue : DS X Wx (.Continue pos) (mret .cont) := ⟨ps_imp ps_continue fun D σ H ⟨W, B, ρ, s, a⟩ => a.here s, evo_ret _⟩
def sNever : M Fl := fun _ => none
theorem ds_never : DS X Wx st sNever := ⟨ps_imp ps_never fun D σ H ⟨W, B, ρ, s, a⟩ => a, fun _ _ z => nomatch z⟩
def sExpr (fe : M R) : M Fl := mbind fe fun _ => mret .next
theorem ds_expr (h : DE X Wx e fe) (hs : swapsWith e none pos.line X.env = pure false := by rfl) : DS X Wx (.Expr e pos) (sExpr fe) :=
  ⟨ps_imp (ps_expr h.pe hs) fun D σ H ⟨W, B, ρ, s, a⟩ => ⟨W, B, ρ, s, (a.bindE fun _ => evo_ret _).mono fun W1 H1 r ρ1 _ _ a1 v hv => a1.here hv.st⟩, evo_bind h.evo fun _ => evo_ret _⟩
def sRet (fe : M R) : M Fl := mbind fe fun r => mret (.ret r)
theorem ds_ret (h : DE X Wx e fe) : DS X Wx (.Return (some e) pos) (sRet fe) :=
  ⟨ps_imp (ps_ret h.pe) fun D σ H ⟨W, B, ρ, s, a⟩ => ⟨W, B, ρ, s, (a.bindE fun _ => evo_ret _).mono fun W1 H1 r ρ1 _ _ a1 v hv => a1.here v hv⟩, evo_bind h.evo fun _ => evo_ret _⟩
theorem ds_retN : DS X Wx (.Return none pos) (mret (.ret (.frz .non))) := ⟨ps_imp ps_retN fun D σ H ⟨W, B, ρ, s, a⟩ => a.here .non ⟨s, rfl⟩, evo_ret _⟩
theorem ds_if {ce : Expr} {a b : List Stmt} (hc : DT X Wx ce c) (h1 : DSs X Wx a f) (h2 : DSs X Wx b g) : DS X Wx (.If ce a b pos) (fIf c f g) := by
  refine ⟨ps_imp (ps_if hc.pt h1.pss h2.pss) fun D σ H ⟨W, B, ρ, s, a⟩ => ⟨W, B, ρ, s, (a.bindE fun k => by cases k; exact h2.evo; exact h1.evo).mono fun W1 H1 k ρ1 _ _ a1 s1 => ?_⟩, evo_if hc.evo h1.evo h2.evo⟩
  cases k with
  | true => exact ⟨W1, B, ρ1, s1, a1⟩
  | false => exact ⟨W1, B, ρ1, s1, a1⟩
/-- name = value -/
def slotOf : R → Slot
  | .frz d => .frz d
  | .own d => .own d
def setSl (i : Nat) (r : R) : M Fl := fun ρ =>
  match ρ[i]? with
  | some (.lent _) => none
  | some (.hp _) => none
  | some _ => some (.ok .next (ρ.set i (slotOf r)))
  | none => none
theorem evo_setSl {i : Nat} {r : R} : EvoF (setSl i r) := fun ρ o e => by
  unfold setSl at e
  split at e
  · cases e
  · cases e
  · rename_i s hs hh q
    cases e
    exact .set q hs (fun d z => by cases r <;> cases z) (fun d z => by cases r <;> cases z) hh (fun d z => by cases r <;> cases z)
  · cases e
/-- a name gets a result -/
theorem St.store {W B : AP mg} {σ : L2.St} {H : Hp} {ρ : Env} {v : V} {r : R} {i : Nat} (hv : VOk W B σ H ρ v r) (hi : i < ρ.length) : St W B (σ.set i (some v)) H (ρ.set i (slotOf r)) := by
  have s := hv.st
  have hσ : i < σ.length := by rw [s.len]; exact hi
  have nh : ∀ (j : Nat) (cs : List D), (ρ.set i (slotOf r))[j]? = some (Slot.hp cs) → i ≠ j ∧ ρ[j]? = some (Slot.hp cs) := fun j cs k => by
    by_cases hj : i = j
    · subst hj
      rw [List.getElem?_set_self hi] at k
      cases r <;> cases k
    · rw [List.getElem?_set_ne hj] at k
      exact ⟨hj, k⟩
  refine ⟨by simp [s.len], fun j t k => ?_, s.dom, s.dis, fun j k t t' a hjk p q w1 w2 x1 x2 => ?_, fun j k t cs n a p w1 x1 q e1 => ?_, fun j k cs cs' p q => s.hp1 j k cs cs' (nh j cs p).2 (nh k cs' q).2⟩
  rotate_left 2
  · obtain ⟨hk, q'⟩ := nh k cs q
    by_cases hj : i = j
    · subst hj
      rw [List.getElem?_set_self hi] at p
      cases p
      cases r with
      | frz d => cases w1
      | own d =>
        obtain ⟨b, e, wb, _, _, hn⟩ := hv
        rw [sv_set _ hσ, e] at x1
        cases x1
        exact hn.ce k cs n q' e1
    · rw [List.getElem?_set_ne hj] at p
      rw [sv_set_ne _ hj] at x1
      exact s.hpa j k t cs n a p w1 x1 q' e1
  · by_cases hj : i = j
    · subst hj
      rw [List.getElem?_set_self hi] at k
      rw [sv_set _ hσ]
      cases k
      cases r with
      | frz d => exact ⟨v, rfl, hv.2⟩
      | own d =>
        obtain ⟨a, e, wa, _, t, _⟩ := hv
        exact ⟨a, by rw [e], wa, t⟩
    · rw [List.getElem?_set_ne hj] at k
      rw [sv_set_ne _ hj]
      exact s.slot j t k
  · have key : ∀ (l : Nat) (t : Slot), (ρ.set i (slotOf r))[l]? = some t → t.wr = true → sv (σ.set i (some v)) l = some (.ref a) → i ≠ l → ρ[l]? = some t ∧ sv σ l = some (.ref a) := fun l t y w x n => by
      rw [List.getElem?_set_ne n] at y
      rw [sv_set_ne _ n] at x
      exact ⟨y, x⟩
    have one : ∀ (l : Nat) (t t2 : Slot), i ≠ l → (ρ.set i (slotOf r))[i]? = some t2 → t2.wr = true → sv (σ.set i (some v)) i = some (.ref a) → (ρ.set i (slotOf r))[l]? = some t → t.wr = true → sv (σ.set i (some v)) l = some (.ref a) → False := fun l t t2 n y w x y2 w2 x2 => by
      obtain ⟨z1, z2⟩ := key l t y2 w2 x2 n
      rw [List.getElem?_set_self hi] at y
      cases y
      cases r with
      | frz d => cases w
      | own d =>
        obtain ⟨b, e, wb, _, _, hn⟩ := hv
        rw [sv_set _ hσ, e] at x
        cases x
        exact hn.nm l t z1 w2 z2
    by_cases h1 : i = j
    · subst h1
      exact one k t' t hjk p w1 x1 q w2 x2
    · by_cases h2 : i = k
      · subst h2
        exact one j t t' h1 q w2 x2 p w1 x1
      · obtain ⟨a1, a2⟩ := key j t p w1 x1 h1
        obtain ⟨b1, b2⟩ := key k t' q w2 x2 h2
        exact s.apart j k t t' a hjk a1 b1 w1 w2 a2 b2
def sAsg (i : Nat) (fe : M R) : M Fl := mbind fe fun r => setSl i r
theorem asg_ok {mg : Str → Option Value} {W B : AP mg} {σ : L2.St} {H : Hp} {ρ : Env} {i : Nat} {D : Ends} {v : V} {r : R} (a : AfterS mg Wx W B σ H (setSl i r ρ) D) (hv : VOk W B σ H ρ v r) : D.nx (σ.set i (some v)) H := by
  unfold setSl at a
  split at a
  · exact a.elim
  · exact a.elim
  · rename_i t ht _ q
    have hi : i < ρ.length := (List.getElem?_eq_some_iff.mp q).1
    refine a W (σ.set i (some v)) H .refl (fun j d h => ?_) (St.store hv hi)
    by_cases hj : i = j
    · subst hj
      rw [List.getElem?_set_self hi] at h
      cases r <;> rcases h with h | h <;> cases h
    · rw [sv_set_ne _ hj]
  · exact a.elim
theorem ds_asg {i : Nat} {x : Str} {pos' : Pos} (hN : X.N.Nodup) (hi : X.N[i]? = some x) (hx : Loc X.env.scope x) (h : DE X Wx e fe) (hs : swapsWith e (some (.Name x pos')) pos.line X.env = pure false := by rfl) (hf : X.fn x = true ∨ X.env.scope.names.lookup x = some .local := by first | exact .inl rfl | exact .inr rfl | assumption) :
    DS X Wx (.Assign [.Name x pos'] e pos) (sAsg i fe) :=
  ⟨ps_imp (ps_set hN hi hx h.pe hs hf) fun D σ H ⟨W, B, ρ, s, a⟩ => ⟨W, B, ρ, s, (a.bindE fun _ => evo_setSl).mono fun W1 H1 r ρ1 _ _ a1 v hv => asg_ok a1 hv⟩, evo_bind h.evo fun _ => evo_setSl⟩
end
end Dz
/-! Dz 5: targets, loops, comprehensions. -/
namespace Dz
open PySem PySem.Spec PyProof.Rows L2

/-! ### targets -/
inductive Tg where
  | nm (i : Nat) | tp (ts : List Tg)
mutual
def setTg : Tg → D → M Unit
  | .nm i, d => mbind (setSl i (.frz d)) fun _ => mret ()
  | .tp ts, .tup ds => setTgs ts ds
  | .tp ts, .tpl ds => setTgs ts ds
  | .tp _, _ => fun _ => none
def setTgs : List Tg → List D → M Unit
  | [], [] => mret ()
  | t :: ts, d :: ds => mbind (setTg t d) fun _ => setTgs ts ds
  | _, _ => fun _ => none
end
mutual
def gOf (K : PySem.W.Frag) : Tg → TG
  | .nm i => gName i
  | .tp ts => gTup K ts.length (gsOf K ts)
def gsOf (K : PySem.W.Frag) : List Tg → TGs
  | [] => gNil
  | t :: ts => gCons (gOf K t) (gsOf K ts)
end
mutual
theorem evo_setTg : ∀ (t : Tg) (d : D), EvoF (setTg t d)
  | .nm i, d => evo_bind evo_setSl fun _ => evo_ret _
  | .tp ts, .tup ds => evo_setTgs ts ds
  | .tp ts, .tpl ds => evo_setTgs ts ds
  | .tp _, .non => fun _ _ z => nomatch z
  | .tp _, .bl _ => fun _ _ z => nomatch z
  | .tp _, .int _ => fun _ _ z => nomatch z
  | .tp _, .str _ => fun _ _ z => nomatch z
  | .tp _, .lst _ => fun _ _ z => nomatch z
  | .tp _, .dK _ _ => fun _ _ z => nomatch z
  | .tp _, .dT _ _ => fun _ _ z => nomatch z
  | .tp _, .scr _ => fun _ _ z => nomatch z
  | .tp _, .cell _ => fun _ _ z => nomatch z
  | .tp _, .obj _ _ _ => fun _ _ z => nomatch z
theorem evo_setTgs : ∀ (ts : List Tg) (ds : List D), EvoF (setTgs ts ds)
  | [], [] => evo_ret _
  | t :: ts, d :: ds => evo_bind (evo_setTg t d) fun _ => evo_setTgs ts ds
  | [], _ :: _ => fun _ _ z => nomatch z
  | _ :: _, [] => fun _ _ z => nomatch z
end
theorem setSl_ok {i : Nat} {r : R} {ρ : Env} {x : Res Fl} (h : setSl i r ρ = some x) : i < ρ.length ∧ x = .ok .next (ρ.set i (slotOf r)) ∧ ∀ d, ρ[i]? ≠ some (Slot.lent d) := by
  unfold setSl at h
  split at h
  · cases h
  · cases h
  · rename_i t ht _ q
    cases h
    exact ⟨(List.getElem?_eq_some_iff.mp q).1, rfl, fun d z => by rw [q] at z; exact ht d (Option.some.inj z)⟩
  · cases h
theorem kp_set {σ : L2.St} {ρ : Env} {i : Nat} {v : Option V} {r : R} (hi : i < ρ.length) : Kp σ (σ.set i v) (ρ.set i (slotOf r)) := fun j d h => by
  by_cases hj : i = j
  · subst hj
    rw [List.getElem?_set_self hi] at h
    cases r <;> rcases h with h | h <;> cases h
  · rw [sv_set_ne _ hj]
mutual
/-- what the storing gives -/
theorem setTg_ok {K : PySem.W.Frag} : ∀ (t : Tg) (d : D) {W B : AP mg} {σ : L2.St} {H : Hp} {ρ ρ' : Env} {v : V} {Q : L2.St → Hp → Prop}, setTg t d ρ = some (.ok () ρ') → St W B σ H ρ → Rep (Eo W B) H d v →
    (∀ σ', St W B σ' H ρ' → Kp σ σ' ρ' → (∀ i, (∀ j, t = .nm j → i ≠ j) → True) → Q σ' H) → gOf K t v σ H Q
  | .nm i, d, W, B, σ, H, ρ, ρ', v, Q, h, s, r, q => by
    have h : mbind (setSl i (.frz d)) (fun _ => mret ()) ρ = some (.ok () ρ') := h
    unfold mbind at h
    cases e : setSl i (.frz d) ρ with
    | none => rw [e] at h; cases h
    | some x =>
      rw [e] at h
      obtain ⟨hi, ex, _⟩ := setSl_ok e
      subst ex
      cases h
      exact q _ (St.store (r := .frz d) ⟨s, r⟩ hi) (kp_set hi) fun _ _ => trivial
  | .tp ts, .tup ds, W, B, σ, H, ρ, ρ', v, Q, h, s, r, q => by
    obtain ⟨a, vs, ev, hp, _, rs⟩ := r
    obtain ⟨hl, k⟩ := setTgs_ok (K := K) ts ds (Q := Q) h s rs fun σ' s' k => q σ' s' k fun _ _ => trivial
    exact ⟨a, vs, ev, hp.sq, hl, k⟩
  | .tp ts, .tpl ds, W, B, σ, H, ρ, ρ', v, Q, h, s, r, q => by
    obtain ⟨a, vs, ev, hp, _, rs⟩ := r
    obtain ⟨hl, k⟩ := setTgs_ok (K := K) ts ds (Q := Q) h s rs fun σ' s' k => q σ' s' k fun _ _ => trivial
    exact ⟨a, vs, ev, SqT.of hp, hl, k⟩
  | .tp _, .non, _, _, _, _, _, _, _, _, h, _, _, _ => nomatch h
  | .tp _, .bl _, _, _, _, _, _, _, _, _, h, _, _, _ => nomatch h
  | .tp _, .int _, _, _, _, _, _, _, _, _, h, _, _, _ => nomatch h
  | .tp _, .str _, _, _, _, _, _, _, _, _, h, _, _, _ => nomatch h
  | .tp _, .lst _, _, _, _, _, _, _, _, _, h, _, _, _ => nomatch h
  | .tp _, .dK _ _, _, _, _, _, _, _, _, _, h, _, _, _ => nomatch h
  | .tp _, .dT _ _, _, _, _, _, _, _, _, _, h, _, _, _ => nomatch h
  | .tp _, .scr _, _, _, _, _, _, _, _, _, h, _, _, _ => nomatch h
  | .tp _, .cell _, _, _, _, _, _, _, _, _, h, _, _, _ => nomatch h
  | .tp _, .obj _ _ _, _, _, _, _, _, _, _, _, h, _, _, _ => nomatch h
theorem setTgs_ok {K : PySem.W.Frag} : ∀ (ts : List Tg) (ds : List D) {W B : AP mg} {σ : L2.St} {H : Hp} {ρ ρ' : Env} {vs : List V} {Q : L2.St → Hp → Prop}, setTgs ts ds ρ = some (.ok () ρ') → St W B σ H ρ → Reps (Eo W B) H ds vs →
    (∀ σ', St W B σ' H ρ' → Kp σ σ' ρ' → Q σ' H) → vs.length = ts.length ∧ gsOf K ts vs σ H Q
  | [], [], W, B, σ, H, ρ, ρ', vs, Q, h, s, r, q => by
    cases h
    rw [show vs = [] from r]
    exact ⟨rfl, rfl, q _ s .refl⟩
  | t :: ts, d :: ds, W, B, σ, H, ρ, ρ', vs, Q, h, s, ⟨v, r, e, p, rs⟩, q => by
    have h : mbind (setTg t d) (fun _ => setTgs ts ds) ρ = some (.ok () ρ') := h
    unfold mbind at h
    cases e1 : setTg t d ρ with
    | none => rw [e1] at h; cases h
    | some x =>
      rw [e1] at h
      cases x with
      | err _ _ => cases h
      | ok u ρ1 =>
        have h : setTgs ts ds ρ1 = some (.ok () ρ') := h
        have ev : Evo ρ1 ρ' := evo_setTgs ts ds ρ1 _ h
        have key : ∀ (σ : L2.St), St W B σ H ρ1 → ∀ {Q : L2.St → Hp → Prop}, (∀ σ', St W B σ' H ρ' → Kp σ σ' ρ' → Q σ' H) → r.length = ts.length ∧ gsOf K ts r σ H Q := fun σ1 s1 {Q} q1 => setTgs_ok (K := K) ts ds h s1 rs q1
        subst e
        refine ⟨?_, v, r, rfl, setTg_ok (K := K) t d e1 s p fun σ1 s1 k1 _ => (key σ1 s1 fun σ2 s2 k2 => q σ2 s2 (k1.trans ev k2)).2⟩
        have z : ∃ σ1, St W B σ1 H ρ1 := by
          have z : gOf K t v σ H fun σ' _ => St W B σ' H ρ1 := setTg_ok (K := K) t d e1 s p fun σ1 s1 _ _ => s1
          exact gOf_any t z
        obtain ⟨σ1, s1⟩ := z
        rw [List.length_cons, List.length_cons, (key σ1 s1 (Q := fun _ _ => True) fun _ _ _ => trivial).1]
  | [], _ :: _, _, _, _, _, _, _, _, _, h, _, _, _ => nomatch h
  | _ :: _, [], _, _, _, _, _, _, _, _, h, _, _, _ => nomatch h
/-- a target's storing ends -/
theorem gOf_any {K : PySem.W.Frag} : ∀ (t : Tg) {v : V} {σ : L2.St} {H : Hp} {P : L2.St → Prop}, gOf K t v σ H (fun σ' _ => P σ') → ∃ σ', P σ'
  | .nm i, _, σ, _, P, h => ⟨_, h⟩
  | .tp ts, _, σ, _, P, ⟨_, _, _, _, _, h⟩ => gsOf_any ts h
theorem gsOf_any {K : PySem.W.Frag} : ∀ (ts : List Tg) {vs : List V} {σ : L2.St} {H : Hp} {P : L2.St → Prop}, gsOf K ts vs σ H (fun σ' _ => P σ') → ∃ σ', P σ'
  | [], _, σ, _, P, h => ⟨_, h.2⟩
  | t :: ts, _, σ, H, P, ⟨_, _, _, h⟩ => by
    obtain ⟨σ1, h1⟩ := gOf_any (P := fun σ' => ∃ σ'', P σ'') t (gOf_mono t h fun σ' _ h => gsOf_any ts h)
    exact h1
theorem gOf_mono {K : PySem.W.Frag} : ∀ (t : Tg) {v : V} {σ : L2.St} {H : Hp} {P P' : L2.St → Hp → Prop}, gOf K t v σ H P → (∀ σ' H', P σ' H' → P' σ' H') → gOf K t v σ H P'
  | .nm i, _, σ, _, P, P', h, i' => i' _ _ h
  | .tp ts, _, σ, _, P, P', ⟨a, xs, e, q, l, h⟩, i' => ⟨a, xs, e, q, l, gsOf_mono ts h i'⟩
theorem gsOf_mono {K : PySem.W.Frag} : ∀ (ts : List Tg) {vs : List V} {σ : L2.St} {H : Hp} {P P' : L2.St → Hp → Prop}, gsOf K ts vs σ H P → (∀ σ' H', P σ' H' → P' σ' H') → gsOf K ts vs σ H P'
  | [], _, σ, _, P, P', h, i' => ⟨h.1, i' _ _ h.2⟩
  | t :: ts, _, σ, H, P, P', ⟨v, r, e, h⟩, i' => ⟨v, r, e, gOf_mono t h fun σ' H' k => gsOf_mono ts k i'⟩
end
end Dz
/-! Dz 6: unpacking, for, while, comprehensions. -/
namespace Dz
open PySem PySem.Spec PyProof.Rows L2

theorem setTg_gives {K : PySem.W.Frag} {t : Tg} {d : D} {W B : AP mg} {σ : L2.St} {H : Hp} {ρ ρ' : Env} {v : V} {Q : L2.St → Hp → Prop} (h : setTg t d ρ = some (.ok () ρ')) (s : St W B σ H ρ) (r : Rep (Eo W B) H d v)
    (q : ∀ σ', St W B σ' H ρ' → Kp σ σ' ρ' → Q σ' H) : gOf K t v σ H Q := setTg_ok t d h s r fun σ' s' k _ => q σ' s' k
mutual
theorem setTg_noerr : ∀ (t : Tg) (d : D) {ρ : Env} {e : Exc} {ρ' : Env}, setTg t d ρ ≠ some (.err e ρ')
  | .nm i, d, ρ, e, ρ' => fun h => by
    have h : mbind (setSl i (.frz d)) (fun _ => mret ()) ρ = some (.err e ρ') := h
    unfold mbind at h
    cases e1 : setSl i (.frz d) ρ with
    | none => rw [e1] at h; cases h
    | some x =>
      obtain ⟨_, ex, _⟩ := setSl_ok e1
      rw [e1, ex] at h
      cases h
  | .tp ts, .tup ds, _, _, _ => setTgs_noerr ts ds
  | .tp ts, .tpl ds, _, _, _ => setTgs_noerr ts ds
  | .tp _, .non, _, _, _ => fun h => nomatch h
  | .tp _, .bl _, _, _, _ => fun h => nomatch h
  | .tp _, .int _, _, _, _ => fun h => nomatch h
  | .tp _, .str _, _, _, _ => fun h => nomatch h
  | .tp _, .lst _, _, _, _ => fun h => nomatch h
  | .tp _, .dK _ _, _, _, _ => fun h => nomatch h
  | .tp _, .dT _ _, _, _, _ => fun h => nomatch h
  | .tp _, .scr _, _, _, _ => fun h => nomatch h
  | .tp _, .cell _, _, _, _ => fun h => nomatch h
  | .tp _, .obj _ _ _, _, _, _ => fun h => nomatch h
theorem setTgs_noerr : ∀ (ts : List Tg) (ds : List D) {ρ : Env} {e : Exc} {ρ' : Env}, setTgs ts ds ρ ≠ some (.err e ρ')
  | [], [], _, _, _ => fun h => nomatch h
  | t :: ts, d :: ds, ρ, e, ρ' => fun h => by
    have h : mbind (setTg t d) (fun _ => setTgs ts ds) ρ = some (.err e ρ') := h
    unfold mbind at h
    cases e1 : setTg t d ρ with
    | none => rw [e1] at h; cases h
    | some x =>
      rw [e1] at h
      cases x with
      | err e2 ρ2 => exact setTg_noerr t d e1
      | ok u ρ1 => exact setTgs_noerr ts ds h
  | [], _ :: _, _, _, _ => fun h => nomatch h
  | _ :: _, [], _, _, _ => fun h => nomatch h
end
theorem setTg_case {t : Tg} {d : D} {ρ : Env} {x : Res Unit} (h : setTg t d ρ = some x) : ∃ ρ', setTg t d ρ = some (.ok () ρ') ∧ x = .ok () ρ' := by
  cases x with
  | ok u ρ' => exact ⟨ρ', h, rfl⟩
  | err e ρ' => exact (setTg_noerr t d h).elim
section
variable {mg : Str → Option Value} {Wx : WX} {W B : AP mg} {σ : L2.St} {H : Hp}
/-- the same, told from a later state -/
theorem AfterS.shift {W1 : AP mg} {σ1 : L2.St} {H1 : Hp} {ρ1 : Env} {o : Option (Res Fl)} {D : Ends} (h : AfterS mg Wx W B σ H o D) (f1 : Fr W H W1 H1) (k1 : Kp σ σ1 ρ1) (ev : ∀ r, o = some r → Evo ρ1 r.env) : AfterS mg Wx W1 B σ1 H1 o D := by
  cases o with
  | none => exact h
  | some r =>
    have ev := ev r rfl
    cases r with
    | err e ρ' => exact fun W' σ' H' c d f2 k s x => h W' σ' H' c d (f1.trans f2) (k1.trans ev k) s x
    | ok b ρ' => exact fun W' σ' H' f2 k => h W' σ' H' (f1.trans f2) (k1.trans ev k)
end
section
variable {X : Cx} {Wx : WX} {st : Stmt} {sts : List Stmt} {e tg iter : Expr} {fe : M R} {f g : M Fl} {c : M Bool} {pos : Pos} {t : Tg}
structure DG (X : Cx) (tg : Expr) (t : Tg) : Prop where
  pg : PG X tg (gOf X.K t)
structure DGs (X : Cx) (tgs : List Expr) (ts : List Tg) : Prop where
  pgs : PGs X tgs (gsOf X.K ts)
theorem dg_name {i : Nat} {x : Str} (hN : X.N.Nodup) (hi : X.N[i]? = some x) (hx : Loc X.env.scope x) (hf : X.fn x = true ∨ X.env.scope.names.lookup x = some .local := by first | exact .inl rfl | exact .inr rfl | assumption) : DG X (.Name x pos) (.nm i) := ⟨pg_name hN hi hx hf⟩
theorem dgs_nil : DGs X [] [] := ⟨pgs_nil⟩
theorem dgs_cons {es : List Expr} {ts : List Tg} (h1 : DG X e t) (h2 : DGs X es ts) (hs : (assignEach (e :: es) X.env).map (·.2) = assign e X.env :: (assignEach es X.env).map (·.2) := by rfl) : DGs X (e :: es) (t :: ts) := ⟨pgs_cons h1.pg h2.pgs hs⟩
theorem dg_tup {es : List Expr} {k : Nat} {ts : List Tg} (hc : X.calm = true) (h : DGs X es ts) (hn : (assignEach es X.env).length = ts.length := by rfl) (hst : (assignEach es X.env).findIdx? (·.1) = none := by rfl) : DG X (.Tuple es k pos) (.tp ts) := ⟨pg_tup hc h.pgs hn hst⟩
/-- a, b = a tuple -/
def sUnp (t : Tg) (fe : M R) : M Fl := mbind fe fun r => mbind (setTg t r.d) fun _ => mret .next
theorem evo_unp {d : D} : EvoF (mbind (setTg t d) fun _ => mret Fl.next) := evo_bind (evo_setTg t d) fun _ => evo_ret _
theorem ds_unp (hg : DG X tg t) (he : DE X Wx e fe) (hs : swapsWithSole [tg] e pos.line X.env = pure false := by rfl) (hw : swappedStores [tg] e X.env = pure none := by rfl)
    (h1 : (assignEach [tg] X.env).map (·.2) = [assign tg X.env] := by rfl) : DS X Wx (.Assign [tg] e pos) (sUnp t fe) := by
  refine ⟨ps_imp (ps_asg he.pe hg.pg hs hw h1) fun D σ H ⟨W, B, ρ, s, a⟩ => ⟨W, B, ρ, s, (a.bindE fun r => evo_unp).mono fun W1 H1 r ρ1 _ _ a1 v hv => ?_⟩, evo_bind he.evo fun r => evo_unp⟩
  obtain ⟨W0, hW, s0, r0⟩ := hv.any
  unfold mbind at a1
  cases q : setTg t r.d ρ1 with
  | none => rw [q] at a1; exact a1.elim
  | some x =>
    obtain ⟨ρ2, q2, ex⟩ := setTg_case q
    rw [q, ex] at a1
    exact setTg_gives q2 s0 r0 fun σ' s' k => a1 W0 σ' H1 (.less hW) k s'

/-! ### what is walked -/
/-- later heaps: what is not ours stands; J yields what stands for the items -/
def ItOk (J : It) (W B : AP mg) (H : Hp) (ds : List D) : Prop := ∀ W' H' i, Fr W H W' H' → (∀ a, W' a ∨ B a → H' a ≠ none) →
  (ds.length ≤ i → J.stop i H') ∧ ∀ d, ds[i]? = some d → J.go i H' ∧ ∀ x H'', J.yld i H' x H'' → (H'' = H' ∨ ∃ T o, H' T = none ∧ H'' = upd H' T o) ∧ Rep (Eo W' B) H'' d x
def rdI (mg : Str → Option Value) (Wx : WX) (src : M (List D)) : TI := fun σ H R => ∃ W B ρ, St W B σ H ρ ∧ After mg Wx W B σ H (src ρ) fun W1 H1 ds ρ1 => ∀ J W0, Ls W0 W1 → St W0 B σ H1 ρ1 → ItOk J W0 B H1 ds → R J H1
structure DI (X : Cx) (Wx : WX) (tg iter : Expr) (src : M (List D)) : Prop where
  pi : PI X tg iter (rdI X.mg Wx src)
  evo : EvoF src
theorem pi_imp {wi wi' : TI} (h : PI X tg iter wi) (i : ∀ σ H R, wi' σ H R → wi σ H R) : PI X tg iter wi' := ⟨fun pins s σ H R I q => h.run pins s σ H R I (i σ H R q)⟩
theorem St.new' {W B : AP mg} {σ : L2.St} {H H'' : Hp} {ρ : Env} (s : St W B σ H ρ) (h : H'' = H ∨ ∃ T o, H T = none ∧ H'' = upd H T o) : St W B σ H'' ρ := by
  rcases h with h | ⟨T, o, n, h⟩
  · rw [h]; exact s
  · rw [h]; exact s.new n
theorem Fr.new' {W : AP mg} {H H'' : Hp} (h : H'' = H ∨ ∃ T o, H T = none ∧ H'' = upd H T o) : Fr W H W H'' := by
  rcases h with h | ⟨T, o, n, h⟩
  · rw [h]; exact .refl
  · rw [h]; exact .new n
/-- the items of a value -/
def itemsD : D → Option (List D)
  | .lst ds => some ds
  | .tup ds => some ds
  | .scr ns => some (ns.map .int)
  | .str x => some (x.cps.toList.map fun c => .str ⟨#[c]⟩)
  | _ => none
def seqD : D → Option (List D)
  | .lst ds => some ds
  | .tup ds => some ds
  | .scr ns => some (ns.map .int)
  | _ => none
/-- a value walked: a name that owns it lets it go -/
def fSrc (g : D → Option (List D)) (f : M R) : M (List D) := mbind f fun r => mopt (g r.d)
/-- a borrowed name walked -/
def fSrcB (g : D → Option (List D)) (i : Nat) : M (List D) := fun ρ =>
  match ρ[i]? with
  | some (.bor d) => mopt (g d) ρ
  | some (.frz d) => mopt (g d) ρ
  | _ => none
theorem evo_srcB {g : D → Option (List D)} {i : Nat} : EvoF (fSrcB g i) := fun ρ o e => by
  unfold fSrcB at e
  split at e
  · exact evo_opt _ _ _ e
  · exact evo_opt _ _ _ e
  · cases e
theorem itok_seq {K : PySem.W.Frag} {W B : AP mg} {H : Hp} {a : Addr} {vs : List V} {ds : List D} (na : ¬ W a) (hp : H a = some (.lst vs)) (r : Reps (Eo W B) H ds vs) : ItOk (Itl K a) W B H ds := fun W' H' i f _ => by
  have hq : H' a = some (.lst vs) := f.keep a _ hp na
  refine ⟨fun hi => ⟨vs, SqL.of hq, by rw [r.length]; exact hi⟩, fun d hd => ?_⟩
  obtain ⟨x, hx, rx⟩ := r.get hd
  refine ⟨⟨vs, x, SqL.of hq, hx⟩, fun y H'' ⟨e, k⟩ => ⟨.inl e, ?_⟩⟩
  have e2 := k vs (SqL.of hq)
  rw [hx] at e2
  cases e2
  rw [e]
  exact rx.fr f
theorem itok_tup {K : PySem.W.Frag} {W B : AP mg} {H : Hp} {a : Addr} {vs : List V} {ds : List D} (na : ¬ W a) (hp : TupZ H a vs) (r : Reps (Eo W B) H ds vs) : ItOk (Itt K a) W B H ds := fun W' H' i f _ => by
  have hq : TupZ H' a vs := hp.keep f.keep na
  refine ⟨fun hi => ⟨vs, hq.sq, by rw [r.length]; exact hi⟩, fun d hd => ?_⟩
  obtain ⟨x, hx, rx⟩ := r.get hd
  refine ⟨⟨vs, x, hq.sq, hx⟩, fun y H'' ⟨e, k⟩ => ⟨.inl e, ?_⟩⟩
  have e2 := k vs hq.sq
  rw [hx] at e2
  cases e2
  rw [e]
  exact rx.fr f
theorem itok_scr {K : PySem.W.Frag} {W B : AP mg} {H : Hp} {a : Addr} {ns : List Int} (na : ¬ W a) (hp : Rd H a (.lst (ns.map V.int))) : ItOk (Itl K a) W B H (ns.map .int) := fun W' H' i f _ => by
  have hq : Rd H' a (.lst (ns.map V.int)) := rd_keep f.keep hp na
  refine ⟨fun hi => ⟨_, .inl hq, by simpa using hi⟩, fun d hd => ?_⟩
  rw [List.getElem?_map] at hd
  cases q : ns[i]? with
  | none => rw [q] at hd; cases hd
  | some n =>
    rw [q] at hd
    cases hd
    refine ⟨⟨_, .int n, .inl hq, by rw [List.getElem?_map, q]; rfl⟩, fun y H'' ⟨e, k⟩ => ⟨.inl e, ?_⟩⟩
    have e2 := k _ (.inl hq)
    rw [List.getElem?_map, q] at e2
    cases e2
    rfl
theorem rdI_seq {mg : Str → Option Value} {f : M R} {σ : L2.St} {H : Hp} {R : It → Hp → Prop} {K : PySem.W.Frag} (h : rdI mg Wx (fSrc seqD f) σ H R) :
    rdE mg Wx f σ H fun x H1 => ∃ a, x = .ref a ∧ ((∃ xs, SqL K H1 a xs) ∧ R (Itl K a) H1 ∨ (∃ xs, SqT K H1 a xs) ∧ R (Itt K a) H1) := by
  obtain ⟨W, B, ρ, s, a⟩ := h
  refine ⟨W, B, ρ, s, (After.bind a).mono fun W1 H1 r ρ1 _ _ a1 v hv => ?_⟩
  obtain ⟨ds, e, a2⟩ := a1.opt
  obtain ⟨W0, hW, s0, r0⟩ := hv.any
  have a2 := a2 W1 H1 .refl
  generalize r.d = d at e r0
  cases d with
  | lst xs =>
    cases e
    obtain ⟨p, vs, rfl, hp, np, rs⟩ := r0
    exact ⟨p, rfl, .inl ⟨⟨vs, SqL.of hp⟩, a2 _ W0 hW s0 (itok_seq (fun z => np (.inl z)) hp rs)⟩⟩
  | tup xs =>
    cases e
    obtain ⟨p, vs, rfl, hp, np, rs⟩ := r0
    exact ⟨p, rfl, .inr ⟨⟨vs, hp.sq⟩, a2 _ W0 hW s0 (itok_tup (fun z => np (.inl z)) hp rs)⟩⟩
  | scr ns =>
    cases e
    obtain ⟨p, rfl, hp, np⟩ := r0
    exact ⟨p, rfl, .inl ⟨⟨_, .inl hp⟩, a2 _ W0 hW s0 (itok_scr (fun z => np (.inl z)) hp)⟩⟩
  | _ => cases e
/-- a list or a tuple -/
theorem pi_seq {l : Expr} {tl : TE} (hl : PE X l tl) : PI X tg l (fun σ H R => tl σ H fun x H1 => ∃ a, x = .ref a ∧ ((∃ xs, SqL X.K H1 a xs) ∧ R (Itl X.K a) H1 ∨ (∃ xs, SqT X.K H1 a xs) ∧ R (Itt X.K a) H1)) := by
  refine ⟨fun pins s σ H R I h => ?_⟩
  refine thn (hl.run pins s σ H _ I h) fun v s1 ⟨x, H1, I1, r1, q1⟩ => ?_
  obtain ⟨a, e, q⟩ := q1
  subst e
  cases r1
  rcases q with ⟨⟨xs, hq⟩, q⟩ | ⟨⟨xs, hq⟩, q⟩
  · obtain ⟨its, rv, p, hz⟩ := I1.list hq
    refine wpAny_pyIter_list p.isList ?_
    refine ⟨s1.heap.objs.size, [s1.heap.objs.size], _, _, H1, rfl, I1.kept (t' := s1.toks) fun b o e => Heap.get?_push_of_some _ e, turn_list a _, ⟨_, Heap.get?_push_size _ rfl, rfl, rfl⟩, fun b hb => ?_, q⟩
    have e : b = s1.heap.objs.size := by simpa using hb
    subst e
    exact I1.fpOk (Nat.le_refl _) (I1.hok.fresh (Nat.le_refl _))
  · obtain ⟨its, rv, p, hz⟩ := I1.tuple hq
    refine wpAny_pyIter_tuple (show s1.heap.IsTuple a its.toArray from p) ?_
    refine ⟨s1.heap.objs.size, [s1.heap.objs.size], _, _, H1, rfl, I1.kept (t' := s1.toks) fun b o e => Heap.get?_push_of_some _ e, turn_tuple a _, ⟨_, Heap.get?_push_size _ rfl, rfl, rfl⟩, fun b hb => ?_, q⟩
    have e : b = s1.heap.objs.size := by simpa using hb
    subst e
    exact I1.fpOk (Nat.le_refl _) (I1.hok.fresh (Nat.le_refl _))
theorem di_seq (h : DE X Wx iter fe) : DI X Wx tg iter (fSrc seqD fe) := ⟨pi_imp (pi_seq h.pe) fun σ H R q => rdI_seq q, evo_bind h.evo fun _ => evo_opt _⟩
theorem di_seqB {i : Nat} (h : PE X iter (tVar i)) : DI X Wx tg iter (fSrcB seqD i) := by
  refine ⟨pi_imp (pi_seq h) fun σ H R ⟨W, B, ρ, s, a⟩ => ?_, evo_srcB⟩
  unfold fSrcB at a
  split at a
  · rename_i d e1
    obtain ⟨p, e2, bp, t⟩ := s.slot i _ e1
    obtain ⟨ds, e, a2⟩ := a.opt
    have a2 := a2 W H .refl
    refine ⟨.ref p, sv_some e2, p, rfl, ?_⟩
    cases d with
    | lst xs =>
      cases e
      obtain ⟨vs, hp, rs⟩ := t
      exact .inl ⟨⟨vs, SqL.of hp⟩, a2 _ W .rfl' s (itok_seq (fun z => s.dis p z bp) hp rs)⟩
    | _ => first | exact t.elim | cases e
  · rename_i d e1
    obtain ⟨x, e2, r0⟩ := s.slot i _ e1
    obtain ⟨ds, e, a2⟩ := a.opt
    have a2 := a2 W H .refl
    refine ⟨x, sv_some e2, ?_⟩
    cases d with
    | lst xs =>
      cases e
      obtain ⟨p, vs, rfl, hp, np, rs⟩ := r0
      exact ⟨p, rfl, .inl ⟨⟨vs, SqL.of hp⟩, a2 _ W .rfl' s (itok_seq (fun z => np (.inl z)) hp rs)⟩⟩
    | tup xs =>
      cases e
      obtain ⟨p, vs, rfl, hp, np, rs⟩ := r0
      exact ⟨p, rfl, .inr ⟨⟨vs, hp.sq⟩, a2 _ W .rfl' s (itok_tup (fun z => np (.inl z)) hp rs)⟩⟩
    | scr ns =>
      cases e
      obtain ⟨p, rfl, hp, np⟩ := r0
      exact ⟨p, rfl, .inl ⟨⟨_, .inl hp⟩, a2 _ W .rfl' s (itok_scr (fun z => np (.inl z)) hp)⟩⟩
    | _ => cases e
  · exact a.elim
def strsOf (x : Str) : List D := x.cps.toList.map fun c => .str ⟨#[c]⟩
def strD : D → Option (List D)
  | .str x => some (strsOf x)
  | _ => none
theorem itok_str {W B : AP mg} {H : Hp} {x : Str} : ItOk (Its x) W B H (strsOf x) := fun W' H' i f _ => by
  refine ⟨fun hi => by unfold strsOf at hi; rw [List.length_map] at hi; show x.cps.size ≤ i; simpa using hi, fun d hd => ?_⟩
  unfold strsOf at hd
  rw [List.getElem?_map] at hd
  cases q : x.cps.toList[i]? with
  | none => rw [q] at hd; cases hd
  | some c =>
    rw [q] at hd
    cases hd
    refine ⟨?_, fun y H'' ⟨e, c', e2, e3⟩ => ⟨.inl e, ?_⟩⟩
    · have := (List.getElem?_eq_some_iff.mp q).1
      show i < x.cps.size
      simpa using this
    · have e4 : x.cps.toList[i]? = some c' := by simpa using e2
      rw [q] at e4
      cases e4
      rw [e3]
      rfl
/-- a text, sign by sign -/
theorem di_str (h : DE X Wx iter fe) : DI X Wx tg iter (fSrc strD fe) := by
  refine ⟨pi_imp (pi_str h.pe) fun σ H R ⟨W, B, ρ, s, a⟩ => ⟨W, B, ρ, s, (After.bind a).mono fun W1 H1 r ρ1 _ _ a1 v hv => ?_⟩, evo_bind h.evo fun _ => evo_opt _⟩
  obtain ⟨ds, e, a2⟩ := a1.opt
  obtain ⟨W0, hW, s0, r0⟩ := hv.any
  have a2 := a2 W1 H1 .refl
  generalize r.d = d at e r0
  cases d with
  | str x =>
    cases e
    exact ⟨x, r0, a2 _ W0 hW s0 itok_str⟩
  | _ => cases e
/-- lo, lo + 1, .. -/
def rangeL (lo : Int) (n : Nat) : List D := (List.range n).map fun i => .int (lo + (i : Nat))
def rng1 : List D → Option (List D)
  | [.int j] => if -(2 ^ 62) ≤ j ∧ j < 2 ^ 62 then some (rangeL 0 j.toNat) else none
  | _ => none
def rng2 : List D → Option (List D)
  | [.int i, .int j] => if -(2 ^ 62) ≤ i ∧ i < 2 ^ 62 ∧ -(2 ^ 62) ≤ j ∧ j < 2 ^ 62 then some (rangeL i (j - i).toNat) else none
  | _ => none
def fRng (g : List D → Option (List D)) (os : List Opd) : M (List D) := mbind (evs os) fun ds => mopt (g ds)
theorem itok_rng {W B : AP mg} {H : Hp} {lo : Int} {n : Nat} : ItOk (Itr lo n) W B H (rangeL lo n) := fun W' H' i f _ => by
  refine ⟨fun hi => by unfold rangeL at hi; show n ≤ i; simpa using hi, fun d hd => ?_⟩
  unfold rangeL at hd
  rw [List.getElem?_map] at hd
  by_cases hi : i < n
  · rw [List.getElem?_range hi] at hd
    cases hd
    exact ⟨hi, fun y H'' ⟨e, e2⟩ => ⟨.inl e, by rw [e2]; rfl⟩⟩
  · rw [List.getElem?_eq_none (by simpa using hi)] at hd
    cases hd
theorem mono_rdOs {mg : Str → Option Value} {os : List Opd} {σ : L2.St} {H : Hp} {Q Q' : List V → Hp → Prop} (q : rdOs mg Wx os σ H Q) (i : ∀ v H, Q v H → Q' v H) : rdOs mg Wx os σ H Q' := by
  obtain ⟨W, B, ρ, s, a⟩ := q
  exact ⟨W, B, ρ, s, a.mono fun W' H' ds ρ' _ _ k vs s' r => i vs H' (k vs s' r)⟩
theorem di_range1 {a : Expr} {o : Opd} {p : Pos} (hg : Gl X "range") (hm : X.mg "range" = none) (ha : DOs X Wx [a] [o]) (hs : starEach [a] X.env = [(false, eval a X.env)] := by rfl) : DI X Wx tg (.Call (.Name "range" p) [a] [] pos) (fRng rng1 [o]) := by
  refine ⟨pi_imp (pi_range1 hg hm ha.pa hs) fun σ H R ⟨W, B, ρ, s, a⟩ => ⟨W, B, ρ, s, (After.bind a).mono fun W1 H1 ds ρ1 _ _ a1 vs s1 rs => ?_⟩, evo_bind (evo_evs ha.evo) fun _ => evo_opt _⟩
  obtain ⟨is, e, a2⟩ := a1.opt
  have a2 := a2 W1 H1 .refl
  unfold rng1 at e
  split at e
  · split at e
    · rename_i hz
      cases e
      obtain ⟨x, _, rfl, px, z⟩ := rs
      rw [show _ = [] from z, px.int]
      exact ⟨_, rfl, hz.1, hz.2, a2 _ W1 .rfl' s1 itok_rng⟩
    · cases e
  · cases e
theorem di_range2 {a b : Expr} {o o2 : Opd} {p : Pos} (hg : Gl X "range") (hm : X.mg "range" = none) (ha : DOs X Wx [a, b] [o, o2]) (hs : starEach [a, b] X.env = [(false, eval a X.env), (false, eval b X.env)] := by rfl) (hs2 : starEach [b] X.env = [(false, eval b X.env)] := by rfl) : DI X Wx tg (.Call (.Name "range" p) [a, b] [] pos) (fRng rng2 [o, o2]) := by
  refine ⟨pi_imp (pi_range2 hg hm ha.pa hs hs2) fun σ H R ⟨W, B, ρ, s, a⟩ => ⟨W, B, ρ, s, (After.bind a).mono fun W1 H1 ds ρ1 _ _ a1 vs s1 rs => ?_⟩, evo_bind (evo_evs ha.evo) fun _ => evo_opt _⟩
  obtain ⟨is, e, a2⟩ := a1.opt
  have a2 := a2 W1 H1 .refl
  unfold rng2 at e
  split at e
  · split at e
    · rename_i hz
      cases e
      obtain ⟨x, _, rfl, px, y, _, rfl, py, z⟩ := rs
      rw [show _ = [] from z, px.int, py.int]
      exact ⟨_, _, rfl, hz, a2 _ W1 .rfl' s1 itok_rng⟩
    · cases e
  · cases e

/-! ### for -/
def forL (t : Tg) (body : M Fl) : List D → M Fl
  | [] => mret .next
  | d :: ds => mbind (setTg t d) fun _ => mbind body fun fl => match fl with
    | .next => forL t body ds
    | .cont => forL t body ds
    | .brk => mret .next
    | .ret r => mret (.ret r)
theorem evo_forL {body : M Fl} (hb : EvoF body) : ∀ ds, EvoF (forL t body ds)
  | [] => evo_ret _
  | d :: ds => evo_bind (evo_setTg t d) fun _ => evo_bind hb fun fl => by
    cases fl <;> first | exact evo_forL hb ds | exact evo_ret _
def sFor (t : Tg) (src : M (List D)) (body : M Fl) : M Fl := mbind src fun ds => forL t body ds
theorem drop_get {α : Type} {l : List α} {i : Nat} {x : α} (h : l[i]? = some x) : l.drop i = x :: l.drop (i + 1) := by
  obtain ⟨hi, e⟩ := List.getElem?_eq_some_iff.mp h
  rw [List.drop_eq_getElem_cons hi, e]
theorem ds_for {src : M (List D)} {body : List Stmt} {fb : M Fl} (hp : PassesOwn (model X.prog X.w) X.A X.env X.xe) (hc : X.calm = true) (hi : DI X Wx tg iter src) (hg : DG X tg t) (hb : DSs X Wx body fb)
    (hs : ∀ x, foldedSetIterable iter X.env x = pure x := by intro _; rfl) : DS X Wx (.For tg iter body [] pos) (sFor t src fb) := by
  refine ⟨ps_imp (ps_for hp hc hi.pi hg.pg hb.pss hs) fun D σ H ⟨W, B, ρ, s, a⟩ => ⟨W, B, ρ, s, (a.bindE fun ds => evo_forL hb.evo ds).mono fun W1 H1 ds ρ1 _ _ a1 J W0 hW s0 it => ?_⟩, evo_bind hi.evo fun ds => evo_forL hb.evo ds⟩
  have evL : ∀ ds, EvoF (forL t fb ds) := evo_forL hb.evo
  refine ⟨fun i m σ' H' => i ≤ ds.length ∧ m = ds.length - i ∧ ∃ W' ρ', St W' B σ' H' ρ' ∧ Fr W0 H1 W' H' ∧ AfterS X.mg Wx W' B σ' H' (forL t fb (ds.drop i) ρ') D, ⟨_, Nat.zero_le _, rfl, W0, ρ1, s0, .refl, a1.shift (.less hW) .refl fun r q => evL _ _ _ q⟩, ?_⟩
  rintro i m σ' H' ⟨hi', rfl, W', ρ', s', f', a'⟩
  obtain ⟨k1, k2⟩ := it W' H' i f' s'.dom
  cases q : ds[i]? with
  | none =>
    have hle : ds.length ≤ i := List.getElem?_eq_none_iff.mp q
    rw [List.drop_eq_nil_of_le hle] at a'
    exact .inl ⟨k1 hle, a'.here s'⟩
  | some d =>
    obtain ⟨go, yl⟩ := k2 d q
    have hlt : i < ds.length := (List.getElem?_eq_some_iff.mp q).1
    refine .inr ⟨go, fun σ2 H2 => ∃ W2 ρ2, St W2 B σ2 H2 ρ2 ∧ Fr W0 H1 W2 H2 ∧ AfterS X.mg Wx W2 B σ2 H2 (forL t fb (ds.drop (i + 1)) ρ2) D, fun σ2 H2 ⟨W2, ρ2, s2, f2, a2⟩ => ⟨ds.length - (i + 1), by omega, hlt, rfl, W2, ρ2, s2, f2, a2⟩, fun x H'' y => ?_⟩
    obtain ⟨nw, rx⟩ := yl x H'' y
    have s'' := s'.new' nw
    rw [drop_get q] at a'
    have a' : AfterS X.mg Wx W' B σ' H' (mbind (setTg t d) (fun _ => mbind fb fun fl => match fl with
      | .next => forL t fb (ds.drop (i + 1))
      | .cont => forL t fb (ds.drop (i + 1))
      | .brk => mret .next
      | .ret r => mret (.ret r)) ρ') D := a'
    have evK : ∀ fl : Fl, EvoF (match fl with
      | .next => forL t fb (ds.drop (i + 1))
      | .cont => forL t fb (ds.drop (i + 1))
      | .brk => mret .next
      | .ret r => mret (.ret r)) := fun fl => by cases fl <;> first | exact evL _ | exact evo_ret _
    unfold mbind at a'
    cases q2 : setTg t d ρ' with
    | none => rw [q2] at a'; exact a'.elim
    | some z =>
      obtain ⟨ρ2, q3, ez⟩ := setTg_case q2
      rw [q2, ez] at a'
      refine setTg_gives q3 s'' rx fun σ2 s2 kp2 => ?_
      have a2 := AfterS.shift (σ1 := σ2) (ρ1 := ρ2) (H1 := H'') (W1 := W') (show AfterS X.mg Wx W' B σ' H' ((mbind fb fun fl => match fl with
        | .next => forL t fb (ds.drop (i + 1))
        | .cont => forL t fb (ds.drop (i + 1))
        | .brk => mret .next
        | .ret r => mret (.ret r)) ρ2) D from a') (Fr.new' nw) kp2 fun r q => evo_bind hb.evo evK _ _ q
      refine ⟨W', B, ρ2, s2, ?_⟩
      -- the body, then what is left
      unfold mbind at a2
      cases q4 : fb ρ2 with
      | none => rw [q4] at a2; exact a2.elim
      | some z2 =>
        rw [q4] at a2
        cases z2 with
        | err e ρ3 => exact a2
        | ok fl ρ3 =>
          have f2 : Fr W0 H1 W' H'' := f'.trans (Fr.new' nw)
          refine fun W3 σ3 H3 f3 k3 => ?_
          cases fl with
          | next => exact fun s3 => ⟨W3, ρ3, s3, f2.trans f3, AfterS.shift a2 f3 k3 fun r q => evL _ _ _ q⟩
          | cont => exact fun s3 => ⟨W3, ρ3, s3, f2.trans f3, AfterS.shift a2 f3 k3 fun r q => evL _ _ _ q⟩
          | brk => exact fun s3 => a2 W3 σ3 H3 f3 k3 s3
          | ret r => exact a2 W3 σ3 H3 f3 k3

/-! ### while -/
def whileN (c : M Bool) (body : M Fl) : Nat → M Fl
  | 0 => fun _ => none
  | n + 1 => mbind c fun k => if k = true then mbind body fun fl => (match fl with
    | .next => whileN c body n
    | .cont => whileN c body n
    | .brk => mret .next
    | .ret r => mret (.ret r)) else mret .next
theorem evo_whileN {body : M Fl} (hc : EvoF c) (hb : EvoF body) : ∀ n, EvoF (whileN c body n)
  | 0 => fun _ _ z => nomatch z
  | n + 1 => evo_bind hc fun k => by
    cases k with
    | false => exact evo_ret _
    | true => exact evo_bind hb fun fl => by cases fl <;> first | exact evo_whileN hc hb n | exact evo_ret _
open Classical in
/-- a while that ends: by as many turns as it takes -/
noncomputable def sWhile (c : M Bool) (body : M Fl) : M Fl := fun ρ => if h : ∃ n r, whileN c body n ρ = some r then some (Classical.choose (Classical.choose_spec h)) else none
theorem sWhile_some {c : M Bool} {body : M Fl} {ρ : Env} {r : Res Fl} (h : sWhile c body ρ = some r) : ∃ n, whileN c body n ρ = some r := by
  unfold sWhile at h
  split at h
  · rename_i q
    cases h
    exact ⟨_, Classical.choose_spec (Classical.choose_spec q)⟩
  · cases h
theorem whileN_succ {c : M Bool} {body : M Fl} : ∀ {n : Nat} {ρ : Env} {r : Res Fl}, whileN c body n ρ = some r → whileN c body (n + 1) ρ = some r
  | 0, _, _, h => nomatch h
  | n + 1, ρ, r, h => by
    have h : mbind c (fun k => if k = true then mbind body fun fl => (match fl with
      | .next => whileN c body n
      | .cont => whileN c body n
      | .brk => mret .next
      | .ret r => mret (.ret r)) else mret .next) ρ = some r := h
    show mbind c (fun k => if k = true then mbind body fun fl => (match fl with
      | .next => whileN c body (n + 1)
      | .cont => whileN c body (n + 1)
      | .brk => mret .next
      | .ret r => mret (.ret r)) else mret .next) ρ = some r
    unfold mbind at h ⊢
    cases q : c ρ with
    | none => rw [q] at h; exact h
    | some x =>
      rw [q] at h
      cases x with
      | err e ρ1 => exact h
      | ok k ρ1 =>
        cases k with
        | false => exact h
        | true =>
          simp only [if_true] at h ⊢
          cases q2 : body ρ1 with
          | none => rw [q2] at h; exact h
          | some y =>
            rw [q2] at h
            cases y with
            | err e ρ2 => exact h
            | ok fl ρ2 =>
              cases fl with
              | next => exact whileN_succ (n := n) h
              | cont => exact whileN_succ (n := n) h
              | brk => exact h
              | ret r => exact h
theorem whileN_add {c : M Bool} {body : M Fl} {n : Nat} {ρ : Env} {r : Res Fl} (h : whileN c body n ρ = some r) : ∀ k, whileN c body (n + k) ρ = some r
  | 0 => h
  | k + 1 => whileN_succ (whileN_add h k)
theorem sWhile_eq {c : M Bool} {body : M Fl} {ρ : Env} {r : Res Fl} {n : Nat} (h : whileN c body n ρ = some r) : sWhile c body ρ = some r := by
  have q : ∃ n r, whileN c body n ρ = some r := ⟨n, r, h⟩
  have e : sWhile c body ρ = some (Classical.choose (Classical.choose_spec q)) := by unfold sWhile; rw [dif_pos q]
  have z := Classical.choose_spec (Classical.choose_spec q)
  have z2 := whileN_add z n
  have z3 := whileN_add h (Classical.choose q)
  rw [Nat.add_comm] at z3
  rw [z2] at z3
  rw [e, z3]
theorem evo_while {body : M Fl} (hc : EvoF c) (hb : EvoF body) : EvoF (sWhile c body) := fun ρ o e => by
  obtain ⟨n, h⟩ := sWhile_some e
  exact evo_whileN hc hb n ρ o h
theorem ds_while {ce : Expr} {body : List Stmt} {fb : M Fl} (hp : PassesOwn (model X.prog X.w) X.A X.env X.xe) (hc : DT X Wx ce c) (hb : DSs X Wx body fb) : DS X Wx (.While ce body [] pos) (sWhile c fb) := by
  refine ⟨ps_imp (ps_while hp hc.pt hb.pss) fun D σ H ⟨W, B, ρ, s, a⟩ => ?_, evo_while hc.evo hb.evo⟩
  have evW := evo_whileN hc.evo hb.evo
  have start : ∃ n, AfterS X.mg Wx W B σ H (whileN c fb n ρ) D := by
    cases q : sWhile c fb ρ with
    | none => rw [q] at a; exact a.elim
    | some r =>
      obtain ⟨n, h⟩ := sWhile_some q
      rw [q] at a
      exact ⟨n, by rw [h]; exact a⟩
  obtain ⟨n0, a0⟩ := start
  refine ⟨fun m σ' H' => ∃ W' ρ', St W' B σ' H' ρ' ∧ AfterS X.mg Wx W' B σ' H' (whileN c fb m ρ') D, ⟨n0, W, ρ, s, a0⟩, ?_⟩
  rintro m σ' H' ⟨W', ρ', s', a'⟩
  cases m with
  | zero => exact a'.elim
  | succ n =>
    have evK : ∀ fl : Fl, EvoF (match fl with
      | .next => whileN c fb n
      | .cont => whileN c fb n
      | .brk => mret .next
      | .ret r => mret (.ret r)) := fun fl => by cases fl <;> first | exact evW _ | exact evo_ret _
    have a' : AfterS X.mg Wx W' B σ' H' (mbind c (fun k => if k = true then mbind fb fun fl => (match fl with
      | .next => whileN c fb n
      | .cont => whileN c fb n
      | .brk => mret .next
      | .ret r => mret (.ret r)) else mret .next) ρ') D := a'
    refine ⟨W', B, ρ', s', (a'.bindE fun k => by cases k; exact evo_ret _; exact evo_bind hb.evo evK).mono fun W1 H1 k ρ1 _ f1 a1 s1 => ?_⟩
    cases k with
    | false => exact a1.here s1
    | true =>
      refine (if_pos rfl).mpr ?_
      refine ⟨fun σ2 H2 => ∃ W2 ρ2, St W2 B σ2 H2 ρ2 ∧ AfterS X.mg Wx W2 B σ2 H2 (whileN c fb n ρ2) D, fun σ2 H2 q => ⟨n, Nat.lt_succ_self n, q⟩, W1, B, ρ1, s1, ?_⟩
      have a1 : AfterS X.mg Wx W1 B σ' H1 (mbind fb (fun fl => match fl with
        | .next => whileN c fb n
        | .cont => whileN c fb n
        | .brk => mret .next
        | .ret r => mret (.ret r)) ρ1) D := a1
      refine a1.bindS evK fun fl ρ2 W2 σ2 H2 a2 => ?_
      cases fl with
      | next => exact fun s2 => ⟨W2, ρ2, s2, a2⟩
      | cont => exact fun s2 => ⟨W2, ρ2, s2, a2⟩
      | brk => exact a2.here
      | ret r => exact a2.here
end
end Dz
/-! Dz 7: list comprehensions; lists changed in place. -/
namespace Dz
open PySem PySem.Spec PyProof.Rows L2

/-- nothing is raised -/
abbrev W0 : WX := fun _ _ _ _ => False
def wipeE (ρ : Env) : List Nat → Env
  | [] => ρ
  | i :: is => (wipeE ρ is).set i .emp
def calmSl : Slot → Bool
  | .emp => true
  | .frz _ => true
  | _ => false
def wipeOk (ρ : Env) (is : List Nat) : Bool := is.all fun i => match ρ[i]? with
  | some s => calmSl s
  | none => false
/-- the slots is as they stood in ρ, the others as they stand now -/
def backE (ρ ρ' : Env) : List Nat → Env
  | [] => ρ'
  | i :: is => (backE ρ ρ' is).set i (ρ.getD i .emp)
theorem wipeE_len (ρ : Env) : ∀ is, (wipeE ρ is).length = ρ.length
  | [] => rfl
  | i :: is => by show ((wipeE ρ is).set i .emp).length = _; rw [List.length_set, wipeE_len ρ is]
theorem wipeE_out {ρ : Env} {j : Nat} : ∀ {is : List Nat}, j ∉ is → (wipeE ρ is)[j]? = ρ[j]?
  | [], _ => rfl
  | i :: is, h => by
    show ((wipeE ρ is).set i .emp)[j]? = _
    rw [List.getElem?_set_ne (fun z => h (by simp [z])), wipeE_out fun z => h (by simp [z])]
theorem wipeE_in {ρ : Env} {j : Nat} : ∀ {is : List Nat}, j ∈ is → j < ρ.length → (wipeE ρ is)[j]? = some .emp
  | i :: is, h, hl => by
    show ((wipeE ρ is).set i .emp)[j]? = _
    by_cases e : i = j
    · subst e; rw [List.getElem?_set_self (by rw [wipeE_len]; exact hl)]
    · rw [List.getElem?_set_ne e]
      exact wipeE_in ((List.mem_cons.mp h).resolve_left fun z => e z.symm) hl
theorem backE_len (ρ ρ' : Env) : ∀ is, (backE ρ ρ' is).length = ρ'.length
  | [] => rfl
  | i :: is => by show ((backE ρ ρ' is).set i _).length = _; rw [List.length_set, backE_len ρ ρ' is]
theorem backE_out {ρ ρ' : Env} {j : Nat} : ∀ {is : List Nat}, j ∉ is → (backE ρ ρ' is)[j]? = ρ'[j]?
  | [], _ => rfl
  | i :: is, h => by
    show ((backE ρ ρ' is).set i _)[j]? = _
    rw [List.getElem?_set_ne (fun z => h (by simp [z])), backE_out fun z => h (by simp [z])]
theorem backE_in {ρ ρ' : Env} {j : Nat} : ∀ {is : List Nat}, j ∈ is → j < ρ'.length → (backE ρ ρ' is)[j]? = some (ρ.getD j .emp)
  | i :: is, h, hl => by
    show ((backE ρ ρ' is).set i _)[j]? = _
    by_cases e : i = j
    · subst e; rw [List.getElem?_set_self (by rw [backE_len]; exact hl)]
    · rw [List.getElem?_set_ne e]
      exact backE_in ((List.mem_cons.mp h).resolve_left fun z => e z.symm) hl
theorem sv_wipe_out {σ : L2.St} {j : Nat} {is : List Nat} (h : j ∉ is) : sv (wipe σ is) j = sv σ j := by
  unfold sv
  rw [List.getD_eq_getElem?_getD, List.getD_eq_getElem?_getD, wipe_out h]
theorem St.wipe {W B : AP mg} {σ : L2.St} {H : Hp} {ρ : Env} (s : St W B σ H ρ) (is : List Nat) : St W B (L2.wipe σ is) H (wipeE ρ is) := by
  have key : ∀ (i : Nat) (t : Slot), (wipeE ρ is)[i]? = some t → t = .emp ∨ (i ∉ is ∧ ρ[i]? = some t) := fun i t e => by
    by_cases h : i ∈ is
    · have hl : i < ρ.length := by rw [← wipeE_len ρ is]; exact (List.getElem?_eq_some_iff.mp e).1
      rw [wipeE_in h hl] at e
      exact .inl (Option.some.inj e).symm
    · rw [wipeE_out h] at e
      exact .inr ⟨h, e⟩
  have nh : ∀ (j : Nat) (cs : List D), (wipeE ρ is)[j]? = some (Slot.hp cs) → j ∉ is ∧ ρ[j]? = some (Slot.hp cs) := fun j cs k => by
    rcases key j _ k with z | z
    · cases z
    · exact z
  refine ⟨by rw [wipe_length, wipeE_len]; exact s.len, fun i t e => ?_, s.dom, s.dis, fun i j t t' a hij p q w1 w2 x1 x2 => ?_, fun j k t cs n a p w1 x1 q e1 => ?_, fun j k cs cs' p q => s.hp1 j k cs cs' (nh j cs p).2 (nh k cs' q).2⟩
  rotate_left 2
  · rcases key j t p with z | ⟨n1, p'⟩
    · subst z; cases w1
    · rw [sv_wipe_out n1] at x1
      exact s.hpa j k t cs n a p' w1 x1 (nh k cs q).2 e1
  · rcases key i t e with z | ⟨n, e'⟩
    · subst z; trivial
    · rw [sv_wipe_out n]; exact s.slot i t e'
  · rcases key i t p with z | ⟨n1, p'⟩
    · subst z; cases w1
    · rcases key j t' q with z | ⟨n2, q'⟩
      · subst z; cases w2
      · rw [sv_wipe_out n1] at x1
        rw [sv_wipe_out n2] at x2
        exact s.apart i j t t' a hij p' q' w1 w2 x1 x2
/-- one turn after another -/
def lcL (t : Tg) (is : List Nat) (cond : M Bool) (elt : M R) : List D → List D → M (List D)
  | [], acc => mret acc
  | d :: ds, acc => mbind (setTg t d) fun _ => mbind cond fun k =>
      if k = true then mbind elt fun r => mbind (mopt (if acc.length < sizeLine then some () else none)) fun _ => fun ρ => lcL t is cond elt ds (acc ++ [r.d]) (wipeE ρ is)
      else fun ρ => lcL t is cond elt ds acc (wipeE ρ is)
def noErr {α : Type} : Option (Res α) → Option (α × Env)
  | some (.ok a ρ) => some (a, ρ)
  | _ => none
def fLc (t : Tg) (is : List Nat) (src : M (List D)) (cond : M Bool) (elt : M R) : M R := mbind src fun items => fun ρ =>
  if wipeOk ρ is = true then
    match noErr (lcL t is cond elt items [] (wipeE ρ is)) with
    | some (acc, ρ') => some (.ok (.own (.lst acc)) (backE ρ ρ' is))
    | none => none
  else none
theorem mbind_ok {α β : Type} {f : M α} {g : α → M β} {ρ ρ' : Env} {b : β} (h : mbind f g ρ = some (.ok b ρ')) : ∃ a ρ1, f ρ = some (.ok a ρ1) ∧ g a ρ1 = some (.ok b ρ') := by
  unfold mbind at h
  cases q : f ρ with
  | none => rw [q] at h; cases h
  | some x =>
    rw [q] at h
    cases x with
    | err e ρ1 => cases h
    | ok a ρ1 => exact ⟨a, ρ1, rfl, h⟩
/-- what is not wiped goes on as it may -/
structure EvoX (is : List Nat) (ρ ρ' : Env) : Prop where
  len : ρ'.length = ρ.length
  bor : ∀ (i : Nat) (d : D), i ∉ is → ρ'[i]? = some (Slot.bor d) → ρ[i]? = some (Slot.bor d)
  lent : ∀ (i : Nat) (d : D), i ∉ is → ρ[i]? = some (Slot.lent d) → ∃ d', ρ'[i]? = some (Slot.lent d')
  tnel : ∀ (i : Nat) (d : D), i ∉ is → ρ'[i]? = some (Slot.lent d) → ∃ d', ρ[i]? = some (Slot.lent d')
  hp : ∀ (i : Nat) (d : List D), i ∉ is → ρ[i]? = some (Slot.hp d) → ∃ d', ρ'[i]? = some (Slot.hp d')
  ph : ∀ (i : Nat) (d : List D), i ∉ is → ρ'[i]? = some (Slot.hp d) → ∃ d', ρ[i]? = some (Slot.hp d')
theorem Evo.x {is : List Nat} {ρ ρ' : Env} (e : Evo ρ ρ') : EvoX is ρ ρ' := ⟨e.len, fun i d _ => e.bor i d, fun i d _ => e.lent i d, fun i d _ => e.tnel i d, fun i d _ => e.hp i d, fun i d _ => e.ph i d⟩
theorem EvoX.trans {is : List Nat} {ρ ρ1 ρ2 : Env} (p : EvoX is ρ ρ1) (q : EvoX is ρ1 ρ2) : EvoX is ρ ρ2 :=
  ⟨q.len.trans p.len, fun i d h e => p.bor i d h (q.bor i d h e), fun i d h e => let ⟨d1, e1⟩ := p.lent i d h e; q.lent i d1 h e1, fun i d h e => let ⟨d1, e1⟩ := q.tnel i d h e; p.tnel i d1 h e1, fun i d h e => let ⟨d1, e1⟩ := p.hp i d h e; q.hp i d1 h e1, fun i d h e => let ⟨d1, e1⟩ := q.ph i d h e; p.ph i d1 h e1⟩
theorem EvoX.wipe {is : List Nat} {ρ : Env} : EvoX is ρ (wipeE ρ is) := ⟨wipeE_len _ _, fun i d h e => by rwa [wipeE_out h] at e, fun i d h e => ⟨d, by rwa [wipeE_out h]⟩, fun i d h e => ⟨d, by rwa [wipeE_out h] at e⟩, fun i d h e => ⟨d, by rwa [wipeE_out h]⟩, fun i d h e => ⟨d, by rwa [wipeE_out h] at e⟩⟩
theorem evo_wipe_lcL {t : Tg} {is : List Nat} {cond : M Bool} {elt : M R} (hc : EvoF cond) (he : EvoF elt) : ∀ (ds acc : List D) (ρ ρ' : Env) (r : List D), lcL t is cond elt ds acc ρ = some (.ok r ρ') → EvoX is ρ ρ'
  | [], acc, ρ, ρ', r, h => by
    cases h
    exact (Evo.refl ρ).x
  | d :: ds, acc, ρ, ρ', r, h => by
    obtain ⟨u, ρ1, q1, h⟩ := mbind_ok (show mbind (setTg t d) _ ρ = _ from h)
    obtain ⟨k, ρ2, q2, h⟩ := mbind_ok h
    have ev := (evo_setTg t d ρ _ q1).trans (hc ρ1 _ q2)
    cases k with
    | false => exact (ev.x.trans EvoX.wipe).trans (evo_wipe_lcL hc he ds acc _ ρ' r h)
    | true =>
      obtain ⟨y, ρ3, q3, h3⟩ := mbind_ok (show mbind elt _ ρ2 = _ from h)
      obtain ⟨_, ρ4, q4, h4⟩ := mbind_ok h3
      have ev := ev.trans (he ρ2 _ q3)
      have e4 : ρ4 = ρ3 := by
        unfold mopt at q4
        split at q4 <;> cases q4
        rfl
      subst e4
      exact (ev.x.trans EvoX.wipe).trans (evo_wipe_lcL hc he ds _ _ ρ' r h4)
theorem noErr_some {α : Type} {o : Option (Res α)} {a : α} {ρ : Env} (h : noErr o = some (a, ρ)) : o = some (.ok a ρ) := by
  unfold noErr at h
  split at h
  · cases h; rfl
  · cases h
theorem evo_lc {t : Tg} {is : List Nat} {src : M (List D)} {cond : M Bool} {elt : M R} (hs : EvoF src) (hc : EvoF cond) (he : EvoF elt) : EvoF (fLc t is src cond elt) := evo_bind hs fun items ρ o h => by
  have h : (if wipeOk ρ is = true then
    match noErr (lcL t is cond elt items [] (wipeE ρ is)) with
    | some (acc, ρ') => some (Res.ok (R.own (.lst acc)) (backE ρ ρ' is))
    | none => none
  else none) = some o := h
  split at h
  · rename_i hw
    split at h
    · rename_i acc ρ' q
      cases h
      have E := (EvoX.wipe (is := is) (ρ := ρ)).trans (evo_wipe_lcL hc he items [] _ _ _ (noErr_some q))
      have calm : ∀ i ∈ is, ∃ s, ρ[i]? = some s ∧ calmSl s = true := fun i hi => by
        have := List.all_eq_true.mp hw i hi
        split at this
        · rename_i s e; exact ⟨s, e, this⟩
        · cases this
      refine ⟨by show (backE ρ ρ' is).length = _; rw [backE_len, E.len], fun i d e => ?_, fun i d e => ?_, fun i d e => ?_, fun i d e => ?_, fun i d e => ?_⟩
      · have e : (backE ρ ρ' is)[i]? = some (Slot.bor d) := e
        by_cases hi : i ∈ is
        · obtain ⟨s, es, cs⟩ := calm i hi
          have hl2 := (List.getElem?_eq_some_iff.mp es).1
          rw [backE_in hi (by rw [E.len]; exact hl2), List.getD_eq_getElem?_getD, es] at e
          cases e
          cases cs
        · rw [backE_out hi] at e
          exact E.bor i d hi e
      · show ∃ d', (backE ρ ρ' is)[i]? = some (Slot.lent d')
        by_cases hi : i ∈ is
        · obtain ⟨s, es, cs⟩ := calm i hi
          rw [es] at e
          cases e
          cases cs
        · rw [backE_out hi]
          exact E.lent i d hi e
      · have e : (backE ρ ρ' is)[i]? = some (Slot.lent d) := e
        by_cases hi : i ∈ is
        · obtain ⟨s, es, cs⟩ := calm i hi
          have hl2 := (List.getElem?_eq_some_iff.mp es).1
          rw [backE_in hi (by rw [E.len]; exact hl2), List.getD_eq_getElem?_getD, es] at e
          cases e
          cases cs
        · rw [backE_out hi] at e
          exact E.tnel i d hi e
      · show ∃ d', (backE ρ ρ' is)[i]? = some (Slot.hp d')
        by_cases hi : i ∈ is
        · obtain ⟨s, es, cs⟩ := calm i hi
          rw [es] at e
          cases e
          cases cs
        · rw [backE_out hi]
          exact E.hp i d hi e
      · have e : (backE ρ ρ' is)[i]? = some (Slot.hp d) := e
        by_cases hi : i ∈ is
        · obtain ⟨s, es, cs⟩ := calm i hi
          have hl2 := (List.getElem?_eq_some_iff.mp es).1
          rw [backE_in hi (by rw [E.len]; exact hl2), List.getD_eq_getElem?_getD, es] at e
          cases e
          cases cs
        · rw [backE_out hi] at e
          exact E.ph i d hi e
    · cases h
  · cases h
/-- what was put aside is ours again, with what it holds now -/
theorem VOk.put {W B : AP mg} {σ : L2.St} {H : Hp} {ρ : Env} {a : Addr} {ds : List D} {vs : List V} (s : St W (Pl B a) σ H ρ) (hb : ∀ (i : Nat) (d : D), ρ[i]? = some (Slot.bor d) → sv σ i ≠ some (.ref a)) (nb : ¬ B a)
    (r : Reps (Eo W (Pl B a)) H ds vs) : VOk (Pl W a) B σ (upd H a (.lst vs)) ρ (.ref a) (.own (.lst ds)) := by
  have na : ¬ W a := fun z => s.dis a z (.inr rfl)
  have hE : Ls (Eo (Pl W a) B) (Eo W (Pl B a)) := ⟨fun b z => by
    rcases z with (z | z) | z
    · exact .inl z
    · exact .inr (.inr z)
    · exact .inr (.inl z), rfl, rfl⟩
  have hk : ∀ b o, H b = some o → ¬ Eo W (Pl B a) b → upd H a (.lst vs) b = some o := fun b o e n => by
    rw [upd_ne (fun z => n (.inr (.inr z)))]; exact e
  have hN : Lf (Eo (Pl W a) B) (Eo W (Pl B a)) H := hE.f
  have nce : ∀ (j : Nat) (cs : List D) (n : Nat), ρ[j]? = some (Slot.hp cs) → W.t n ≠ some a := fun j cs n e e1 => by
    have q : HpOk W (Pl B a) H cs := s.slot j _ e
    obtain ⟨_, _, w, _⟩ := q.w e1
    exact na w
  have keepW : ∀ b o, H b = some o → ¬ (fun c => c = a) b → upd H a (.lst vs) b = some o := fun b o e n => by rw [upd_ne n]; exact e
  have sub : ∀ b, (fun c => c = a) b → Eo W (Pl B a) b := fun b z => .inr (.inr z)
  refine ⟨a, rfl, .inr rfl, ⟨s.len, fun i t e => ?_, fun b z => ?_, fun b w q => ?_, s.apart, s.hpa, s.hp1⟩, ⟨_, upd_same, Reps.mono hN hk _ _ r⟩, fun i t e w ev => ?_, nce⟩
  · have q := s.slot i t e
    cases t with
    | emp => trivial
    | frz d => obtain ⟨x, e1, k⟩ := q; exact ⟨x, e1, Rep.mono hN hk _ _ k⟩
    | own d => obtain ⟨x, e1, w, k⟩ := q; exact ⟨x, e1, .inl w, k.mono (M := fun c => c = a) hN keepW sub fun (z : x = a) => na (z ▸ w)⟩
    | lent d => obtain ⟨x, e1, w, k⟩ := q; exact ⟨x, e1, .inl w, k.mono (M := fun c => c = a) hN keepW sub fun (z : x = a) => na (z ▸ w)⟩
    | bor d =>
      obtain ⟨x, e1, w, k⟩ := q
      have hx : x ≠ a := fun z => hb i d e (by rw [e1, z])
      exact ⟨x, e1, w.resolve_right hx, k.mono (M := fun c => c = a) hN keepW sub hx⟩
    | hp cs => exact HpOk.mono (M := fun c => c = a) q hN keepW sub (fun n b e1 (z : b = a) => nce i cs n e (by rw [e1, z])) (fun _ _ _ w => .inl w) rfl rfl
  · by_cases hba : b = a
    · subst hba; rw [upd_same]; simp
    · rw [upd_ne hba]
      exact s.dom b (hE b z)
  · rcases w with w | w
    · exact s.dis b w (.inl q)
    · subst w; exact nb q
  · obtain ⟨c, d', _, e1, wc, _⟩ := s.wr_at e w
    rw [ev] at e1
    cases e1
    exact na wc
theorem upd_self' {H : Hp} {a : Addr} {o : HO} (h : H a = some o) : upd H a o = H := by
  funext b
  unfold upd
  split
  · rename_i e; rw [e, h]
  · rfl
theorem Fr.regain {W W1 : AP mg} {H H1 : Hp} {a : Addr} {o : HO} (f : Fr W H W1 H1) (h : H a = none) : Fr W H (Pl W1 a) (upd H1 a o) := by
  refine ⟨fun b u e n => ?_, fun b z => ?_, f.tab, f.th, f.hh⟩
  · rw [upd_ne (ne_of_none e h)]; exact f.keep b u e n
  · rcases z with z | z
    · exact f.sub b z
    · exact .inr (by rw [z]; exact h)
theorem VOk.wipe {W B : AP mg} {σ : L2.St} {H : Hp} {ρ : Env} {v : V} {d : D} (h : VOk W B σ H ρ v (.own d)) (is : List Nat) : VOk W B (L2.wipe σ is) H (wipeE ρ is) v (.own d) := by
  obtain ⟨a, e, wa, s, t, hn⟩ := h
  refine ⟨a, e, wa, s.wipe is, t, fun i t e w => ?_, fun j cs n e e1 => ?_⟩
  rotate_left 1
  · by_cases hi : j ∈ is
    · have hl : j < ρ.length := by rw [← wipeE_len ρ is]; exact (List.getElem?_eq_some_iff.mp e).1
      rw [wipeE_in hi hl] at e
      cases e
    · rw [wipeE_out hi] at e
      exact hn.ce j cs n e e1
  by_cases hi : i ∈ is
  · have hl : i < ρ.length := by rw [← wipeE_len ρ is]; exact (List.getElem?_eq_some_iff.mp e).1
    rw [wipeE_in hi hl] at e
    cases e
    cases w
  · rw [wipeE_out hi] at e
    rw [sv_wipe_out hi]
    exact hn.nm i t e w
section
variable {X : Cx} {Wx : WX} {elt tg iter : Expr} {ifs : List Expr} {pos : Pos} {t : Tg} {src : M (List D)} {cond : M Bool} {fe : M R}
structure DTs (X : Cx) (Wx : WX) (ifs : List Expr) (f : M Bool) : Prop where
  pts : PTs X ifs (rdT X.mg Wx f)
  evo : EvoF f
theorem dts_nil : DTs X Wx [] (mret true) := ⟨⟨fun pins s σ H Q I ⟨W, B, ρ, st, a⟩ => pts_nil.run pins s σ H Q I (a.here st)⟩, evo_ret _⟩
theorem dts_one {c : Expr} (h : DT X Wx c cond) : DTs X Wx [c] cond := ⟨pts_one h.pt, h.evo⟩
theorem After.noErr {mg : Str → Option Value} {α : Type} {W B : AP mg} {σ : L2.St} {H : Hp} {o : Option (Res α)} {Q : AP mg → Hp → α → Env → Prop} {a : α} {ρ : Env} (e : o = some (.ok a ρ)) (h : ∀ W' H', Fr W H W' H' → Q W' H' a ρ) : After mg W0 W B σ H o Q := by
  rw [e]; exact h
theorem Fr.parks {W W1 : AP mg} {H : Hp} (h : Ls W1 W) : Fr W H W1 H := .less h
theorem tgSlots_ok {is : List Nat} {σ : L2.St} {K : PySem.W.Frag} : True := trivial
mutual
/-- the slots that a target stores to -/
def tgIn (is : List Nat) : Tg → Bool
  | .nm i => is.contains i
  | .tp ts => tgsIn is ts
def tgsIn (is : List Nat) : List Tg → Bool
  | [] => true
  | t :: ts => tgIn is t && tgsIn is ts
end
theorem wipe_set_in {σ : L2.St} {v : Option V} {i : Nat} : ∀ {is : List Nat}, i ∈ is → L2.wipe (σ.set i v) is = L2.wipe σ is
  | is, h => by
    apply List.ext_getElem?
    intro j
    by_cases hj : j ∈ is
    · have e : ∀ τ : L2.St, j < τ.length → (L2.wipe τ is)[j]? = some none := fun τ hl => by
        have hl2 : j < (L2.wipe τ is).length := by rw [wipe_length]; exact hl
        rw [List.getElem?_eq_getElem hl2]
        congr 1
        cases q : (L2.wipe τ is)[j] with
        | none => rfl
        | some x =>
          have : (L2.wipe τ is)[j]? = some (some x) := by rw [List.getElem?_eq_getElem hl2, q]
          exact absurd hj (wipe_some this).2
      by_cases hl : j < σ.length
      · rw [e σ hl, e (σ.set i v) (by rw [List.length_set]; exact hl)]
      · rw [List.getElem?_eq_none (by rw [wipe_length, List.length_set]; omega), List.getElem?_eq_none (by rw [wipe_length]; omega)]
    · rw [wipe_out hj, wipe_out hj, List.getElem?_set_ne (fun z => hj (by rw [← z]; exact h))]
mutual
theorem gOf_wipe {K : PySem.W.Frag} {is : List Nat} : ∀ (t : Tg) {v : V} {σ : L2.St} {H : Hp} {P : L2.St → Hp → Prop}, tgIn is t = true → gOf K t v σ H P → gOf K t v σ H fun σ' H' => L2.wipe σ' is = L2.wipe σ is ∧ P σ' H'
  | .nm i, v, σ, H, P, hi, h => ⟨wipe_set_in (by simpa [tgIn] using hi), h⟩
  | .tp ts, v, σ, H, P, hi, ⟨a, xs, e, q, l, h⟩ => ⟨a, xs, e, q, l, gsOf_wipe ts hi h⟩
theorem gsOf_wipe {K : PySem.W.Frag} {is : List Nat} : ∀ (ts : List Tg) {vs : List V} {σ : L2.St} {H : Hp} {P : L2.St → Hp → Prop}, tgsIn is ts = true → gsOf K ts vs σ H P → gsOf K ts vs σ H fun σ' H' => L2.wipe σ' is = L2.wipe σ is ∧ P σ' H'
  | [], vs, σ, H, P, _, h => ⟨h.1, rfl, h.2⟩
  | t :: ts, vs, σ, H, P, hi, ⟨v, r, e, h⟩ => by
    obtain ⟨h1, h2⟩ := Bool.and_eq_true_iff.mp (show (tgIn is t && tgsIn is ts) = true from hi)
    refine ⟨v, r, e, gOf_mono t (gOf_wipe t h1 h) fun σ1 H1 ⟨w1, k⟩ => gsOf_mono ts (gsOf_wipe ts h2 k) fun σ2 H2 ⟨w2, k2⟩ => ⟨w2.trans w1, k2⟩⟩
end
/-- one more at the list's end, turn by turn -/
theorem lc_turns {mg : Str → Option Value} {K : PySem.W.Frag} {is : List Nat} {W00 B : AP mg} {σ : L2.St} {H1 : Hp} {ρ1 ρF : Env} {J : It} {ds accF : List D} {Q : VK} (hin : tgIn is t = true) (hec : EvoF cond) (hee : EvoF fe) (s0 : St W00 B σ H1 ρ1)
    (it : ItOk J W00 B H1 ds) (run : lcL t is cond fe ds [] (wipeE ρ1 is) = some (.ok accF ρF))
    (fin : ∀ (W' : AP mg) (H' : Hp) (D : Addr), Fr W00 H1 W' H' → H1 D = none → VOk W' B (L2.wipe σ is) H' ρF (.ref D) (.own (.lst accF)) → Q (.ref D) H') :
    ∀ D, H1 D = none → ∃ Wv : Nat → Nat → Hp → Prop, (∃ m, Wv 0 m (upd H1 D (.lst []))) ∧ ∀ i m H, Wv i m H → (J.stop i H ∧ Q (.ref D) H) ∨ (J.go i H ∧ ∃ Nx : Hp → Prop, (∀ H', Nx H' → ∃ m', m' < m ∧ Wv (i + 1) m' H') ∧ ∀ x H', J.yld i H x H' → gOf K t x (L2.wipe σ is) H' fun σ2 H2 => L2.wipe σ2 is = L2.wipe σ is ∧ rdT mg W0 cond σ2 H2 fun b H3 =>
      if b = true then rdE mg W0 fe σ2 H3 fun y H4 => ∃ acc, H4 D = some (.lst acc) ∧ acc.length < sizeLine ∧ Nx (upd H4 D (.lst (acc ++ [y]))) else Nx H3) := by
  intro D hD
  have wv : L2.wipe (L2.wipe σ is) is = L2.wipe σ is := by
    apply List.ext_getElem?
    intro j
    by_cases hj : j ∈ is
    · have e : ∀ τ : L2.St, j < τ.length → (L2.wipe τ is)[j]? = some none := fun τ hl => by
        have hl2 : j < (L2.wipe τ is).length := by rw [wipe_length]; exact hl
        rw [List.getElem?_eq_getElem hl2]
        congr 1
        cases q : (L2.wipe τ is)[j] with
        | none => rfl
        | some x =>
          have : (L2.wipe τ is)[j]? = some (some x) := by rw [List.getElem?_eq_getElem hl2, q]
          exact absurd hj (wipe_some this).2
      by_cases hl : j < σ.length
      · rw [e σ hl, e (L2.wipe σ is) (by rw [wipe_length]; exact hl)]
      · rw [List.getElem?_eq_none (by rw [wipe_length, wipe_length]; omega), List.getElem?_eq_none (by rw [wipe_length]; omega)]
    · rw [wipe_out hj]
  refine ⟨fun i m H => i ≤ ds.length ∧ m = ds.length - i ∧ ∃ W' ρ' acc, Fr W00 H1 W' H ∧ VOk W' B (L2.wipe σ is) H ρ' (.ref D) (.own (.lst acc)) ∧ lcL t is cond fe (ds.drop i) acc ρ' = some (.ok accF ρF), ⟨_, Nat.zero_le _, rfl, _, wipeE ρ1 is, [], Fr.newW hD, vok_lst (s0.wipe is) rfl hD, run⟩, ?_⟩
  rintro i m H ⟨hi, rfl, W', ρ', acc, f', vk, rn⟩
  obtain ⟨k1, k2⟩ := it W' H i f' vk.st.dom
  cases q : ds[i]? with
  | none =>
    have hle : ds.length ≤ i := List.getElem?_eq_none_iff.mp q
    rw [List.drop_eq_nil_of_le hle] at rn
    cases rn
    exact .inl ⟨k1 hle, fin W' H D f' hD vk⟩
  | some d =>
    obtain ⟨go, yl⟩ := k2 d q
    have hlt : i < ds.length := (List.getElem?_eq_some_iff.mp q).1
    refine .inr ⟨go, fun H' => ∃ W' ρ' acc, Fr W00 H1 W' H' ∧ VOk W' B (L2.wipe σ is) H' ρ' (.ref D) (.own (.lst acc)) ∧ lcL t is cond fe (ds.drop (i + 1)) acc ρ' = some (.ok accF ρF), fun H' ⟨W2, ρ2, acc2, z⟩ => ⟨ds.length - (i + 1), by omega, hlt, rfl, W2, ρ2, acc2, z⟩, fun x H'' y => ?_⟩
    obtain ⟨nw, rx⟩ := yl x H'' y
    -- the new list is put aside
    obtain ⟨a, ea, wa, s', tp, hn⟩ := vk
    cases ea
    have nbD : ¬ B D := fun z => s0.dom D (.inr z) hD
    have sA : St (Mi W' D) (Pl B D) (L2.wipe σ is) H ρ' := s'.aside wa hn (fun _ z => .inl z) (fun _ z => z)
    have hE : Ls (Eo (Mi W' D) (Pl B D)) (Eo W' B) := ⟨fun b z => by
      rcases z with z | z | z
      · exact .inl z.1
      · exact .inr z
      · subst z; exact .inl wa, rfl, rfl⟩
    obtain ⟨vs, hpD, rs⟩ := tp
    have rsA : Reps (Eo (Mi W' D) (Pl B D)) H acc vs := rs.less hE
    have hbA : ∀ (j : Nat) (d : Dz.D), ρ'[j]? = some (Slot.bor d) → sv (L2.wipe σ is) j ≠ some (.ref D) := fun j d e ev => by
      obtain ⟨c, e1, bc, _⟩ := s'.slot j _ e
      rw [ev] at e1
      cases e1
      exact nbD bc
    have s2 := sA.new' nw
    have fN : Fr (Mi W' D) H (Mi W' D) H'' := Fr.new' nw
    have fA : Fr W00 H1 (Mi W' D) H'' := (f'.trans (.less .miW)).trans fN
    have rxA : Rep (Eo (Mi W' D) (Pl B D)) H'' d x := rx.less hE
    have hpD2 : H'' D = some (.lst vs) := fN.keep D _ hpD fun z => z.2 rfl
    have rsA2 := rsA.fr fN
    rw [drop_get q] at rn
    obtain ⟨u, ρ2, q1, rn⟩ := mbind_ok (show mbind (setTg t d) _ ρ' = _ from rn)
    obtain ⟨k, ρ3, q2, rn⟩ := mbind_ok rn
    have evT := evo_setTg t d ρ' _ q1
    have evC := hec ρ2 _ q2
    refine gOf_mono t (gOf_wipe t hin (setTg_gives (K := K) (Q := fun σ2 H2 => H2 = H'' ∧ St (Mi W' D) (Pl B D) σ2 H'' ρ2 ∧ Kp (L2.wipe σ is) σ2 ρ2) q1 s2 rxA fun σ2 sT kT => ⟨rfl, sT, kT⟩)) fun σ2 H2 ⟨w2, e2, sT, kT⟩ => ?_
    subst e2
    have w2 : L2.wipe σ2 is = L2.wipe σ is := w2.trans wv
    refine ⟨w2, Mi W' D, Pl B D, ρ2, sT, ?_⟩
    rw [q2]
    refine fun W3 H3 f3 s3 => ?_
    have back : ∀ {ρ4 : Env}, Evo ρ2 ρ4 → ∀ (j : Nat) (d : Dz.D), ρ4[j]? = some (Slot.bor d) → sv σ2 j ≠ some (.ref D) := fun {ρ4} ev j d e => by
      have e2 := ev.bor j d e
      rw [kT j d (.inl e2)]
      exact hbA j d (evT.bor j d e2)
    cases k with
    | false =>
      have f03 := fA.trans f3
      have hp3 : H3 D = some (.lst vs) := f3.keep D _ hpD2 fun z => z.2 rfl
      have p := (VOk.put s3 (back evC) nbD (rsA2.fr f3)).wipe is
      rw [upd_self' hp3, w2] at p
      refine ⟨Pl W3 D, wipeE ρ3 is, acc, ?_, p, rn⟩
      have := Fr.regain (o := .lst vs) f03 hD
      rwa [upd_self' hp3] at this
    | true =>
      obtain ⟨y, ρ4, q3, rn3⟩ := mbind_ok (show mbind fe _ ρ3 = _ from rn)
      obtain ⟨_, ρ5, q4, rn4⟩ := mbind_ok rn3
      have hz : acc.length < sizeLine ∧ ρ5 = ρ4 := by
        unfold mopt at q4
        split at q4
        · rename_i hz
          split at hz
          · rename_i h; cases q4; exact ⟨h, rfl⟩
          · cases hz
        · cases q4
      obtain ⟨hz, e5⟩ := hz
      subst e5
      have evE := hee ρ3 _ q3
      refine ⟨W3, Pl B D, ρ3, s3, ?_⟩
      rw [q3]
      refine fun W4 H4 f4 yv hv => ?_
      obtain ⟨W5, hW5, s5, r5⟩ := hv.any
      have f25 := (f3.trans f4).trans (.less hW5)
      have hp4 : H4 D = some (.lst vs) := (f3.trans f4).keep D _ hpD2 fun z => z.2 rfl
      have rs5 := rsA2.fr f25
      refine ⟨vs, hp4, by rw [rs5.length]; exact hz, Pl W5 D, wipeE ρ5 is, acc ++ [y.d], Fr.regain (fA.trans f25) hD, ?_, rn4⟩
      have p := (VOk.put s5 (back (evC.trans evE)) nbD (rs5.append (Reps.one r5))).wipe is
      rwa [w2] at p
theorem St.back {W B : AP mg} {σ : L2.St} {H H1 : Hp} {ρ ρ' : Env} {is : List Nat} {W0' : AP mg} (hw : wipeOk ρ is = true) (s0 : St W0' B σ H1 ρ) (f : Fr W0' H1 W H) (s : St W B (L2.wipe σ is) H ρ') : St W B σ H (backE ρ ρ' is) := by
  have hl : ρ'.length = ρ.length := by rw [← s.len, wipe_length, s0.len]
  have calm : ∀ i ∈ is, ∃ s, ρ[i]? = some s ∧ calmSl s = true := fun i hi => by
    have := List.all_eq_true.mp hw i hi
    split at this
    · rename_i s e; exact ⟨s, e, this⟩
    · cases this
  have key : ∀ (i : Nat) (t : Slot), (backE ρ ρ' is)[i]? = some t → (i ∈ is ∧ ρ[i]? = some t ∧ calmSl t = true) ∨ (i ∉ is ∧ ρ'[i]? = some t) := fun i t e => by
    by_cases hi : i ∈ is
    · obtain ⟨u, es, cs⟩ := calm i hi
      have hl2 := (List.getElem?_eq_some_iff.mp es).1
      rw [backE_in hi (by rw [hl]; exact hl2), List.getD_eq_getElem?_getD, es] at e
      cases e
      exact .inl ⟨hi, es, cs⟩
    · rw [backE_out hi] at e
      exact .inr ⟨hi, e⟩
  have nh : ∀ (j : Nat) (cs : List D), (backE ρ ρ' is)[j]? = some (Slot.hp cs) → j ∉ is ∧ ρ'[j]? = some (Slot.hp cs) := fun j cs k => by
    rcases key j _ k with ⟨_, _, z⟩ | z
    · cases z
    · exact z
  refine ⟨by rw [backE_len, hl]; exact s0.len, fun i t e => ?_, s.dom, s.dis, fun i j t t' a hij p q w1 w2 x1 x2 => ?_, fun j k t cs n a p w1 x1 q e1 => ?_, fun j k cs cs' p q => s.hp1 j k cs cs' (nh j cs p).2 (nh k cs' q).2⟩
  rotate_left 2
  · rcases key j t p with ⟨_, _, cs⟩ | ⟨hi, p'⟩
    · cases t <;> cases w1 <;> cases cs
    · exact s.hpa j k t cs n a p' w1 (by rw [sv_wipe_out hi]; exact x1) (nh k cs q).2 e1
  · rcases key i t e with ⟨hi, e', cs⟩ | ⟨hi, e'⟩
    · have q := s0.slot i t e'
      cases t with
      | emp => trivial
      | frz d => obtain ⟨x, e1, r⟩ := q; exact ⟨x, e1, r.fr f⟩
      | own d => cases cs
      | bor d => cases cs
      | lent d => cases cs
      | hp _ => cases cs
    · have q := s.slot i t e'
      rwa [sv_wipe_out hi] at q
  · rcases key i t p with ⟨_, _, cs⟩ | ⟨hi, p'⟩
    · cases t <;> cases w1 <;> cases cs
    · rcases key j t' q with ⟨_, _, cs⟩ | ⟨hj, q'⟩
      · cases t' <;> cases w2 <;> cases cs
      · exact s.apart i j t t' a hij p' q' w1 w2 (by rw [sv_wipe_out hi]; exact x1) (by rw [sv_wipe_out hj]; exact x2)
theorem rdE_lc {mg : Str → Option Value} {K : PySem.W.Frag} {is : List Nat} (hin : tgIn is t = true) (hec : EvoF cond) (hee : EvoF fe) {σ : L2.St} {H : Hp} {Q : VK} (h : rdE mg Wx (fLc t is src cond fe) σ H Q) :
    tLc (rdI mg Wx src) (gOf K t) (rdT mg W0 cond) (rdE mg W0 fe) is σ H Q := by
  obtain ⟨W, B, ρ, s, a⟩ := h
  refine ⟨W, B, ρ, s, (After.bind a).mono fun W1 H1 ds ρ1 _ _ a1 J W00 hW s0 it => ?_⟩
  have a1 : After mg Wx W1 B σ H1 (if wipeOk ρ1 is = true then
    match noErr (lcL t is cond fe ds [] (wipeE ρ1 is)) with
    | some (acc, ρ') => some (Res.ok (R.own (.lst acc)) (backE ρ1 ρ' is))
    | none => none
  else none) _ := a1
  split at a1
  · rename_i hw
    split at a1
    · rename_i acc ρF q
      refine lc_turns (mg := mg) (K := K) hin hec hee s0 it (noErr_some q) fun W' H' D f hD vk => ?_
      obtain ⟨b, eb, wb, sb, tb, hn⟩ := vk
      cases eb
      refine a1 W' H' ((Fr.less hW).trans f) (.ref D) ⟨D, rfl, wb, s0.back hw f sb, tb, fun i t e w => ?_, fun j cs n e e1 => ?_⟩
      rotate_left 1
      · by_cases hi : j ∈ is
        · have := List.all_eq_true.mp hw j hi
          split at this
          · rename_i u es
            have hl2 := (List.getElem?_eq_some_iff.mp es).1
            rw [backE_in hi (by rw [← sb.len, wipe_length, s0.len]; exact hl2), List.getD_eq_getElem?_getD, es] at e
            cases e
            cases this
          · cases this
        · rw [backE_out hi] at e
          exact hn.ce j cs n e e1
      by_cases hi : i ∈ is
      · have := List.all_eq_true.mp hw i hi
        split at this
        · rename_i u es
          have hl2 := (List.getElem?_eq_some_iff.mp es).1
          rw [backE_in hi (by rw [← sb.len, wipe_length, s0.len]; exact hl2), List.getD_eq_getElem?_getD, es] at e
          cases e
          cases u <;> cases w <;> cases this
        · cases this
      · rw [backE_out hi] at e
        have := hn.nm i t e w
        rwa [sv_wipe_out hi] at this
    · exact a1.elim
  · exact a1.elim
/-- a comprehension as a value -/
theorem de_lc {scope : Scope} {own : List (Str × Nat)} (hc : X.calm = true) (hN : X.N.Nodup) (hi : DI X Wx tg iter src) (ok : BlkOk X.N X.env.scope scope own) (hin : tgIn (own.map (·.2)) t = true)
    (hg : ∀ (s : Shared) (H : Hp) (C : Addr) (cl : List (Str × Addr)) (fp : List Addr), DG (X.blk s H scope (compEnvC scope cl C X.env) fp) tg t) (ht : ∀ (s : Shared) (H : Hp) (C : Addr) (cl : List (Str × Addr)) (fp : List Addr), DTs (X.blk s H scope (compEnvC scope cl C X.env) fp) W0 ifs cond)
    (he : ∀ (s : Shared) (H : Hp) (C : Addr) (cl : List (Str × Addr)) (fp : List Addr), DE (X.blk s H scope (compEnvC scope cl C X.env) fp) W0 elt fe) (hs : ∀ x, foldedSetIterable iter X.env x = pure x := by intro _; rfl) :
    DE X Wx (.ListComp elt [⟨tg, iter, ifs, 0⟩] scope pos) (fLc t (own.map (·.2)) src cond fe) := by
  have ev1 : EvoF cond := (ht X.s_0 X.H_0 0 [] []).evo
  have ev2 : EvoF fe := (he X.s_0 X.H_0 0 [] []).evo
  exact ⟨pe_imp (pe_lc (g := gOf X.K t) (tt := rdT X.mg W0 cond) (te := rdE X.mg W0 fe) hc hN hi.pi ok (fun s H C cl fp => (hg s H C cl fp).pg) (fun s H C cl fp => (ht s H C cl fp).pts) (fun s H C cl fp => (he s H C cl fp).pe) hs) fun σ H Q q => rdE_lc (K := X.K) hin ev1 ev2 q, evo_lc hi.evo ev1 ev2⟩
/-- name = a comprehension, on one row -/
theorem ds_setLc {i : Nat} {y : Str} {py spos : Pos} {scope : Scope} {own : List (Str × Nat)} (hc : X.calm = true) (hN : X.N.Nodup) (hy : X.N[i]? = some y) (hyl : X.env.scope.names.lookup y = some .local)
    (hsw : swapsWith (.ListComp elt [⟨tg, iter, ifs, 0⟩] scope pos) (some (.Name y py)) spos.line X.env = pure true) (hi : DI X Wx tg iter src) (ok : BlkOk X.N X.env.scope scope own) (hin : tgIn (own.map (·.2)) t = true)
    (hg : ∀ (s : Shared) (H : Hp) (C : Addr) (cl : List (Str × Addr)) (fp : List Addr), DG (X.blk s H scope (compEnvC scope cl C X.env) fp) tg t) (ht : ∀ (s : Shared) (H : Hp) (C : Addr) (cl : List (Str × Addr)) (fp : List Addr), DTs (X.blk s H scope (compEnvC scope cl C X.env) fp) W0 ifs cond)
    (he : ∀ (s : Shared) (H : Hp) (C : Addr) (cl : List (Str × Addr)) (fp : List Addr), DE (X.blk s H scope (compEnvC scope cl C X.env) fp) W0 elt fe) (hs : ∀ x, foldedSetIterable iter X.env x = pure x := by intro _; rfl) :
    DS X Wx (.Assign [.Name y py] (.ListComp elt [⟨tg, iter, ifs, 0⟩] scope pos) spos) (sAsg i (fLc t (own.map (·.2)) src cond fe)) := by
  have ev1 : EvoF cond := (ht X.s_0 X.H_0 0 [] []).evo
  have ev2 : EvoF fe := (he X.s_0 X.H_0 0 [] []).evo
  refine ⟨ps_imp (ps_setLc (g := gOf X.K t) (tt := rdT X.mg W0 cond) (te := rdE X.mg W0 fe) hc hN hy hyl hsw hi.pi ok (fun s H C cl fp => (hg s H C cl fp).pg) (fun s H C cl fp => (ht s H C cl fp).pts) (fun s H C cl fp => (he s H C cl fp).pe) hs) fun D σ H ⟨W, B, ρ, s, a⟩ => ?_, evo_bind (evo_lc hi.evo ev1 ev2) fun _ => evo_setSl⟩
  have q : rdE X.mg Wx (fLc t (own.map (·.2)) src cond fe) σ H fun x H1 => gName i x σ H1 D.nx := ⟨W, B, ρ, s, (a.bindE fun _ => evo_setSl).mono fun W1 H1 r ρ1 _ _ a1 v hv => asg_ok a1 hv⟩
  exact rdE_lc (K := X.K) hin ev1 ev2 q
end
end Dz
/-! Dz 8: defs and their calls. -/
namespace Dz
open PySem PySem.Spec PyProof.Rows L2

/-- what a def's call comes to; ps: the parameters as they stand behind it (of those lent, what they hold then) -/
inductive CRes where
  | ret (r : R) (ps : List Slot) | exc (e : Exc) (ps : List Slot)
abbrev Fn := List Slot → Option CRes
def outP : Slot → Slot → Slot
  | .lent _, .lent d => .lent d
  | .hp _, .hp cs => .hp cs
  | p, _ => p
def outPs (ps : List Slot) (ρ' : Env) : List Slot := List.zipWith outP ps ρ'
/-- a def by its body's semantic function; n: all its names -/
def runF (n : Nat) (body : M Fl) : Fn := fun ps =>
  match body (ps ++ List.replicate (n - ps.length) .emp) with
  | some (.ok (.ret r) ρ') => some (.ret r (outPs ps ρ'))
  | some (.ok .next ρ') => some (.ret (.frz .non) (outPs ps ρ'))
  | some (.ok _ _) => none
  | some (.err e ρ') => some (.exc e (outPs ps ρ'))
  | none => none
def noOwn : Slot → Bool
  | .frz _ => true
  | .bor _ => true
  | .lent _ => true
  | .hp _ => true
  | _ => false
/-- the values with the place of the cells behind them -/
def exV : Bool → List V → L2.St
  | false, vs => vs.map some
  | true, vs => vs.map some ++ [none]
/-- the lent ones, and the cells, and they alone, may hold something else -/
structure Lk (ps ps' : List Slot) : Prop where
  len : ps'.length = ps.length
  lent : ∀ (k : Nat) (d : D), ps[k]? = some (Slot.lent d) → ∃ d', ps'[k]? = some (Slot.lent d')
  hp : ∀ (k : Nat) (d : List D), ps[k]? = some (Slot.hp d) → ∃ d', ps'[k]? = some (Slot.hp d')
  same : ∀ (k : Nat) (s : Slot), ps'[k]? = some s → (∃ d d', ps[k]? = some (Slot.lent d) ∧ s = .lent d') ∨ (∃ d d', ps[k]? = some (Slot.hp d) ∧ s = .hp d') ∨ (ps[k]? = some s ∧ (∀ d, s ≠ .lent d) ∧ ∀ d, s ≠ .hp d)
def spX (b : Bool) (mg : Str → Option Value) (m : Fn) : Sp := fun vs H Q E => ∃ (W B : AP mg) (ps : List Slot), St W B (exV b vs) H ps ∧ W.h = b ∧ (∀ s ∈ ps, noOwn s = true) ∧ match m ps with
  | none => False
  | some (.ret r ps') => ∀ W' H' v, Fr W H W' H' → Lk ps ps' → VOk W' B (exV b vs) H' ps' v r → Q v H'
  | some (.exc e ps') => ∀ W' H' c d, Fr W H W' H' → Lk ps ps' → St W' B (exV b vs) H' ps' → XRep mg (Eo W' B) H' e c d → E c d H'
abbrev spD := spX false
theorem exV_len {b : Bool} {vs : List V} {ps : List Slot} (h : (exV b vs).length = ps.length) : vs.length ≤ ps.length ∧ (b = false → vs.length = ps.length) ∧ (b = true → ps.length = vs.length + 1) := by
  cases b
  · have h : (vs.map some).length = ps.length := h
    simp at h
    exact ⟨by omega, fun _ => h, fun z => nomatch z⟩
  · have h : (vs.map some ++ [none]).length = ps.length := h
    simp at h
    exact ⟨by omega, fun z => (nomatch z), fun _ => by omega⟩
theorem outPs_get {ps : List Slot} {ρ' : Env} {i : Nat} {s : Slot} (hl : ps.length ≤ ρ'.length) (h : (outPs ps ρ')[i]? = some s) (h1 : ∀ (j : Nat) (d : D), ps[j]? = some (Slot.lent d) → ∃ d', ρ'[j]? = some (Slot.lent d')) (h2 : ∀ (j : Nat) (d : List D), ps[j]? = some (Slot.hp d) → ∃ d', ρ'[j]? = some (Slot.hp d')) :
    (ps[i]? = some s ∧ (∀ d, s ≠ .lent d) ∧ ∀ d, s ≠ .hp d) ∨ (∃ d d', ps[i]? = some (Slot.lent d) ∧ s = .lent d' ∧ ρ'[i]? = some (Slot.lent d')) ∨ ∃ d d', ps[i]? = some (Slot.hp d) ∧ s = .hp d' ∧ ρ'[i]? = some (Slot.hp d') := by
  unfold outPs at h
  rw [List.getElem?_zipWith] at h
  cases e1 : ps[i]? with
  | none => rw [e1] at h; cases h
  | some p =>
    cases e2 : ρ'[i]? with
    | none =>
      have := (List.getElem?_eq_some_iff.mp e1).1
      have := List.getElem?_eq_none_iff.mp e2
      omega
    | some q =>
      rw [e1, e2] at h
      have h : outP p q = s := Option.some.inj h
      cases p with
      | lent d =>
        obtain ⟨d', e3⟩ := h1 i d e1
        rw [e2] at e3
        cases e3
        exact .inr (.inl ⟨d, d', rfl, h.symm, rfl⟩)
      | hp d =>
        obtain ⟨d', e3⟩ := h2 i d e1
        rw [e2] at e3
        cases e3
        exact .inr (.inr ⟨d, d', rfl, h.symm, rfl⟩)
      | emp => subst h; exact .inl ⟨rfl, fun d z => (nomatch z), fun d z => nomatch z⟩
      | frz d => subst h; exact .inl ⟨rfl, fun d z => (nomatch z), fun d z => nomatch z⟩
      | own d => subst h; exact .inl ⟨rfl, fun d z => (nomatch z), fun d z => nomatch z⟩
      | bor d => subst h; exact .inl ⟨rfl, fun d z => (nomatch z), fun d z => nomatch z⟩
theorem outPs_len {ps : List Slot} {ρ' : Env} (hl : ps.length ≤ ρ'.length) : (outPs ps ρ').length = ps.length := by
  unfold outPs
  rw [List.length_zipWith]
  omega
theorem outPs_lk {ps : List Slot} {ρ' : Env} (hl : ps.length ≤ ρ'.length) (h1 : ∀ (j : Nat) (d : D), ps[j]? = some (Slot.lent d) → ∃ d', ρ'[j]? = some (Slot.lent d')) (h2 : ∀ (j : Nat) (d : List D), ps[j]? = some (Slot.hp d) → ∃ d', ρ'[j]? = some (Slot.hp d')) : Lk ps (outPs ps ρ') := by
  refine ⟨outPs_len hl, fun k d e => ?_, fun k d e => ?_, fun k s e => ?_⟩
  · obtain ⟨d', e'⟩ := h1 k d e
    refine ⟨d', ?_⟩
    unfold outPs
    rw [List.getElem?_zipWith, e, e']
    rfl
  · obtain ⟨d', e'⟩ := h2 k d e
    refine ⟨d', ?_⟩
    unfold outPs
    rw [List.getElem?_zipWith, e, e']
    rfl
  · rcases outPs_get hl e h1 h2 with z | ⟨d, d', z, q, _⟩ | ⟨d, d', z, q, _⟩
    · exact .inr (.inr z)
    · exact .inl ⟨d, d', z, q⟩
    · exact .inr (.inl ⟨d, d', z, q⟩)
theorem sv_map {vs : List V} {i : Nat} {v : V} (h : vs[i]? = some v) : sv (vs.map some) i = some v := sv_of (by rw [List.getElem?_map, h]; rfl)
theorem sv_lt {σ : L2.St} {i : Nat} {v : V} (h : sv σ i = some v) : i < σ.length := (List.getElem?_eq_some_iff.mp (sv_some h)).1
theorem sv_start {b : Bool} {N : List Str} {vs : List V} {i : Nat} (h : i < vs.length ∨ b = true) : sv (L2.start N vs) i = sv (exV b vs) i := by
  have h0 : sv (vs.map some ++ [none]) i = sv (vs.map some) i := by
    unfold sv
    rw [List.getD_eq_getElem?_getD, List.getD_eq_getElem?_getD]
    by_cases hi : i < vs.length
    · rw [List.getElem?_append_left (by simpa using hi)]
    · rw [List.getElem?_append_right (by simpa using hi), List.getElem?_eq_none (l := vs.map some) (by simpa using hi)]
      cases (i - (vs.map some).length) <;> simp
  have h1 : sv (L2.start N vs) i = sv (vs.map some) i := by
    unfold sv L2.start
    rw [List.getD_eq_getElem?_getD, List.getD_eq_getElem?_getD]
    by_cases hi : i < vs.length
    · rw [List.getElem?_append_left (by simpa using hi)]
    · rw [List.getElem?_append_right (by simpa using hi), List.getElem?_eq_none (l := vs.map some) (by simpa using hi), List.getElem?_replicate]
      split <;> rfl
  rw [h1]
  cases b
  · rfl
  · exact h0.symm
/-- the state at a def's entry -/
theorem St.entry {b : Bool} {W B : AP mg} {H : Hp} {ps : List Slot} {vs : List V} {N : List Str} (s : St W B (exV b vs) H ps) (hl : ps.length ≤ N.length) : St W B (L2.start N vs) H (ps ++ List.replicate (N.length - ps.length) .emp) := by
  obtain ⟨hv, hf, ht⟩ := exV_len s.len
  have key : ∀ (i : Nat) (t : Slot), (ps ++ List.replicate (N.length - ps.length) Slot.emp)[i]? = some t → t = .emp ∨ (i < ps.length ∧ ps[i]? = some t) := fun i t e => by
    by_cases hi : i < ps.length
    · rw [List.getElem?_append_left hi] at e; exact .inr ⟨hi, e⟩
    · rw [List.getElem?_append_right (by omega), List.getElem?_replicate] at e
      split at e
      · cases e; exact .inl rfl
      · cases e
  have st : ∀ i, i < ps.length → sv (L2.start N vs) i = sv (exV b vs) i := fun i hi => sv_start (by
    cases b
    · exact .inl (by rw [hf rfl]; exact hi)
    · exact .inr rfl)
  have nh : ∀ (j : Nat) (cs : List D), (ps ++ List.replicate (N.length - ps.length) Slot.emp)[j]? = some (Slot.hp cs) → ps[j]? = some (Slot.hp cs) := fun j cs e => by
    rcases key j _ e with z | z
    · cases z
    · exact z.2
  refine ⟨?_, fun i t e => ?_, s.dom, s.dis, fun i j t t' a hij p q w1 w2 x1 x2 => ?_, fun j k t cs n a p w1 x1 q e1 => ?_, fun j k cs cs' p q => s.hp1 j k cs cs' (nh j cs p) (nh k cs' q)⟩
  · unfold L2.start
    simp
    omega
  · rcases key i t e with z | ⟨hi, e'⟩
    · subst z; trivial
    · rw [st i hi]; exact s.slot i t e'
  · rcases key i t p with z | ⟨hi, p'⟩
    · subst z; cases w1
    · rcases key j t' q with z | ⟨hj, q'⟩
      · subst z; cases w2
      · rw [st i hi] at x1
        rw [st j hj] at x2
        exact s.apart i j t t' a hij p' q' w1 w2 x1 x2
  · rcases key j t p with z | ⟨hi, p'⟩
    · subst z; cases w1
    · rw [st j hi] at x1
      exact s.hpa j k t cs n a p' w1 x1 (nh k cs q) e1
/-- .. and at its end, of the parameters alone -/
theorem St.exit {b : Bool} {W B W' : AP mg} {H H' : Hp} {ps : List Slot} {vs : List V} {N : List Str} {σ' : L2.St} {ρ' : Env} (s : St W B (exV b vs) H ps) (hl : ps.length ≤ N.length) (no : ∀ t ∈ ps, noOwn t = true) (f : Fr W H W' H') (ev : Evo (ps ++ List.replicate (N.length - ps.length) .emp) ρ') (k : Kp (L2.start N vs) σ' ρ') (s' : St W' B σ' H' ρ') :
    St W' B (exV b vs) H' (outPs ps ρ') ∧ Lk ps (outPs ps ρ') ∧ (∀ (i : Nat) (t : Slot), (outPs ps ρ')[i]? = some t → t.wr = true → ∃ d, t = .lent d ∧ ρ'[i]? = some t ∧ sv σ' i = sv (exV b vs) i) ∧ ∀ (i : Nat) (cs : List D), (outPs ps ρ')[i]? = some (Slot.hp cs) → ρ'[i]? = some (Slot.hp cs) := by
  obtain ⟨hv, hf, ht⟩ := exV_len s.len
  have st : ∀ i, i < ps.length → sv (L2.start N vs) i = sv (exV b vs) i := fun i hi => sv_start (by
    cases b
    · exact .inl (by rw [hf rfl]; exact hi)
    · exact .inr rfl)
  have hlen : ps.length ≤ ρ'.length := by rw [ev.len]; simp
  have L1 : ∀ (j : Nat) (d : D), ps[j]? = some (Slot.lent d) → ∃ d', ρ'[j]? = some (Slot.lent d') := fun j d e => ev.lent j d (by rw [List.getElem?_append_left (List.getElem?_eq_some_iff.mp e).1]; exact e)
  have L2' : ∀ (j : Nat) (d : List D), ps[j]? = some (Slot.hp d) → ∃ d', ρ'[j]? = some (Slot.hp d') := fun j d e => ev.hp j d (by rw [List.getElem?_append_left (List.getElem?_eq_some_iff.mp e).1]; exact e)
  have key := fun (i : Nat) (t : Slot) (h : (outPs ps ρ')[i]? = some t) => outPs_get hlen h L1 L2'
  have wrs : ∀ (i : Nat) (t : Slot), (outPs ps ρ')[i]? = some t → t.wr = true → ∃ d, t = .lent d ∧ ρ'[i]? = some t ∧ sv σ' i = sv (exV b vs) i := fun i t e w => by
    rcases key i t e with ⟨e1, n, _⟩ | ⟨d, d', e1, rfl, e2⟩ | ⟨d, d', e1, rfl, e2⟩
    · have := no t (List.mem_of_getElem? e1)
      cases t with
      | emp => cases w
      | frz d => cases w
      | bor d => cases w
      | own d => cases this
      | hp d => cases w
      | lent d => exact absurd rfl (n d)
    · refine ⟨d', rfl, e2, ?_⟩
      rw [k i d' (.inr e2)]
      exact st i (List.getElem?_eq_some_iff.mp e1).1
    · cases w
  have hps : ∀ (i : Nat) (cs : List D), (outPs ps ρ')[i]? = some (Slot.hp cs) → ρ'[i]? = some (Slot.hp cs) := fun i cs e => by
    rcases key i _ e with ⟨e1, _, n⟩ | ⟨d, d', e1, z, e2⟩ | ⟨d, d', e1, z, e2⟩
    · exact absurd rfl (n cs)
    · cases z
    · cases z; exact e2
  refine ⟨⟨by rw [outPs_len hlen, s.len], fun i t e => ?_, s'.dom, s'.dis, fun i j t t' a hij p q w1 w2 x1 x2 => ?_, fun j k t cs n a p w1 x1 q e1 => ?_, fun j k cs cs' p q => s'.hp1 j k cs cs' (hps j cs p) (hps k cs' q)⟩, outPs_lk hlen L1 L2', wrs, hps⟩
  · rcases key i t e with ⟨e1, n, n2⟩ | ⟨d, d', e1, rfl, e2⟩ | ⟨d, d', e1, rfl, e2⟩
    · have q := s.slot i t e1
      cases t with
      | emp => trivial
      | frz d => obtain ⟨x, e1, r⟩ := q; exact ⟨x, e1, r.fr f⟩
      | bor d => obtain ⟨x, e1, w, r⟩ := q; exact ⟨x, e1, w, r.fr f fun z => s.dis x z w⟩
      | own d => exact absurd (no _ (List.mem_of_getElem? e1)) (by simp [noOwn])
      | lent d => exact absurd rfl (n d)
      | hp d => exact absurd rfl (n2 d)
    · obtain ⟨x, e3, w, r⟩ := s'.slot i _ e2
      refine ⟨x, ?_, w, r⟩
      rw [← e3, k i d' (.inr e2)]
      exact (st i (List.getElem?_eq_some_iff.mp e1).1).symm
    · exact s'.slot i _ e2
  · obtain ⟨_, _, p', y1⟩ := wrs i t p w1
    obtain ⟨_, _, q', y2⟩ := wrs j t' q w2
    exact s'.apart i j t t' a hij p' q' w1 w2 (by rw [y1]; exact x1) (by rw [y2]; exact x2)
  · obtain ⟨_, _, p', y1⟩ := wrs j t p w1
    exact s'.hpa j k t cs n a p' w1 (by rw [y1]; exact x1) (hps k cs q) e1
/-- A DEF BY ITS BODY -/
theorem body_ok {b : Bool} {X : Cx} {N : List Str} {E : XK} {body : List Stmt} {fb : M Fl} {vs : List V} {H : Hp} {Q : VK} {n : Nat} (hn : N.length = n) (hb : DSs X (fun c d _ H' => E c d H') body fb) (h : spX b X.mg (runF n fb) vs H Q E) (hl : vs.length + b.toNat ≤ N.length) :
    rdS X.mg (fun c d _ H' => E c d H') fb { nx := fun _ H' => Q .non H', rt := Q } (L2.start N vs) H := by
  subst hn
  obtain ⟨W, B, ps, s, hh, no, m⟩ := h
  obtain ⟨hv, hf, ht⟩ := exV_len s.len
  have hl : ps.length ≤ N.length := by
    cases b
    · have := hf rfl; simp at hl; omega
    · have := ht rfl; simp at hl; omega
  refine ⟨W, B, _, s.entry hl, ?_⟩
  unfold runF at m
  cases q : fb (ps ++ List.replicate (N.length - ps.length) .emp) with
  | none => rw [q] at m; exact m
  | some x =>
    have ev := hb.evo _ _ q
    rw [q] at m
    cases x with
    | err e ρ' =>
      refine fun W' σ' H' c d f k s' xr => ?_
      obtain ⟨s1, lk, _⟩ := s.exit hl no f ev k s'
      exact m W' H' c d f lk s1 xr
    | ok fl ρ' =>
      cases fl with
      | brk => exact m.elim
      | cont => exact m.elim
      | next =>
        refine fun W' σ' H' f k s' => ?_
        obtain ⟨s1, lk, _⟩ := s.exit hl no f ev k s'
        exact m W' H' .non f lk ⟨s1, rfl⟩
      | ret r =>
        refine fun W' σ' H' f k v hv => ?_
        obtain ⟨s1, lk, wrs, hps⟩ := s.exit hl no f ev k hv.st
        refine m W' H' v f lk ?_
        cases r with
        | frz d => exact ⟨s1, hv.2⟩
        | own d =>
          obtain ⟨a, e, wa, s', t, hn⟩ := hv
          refine ⟨a, e, wa, s1, t, fun i u e1 w e2 => ?_, fun j cs n e1 => hn.ce j cs n (hps j cs e1)⟩
          obtain ⟨_, _, e3, e4⟩ := wrs i u e1 w
          exact hn.nm i u e3 w (by rw [e4]; exact e2)

/-! ### arguments -/
inductive CA where
  | val (f : M R) | bor (i : Nat) | lent (i : Nat) | cel (hi : Nat) (f : M R)
def CA.Evo : CA → Prop
  | .val f => EvoF f
  | .cel _ f => EvoF f
  | _ => True
def borSl : Slot → Option Slot
  | .emp => none
  | .frz d => some (.frz d)
  | .own d => some (.bor d)
  | .bor d => some (.bor d)
  | .lent d => some (.bor d)
  | .hp _ => none
def lentSl : Slot → Option Slot
  | .own d => some (.lent d)
  | .lent d => some (.lent d)
  | _ => none
def slAt (g : Slot → Option Slot) (i : Nat) (ρ : Env) : Option Slot :=
  match ρ[i]? with
  | some s => g s
  | none => none
def getC (g : Slot → Option Slot) (i : Nat) (ps : List Slot) : M (List Slot) := fun ρ =>
  match slAt g i ρ with
  | some s => some (.ok (s :: ps) ρ)
  | none => none
theorem evo_getC {g : Slot → Option Slot} {i : Nat} {ps : List Slot} : EvoF (getC g i ps) := fun ρ o e => by
  unfold getC at e
  split at e
  · cases e; exact .refl _
  · cases e
/-- a cell's object, borrowed -/
def getCel (hi : Nat) (r : R) (ps : List Slot) : M (List Slot) := mbind (getCe hi r []) fun ds => mopt (match ds with
  | d :: _ => some (.bor d :: ps)
  | [] => none)
theorem evo_getCel {hi : Nat} {r : R} {ps : List Slot} : EvoF (getCel hi r ps) := evo_bind evo_getCe fun _ => evo_opt _
theorem getCel_some {hi : Nat} {r : R} {ps : List Slot} {ρ : Env} {o : Res (List Slot)} (h : getCel hi r ps ρ = some o) : ∃ n cs d, r = .frz (.cell n) ∧ ρ[hi]? = some (.hp cs) ∧ cs[n]? = some d ∧ o = .ok (.bor d :: ps) ρ ∧ ∀ c ks vs, d ≠ .obj c ks vs := by
  unfold getCel mbind at h
  cases q : getCe hi r [] ρ with
  | none => rw [q] at h; cases h
  | some z =>
    obtain ⟨n, cs, d, e1, e2, e3, e4, e5⟩ := getCe_some q
    rw [q, e4] at h
    cases h
    exact ⟨n, cs, d, e1, e2, e3, rfl, e5⟩
def evC : List CA → M (List Slot)
  | [] => mret []
  | .val f :: cs => mbind f fun r => mbind (evC cs) fun ps => mret (.frz r.d :: ps)
  | .bor i :: cs => mbind (needSl i) fun _ => mbind (evC cs) fun ps => getC borSl i ps
  | .lent i :: cs => mbind (needSl i) fun _ => mbind (evC cs) fun ps => getC lentSl i ps
  | .cel hi f :: cs => mbind f fun r => mbind (evC cs) fun ps => getCel hi r ps
theorem evo_evC : ∀ {cs : List CA}, (∀ c ∈ cs, c.Evo) → EvoF (evC cs)
  | [], _ => evo_ret _
  | .val f :: cs, h => evo_bind (h _ List.mem_cons_self) fun _ => evo_bind (evo_evC fun o z => h o (List.mem_cons_of_mem _ z)) fun _ => evo_ret _
  | .bor i :: cs, h => evo_bind evo_needSl fun _ => evo_bind (evo_evC fun o z => h o (List.mem_cons_of_mem _ z)) fun _ => evo_getC
  | .lent i :: cs, h => evo_bind evo_needSl fun _ => evo_bind (evo_evC fun o z => h o (List.mem_cons_of_mem _ z)) fun _ => evo_getC
  | .cel hi f :: cs, h => evo_bind (h (.cel hi f) List.mem_cons_self) fun _ => evo_bind (evo_evC fun o z => h o (List.mem_cons_of_mem _ z)) fun _ => evo_getCel
/-- the arguments' values -/
def ArgsAt (W B : AP mg) (σ : L2.St) (H : Hp) (ρ : Env) : List CA → List Slot → List V → Prop
  | [], ps, vs => ps = [] ∧ vs = []
  | .val _ :: cs, ps, vs => ∃ d v ps' vs', ps = .frz d :: ps' ∧ vs = v :: vs' ∧ Rep (Eo W B) H d v ∧ ArgsAt W B σ H ρ cs ps' vs'
  | .bor i :: cs, ps, vs => ∃ s v ps' vs', ps = s :: ps' ∧ vs = v :: vs' ∧ sv σ i = some v ∧ slAt borSl i ρ = some s ∧ ArgsAt W B σ H ρ cs ps' vs'
  | .lent i :: cs, ps, vs => ∃ s v ps' vs', ps = s :: ps' ∧ vs = v :: vs' ∧ sv σ i = some v ∧ slAt lentSl i ρ = some s ∧ ArgsAt W B σ H ρ cs ps' vs'
  | .cel hi _ :: cs, ps, vs => ∃ d v ps' vs', ps = .bor d :: ps' ∧ vs = v :: vs' ∧ (∃ a n c, v = .ref a ∧ W.t n = some a ∧ W a ∧ Top (Eo W B) H a d ∧ ρ[hi]? = some (Slot.hp c)) ∧ ArgsAt W B σ H ρ cs ps' vs'
def rdC (mg : Str → Option Value) (Wx : WX) (cs : List CA) : TA := fun σ H Q => ∃ W B ρ, St W B σ H ρ ∧ After mg Wx W B σ H (evC cs ρ) fun W' H' ps ρ' => ∀ vs, St W' B σ H' ρ' → ArgsAt W' B σ H' ρ' cs ps vs → Q vs H'
def rdCA (mg : Str → Option Value) (Wx : WX) : CA → TE
  | .val f => rdE mg Wx f
  | .bor i => tVar i
  | .lent i => tVar i
  | .cel _ f => rdE mg Wx f
section
variable {X : Cx} {Wx : WX} {e : Expr} {es : List Expr} {pos p : Pos}
def DA (X : Cx) (Wx : WX) (e : Expr) : CA → Prop
  | .val f => DE X Wx e f
  | .bor i => PE X e (tVar i)
  | .lent i => PE X e (tVar i)
  | .cel _ f => DE X Wx e f
theorem DA.pe {c : CA} (h : DA X Wx e c) : PE X e (rdCA X.mg Wx c) := by
  cases c with
  | val f => exact DE.pe h
  | bor i => exact h
  | lent i => exact h
  | cel hi f => exact DE.pe h
theorem DA.evo {c : CA} (h : DA X Wx e c) : c.Evo := by
  cases c with
  | val f => exact DE.evo h
  | bor i => trivial
  | lent i => trivial
  | cel hi f => exact DE.evo h
theorem rdC_cons {mg : Str → Option Value} {c : CA} {cs : List CA} (hc : c.Evo) {σ : L2.St} {H : Hp} {Q : List V → Hp → Prop} (h : rdC mg Wx (c :: cs) σ H Q) :
    rdCA mg Wx c σ H fun x H1 => rdC mg Wx cs σ H1 fun xs H2 => Q (x :: xs) H2 := by
  obtain ⟨W, B, ρ, s, a⟩ := h
  have sl : ∀ (g : Slot → Option Slot) (i : Nat), (∀ W' H' ps ρ' vs s v, slAt g i ρ' = some s → sv σ i = some v → ArgsAt W' B σ H' ρ' cs ps vs → ArgsAt W' B σ H' ρ' (c :: cs) (s :: ps) (v :: vs)) →
      After mg Wx W B σ H (mbind (needSl i) (fun _ => mbind (evC cs) fun ps => getC g i ps) ρ) (fun W' H' ps ρ' => ∀ vs, St W' B σ H' ρ' → ArgsAt W' B σ H' ρ' (c :: cs) ps vs → Q vs H') → tVar i σ H fun x H1 => rdC mg Wx cs σ H1 fun xs H2 => Q (x :: xs) H2 := fun g i hA a => by
    have a := After.bind a
    unfold needSl at a
    split at a
    · rename_i d e
      obtain ⟨v, e1, _⟩ := s.at e
      refine ⟨v, sv_some e1, W, B, ρ, s, After.mono (After.bind a.here) fun W2 H2 ds ρ2 e2 fr2 a2 vs s2 r2 => ?_⟩
      unfold getC at a2
      split at a2
      · rename_i t e3
        exact a2.here (v :: vs) s2 (hA _ _ _ _ _ _ _ e3 e1 r2)
      · exact a2.elim
    · exact a.elim
  cases c with
  | val f =>
    refine ⟨W, B, ρ, s, After.mono (After.bind a) fun W1 H1 r ρ1 e1 fr1 a1 v hv => ?_⟩
    obtain ⟨W0', hW, s1, r1⟩ := hv.any
    refine ⟨W0', B, ρ1, s1, After.mono (After.bind (a1.sub hW)) fun W2 H2 ps ρ2 e2 fr2 a2 vs s2 r2 => ?_⟩
    exact a2.here (v :: vs) s2 ⟨r.d, v, ps, vs, rfl, rfl, r1.fr fr2, r2⟩
  | bor i => exact sl borSl i (fun _ _ _ _ _ s v e1 e2 r => ⟨s, v, _, _, rfl, rfl, e2, e1, r⟩) a
  | lent i => exact sl lentSl i (fun _ _ _ _ _ s v e1 e2 r => ⟨s, v, _, _, rfl, rfl, e2, e1, r⟩) a
  | cel hi f =>
    refine ⟨W, B, ρ, s, After.mono (After.bind a) fun W1 H1 r ρ1 e1 fr1 a1 v hv => ⟨W1, B, ρ1, hv.st, (After.bind a1).mono fun W2 H2 ps ρ2 e2 fr2 a2 vs s2 r2 => ?_⟩⟩
    cases q : getCel hi r ps ρ2 with
    | none => rw [q] at a2; exact a2.elim
    | some o =>
      obtain ⟨n, cs, d, rfl, eh, ed, rfl, no⟩ := getCel_some q
      rw [q] at a2
      obtain ⟨b, ev, et, wb, t⟩ := s2.cell (W0 := W2) hv.2 fr2.tab eh ed
      refine a2.here (v :: vs) s2 ⟨d, v, ps, vs, rfl, rfl, ⟨b, n, cs, ev, et, wb, ?_, eh⟩, r2⟩
      rcases t with t | ⟨c, ks, ds, _, _, _, e, _⟩
      · exact t
      · exact absurd e (no c ks ds)
structure DCs (X : Cx) (Wx : WX) (es : List Expr) (cs : List CA) : Prop where
  pa : PA X es (rdC X.mg Wx cs)
  evo : ∀ c ∈ cs, c.Evo
theorem dcs_nil : DCs X Wx [] [] := ⟨pa_imp pa_nil fun _ _ _ ⟨W, B, ρ, s, a⟩ => a.here [] s ⟨rfl, rfl⟩, fun _ z => (List.not_mem_nil z).elim⟩
theorem dcs_cons {c : CA} {cs : List CA} (h1 : DA X Wx e c) (h2 : DCs X Wx es cs) (hs : starEach (e :: es) X.env = (false, eval e X.env) :: starEach es X.env := by rfl) : DCs X Wx (e :: es) (c :: cs) :=
  ⟨pa_imp (pa_cons h1.pe h2.pa hs) fun _ _ _ h => rdC_cons h1.evo h, fun z hz => by
    rcases List.mem_cons.mp hz with e | k
    · rw [e]; exact h1.evo
    · exact h2.evo z k⟩
end
end Dz
/-! Dz 9: the call. -/
namespace Dz
open PySem PySem.Spec PyProof.Rows L2

def clash : CA → CA → Bool
  | .lent i, .lent j => i == j
  | .lent i, .bor j => i == j
  | .bor i, .lent j => i == j
  | _, _ => false
def okCA (cs : List CA) : Bool := (List.range cs.length).all fun k => (List.range cs.length).all fun l => k == l || !(match cs[k]?, cs[l]? with
  | some c, some d => clash c d
  | _, _ => false)
theorem okCA_ne {cs : List CA} (h : okCA cs = true) {k l : Nat} {c d : CA} (hk : cs[k]? = some c) (hl : cs[l]? = some d) (hne : k ≠ l) : clash c d = false := by
  have h1 := List.all_eq_true.mp h k (List.mem_range.mpr (List.getElem?_eq_some_iff.mp hk).1)
  have h2 := List.all_eq_true.mp h1 l (List.mem_range.mpr (List.getElem?_eq_some_iff.mp hl).1)
  rw [hk, hl] at h2
  have e : (k == l) = false := by simpa using hne
  rw [e, Bool.false_or] at h2
  simpa using h2
def relent (ρ : Env) (i : Nat) (d : D) : Slot := match ρ[i]? with
  | some (.own _) => .own d
  | some (.lent _) => .lent d
  | _ => .emp
def putC : List CA → List Slot → Env → Env
  | .lent i :: cs, .lent d :: ps, ρ => putC cs ps (ρ.set i (relent ρ i d))
  | _ :: cs, _ :: ps, ρ => putC cs ps ρ
  | _, _, ρ => ρ
def callM (m : Fn) (cs : List CA) (ps : List Slot) : M R := fun ρ =>
  match m ps with
  | none => none
  | some (.ret r ps') => some (.ok r (putC cs ps' ρ))
  | some (.exc e ps') => some (.err e (putC cs ps' ρ))
def fCall (m : Fn) (cs : List CA) : M R := mbind (evC cs) fun ps => callM m cs ps
def LOk (cs : List CA) (ρ : Env) : Prop := ∀ (k j : Nat), cs[k]? = some (CA.lent j) → (∃ d, ρ[j]? = some (Slot.own d)) ∨ ∃ d, ρ[j]? = some (Slot.lent d)
theorem LOk.tail {c : CA} {cs : List CA} {ρ : Env} (h : LOk (c :: cs) ρ) : LOk cs ρ := fun k j e => h (k + 1) j (by simpa using e)
theorem putC_get : ∀ (cs : List CA) (ps : List Slot) (ρ : Env) (i : Nat) (s : Slot), LOk cs ρ → (putC cs ps ρ)[i]? = some s →
    (ρ[i]? = some s ∧ ∀ (k : Nat) (d : D), cs[k]? = some (CA.lent i) → ps[k]? ≠ some (Slot.lent d)) ∨ ∃ (k : Nat) (d : D), cs[k]? = some (CA.lent i) ∧ ps[k]? = some (Slot.lent d) ∧ ((s = .own d ∧ ∃ d0, ρ[i]? = some (Slot.own d0)) ∨ (s = .lent d ∧ ∃ d0, ρ[i]? = some (Slot.lent d0)))
  | [], ps, ρ, i, s, hL, h => by
    have h : ρ[i]? = some s := by cases ps <;> exact h
    exact .inl ⟨h, fun k d e => by simp at e⟩
  | c :: cs, [], ρ, i, s, hL, h => by
    have h : ρ[i]? = some s := by cases c <;> exact h
    exact .inl ⟨h, fun k d _ e => by simp at e⟩
  | c :: cs, p :: ps, ρ, i, s, hL, h => by
    by_cases hcp : ∃ j d, c = .lent j ∧ p = .lent d
    · obtain ⟨j, d, rfl, rfl⟩ := hcp
      have h : (putC cs ps (ρ.set j (relent ρ j d)))[i]? = some s := h
      have hj := hL 0 j (by simp)
      have hjl : j < ρ.length := by rcases hj with ⟨_, hj⟩ | ⟨_, hj⟩ <;> exact (List.getElem?_eq_some_iff.mp hj).1
      have at_j : (ρ.set j (relent ρ j d))[j]? = some (relent ρ j d) := List.getElem?_set_self hjl
      have rel : ((∃ d0, ρ[j]? = some (Slot.own d0)) ∧ relent ρ j d = .own d) ∨ ((∃ d0, ρ[j]? = some (Slot.lent d0)) ∧ relent ρ j d = .lent d) := by
        unfold relent
        rcases hj with ⟨d0, hj⟩ | ⟨d0, hj⟩ <;> rw [hj]
        · exact .inl ⟨⟨d0, rfl⟩, rfl⟩
        · exact .inr ⟨⟨d0, rfl⟩, rfl⟩
      have hL' : LOk cs (ρ.set j (relent ρ j d)) := fun k l e => by
        by_cases hl : j = l
        · subst hl
          rw [at_j]
          rcases rel with ⟨_, e⟩ | ⟨_, e⟩ <;> rw [e]
          · exact .inl ⟨d, rfl⟩
          · exact .inr ⟨d, rfl⟩
        · rw [List.getElem?_set_ne hl]
          exact hL.tail k l e
      rcases putC_get cs ps _ i s hL' h with ⟨e1, n⟩ | ⟨k, x, e1, e2, q⟩
      · by_cases hi : j = i
        · subst hi
          rw [at_j] at e1
          refine .inr ⟨0, d, by simp, by simp, ?_⟩
          rcases rel with ⟨e0, e⟩ | ⟨e0, e⟩ <;> rw [e] at e1 <;> cases e1
          · exact .inl ⟨rfl, e0⟩
          · exact .inr ⟨rfl, e0⟩
        · rw [List.getElem?_set_ne hi] at e1
          refine .inl ⟨e1, fun k d' e => ?_⟩
          cases k with
          | zero => simp at e; exact absurd e hi
          | succ k => simpa using n k d' (by simpa using e)
      · refine .inr ⟨k + 1, x, by simpa using e1, by simpa using e2, ?_⟩
        by_cases hi : j = i
        · subst hi
          rw [at_j] at q
          rcases rel with ⟨e0, e⟩ | ⟨e0, e⟩ <;> rw [e] at q
          · rcases q with ⟨q, _⟩ | ⟨_, _, q⟩
            · exact .inl ⟨q, e0⟩
            · cases q
          · rcases q with ⟨_, _, q⟩ | ⟨q, _⟩
            · cases q
            · exact .inr ⟨q, e0⟩
        · rw [List.getElem?_set_ne hi] at q
          exact q
    · have h : (putC cs ps ρ)[i]? = some s := by
        cases c with
        | lent j =>
          cases p with
          | lent d => exact absurd ⟨j, d, rfl, rfl⟩ hcp
          | _ => exact h
        | _ => exact h
      rcases putC_get cs ps ρ i s hL.tail h with ⟨e1, n⟩ | ⟨k, x, e1, e2, q⟩
      · refine .inl ⟨e1, fun k d e1 e2 => ?_⟩
        cases k with
        | zero => simp at e1 e2; exact hcp ⟨i, d, e1, e2⟩
        | succ k => exact n k d (by simpa using e1) (by simpa using e2)
      · exact .inr ⟨k + 1, x, by simpa using e1, by simpa using e2, q⟩
theorem putC_len : ∀ (cs : List CA) (ps : List Slot) (ρ : Env), (putC cs ps ρ).length = ρ.length
  | [], ps, ρ => by cases ps <;> rfl
  | c :: cs, [], ρ => by cases c <;> rfl
  | c :: cs, p :: ps, ρ => by
    cases c with
    | lent j =>
      cases p with
      | lent d =>
        show (putC cs ps _).length = _
        rw [putC_len cs ps, List.length_set]
      | _ => exact putC_len cs ps ρ
    | _ => exact putC_len cs ps ρ
/-- the arguments by their places -/
theorem args_get {mg : Str → Option Value} {W B : AP mg} {σ : L2.St} {H : Hp} {ρ : Env} : ∀ {cs : List CA} {ps : List Slot} {vs : List V}, ArgsAt W B σ H ρ cs ps vs → ps.length = cs.length ∧ vs.length = cs.length ∧ ∀ (k : Nat) (s : Slot), ps[k]? = some s → ∃ c v, cs[k]? = some c ∧ vs[k]? = some v ∧
      match c with
      | .val _ => ∃ d, s = .frz d ∧ Rep (Eo W B) H d v
      | .bor i => sv σ i = some v ∧ slAt borSl i ρ = some s
      | .lent i => sv σ i = some v ∧ slAt lentSl i ρ = some s
      | .cel hi _ => ∃ d, s = .bor d ∧ ∃ a n c, v = .ref a ∧ W.t n = some a ∧ W a ∧ Top (Eo W B) H a d ∧ ρ[hi]? = some (Slot.hp c)
  | [], ps, vs, ⟨e1, e2⟩ => by subst e1 e2; exact ⟨rfl, rfl, fun k s e => by simp at e⟩
  | .val f :: cs, ps, vs, ⟨d, v, ps', vs', e1, e2, r, A⟩ => by
    subst e1 e2
    obtain ⟨l1, l2, g⟩ := args_get A
    refine ⟨by simp [l1], by simp [l2], fun k s e => ?_⟩
    cases k with
    | zero => simp at e; exact ⟨.val f, v, by simp, by simp, d, e.symm, r⟩
    | succ k => obtain ⟨c, u, h1, h2, h3⟩ := g k s (by simpa using e); exact ⟨c, u, by simpa using h1, by simpa using h2, h3⟩
  | .bor i :: cs, ps, vs, ⟨t, v, ps', vs', e1, e2, r1, r2, A⟩ => by
    subst e1 e2
    obtain ⟨l1, l2, g⟩ := args_get A
    refine ⟨by simp [l1], by simp [l2], fun k s e => ?_⟩
    cases k with
    | zero => simp at e; subst e; exact ⟨.bor i, v, by simp, by simp, r1, r2⟩
    | succ k => obtain ⟨c, u, h1, h2, h3⟩ := g k s (by simpa using e); exact ⟨c, u, by simpa using h1, by simpa using h2, h3⟩
  | .lent i :: cs, ps, vs, ⟨t, v, ps', vs', e1, e2, r1, r2, A⟩ => by
    subst e1 e2
    obtain ⟨l1, l2, g⟩ := args_get A
    refine ⟨by simp [l1], by simp [l2], fun k s e => ?_⟩
    cases k with
    | zero => simp at e; subst e; exact ⟨.lent i, v, by simp, by simp, r1, r2⟩
    | succ k => obtain ⟨c, u, h1, h2, h3⟩ := g k s (by simpa using e); exact ⟨c, u, by simpa using h1, by simpa using h2, h3⟩
  | .cel hi f :: cs, ps, vs, ⟨d, v, ps', vs', e1, e2, r, A⟩ => by
    subst e1 e2
    obtain ⟨l1, l2, g⟩ := args_get A
    refine ⟨by simp [l1], by simp [l2], fun k s e => ?_⟩
    cases k with
    | zero => simp at e; exact ⟨.cel hi f, v, by simp, by simp, d, e.symm, r⟩
    | succ k => obtain ⟨c, u, h1, h2, h3⟩ := g k s (by simpa using e); exact ⟨c, u, by simpa using h1, by simpa using h2, h3⟩
theorem lent_at {σ : L2.St} {ρ : Env} {i : Nat} {s : Slot} (h : slAt lentSl i ρ = some s) : ∃ d, s = .lent d ∧ (ρ[i]? = some (Slot.own d) ∨ ρ[i]? = some (Slot.lent d)) := by
  unfold slAt at h
  split at h
  · rename_i t e
    unfold lentSl at h
    split at h
    · cases h; exact ⟨_, rfl, .inl e⟩
    · cases h; exact ⟨_, rfl, .inr e⟩
    · cases h
  · cases h
section
variable {mg : Str → Option Value} {W B : AP mg} {σ : L2.St} {H : Hp} {ρ : Env} {cs : List CA} {ps : List Slot} {vs : List V} {b : Bool} {hi : Nat} {c0 : List D}
/-- what the callee may write; what it may not -/
def Wc (W : AP mg) (b : Bool) (σ : L2.St) (cs : List CA) : AP mg := ⟨fun a => (∃ k i : Nat, cs[k]? = some (CA.lent i) ∧ sv σ i = some (.ref a)) ∨ (b = true ∧ ∃ n, W.t n = some a), W.t, b⟩
def Bc (W B : AP mg) (b : Bool) (σ : L2.St) (cs : List CA) : AP mg := ⟨fun a => Eo W B a ∧ ¬ Wc W b σ cs a, W.t, b⟩
/-- behind the call: our objects, and what is new of the callee's -/
def Wo (W W' : AP mg) (H : Hp) : AP mg := ⟨fun a => W a ∨ (W' a ∧ H a = none), W'.t, W.h⟩
/-- the parameters, the cells behind them -/
def exP : Bool → List Slot → List D → List Slot
  | false, ps, _ => ps
  | true, ps, c => ps ++ [.hp c]
theorem exP_get {b : Bool} {ps : List Slot} {c : List D} {k : Nat} {t : Slot} (h : (exP b ps c)[k]? = some t) : ps[k]? = some t ∨ (b = true ∧ k = ps.length ∧ t = .hp c) := by
  cases b
  · exact .inl h
  · have h : (ps ++ [Slot.hp c])[k]? = some t := h
    by_cases hk : k < ps.length
    · rw [List.getElem?_append_left hk] at h; exact .inl h
    · rw [List.getElem?_append_right (by omega)] at h
      have : k - ps.length = 0 := by
        have := (List.getElem?_eq_some_iff.mp h).1
        simp at this
        omega
      rw [this] at h
      simp at h
      exact .inr ⟨rfl, by omega, h.symm⟩
theorem exP_lt {b : Bool} {ps : List Slot} {c : List D} {k : Nat} (h : k < ps.length) : (exP b ps c)[k]? = ps[k]? := by
  cases b
  · rfl
  · exact List.getElem?_append_left h
theorem exV_lt {b : Bool} {vs : List V} {k : Nat} {v : V} (h : vs[k]? = some v) : sv (exV b vs) k = some v := by
  cases b
  · exact sv_map h
  · refine sv_of ?_
    have hk := (List.getElem?_eq_some_iff.mp h).1
    show (vs.map some ++ [none])[k]? = _
    rw [List.getElem?_append_left (by simpa using hk), List.getElem?_map, h]
    rfl
theorem args_lok (A : ArgsAt W B σ H ρ cs ps vs) : LOk cs ρ := fun k j e => by
  obtain ⟨l1, l2, g⟩ := args_get A
  have hk : k < ps.length := by rw [l1]; exact (List.getElem?_eq_some_iff.mp e).1
  obtain ⟨c, v, e1, e2, q⟩ := g k _ (List.getElem?_eq_getElem hk)
  rw [e] at e1
  cases e1
  obtain ⟨d, _, z⟩ := lent_at (σ := σ) q.2
  rcases z with z | z
  · exact .inl ⟨d, z⟩
  · exact .inr ⟨d, z⟩
theorem lent_w (s : St W B σ H ρ) (A : ArgsAt W B σ H ρ cs ps vs) {a : Addr} (h : ∃ k i : Nat, cs[k]? = some (CA.lent i) ∧ sv σ i = some (.ref a)) : W a ∧ ∃ (i : Nat) (u : Slot), ρ[i]? = some u ∧ u.wr = true ∧ sv σ i = some (.ref a) ∧ ∃ k : Nat, cs[k]? = some (CA.lent i) := by
  obtain ⟨k, i, e, ev⟩ := h
  rcases args_lok A k i e with ⟨d, z⟩ | ⟨d, z⟩
  · obtain ⟨x, e1, w, _⟩ := s.slot i _ z
    rw [ev] at e1
    cases e1
    exact ⟨w, i, _, z, rfl, ev, k, e⟩
  · obtain ⟨x, e1, w, _⟩ := s.slot i _ z
    rw [ev] at e1
    cases e1
    exact ⟨w, i, _, z, rfl, ev, k, e⟩
theorem cell_w (s : St W B σ H ρ) {i : Nat} {c : List D} (h : ρ[i]? = some (Slot.hp c)) {n : Nat} {a : Addr} (e : W.t n = some a) : W a := by
  have q : HpOk W B H c := s.slot i _ h
  exact (q.w e).elim fun _ z => z.2.1
theorem wc_w (s : St W B σ H ρ) (A : ArgsAt W B σ H ρ cs ps vs) (hb : b = true → ρ[hi]? = some (Slot.hp c0)) {a : Addr} (h : Wc W b σ cs a) : W a := by
  rcases h with h | ⟨e, n, h⟩
  · exact (lent_w s A h).1
  · exact cell_w s (hb e) h
theorem Rep.ln {N N' : AP mg} {d : D} {v : V} (h : Rep N H d v) (hs : ∀ a, N' a → N a) (ht : N'.t = N.t) : Rep N' H d v := Rep.mono ⟨fun a z => .inl (hs a z), fun n a e => by rw [ht]; exact e⟩ (fun _ _ e _ => e) d v h
theorem Top.ln {N N' : AP mg} {d : D} {a : Addr} (h : Top N H a d) (hs : ∀ a, N' a → N a) (ht : N'.t = N.t) : Top N' H a d := Top.mono (M := fun _ => False) ⟨fun a z => .inl (hs a z), fun n a e => by rw [ht]; exact e⟩ (fun _ _ e _ => e) (fun _ z => z.elim) (fun z => z) h
theorem CTop.ln {N N' : AP mg} {d : D} {a : Addr} (h : CTop N H a d) (hs : ∀ a, N' a → N a) (ht : N'.t = N.t) : CTop N' H a d := CTop.mono (M := fun _ => False) ⟨fun a z => .inl (hs a z), fun n a e => by rw [ht]; exact e⟩ (fun _ _ e _ => e) (fun _ z => z.elim) (fun z => z) h
theorem XRep.ln {N N' : AP mg} {e : Exc} {c : Value} {dd : Option Addr} (h : XRep mg N H e c dd) (hs : ∀ a, N' a → N a) (ht : N'.t = N.t) : XRep mg N' H e c dd := by
  obtain ⟨C, e1, e2, q⟩ := h
  refine ⟨C, e1, e2, fun x d ed => ?_⟩
  obtain ⟨a, fs, v, p1, p2, p3, p4, p5⟩ := q x d ed
  exact ⟨a, fs, v, p1, fun z => p2 (hs a z), p3, p4, p5.ln hs ht⟩
/-- cells are not borrowed where all cells are handed on -/
def okB (b : Bool) (cs : List CA) : Bool := !b || cs.all fun c => match c with
  | .cel _ _ => false
  | _ => true
/-- the callee's entry -/
theorem St.into (s : St W B σ H ρ) (A : ArgsAt W B σ H ρ cs ps vs) (ok : okCA cs = true) (okb : okB b cs = true) (hb : b = true → ρ[hi]? = some (Slot.hp c0)) : St (Wc W b σ cs) (Bc W B b σ cs) (exV b vs) H (exP b ps c0) ∧ ∀ t ∈ exP b ps c0, noOwn t = true := by
  obtain ⟨l1, l2, g⟩ := args_get A
  have hE : ∀ a, Eo (Wc W b σ cs) (Bc W B b σ cs) a → Eo W B a := fun a z => Or.elim z (fun k => Or.inl (wc_w s A hb k)) fun k => k.1
  have hR : ∀ {d : D} {v : V}, Rep (Eo W B) H d v → Rep (Eo (Wc W b σ cs) (Bc W B b σ cs)) H d v := fun {d v} r => r.ln hE rfl
  have hT : ∀ {d : D} {a : Addr}, Top (Eo W B) H a d → Top (Eo (Wc W b σ cs) (Bc W B b σ cs)) H a d := fun {d a} r => r.ln hE rfl
  have isL : ∀ (k : Nat) (t : Slot), (exP b ps c0)[k]? = some t → t.wr = true → ∃ i v d, cs[k]? = some (CA.lent i) ∧ vs[k]? = some v ∧ sv σ i = some v ∧ t = .lent d ∧ (ρ[i]? = some (Slot.own d) ∨ ρ[i]? = some (Slot.lent d)) := fun k t e w => by
    rcases exP_get e with e | ⟨_, _, rfl⟩
    · obtain ⟨c, v, e1, e2, q⟩ := g k t e
      cases c with
      | val f => obtain ⟨d, e3, _⟩ := q; subst e3; cases w
      | bor i =>
        obtain ⟨q1, q2⟩ := q
        unfold slAt at q2
        split at q2
        · rename_i u _
          cases u <;> cases q2 <;> cases w
        · cases q2
      | lent i =>
        obtain ⟨d, e3, z⟩ := lent_at (σ := σ) q.2
        exact ⟨i, v, d, e1, e2, q.1, e3, z⟩
      | cel hi f => obtain ⟨d, e3, _⟩ := q; subst e3; cases w
    · cases w
  have isH : ∀ (k : Nat) (c : List D), (exP b ps c0)[k]? = some (Slot.hp c) → b = true ∧ k = ps.length ∧ c = c0 := fun k c e => by
    rcases exP_get e with e | ⟨h1, h2, h3⟩
    · obtain ⟨c, v, e1, e2, q⟩ := g k _ e
      cases c with
      | val f => obtain ⟨d, e3, _⟩ := q; cases e3
      | bor i =>
        obtain ⟨q1, q2⟩ := q
        unfold slAt at q2
        split at q2
        · rename_i u _
          cases u <;> cases q2
        · cases q2
      | lent i => obtain ⟨d, e3, z⟩ := lent_at (σ := σ) q.2; cases e3
      | cel hi f => obtain ⟨d, e3, _⟩ := q; cases e3
    · cases h3; exact ⟨h1, h2, rfl⟩
  have wr_of : ∀ {i : Nat} {d : D}, (ρ[i]? = some (Slot.own d) ∨ ρ[i]? = some (Slot.lent d)) → ∃ u, ρ[i]? = some u ∧ u.wr = true := fun {i d} z => by rcases z with z | z <;> exact ⟨_, z, rfl⟩
  refine ⟨⟨?_, fun k t e => ?_, fun a z => s.dom a (hE a z), fun a w b => b.2 w, fun k l t t' a hkl p q w1 w2 x1 x2 => ?_, fun k l t c n a p w x q e => ?_, fun k l c c' p q => by rw [(isH k c p).2.1, (isH l c' q).2.1]⟩, fun t ht => ?_⟩
  · cases b
    · show (vs.map some).length = ps.length
      simp [l1, l2]
    · show (vs.map some ++ [none]).length = (ps ++ [_]).length
      simp [l1, l2]
  · rcases exP_get e with e0 | ⟨eb, ek, rfl⟩
    · obtain ⟨c, v, e1, e2, q⟩ := g k t e0
      rw [exV_lt e2]
      cases c with
      | val f => obtain ⟨d, e3, r⟩ := q; subst e3; exact ⟨v, rfl, hR r⟩
      | bor i =>
        obtain ⟨q1, q2⟩ := q
        unfold slAt at q2
        split at q2
        · rename_i u eu
          have su := s.slot i u eu
          rw [q1] at su
          have nwc : ∀ a, v = .ref a → u.wr = true → ¬ Wc W b σ cs a := fun a ea wu z => by
            rcases z with ⟨k2, i2, e3, e4⟩ | ⟨zb, n, en⟩
            · by_cases hi : i = i2
              · subst hi
                have hne : k ≠ k2 := fun z => by subst z; rw [e1] at e3; cases e3
                have := okCA_ne ok e1 e3 hne
                simp [clash] at this
              · have hu2 : ∃ u2, ρ[i2]? = some u2 ∧ u2.wr = true := by
                  rcases args_lok A k2 i2 e3 with ⟨d, z⟩ | ⟨d, z⟩
                  · exact ⟨_, z, rfl⟩
                  · exact ⟨_, z, rfl⟩
                obtain ⟨u2, e5, w2⟩ := hu2
                exact s.apart i i2 u u2 a hi eu e5 wu w2 (by rw [q1, ea]) e4
            · exact s.hpa i hi u c0 n a eu wu (by rw [q1, ea]) (hb zb) en
          cases u with
          | emp => cases q2
          | hp _ => cases q2
          | frz d => cases q2; obtain ⟨x, ex, r⟩ := su; cases ex; exact ⟨v, rfl, hR r⟩
          | own d => cases q2; obtain ⟨x, ex, w, r⟩ := su; cases ex; exact ⟨x, rfl, ⟨.inl w, nwc x rfl rfl⟩, hT r⟩
          | lent d => cases q2; obtain ⟨x, ex, w, r⟩ := su; cases ex; exact ⟨x, rfl, ⟨.inl w, nwc x rfl rfl⟩, hT r⟩
          | bor d => cases q2; obtain ⟨x, ex, w, r⟩ := su; cases ex; exact ⟨x, rfl, ⟨.inr w, fun z => s.dis x (wc_w s A hb z) w⟩, hT r⟩
        · cases q2
      | lent i =>
        obtain ⟨d, e3, z⟩ := lent_at (σ := σ) q.2
        subst e3
        rcases z with z | z
        · obtain ⟨x, ex, w, r⟩ := s.slot i _ z
          have ex2 : some v = some (V.ref x) := by rw [← q.1]; exact ex
          cases ex2
          exact ⟨x, rfl, .inl ⟨k, i, e1, ex⟩, hT r⟩
        · obtain ⟨x, ex, w, r⟩ := s.slot i _ z
          have ex2 : some v = some (V.ref x) := by rw [← q.1]; exact ex
          cases ex2
          exact ⟨x, rfl, .inl ⟨k, i, e1, ex⟩, hT r⟩
      | cel hi' f =>
        obtain ⟨d, e3, a, n, c, ev, et, wa, tp, eh⟩ := q
        subst e3
        refine ⟨a, by rw [ev], ⟨.inl wa, fun z => ?_⟩, hT tp⟩
        rcases z with z | ⟨zb, _⟩
        · obtain ⟨_, i2, u, eu, wu, ev2, _⟩ := lent_w s A z
          exact s.hpa i2 hi' u c n a eu wu ev2 eh et
        · subst zb
          have := List.all_eq_true.mp (show cs.all _ = true from okb) _ (List.mem_of_getElem? e1)
          cases this
    · have q : HpOk W B H c0 := s.slot hi _ (hb eb)
      subst eb
      exact HpOk.mk rfl (fun n d e => by
        obtain ⟨a, e1, w, t⟩ := q.at_ n d e
        exact ⟨a, e1, .inr ⟨rfl, n, e1⟩, t.ln hE rfl⟩) q.lt q.inj
  · obtain ⟨i, v, d, c1, v1, y1, _, z1⟩ := isL k t p w1
    obtain ⟨j, u, d', c2, v2, y2, _, z2⟩ := isL l t' q w2
    rw [exV_lt v1] at x1
    rw [exV_lt v2] at x2
    cases x1
    cases x2
    have hij : i ≠ j := fun z => by
      subst z
      have := okCA_ne ok c1 c2 hkl
      simp [clash] at this
    obtain ⟨t1, a1, b1⟩ := wr_of z1
    obtain ⟨t2, a2, b2⟩ := wr_of z2
    exact s.apart i j t1 t2 a hij a1 a2 b1 b2 y1 y2
  · obtain ⟨i, v, d, c1, v1, y1, _, z1⟩ := isL k t p w
    rw [exV_lt v1] at x
    cases x
    obtain ⟨eb, _, _⟩ := isH l c q
    obtain ⟨t1, a1, b1⟩ := wr_of z1
    exact s.hpa i hi t1 c0 n a a1 b1 y1 (hb eb) e
  · obtain ⟨k, hk⟩ := List.getElem?_of_mem ht
    rcases exP_get hk with hk | ⟨_, _, rfl⟩
    · obtain ⟨c, v, e1, e2, q⟩ := g k t hk
      cases c with
      | val f => obtain ⟨d, e3, _⟩ := q; subst e3; rfl
      | bor i =>
        obtain ⟨q1, q2⟩ := q
        unfold slAt at q2
        split at q2
        · rename_i u _
          cases u <;> cases q2 <;> rfl
        · cases q2
      | lent i => obtain ⟨d, e3, _⟩ := lent_at (σ := σ) q.2; subst e3; rfl
      | cel hi f => obtain ⟨d, e3, _⟩ := q; subst e3; rfl
    · rfl
/-- the caller's names behind the call -/
def putH (b : Bool) (hi k : Nat) (ps' : List Slot) (ρ : Env) : Env := if b = true then (match ps'[k]? with
  | some (.hp c) => ρ.set hi (.hp c)
  | _ => ρ) else ρ
theorem putH_len {b : Bool} {hi k : Nat} {ps' : List Slot} {ρ : Env} : (putH b hi k ps' ρ).length = ρ.length := by
  unfold putH
  split
  · split
    · rw [List.length_set]
    · rfl
  · rfl
theorem putC_hp {cs : List CA} {ps : List Slot} {ρ : Env} (hL : LOk cs ρ) {i : Nat} {c : List D} : (putC cs ps ρ)[i]? = some (Slot.hp c) ↔ ρ[i]? = some (Slot.hp c) := by
  constructor
  · intro h
    rcases putC_get cs ps ρ i _ hL h with ⟨e, _⟩ | ⟨_, _, _, _, q⟩
    · exact e
    · rcases q with ⟨q, _⟩ | ⟨q, _⟩ <;> cases q
  · intro h
    have hi : i < (putC cs ps ρ).length := by rw [putC_len]; exact (List.getElem?_eq_some_iff.mp h).1
    rcases putC_get cs ps ρ i _ hL (List.getElem?_eq_getElem hi) with ⟨e, _⟩ | ⟨_, _, _, _, q⟩
    · rw [h] at e; rw [List.getElem?_eq_getElem hi, ← Option.some.inj e]
    · rcases q with ⟨_, d, q⟩ | ⟨_, d, q⟩ <;> rw [h] at q <;> cases q
/-- behind the call -/
theorem St.outof (s : St W B σ H ρ) (A : ArgsAt W B σ H ρ cs ps vs) (ok : okCA cs = true) (hb : b = true → ρ[hi]? = some (Slot.hp c0)) (hh : b = true → W.h = true) {W' : AP mg} {H' : Hp} {ps' : List Slot} (lk : Lk (exP b ps c0) ps') (f : Fr (Wc W b σ cs) H W' H') (s' : St W' (Bc W B b σ cs) (exV b vs) H' ps') :
    St (Wo W W' H) B σ H' (putH b hi ps.length ps' (putC cs ps' ρ)) ∧ (∀ a, Eo (Wo W W' H) B a → Eo W' (Bc W B b σ cs) a) ∧ Fr W H (Wo W W' H) H' := by
  obtain ⟨l1, l2, g⟩ := args_get A
  have lent' : ∀ (k i : Nat), cs[k]? = some (CA.lent i) → ∃ d v a, ps'[k]? = some (Slot.lent d) ∧ vs[k]? = some v ∧ v = .ref a ∧ sv σ i = some (.ref a) ∧ W' a ∧ Top (Eo W' (Bc W B b σ cs)) H' a d := fun k i e => by
    have hk : k < ps.length := by rw [l1]; exact (List.getElem?_eq_some_iff.mp e).1
    obtain ⟨c, v, e1, e2, q⟩ := g k _ (List.getElem?_eq_getElem hk)
    rw [e] at e1
    cases e1
    obtain ⟨d, e3, _⟩ := lent_at (σ := σ) q.2
    obtain ⟨d', e4⟩ := lk.lent k d (by rw [exP_lt hk, List.getElem?_eq_getElem hk, e3])
    obtain ⟨a, e5, w, t⟩ := s'.slot k _ e4
    rw [exV_lt e2] at e5
    cases e5
    exact ⟨d', _, a, e4, e2, rfl, q.1, w, t⟩
  have hpC : b = true → ∃ c', ps'[ps.length]? = some (Slot.hp c') ∧ HpOk W' (Bc W B b σ cs) H' c' := fun eb => by
    subst eb
    obtain ⟨c', e⟩ := lk.hp ps.length c0 (by show (ps ++ [_])[ps.length]? = _; simp)
    exact ⟨c', e, s'.slot _ _ e⟩
  have cellW' : b = true → ∀ n a, W.t n = some a → W' a := fun eb n a e => by
    obtain ⟨c', _, q⟩ := hpC eb
    obtain ⟨_, _, w, _⟩ := q.w (f.tab n a e)
    exact w
  have sub : ∀ a, Eo W B a → Eo W' (Bc W B b σ cs) a := fun a z => by
    by_cases hw : Wc W b σ cs a
    · rcases hw with ⟨k, i, e, ev⟩ | ⟨eb, n, en⟩
      · obtain ⟨d, v, a', _, _, _, e2, w, _⟩ := lent' k i e
        rw [ev] at e2
        cases e2
        exact .inl w
      · exact .inl (cellW' eb n a en)
    · exact .inr ⟨z, hw⟩
  have hW : ∀ a, Wo W W' H a → W a ∨ (W' a ∧ H a = none) := fun a z => z
  have hN : Lf (Eo (Wo W W' H) B) (Eo W B) H := ⟨fun a z => by
    rcases z with (z | z) | z
    · exact .inl (.inl z)
    · exact .inr z.2
    · exact .inl (.inr z), f.tab⟩
  have kO : ∀ a o, H a = some o → ¬ Eo W B a → H' a = some o := fun a o e n => f.keep a o e fun z => n (.inl (wc_w s A hb z))
  have hN' : ∀ a, Eo (Wo W W' H) B a → Eo W' (Bc W B b σ cs) a := fun a z => by
    rcases z with (z | z) | z
    · exact sub a (.inl z)
    · exact .inl z.1
    · exact sub a (.inr z)
  have hT' : ∀ {a : Addr} {d : D}, Top (Eo W' (Bc W B b σ cs)) H' a d → Top (Eo (Wo W W' H) B) H' a d := fun {a d} t => t.ln hN' rfl
  have hL := args_lok A
  have same : ∀ (i : Nat), (b = true → i ≠ hi) → (putH b hi ps.length ps' (putC cs ps' ρ))[i]? = (putC cs ps' ρ)[i]? := fun i n => by
    unfold putH
    split
    · rename_i eb
      split
      · rw [List.getElem?_set_ne fun z => n eb z.symm]
      · rfl
    · rfl
  have atH : b = true → ∃ c', ps'[ps.length]? = some (Slot.hp c') ∧ (putH b hi ps.length ps' (putC cs ps' ρ))[hi]? = some (Slot.hp c') ∧ HpOk W' (Bc W B b σ cs) H' c' := fun eb => by
    obtain ⟨c', e, q⟩ := hpC eb
    refine ⟨c', e, ?_, q⟩
    unfold putH
    rw [if_pos eb, e]
    show ((putC cs ps' ρ).set hi (.hp c'))[hi]? = _
    rw [List.getElem?_set_self]
    rw [putC_len]
    exact (List.getElem?_eq_some_iff.mp (hb eb)).1
  have key : ∀ (i : Nat) (t : Slot), (putH b hi ps.length ps' (putC cs ps' ρ))[i]? = some t → (b = true ∧ i = hi ∧ ∃ c', t = .hp c' ∧ HpOk W' (Bc W B b σ cs) H' c') ∨ ((b = true → i ≠ hi) ∧ ((ρ[i]? = some t ∧ ∀ (k : Nat) (d : D), cs[k]? = some (CA.lent i) → ps'[k]? ≠ some (Slot.lent d)) ∨ ∃ (k : Nat) (d : D), cs[k]? = some (CA.lent i) ∧ ps'[k]? = some (Slot.lent d) ∧ ((t = .own d ∧ ∃ d0, ρ[i]? = some (Slot.own d0)) ∨ (t = .lent d ∧ ∃ d0, ρ[i]? = some (Slot.lent d0))))) := fun i t e => by
    by_cases h : b = true ∧ i = hi
    · obtain ⟨eb, rfl⟩ := h
      obtain ⟨c', _, e2, q⟩ := atH eb
      rw [e2] at e
      exact .inl ⟨eb, rfl, c', (Option.some.inj e).symm, q⟩
    · have n : b = true → i ≠ hi := fun eb z => h ⟨eb, z⟩
      rw [same i n] at e
      exact .inr ⟨n, putC_get cs ps' ρ i t hL e⟩
  have notl : ∀ (i : Nat), (∀ (k : Nat) (d : D), cs[k]? = some (CA.lent i) → ps'[k]? ≠ some (Slot.lent d)) → ∀ k, cs[k]? ≠ some (CA.lent i) := fun i n k e => by
    obtain ⟨d, _, _, e4, _⟩ := lent' k i e
    exact n k d e e4
  have old : ∀ (i : Nat) (t : Slot), (putH b hi ps.length ps' (putC cs ps' ρ))[i]? = some t → t.wr = true → ∃ t0, ρ[i]? = some t0 ∧ t0.wr = true := fun i t e w => by
    rcases key i t e with ⟨_, _, c', rfl, _⟩ | ⟨_, ⟨e1, n⟩ | ⟨k, d, e1, e2, q⟩⟩
    · cases w
    · exact ⟨t, e1, w⟩
    · rcases q with ⟨_, d0, z⟩ | ⟨_, d0, z⟩ <;> exact ⟨_, z, rfl⟩
  have oldH : ∀ (i : Nat) (c : List D), (putH b hi ps.length ps' (putC cs ps' ρ))[i]? = some (Slot.hp c) → ∃ c1, ρ[i]? = some (Slot.hp c1) := fun i c e => by
    rcases key i _ e with ⟨eb, rfl, _⟩ | ⟨_, ⟨e1, n⟩ | ⟨k, d, e1, e2, q⟩⟩
    · exact ⟨c0, hb eb⟩
    · exact ⟨c, e1⟩
    · rcases q with ⟨q, _⟩ | ⟨q, _⟩ <;> cases q
  have fr : Fr W H (Wo W W' H) H' := by
    refine ⟨fun a o e n => f.keep a o e fun z => n (wc_w s A hb z), fun a z => (hW a z).elim .inl fun k => .inr k.2, f.tab, fun z => ?_, rfl⟩
    cases b with
    | false => exact f.th rfl
    | true => rw [hh rfl] at z; cases z
  refine ⟨⟨by rw [putH_len, putC_len]; exact s.len, fun i t e => ?_, fun a z => s'.dom a (hN' a z), fun a w b => ?_, fun i j t t' a hij p q w1 w2 x1 x2 => ?_, fun j k t c n a p w x q e => ?_, fun j k c c' p q => ?_⟩, hN', fr⟩
  · rcases key i t e with ⟨eb, rfl, c', rfl, q⟩ | ⟨nh, ⟨e1, n⟩ | ⟨k, d, e1, e2, q⟩⟩
    · show HpOk (Wo W W' H) B H' c'
      refine HpOk.mk (hh eb) (fun n d e => ?_) q.lt q.inj
      obtain ⟨a, e1, w, t⟩ := q.at_ n d e
      refine ⟨a, e1, ?_, t.ln hN' rfl⟩
      rcases f.sub a w with z | z
      · exact .inl (wc_w s A hb z)
      · exact .inr ⟨w, z⟩
    · have nl := notl i n
      have nwc : ∀ a, sv σ i = some (.ref a) → t.wr = true → ¬ Wc W b σ cs a := fun a ea wt z => by
        rcases z with ⟨k2, i2, e3, e4⟩ | ⟨eb, m, em⟩
        · have hi : i ≠ i2 := fun z => by subst z; exact nl k2 e3
          have hu2 : ∃ u2, ρ[i2]? = some u2 ∧ u2.wr = true := by
            rcases args_lok A k2 i2 e3 with ⟨d, z⟩ | ⟨d, z⟩
            · exact ⟨_, z, rfl⟩
            · exact ⟨_, z, rfl⟩
          obtain ⟨u2, e5, w2⟩ := hu2
          exact s.apart i i2 t u2 a hi e1 e5 wt w2 ea e4
        · exact s.hpa i hi t c0 m a e1 wt ea (hb eb) em
      have hM : ∀ a, Wc W b σ cs a → Eo W B a := fun a z => .inl (wc_w s A hb z)
      have q := s.slot i t e1
      cases t with
      | emp => trivial
      | frz d => obtain ⟨x, ex, r⟩ := q; exact ⟨x, ex, Rep.mono hN kO _ _ r⟩
      | own d => obtain ⟨x, ex, w, r⟩ := q; exact ⟨x, ex, .inl w, r.mono hN f.keep hM (nwc x ex rfl)⟩
      | lent d => obtain ⟨x, ex, w, r⟩ := q; exact ⟨x, ex, .inl w, r.mono hN f.keep hM (nwc x ex rfl)⟩
      | bor d => obtain ⟨x, ex, w, r⟩ := q; exact ⟨x, ex, w, r.mono hN f.keep hM fun z => s.dis x (wc_w s A hb z) w⟩
      | hp c =>
        have nb : b = false := by
          cases b with
          | false => rfl
          | true => exact absurd (s.hp1 i hi c c0 e1 (hb rfl)) (nh rfl)
        subst nb
        refine HpOk.mono q hN f.keep hM (fun n a en z => ?_) (fun _ _ _ w => .inl w) (f.th rfl) rfl
        rcases z with z | ⟨z, _⟩
        · obtain ⟨_, i2, u, eu, wu, ev, _⟩ := lent_w s A z
          exact s.hpa i2 i u c n a eu wu ev e1 en
        · cases z
    · obtain ⟨d2, v, a, e4, e5, e6, e7, w, tp⟩ := lent' k i e1
      rw [e2] at e4
      cases e4
      have wa : W a := (lent_w s A ⟨k, i, e1, e7⟩).1
      rcases q with ⟨q, _⟩ | ⟨q, _⟩ <;> subst q
      · exact ⟨a, e7, .inl wa, hT' tp⟩
      · exact ⟨a, e7, .inl wa, hT' tp⟩
  · rcases hW a w with k | k
    · exact s.dis a k b
    · exact s.dom a (.inr b) k.2
  · obtain ⟨t1, a1, b1⟩ := old i t p w1
    obtain ⟨t2, a2, b2⟩ := old j t' q w2
    exact s.apart i j t1 t2 a hij a1 a2 b1 b2 x1 x2
  · obtain ⟨t1, a1, b1⟩ := old j t p w
    obtain ⟨c1, h1⟩ := oldH k c q
    obtain ⟨x0, d0, _, e2, wx, _⟩ := s.wr_at a1 b1
    rw [x] at e2
    cases e2
    cases b with
    | false =>
      have e' : W.t n = some a := (congrFun (f.th rfl) n).symm.trans e
      exact s.hpa j k t1 c1 n a a1 b1 x h1 e'
    | true =>
      obtain ⟨c', e3, q'⟩ := hpC rfl
      obtain ⟨_, _, w', _⟩ := q'.w e
      rcases f.sub a w' with z | z
      · rcases z with ⟨k2, i2, e4, e5⟩ | ⟨_, m, em⟩
        · obtain ⟨d', v, a', e6, e7, e8, e9, _⟩ := lent' k2 i2 e4
          rw [e5] at e9
          cases e9
          exact s'.hpa k2 _ _ c' n a e6 rfl (by rw [exV_lt e7, e8]) e3 e
        · exact s.hpa j hi t1 c0 m a a1 b1 x (hb rfl) em
      · exact s.dom a (.inl wx) z
  · obtain ⟨c1, h1⟩ := oldH j c p
    obtain ⟨c2, h2⟩ := oldH k c' q
    exact s.hp1 j k c1 c2 h1 h2
end
/-- a def that may be called by its name; b: it works on cells -/
structure CalleeX (b : Bool) (P : Program) (w : World) (K : PySem.W.Frag) (mg : Str → Option Value) (base : Heap) (k : Nat) (x : Str) (m : Fn) : Prop where
  ex : ∃ (f : Addr) (fd : FuncData) (ps : List Str), FnOk P w K mg base (L2.CX P w) k f fd ps (spX b mg m) ∧ mg x = some (.ref f) ∧ PySem.W.keepIn K (.ref f) = true ∧ Binds K fd ps []
abbrev Callee := CalleeX false
def hpAt (b : Bool) (hi : Nat) (ρ : Env) : Option (List D) := if b = true then (match ρ[hi]? with
  | some (.hp c) => some c
  | _ => none) else some []
/-- the call, with the cells at hi -/
def callX (b : Bool) (hi : Nat) (m : Fn) (cs : List CA) (ps : List Slot) : M R := fun ρ =>
  match hpAt b hi ρ with
  | none => none
  | some c => match m (exP b ps c) with
    | none => none
    | some (.ret r ps') => some (.ok r (putH b hi ps.length ps' (putC cs ps' ρ)))
    | some (.exc e ps') => some (.err e (putH b hi ps.length ps' (putC cs ps' ρ)))
def fCallX (b : Bool) (hi : Nat) (m : Fn) (cs : List CA) : M R := mbind (evC cs) fun ps => callX b hi m cs ps
theorem callX_false {hi : Nat} {m : Fn} {cs : List CA} {ps : List Slot} : callX false hi m cs ps = callM m cs ps := by
  funext ρ
  unfold callX callM hpAt putH exP
  simp
theorem fCallX_false {hi : Nat} {m : Fn} {cs : List CA} : fCallX false hi m cs = fCall m cs := by
  unfold fCallX fCall
  simp only [callX_false]
section
variable {X : Cx} {Wx : WX} {e : Expr} {es : List Expr} {pos p : Pos} {cs : List CA} {m : Fn} {x : Str} {k j : Nat} {b : Bool} {hi : Nat}
theorem hpAt_some {b : Bool} {hi : Nat} {ρ : Env} {c : List D} (h : hpAt b hi ρ = some c) : b = true → ρ[hi]? = some (Slot.hp c) := fun e => by
  unfold hpAt at h
  rw [if_pos e] at h
  split at h
  · rename_i q; cases h; exact q
  · cases h
theorem putH_evo {b : Bool} {hi k : Nat} {ps' : List Slot} {ρ : Env} {c : List D} (h : b = true → ρ[hi]? = some (Slot.hp c)) : Evo ρ (putH b hi k ps' ρ) := by
  unfold putH
  split
  · rename_i eb
    split
    · rename_i c' _
      have q := h eb
      have hl := (List.getElem?_eq_some_iff.mp q).1
      refine ⟨by simp, fun i d e => ?_, fun i d e => ?_, fun i d e => ?_, fun i d e => ?_, fun i d e => ?_⟩
      · by_cases z : hi = i
        · subst z; rw [List.getElem?_set_self hl] at e; cases e
        · rwa [List.getElem?_set_ne z] at e
      · by_cases z : hi = i
        · subst z; rw [q] at e; cases e
        · exact ⟨d, by rwa [List.getElem?_set_ne z]⟩
      · by_cases z : hi = i
        · subst z; rw [List.getElem?_set_self hl] at e; cases e
        · exact ⟨d, by rwa [List.getElem?_set_ne z] at e⟩
      · by_cases z : hi = i
        · subst z; exact ⟨c', List.getElem?_set_self hl⟩
        · exact ⟨d, by rwa [List.getElem?_set_ne z]⟩
      · by_cases z : hi = i
        · subst z; exact ⟨c, q⟩
        · exact ⟨d, by rwa [List.getElem?_set_ne z] at e⟩
    · exact .refl _
  · exact .refl _
theorem putC_evo {cs : List CA} {ps' : List Slot} {ρ1 : Env} (lok : LOk cs ρ1) : Evo ρ1 (putC cs ps' ρ1) := by
  have key := fun (i : Nat) (t : Slot) (h : (putC cs ps' ρ1)[i]? = some t) => putC_get cs ps' ρ1 i t lok h
  refine ⟨putC_len _ _ _, fun i d e => ?_, fun i d e => ?_, fun i d e => ?_, fun i d e => ⟨d, (putC_hp lok).mpr e⟩, fun i d e => ⟨d, (putC_hp lok).mp e⟩⟩
  · rcases key i _ e with ⟨e1, _⟩ | ⟨_, _, _, _, q⟩
    · exact e1
    · rcases q with ⟨q, _⟩ | ⟨q, _⟩ <;> cases q
  · have hi : i < (putC cs ps' ρ1).length := by rw [putC_len]; exact (List.getElem?_eq_some_iff.mp e).1
    rcases key i _ (List.getElem?_eq_getElem hi) with ⟨e1, _⟩ | ⟨_, d', _, _, q⟩
    · rw [e] at e1; exact ⟨d, by rw [List.getElem?_eq_getElem hi, ← Option.some.inj e1]⟩
    · rcases q with ⟨_, d0, q⟩ | ⟨q, _⟩
      · rw [e] at q; cases q
      · exact ⟨d', by rw [List.getElem?_eq_getElem hi, q]⟩
  · rcases key i _ e with ⟨e1, _⟩ | ⟨_, _, _, _, q⟩
    · exact ⟨d, e1⟩
    · rcases q with ⟨q, _⟩ | ⟨_, d0, q⟩
      · cases q
      · exact ⟨d0, q⟩
theorem evo_callX (hc : ∀ c ∈ cs, c.Evo) (hl : ∀ (ps : List Slot) (ρ ρ' : Env), evC cs ρ = some (.ok ps ρ') → LOk cs ρ') : EvoF (fCallX b hi m cs) := fun ρ o h => by
  unfold fCallX mbind at h
  cases q : evC cs ρ with
  | none => rw [q] at h; cases h
  | some y =>
    have ev := evo_evC hc _ _ q
    rw [q] at h
    cases y with
    | err e ρ1 => cases h; exact ev
    | ok ps ρ1 =>
      have lok := hl ps ρ ρ1 q
      have h : callX b hi m cs ps ρ1 = some o := h
      unfold callX at h
      split at h
      · cases h
      · rename_i c hc'
        have step : ∀ ps', Evo ρ1 (putH b hi ps.length ps' (putC cs ps' ρ1)) := fun ps' => (putC_evo lok).trans (putH_evo (c := c) fun eb => (putC_hp lok).mpr (hpAt_some hc' eb))
        split at h
        · cases h
        · cases h; exact ev.trans (step _)
        · cases h; exact ev.trans (step _)
theorem evC_lok : ∀ {cs : List CA}, (∀ c ∈ cs, c.Evo) → ∀ {ps : List Slot} {ρ ρ' : Env}, evC cs ρ = some (.ok ps ρ') → LOk cs ρ'
  | [], _, ps, ρ, ρ', _ => fun k j e => by simp at e
  | .cel hi f :: cs, hc, ps, ρ, ρ', h => by
    obtain ⟨r, ρ1, q1, h⟩ := mbind_ok (show mbind f _ ρ = _ from h)
    obtain ⟨ps1, ρ2, q2, h⟩ := mbind_ok h
    obtain ⟨_, _, _, _, _, _, e, _⟩ := getCel_some h
    cases e
    have := evC_lok (fun c z => hc c (List.mem_cons_of_mem _ z)) q2
    intro k j e
    cases k with
    | zero => simp at e
    | succ k => exact this k j (by simpa using e)
  | .val f :: cs, hc, ps, ρ, ρ', h => by
    obtain ⟨r, ρ1, q1, h⟩ := mbind_ok (show mbind f _ ρ = _ from h)
    obtain ⟨ps1, ρ2, q2, h⟩ := mbind_ok h
    cases h
    have := evC_lok (fun c z => hc c (List.mem_cons_of_mem _ z)) q2
    intro k j e
    cases k with
    | zero => simp at e
    | succ k => exact this k j (by simpa using e)
  | .bor i :: cs, hc, ps, ρ, ρ', h => by
    obtain ⟨r, ρ1, q1, h⟩ := mbind_ok (show mbind (needSl i) _ ρ = _ from h)
    obtain ⟨ps1, ρ2, q2, h⟩ := mbind_ok h
    have e2 : ρ' = ρ2 := by
      unfold getC at h
      split at h <;> cases h
      rfl
    subst e2
    have := evC_lok (fun c z => hc c (List.mem_cons_of_mem _ z)) q2
    intro k j e
    cases k with
    | zero => simp at e
    | succ k => exact this k j (by simpa using e)
  | .lent i :: cs, hc, ps, ρ, ρ', h => by
    obtain ⟨r, ρ1, q1, h⟩ := mbind_ok (show mbind (needSl i) _ ρ = _ from h)
    obtain ⟨ps1, ρ2, q2, h⟩ := mbind_ok h
    unfold getC at h
    split at h
    · rename_i s es
      cases h
      have := evC_lok (fun c z => hc c (List.mem_cons_of_mem _ z)) q2
      intro k j e
      cases k with
      | zero =>
        simp at e
        subst e
        obtain ⟨d, _, z⟩ := lent_at (σ := []) es
        rcases z with z | z
        · exact .inl ⟨d, z⟩
        · exact .inr ⟨d, z⟩
      | succ k => exact this k j (by simpa using e)
    · cases h
theorem rd_callX {mg : Str → Option Value} {σ : L2.St} {H : Hp} {Q : VK} (ok : okCA cs = true) (okb : okB b cs = true) (h : rdE mg Wx (fCallX b hi m cs) σ H Q) : rdC mg Wx cs σ H fun vs H1 => spX b mg m (vs ++ []) H1 Q (fun c d H => Wx c d σ H) := by
  obtain ⟨W, B, ρ, s, a⟩ := h
  refine ⟨W, B, ρ, s, (After.bind a).mono fun W1 H1 ps1 ρ1 _ _ a1 vs s1 A => ?_⟩
  show spX b mg m (vs ++ []) H1 Q (fun c d H => Wx c d σ H)
  rw [List.append_nil]
  have a1 : After mg Wx W1 B σ H1 (callX b hi m cs ps1 ρ1) _ := a1
  unfold callX at a1
  cases qh : hpAt b hi ρ1 with
  | none => rw [qh] at a1; exact a1.elim
  | some c0 =>
  rw [qh] at a1
  have hb := hpAt_some qh
  have hh : b = true → W1.h = true := fun eb => (show HpOk W1 B H1 c0 from s1.slot hi _ (hb eb)).on
  obtain ⟨sI, no⟩ := s1.into A ok okb hb
  refine ⟨_, _, exP b ps1 c0, sI, rfl, no, ?_⟩
  have a1 : After mg Wx W1 B σ H1 (match m (exP b ps1 c0) with
    | none => none
    | some (.ret r ps') => some (.ok r (putH b hi ps1.length ps' (putC cs ps' ρ1)))
    | some (.exc e ps') => some (.err e (putH b hi ps1.length ps' (putC cs ps' ρ1)))) _ := a1
  cases q : m (exP b ps1 c0) with
  | none => rw [q] at a1; exact a1.elim
  | some y =>
    rw [q] at a1
    cases y with
    | exc ex ps' =>
      refine fun W' H' c d fr lk s' xr => ?_
      obtain ⟨so, sub, f2⟩ := s1.outof A ok hb hh lk fr s'
      exact a1 _ H' c d f2 so (xr.ln sub rfl)
    | ret r ps' =>
      refine fun W' H' v fr lk hv => ?_
      obtain ⟨so, sub, f2⟩ := s1.outof A ok hb hh lk fr hv.st
      cases r with
      | frz d => exact a1 _ H' f2 v ⟨so, hv.2.ln sub rfl⟩
      | own d =>
        obtain ⟨ad, ea, wa, s', t, hn⟩ := hv
        have nwc : ¬ Wc W1 b σ cs ad := fun z => by
          rcases z with ⟨k2, i2, e3, e4⟩ | ⟨eb, n, en⟩
          · obtain ⟨l1, l2, g⟩ := args_get A
            have hk2 : k2 < ps1.length := by rw [l1]; exact (List.getElem?_eq_some_iff.mp e3).1
            obtain ⟨c2, v2, e5, e6, q2⟩ := g k2 _ (List.getElem?_eq_getElem hk2)
            rw [e3] at e5
            cases e5
            obtain ⟨d2, e7, _⟩ := lent_at (σ := σ) q2.2
            obtain ⟨d3, e8⟩ := lk.lent k2 d2 (by rw [exP_lt hk2, List.getElem?_eq_getElem hk2, e7])
            refine hn.nm k2 _ e8 rfl ?_
            rw [exV_lt e6, ← q2.1]
            exact e4
          · subst eb
            obtain ⟨c', e8⟩ := lk.hp ps1.length c0 (by show (ps1 ++ [_])[ps1.length]? = _; simp)
            exact hn.ce _ c' n e8 (fr.tab n ad en)
        have new : H1 ad = none := (fr.sub ad wa).resolve_left nwc
        refine a1 _ H' f2 v ⟨ad, ea, .inr ⟨wa, new⟩, so, t.ln sub rfl, fun i u e w e2 => ?_, fun j c n e e1 => ?_⟩
        · obtain ⟨b2, _, _, e3, wb, _⟩ := so.wr_at e w
          rw [e2] at e3
          cases e3
          have old : ∃ t0, ρ1[i]? = some t0 ∧ t0.wr = true := by
            have hi' : (putC cs ps' ρ1)[i]? = some u := by
              unfold putH at e
              split at e
              · split at e
                · by_cases z : hi = i
                  · subst z
                    rw [List.getElem?_set_self (by rw [putC_len]; exact (List.getElem?_eq_some_iff.mp (hb (by assumption))).1)] at e
                    cases e
                    cases w
                  · rwa [List.getElem?_set_ne z] at e
                · exact e
              · exact e
            rcases putC_get cs ps' ρ1 i u (args_lok A) hi' with ⟨e1, _⟩ | ⟨_, d2, _, _, q⟩
            · exact ⟨u, e1, w⟩
            · rcases q with ⟨_, d0, z⟩ | ⟨_, d0, z⟩ <;> exact ⟨_, z, rfl⟩
          obtain ⟨t0, e4, w4⟩ := old
          obtain ⟨b3, _, _, e5, wb3, _⟩ := s1.wr_at e4 w4
          rw [e2] at e5
          cases e5
          exact s1.dom ad (.inl wb3) new
        · have e1 : W'.t n = some ad := e1
          cases b with
          | true =>
            obtain ⟨c', e8⟩ := lk.hp ps1.length c0 (by show (ps1 ++ [_])[ps1.length]? = _; simp)
            exact hn.ce _ c' n e8 e1
          | false =>
            have e2 : W1.t n = some ad := (congrFun (fr.th rfl) n).symm.trans e1
            have hj : ρ1[j]? = some (Slot.hp c) := by
              have e : (putC cs ps' ρ1)[j]? = some (Slot.hp c) := e
              exact (putC_hp (args_lok A)).mp e
            exact s1.dom ad (.inl (cell_w s1 hj e2)) new
/-- THE CALL -/
theorem de_callX (c : CalleeX b X.prog X.w X.K X.mg X.base k x m) (hr : Room j X.A) (hk : k ≤ j) (tk : Takes X Wx) (hg : Gl X x) (ha : DCs X Wx (e :: es) cs) (ok : okCA cs = true := by rfl) (okb : okB b cs = true := by rfl) (hdb : (x == ("__debug__" : Str)) = false := by decide)
    (he : starEach (e :: es) X.env = (false, eval e X.env) :: starEach es X.env := by rfl) (hpl : (backTo pos (starEach es X.env)).any (·.1) = false := by rfl) : DE X Wx (.Call (.Name x p) (e :: es) [] pos) (fCallX b hi m cs) := by
  obtain ⟨f, fd, ps, F, hm, kp, hb⟩ := c.ex
  exact ⟨pe_imp (pe_callSD (E := fun σ c d H => Wx c d σ H) F (hr.mono hk) hg hm kp hb .nil (fun σ => L2.passAt tk σ) ha.pa hdb he hpl) fun σ H Q q => rd_callX ok okb q, evo_callX ha.evo fun ps ρ ρ' h => evC_lok ha.evo h⟩
theorem de_call (c : Callee X.prog X.w X.K X.mg X.base k x m) (hr : Room j X.A) (hk : k ≤ j) (tk : Takes X Wx) (hg : Gl X x) (ha : DCs X Wx (e :: es) cs) (ok : okCA cs = true := by rfl) (hdb : (x == ("__debug__" : Str)) = false := by decide)
    (he : starEach (e :: es) X.env = (false, eval e X.env) :: starEach es X.env := by rfl) (hpl : (backTo pos (starEach es X.env)).any (·.1) = false := by rfl) : DE X Wx (.Call (.Name x p) (e :: es) [] pos) (fCall m cs) := by
  rw [← fCallX_false (hi := 0)]
  exact de_callX c hr hk tk hg ha ok (by unfold okB; rfl) hdb he hpl
end
end Dz
/-! Dz 10: built-ins by name, subscripts, slices, methods. -/
namespace Dz
open PySem PySem.Spec PyProof.Rows L2

theorem callR_or {X : Cx} {f : Value} {r r' : List V → Hp → VK → Prop} (h : CallR X f r) (h' : CallR X f r') : CallR X f (fun xs H Q => r xs H Q ∨ r' xs H Q) := by
  intro pins s σ H xs us Q I rs q
  rcases q with q | q
  · exact h pins s σ H xs us Q I rs q
  · exact h' pins s σ H xs us Q I rs q
/-- what a rule by values gives, on data -/
def VRL (r : List V → Hp → VK → Prop) (g : List D → Option R) : Prop := ∀ {mg : Str → Option Value} (W B : AP mg) (σ : L2.St) (H : Hp) (ρ : Env) (vs : List V) (ds : List D) (res : R) (Q : VK), St W B σ H ρ → PReps (Eo W B) H ds vs → g ds = some res →
  (∀ W' H' v, Fr W H W' H' → VOk W' B σ H' ρ v res → Q v H') → r vs H Q
def fL (os : List Opd) (g : List D → Option R) : M R := mbind (evs os) fun ds => mopt (g ds)
section
variable {X : Cx} {Wx : WX} {a b e o : Expr} {es : List Expr} {os : List Opd} {o1 o2 : Opd} {pos p apos : Pos} {g : List D → Option R} {r : List V → Hp → VK → Prop} {x : Str} {fid T : String}
theorem evo_fL (h : ∀ o ∈ os, o.Evo) : EvoF (fL os g) := evo_bind (evo_evs h) fun _ => evo_opt _
theorem rdL {mg : Str → Option Value} (hr : VRL r g) {σ : L2.St} {H : Hp} {Q : VK} (h : rdE mg Wx (fL os g) σ H Q) : rdOs mg Wx os σ H fun vs H1 => r vs H1 Q := by
  obtain ⟨W, B, ρ, s, a⟩ := h
  refine ⟨W, B, ρ, s, (After.bind a).mono fun W1 H1 ds ρ1 _ _ a1 vs s1 rs => ?_⟩
  obtain ⟨res, k, a2⟩ := a1.opt
  exact hr W1 B σ H1 ρ1 vs ds res Q s1 rs k fun W2 H2 v f hv => a2 W2 H2 f v hv
theorem de_callB (hc : CallR X (.builtin fid) r) (hr : VRL r g) (hg : Gl X x) (hm : X.mg x = none) (hv : bootBuiltins x = some (.builtin fid)) (ha : DOs X Wx (e :: es) os) (hn : x ≠ "__name__" := by decide) (hdb : (x == ("__debug__" : Str)) = false := by decide)
    (he : starEach (e :: es) X.env = (false, eval e X.env) :: starEach es X.env := by rfl) (hpl : (backTo pos (starEach es X.env)).any (·.1) = false := by rfl) : DE X Wx (.Call (.Name x p) (e :: es) [] pos) (fL os g) :=
  ⟨pe_imp (pe_callB hc hg hm hv ha.pa hn hdb he hpl) fun _ _ _ q => rdL hr q, evo_fL ha.evo⟩
theorem de_callTy (hc : CallR X (.type T) r) (hr : VRL r g) (hg : Gl X x) (hm : X.mg x = none) (hv : bootBuiltins x = some (.type T)) (ha : DOs X Wx (e :: es) os) (hn : x ≠ "__name__" := by decide) (hdb : (x == ("__debug__" : Str)) = false := by decide)
    (he : starEach (e :: es) X.env = (false, eval e X.env) :: starEach es X.env := by rfl) (hpl : (backTo pos (starEach es X.env)).any (·.1) = false := by rfl) : DE X Wx (.Call (.Name x p) (e :: es) [] pos) (fL os g) :=
  ⟨pe_imp (pe_callTy hc hg hm hv ha.pa hn hdb he hpl) fun _ _ _ q => rdL hr q, evo_fL ha.evo⟩
theorem preps1 {N : AP mg} {H : Hp} {d : D} {vs : List V} (h : PReps N H [d] vs) : ∃ v, vs = [v] ∧ PRep N H d v := by
  obtain ⟨v, _, rfl, p, z⟩ := h
  exact ⟨v, by rw [show _ = [] from z], p⟩
theorem preps2 {N : AP mg} {H : Hp} {d e : D} {vs : List V} (h : PReps N H [d, e] vs) : ∃ v w, vs = [v, w] ∧ PRep N H d v ∧ PRep N H e w := by
  obtain ⟨v, _, rfl, p, w, _, rfl, q, z⟩ := h
  exact ⟨v, w, by rw [show _ = [] from z], p, q⟩
/-! #### len -/
def rLenA (K : PySem.W.Frag) : List V → Hp → VK → Prop := fun xs H Q => (∃ x n, xs = [x] ∧ LenV K x H n ∧ Q (.int n) H) ∨ (∃ a kvs, xs = [.ref a] ∧ Rd H a (.dK kvs) ∧ Q (.int kvs.length) H)
theorem call_lenK : CallR X (.builtin "len") (fun xs H Q => ∃ a kvs, xs = [.ref a] ∧ Rd H a (.dK kvs) ∧ Q (.int kvs.length) H) := by
  intro pins s σ H xs us Q I rs ⟨a, kvs, e, q, h⟩
  subst e
  obtain ⟨u, rfl, ru⟩ := vals1 rs
  cases ru
  exact d_len I q fun t s' I' => ⟨.int kvs.length, H, I', ⟨t, rfl⟩, h⟩
def lenD : List D → Option R
  | [.str x] => if x.length ≤ sizeLine then some (.frz (.int x.length)) else none
  | [.tup ds] => some (.frz (.int ds.length))
  | [.lst ds] => some (.frz (.int ds.length))
  | [.scr ns] => some (.frz (.int ns.length))
  | [.dK ks _] => some (.frz (.int ks.length))
  | _ => none
theorem vl_len {K : PySem.W.Frag} : VRL (rLenA K) lenD := by
  intro mg W B σ H ρ vs ds res Q s rs hg hq
  unfold lenD at hg
  split at hg
  · split at hg
    · rename_i hz
      cases hg
      obtain ⟨v, rfl, p⟩ := preps1 rs
      rw [p.str]
      exact .inl ⟨_, _, rfl, ⟨hz, rfl⟩, hq W H _ .refl ⟨s, rfl⟩⟩
    · cases hg
  · cases hg
    obtain ⟨v, rfl, p⟩ := preps1 rs
    obtain ⟨q, ws, rfl, hp, _, r⟩ := p.tup
    exact .inl ⟨_, _, rfl, .inr ⟨ws, hp.sq, r.length.symm⟩, hq W H _ .refl ⟨s, rfl⟩⟩
  · cases hg
    obtain ⟨v, rfl, p⟩ := preps1 rs
    obtain ⟨q, ws, rfl, hp, r⟩ := p.lst
    exact .inl ⟨_, _, rfl, .inl ⟨ws, SqL.of hp, r.length.symm⟩, hq W H _ .refl ⟨s, rfl⟩⟩
  · cases hg
    obtain ⟨v, rfl, p⟩ := preps1 rs
    obtain ⟨q, rfl, hp⟩ := p.scr
    exact .inl ⟨_, _, rfl, .inl ⟨_, .inl hp, (List.length_map _).symm⟩, hq W H _ .refl ⟨s, rfl⟩⟩
  · cases hg
    obtain ⟨v, rfl, p⟩ := preps1 rs
    obtain ⟨q, kvs, rfl, hp, rfl, r⟩ := p.dK
    refine .inr ⟨q, kvs, rfl, .inl hp, ?_⟩
    rw [List.length_map] at hq
    exact hq W H _ .refl ⟨s, rfl⟩
  · cases hg
theorem de_len (hg : Gl X "len") (hm : X.mg "len" = none) (ha : DOs X Wx [e] os) (he : starEach [e] X.env = (false, eval e X.env) :: starEach [] X.env := by rfl) : DE X Wx (.Call (.Name "len" p) [e] [] pos) (fL os lenD) :=
  de_callB (callR_or call_len call_lenK) vl_len hg hm PySem.boot_len ha (he := he)
/-! #### whole numbers of a list; min, max, sum, all, any -/
def intsD : List D → Option (List Int)
  | [] => some []
  | .int i :: ds => (intsD ds).map (i :: ·)
  | _ :: _ => none
theorem intsD_rep {N : AP mg} {H : Hp} : ∀ {ds : List D} {ns : List Int} {vs : List V}, intsD ds = some ns → Reps N H ds vs → vs = ns.map V.int
  | [], ns, vs, h, r => by cases h; exact r
  | .int i :: ds, ns, vs, h, ⟨v, w, e, p, r⟩ => by
    unfold intsD at h
    cases q : intsD ds with
    | none => rw [q] at h; cases h
    | some ms =>
      rw [q] at h
      cases h
      rw [e, show v = .int i from p, intsD_rep q r]
      rfl
  | .non :: _, _, _, h, _ => nomatch h
  | .bl _ :: _, _, _, h, _ => nomatch h
  | .str _ :: _, _, _, h, _ => nomatch h
  | .tup _ :: _, _, _, h, _ => nomatch h
  | .lst _ :: _, _, _, h, _ => nomatch h
  | .dK _ _ :: _, _, _, h, _ => nomatch h
  | .dT _ _ :: _, _, _, h, _ => nomatch h
  | .scr _ :: _, _, _, h, _ => nomatch h
  | .tpl _ :: _, _, _, h, _ => nomatch h
theorem intsD_map : ∀ ns : List Int, intsD (ns.map .int) = some ns
  | [] => rfl
  | n :: ns => by rw [List.map_cons, intsD, intsD_map ns]; rfl
def blsD : List D → Option (List Bool)
  | [] => some []
  | .bl i :: ds => (blsD ds).map (i :: ·)
  | _ :: _ => none
theorem blsD_rep {N : AP mg} {H : Hp} : ∀ {ds : List D} {ns : List Bool} {vs : List V}, blsD ds = some ns → Reps N H ds vs → vs = ns.map V.bl
  | [], ns, vs, h, r => by cases h; exact r
  | .bl i :: ds, ns, vs, h, ⟨v, w, e, p, r⟩ => by
    unfold blsD at h
    cases q : blsD ds with
    | none => rw [q] at h; cases h
    | some ms =>
      rw [q] at h
      cases h
      rw [e, show v = .bl i from p, blsD_rep q r]
      rfl
  | .non :: _, _, _, h, _ => nomatch h
  | .int _ :: _, _, _, h, _ => nomatch h
  | .str _ :: _, _, _, h, _ => nomatch h
  | .tup _ :: _, _, _, h, _ => nomatch h
  | .lst _ :: _, _, _, h, _ => nomatch h
  | .dK _ _ :: _, _, _, h, _ => nomatch h
  | .dT _ _ :: _, _, _, h, _ => nomatch h
  | .scr _ :: _, _, _, h, _ => nomatch h
  | .tpl _ :: _, _, _, h, _ => nomatch h
theorem blsD_map : ∀ ns : List Bool, blsD (ns.map .bl) = some ns
  | [] => rfl
  | n :: ns => by rw [List.map_cons, blsD, blsD_map ns]; rfl
def strsD : List D → Option (List Str)
  | [] => some []
  | .str i :: ds => (strsD ds).map (i :: ·)
  | _ :: _ => none
theorem strsD_rep {N : AP mg} {H : Hp} : ∀ {ds : List D} {ns : List Str} {vs : List V}, strsD ds = some ns → Reps N H ds vs → vs = ns.map V.str
  | [], ns, vs, h, r => by cases h; exact r
  | .str i :: ds, ns, vs, h, ⟨v, w, e, p, r⟩ => by
    unfold strsD at h
    cases q : strsD ds with
    | none => rw [q] at h; cases h
    | some ms =>
      rw [q] at h
      cases h
      rw [e, show v = .str i from p, strsD_rep q r]
      rfl
  | .non :: _, _, _, h, _ => nomatch h
  | .int _ :: _, _, _, h, _ => nomatch h
  | .bl _ :: _, _, _, h, _ => nomatch h
  | .tup _ :: _, _, _, h, _ => nomatch h
  | .lst _ :: _, _, _, h, _ => nomatch h
  | .dK _ _ :: _, _, _, h, _ => nomatch h
  | .dT _ _ :: _, _, _, h, _ => nomatch h
  | .scr _ :: _, _, _, h, _ => nomatch h
  | .tpl _ :: _, _, _, h, _ => nomatch h
theorem strsD_map : ∀ ns : List Str, strsD (ns.map .str) = some ns
  | [] => rfl
  | n :: ns => by rw [List.map_cons, strsD, strsD_map ns]; rfl
def maxL : List Int → Int
  | [] => 0
  | [n] => n
  | n :: m :: ns => if n ≤ maxL (m :: ns) then maxL (m :: ns) else n
def minL : List Int → Int
  | [] => 0
  | [n] => n
  | n :: m :: ns => if minL (m :: ns) ≤ n then minL (m :: ns) else n
theorem maxL_spec : ∀ {ns : List Int}, 0 < ns.length → maxL ns ∈ ns ∧ ∀ y ∈ ns, y ≤ maxL ns
  | [], h => by simp at h
  | [n], _ => ⟨by simp [maxL], fun y hy => by simp at hy; rw [hy]; exact Int.le_refl _⟩
  | n :: m :: ns, _ => by
    obtain ⟨h1, h2⟩ := maxL_spec (ns := m :: ns) (by simp)
    unfold maxL
    split
    · rename_i h
      exact ⟨List.mem_cons_of_mem _ h1, fun y hy => by
        rcases List.mem_cons.mp hy with e | hy
        · rw [e]; exact h
        · exact h2 y hy⟩
    · rename_i h
      exact ⟨List.mem_cons_self, fun y hy => by
        rcases List.mem_cons.mp hy with e | hy
        · rw [e]; exact Int.le_refl _
        · have := h2 y hy; omega⟩
theorem minL_spec : ∀ {ns : List Int}, 0 < ns.length → minL ns ∈ ns ∧ ∀ y ∈ ns, minL ns ≤ y
  | [], h => by simp at h
  | [n], _ => ⟨by simp [minL], fun y hy => by simp at hy; rw [hy]; exact Int.le_refl _⟩
  | n :: m :: ns, _ => by
    obtain ⟨h1, h2⟩ := minL_spec (ns := m :: ns) (by simp)
    unfold minL
    split
    · rename_i h
      exact ⟨List.mem_cons_of_mem _ h1, fun y hy => by
        rcases List.mem_cons.mp hy with e | hy
        · rw [e]; exact h
        · exact h2 y hy⟩
    · rename_i h
      exact ⟨List.mem_cons_self, fun y hy => by
        rcases List.mem_cons.mp hy with e | hy
        · rw [e]; exact Int.le_refl _
        · have := h2 y hy; omega⟩
def maxD : List D → Option R
  | [.int i, .int j] => some (.frz (.int (if j > i then j else i)))
  | [.lst ds] => match intsD ds with
    | some (n :: ns) => some (.frz (.int (maxL (n :: ns))))
    | _ => none
  | _ => none
def minD : List D → Option R
  | [.int i, .int j] => some (.frz (.int (if j < i then j else i)))
  | [.lst ds] => match intsD ds with
    | some (n :: ns) => some (.frz (.int (minL (n :: ns))))
    | _ => none
  | _ => none
theorem vl_max {K : PySem.W.Frag} : VRL (fun xs H Q => (∃ i j, xs = [.int i, .int j] ∧ Q (.int (if j > i then j else i)) H) ∨ rMax K xs H Q) maxD := by
  intro mg W B σ H ρ vs ds res Q s rs hg hq
  unfold maxD at hg
  split at hg
  · cases hg
    obtain ⟨v, w, rfl, p1, p2⟩ := preps2 rs
    rw [p1.int, p2.int]
    exact .inl ⟨_, _, rfl, hq W H _ .refl ⟨s, rfl⟩⟩
  · split at hg
    · rename_i n ns q
      cases hg
      obtain ⟨v, rfl, p⟩ := preps1 rs
      obtain ⟨a, ws, rfl, hp, r⟩ := p.lst
      have e := intsD_rep q r
      subst e
      refine .inr ⟨a, n :: ns, rfl, SqL.of hp, by simp, fun m hm hle => ?_⟩
      obtain ⟨h1, h2⟩ := maxL_spec (ns := n :: ns) (by simp)
      have e : m = maxL (n :: ns) := Int.le_antisymm (h2 m hm) (hle _ h1)
      rw [e]
      exact hq W H _ .refl ⟨s, rfl⟩
    · cases hg
  · cases hg
theorem vl_min {K : PySem.W.Frag} : VRL (fun xs H Q => (∃ i j, xs = [.int i, .int j] ∧ Q (.int (if j < i then j else i)) H) ∨ rMin K xs H Q) minD := by
  intro mg W B σ H ρ vs ds res Q s rs hg hq
  unfold minD at hg
  split at hg
  · cases hg
    obtain ⟨v, w, rfl, p1, p2⟩ := preps2 rs
    rw [p1.int, p2.int]
    exact .inl ⟨_, _, rfl, hq W H _ .refl ⟨s, rfl⟩⟩
  · split at hg
    · rename_i n ns q
      cases hg
      obtain ⟨v, rfl, p⟩ := preps1 rs
      obtain ⟨a, ws, rfl, hp, r⟩ := p.lst
      have e := intsD_rep q r
      subst e
      refine .inr ⟨a, n :: ns, rfl, SqL.of hp, by simp, fun m hm hle => ?_⟩
      obtain ⟨h1, h2⟩ := minL_spec (ns := n :: ns) (by simp)
      have e : m = minL (n :: ns) := Int.le_antisymm (hle _ h1) (h2 m hm)
      rw [e]
      exact hq W H _ .refl ⟨s, rfl⟩
    · cases hg
  · cases hg
def sumD : List D → Option R
  | [.lst ds] => (intsD ds).map fun ns => .frz (.int ns.sum)
  | [.scr ns] => some (.frz (.int ns.sum))
  | _ => none
theorem vl_sum {K : PySem.W.Frag} : VRL (rSum K) sumD := by
  intro mg W B σ H ρ vs ds res Q s rs hg hq
  unfold sumD at hg
  split at hg
  · rename_i xs
    cases q : intsD xs with
    | none => rw [q] at hg; cases hg
    | some ns =>
      rw [q] at hg
      cases hg
      obtain ⟨v, rfl, p⟩ := preps1 rs
      obtain ⟨a, ws, rfl, hp, r⟩ := p.lst
      have e := intsD_rep q r
      subst e
      exact ⟨a, ns, rfl, SqL.of hp, hq W H _ .refl ⟨s, rfl⟩⟩
  · cases hg
    obtain ⟨v, rfl, p⟩ := preps1 rs
    obtain ⟨a, rfl, hp⟩ := p.scr
    exact ⟨a, _, rfl, .inl hp, hq W H _ .refl ⟨s, rfl⟩⟩
  · cases hg
def allD : List D → Option R
  | [.lst ds] => (blsD ds).map fun ns => .frz (.bl (ns.all fun b => b))
  | _ => none
def anyD : List D → Option R
  | [.lst ds] => (blsD ds).map fun ns => .frz (.bl (ns.any fun b => b))
  | _ => none
theorem vl_all {K : PySem.W.Frag} : VRL (rAll K) allD := by
  intro mg W B σ H ρ vs ds res Q s rs hg hq
  unfold allD at hg
  split at hg
  · rename_i xs
    cases q : blsD xs with
    | none => rw [q] at hg; cases hg
    | some ns =>
      rw [q] at hg
      cases hg
      obtain ⟨v, rfl, p⟩ := preps1 rs
      obtain ⟨a, ws, rfl, hp, r⟩ := p.lst
      have e := blsD_rep q r
      subst e
      exact ⟨a, ns, rfl, SqL.of hp, hq W H _ .refl ⟨s, rfl⟩⟩
  · cases hg
theorem vl_any {K : PySem.W.Frag} : VRL (rAny K) anyD := by
  intro mg W B σ H ρ vs ds res Q s rs hg hq
  unfold anyD at hg
  split at hg
  · rename_i xs
    cases q : blsD xs with
    | none => rw [q] at hg; cases hg
    | some ns =>
      rw [q] at hg
      cases hg
      obtain ⟨v, rfl, p⟩ := preps1 rs
      obtain ⟨a, ws, rfl, hp, r⟩ := p.lst
      have e := blsD_rep q r
      subst e
      exact ⟨a, ns, rfl, SqL.of hp, hq W H _ .refl ⟨s, rfl⟩⟩
  · cases hg
def absD : List D → Option R
  | [.int i] => some (.frz (.int (if i < 0 then -i else i)))
  | _ => none
theorem vl_abs : VRL (fun xs H Q => ∃ i, xs = [.int i] ∧ Q (.int (if i < 0 then -i else i)) H) absD := by
  intro mg W B σ H ρ vs ds res Q s rs hg hq
  unfold absD at hg
  split at hg
  · cases hg
    obtain ⟨v, rfl, p⟩ := preps1 rs
    rw [p.int]
    exact ⟨_, rfl, hq W H _ .refl ⟨s, rfl⟩⟩
  · cases hg
def intD : List D → Option R
  | [.int i] => some (.frz (.int i))
  | [.bl k] => some (.frz (.int (if k then 1 else 0)))
  | _ => none
theorem vl_int : VRL (fun xs H Q => (∃ i, xs = [.int i] ∧ Q (.int i) H) ∨ ∃ k, xs = [.bl k] ∧ Q (.int (if k then 1 else 0)) H) intD := by
  intro mg W B σ H ρ vs ds res Q s rs hg hq
  unfold intD at hg
  split at hg
  · cases hg
    obtain ⟨v, rfl, p⟩ := preps1 rs
    rw [p.int]
    exact .inl ⟨_, rfl, hq W H _ .refl ⟨s, rfl⟩⟩
  · cases hg
    obtain ⟨v, rfl, p⟩ := preps1 rs
    rw [p.bl]
    exact .inr ⟨_, rfl, hq W H _ .refl ⟨s, rfl⟩⟩
  · cases hg
def strDm : List D → Option R
  | [.int i] => if i.natAbs.log2 < 1920 then some (.frz (.str (toString i))) else none
  | _ => none
theorem vl_str : VRL (fun xs H Q => ∃ i, xs = [.int i] ∧ i.natAbs.log2 < 1920 ∧ Q (.str (toString i)) H) strDm := by
  intro mg W B σ H ρ vs ds res Q s rs hg hq
  unfold strDm at hg
  split at hg
  · split at hg
    · rename_i hz
      cases hg
      obtain ⟨v, rfl, p⟩ := preps1 rs
      rw [p.int]
      exact ⟨_, rfl, hz, hq W H _ .refl ⟨s, rfl⟩⟩
    · cases hg
  · cases hg
/-! #### tuple(x), list(x) -/
def tupleD : List D → Option R
  | [.lst ds] => some (.frz (.tup ds))
  | [.tup ds] => some (.frz (.tup ds))
  | _ => none
theorem vl_tuple {K : PySem.W.Frag} : VRL (fun xs H Q => ∃ p ys, xs = [.ref p] ∧ ((SqL K H p ys ∧ NewT H ys Q) ∨ (SqT K H p ys ∧ Q (.ref p) H))) tupleD := by
  intro mg W B σ H ρ vs ds res Q s rs hg hq
  unfold tupleD at hg
  split at hg
  · cases hg
    obtain ⟨v, rfl, p⟩ := preps1 rs
    obtain ⟨a, ws, rfl, hp, r⟩ := p.lst
    exact ⟨a, ws, rfl, .inl ⟨SqL.of hp, fun t o ht hd => hq W _ _ (Fr.new ht) (vok_tup hd s r ht)⟩⟩
  · cases hg
    obtain ⟨v, rfl, p⟩ := preps1 rs
    obtain ⟨a, ws, rfl, hp, na, r⟩ := p.tup
    exact ⟨a, ws, rfl, .inr ⟨hp.sq, hq W H _ .refl ⟨s, a, ws, rfl, hp, na, r⟩⟩⟩
  · cases hg
def listD : List D → Option R
  | [.lst ds] => some (.own (.lst ds))
  | [.tup ds] => some (.own (.lst ds))
  | [.scr ns] => some (.own (.lst (ns.map .int)))
  | _ => none
theorem ints_reps {N : AP mg} {H : Hp} : ∀ ns : List Int, Reps N H (ns.map .int) (ns.map V.int)
  | [] => rfl
  | n :: ns => ⟨.int n, ns.map V.int, rfl, rfl, ints_reps ns⟩
theorem vl_list {K : PySem.W.Frag} : VRL (fun xs H Q => ∃ p ys, xs = [.ref p] ∧ (SqL K H p ys ∨ SqT K H p ys) ∧ ∀ l, H l = none → Q (.ref l) (upd H l (.lst ys))) listD := by
  intro mg W B σ H ρ vs ds res Q s rs hg hq
  unfold listD at hg
  split at hg
  · cases hg
    obtain ⟨v, rfl, p⟩ := preps1 rs
    obtain ⟨a, ws, rfl, hp, r⟩ := p.lst
    exact ⟨a, ws, rfl, .inl (SqL.of hp), fun t ht => hq _ _ _ (Fr.newW ht) (vok_lst s r ht)⟩
  · cases hg
    obtain ⟨v, rfl, p⟩ := preps1 rs
    obtain ⟨a, ws, rfl, hp, na, r⟩ := p.tup
    exact ⟨a, ws, rfl, .inr hp.sq, fun t ht => hq _ _ _ (Fr.newW ht) (vok_lst s r ht)⟩
  · cases hg
    obtain ⟨v, rfl, p⟩ := preps1 rs
    obtain ⟨a, rfl, hp⟩ := p.scr
    exact ⟨a, _, rfl, .inl (.inl hp), fun t ht => hq _ _ _ (Fr.newW ht) (vok_lst s (ints_reps _) ht)⟩
  · cases hg

/-! ### subscripts -/
def getD1 : D → D → Option R
  | .lst ds, .int i => (L2.atI ds i).map .frz
  | .tup ds, .int i => (L2.atI ds i).map .frz
  | .scr ns, .int i => (L2.atI ns i).map fun n => .frz (.int n)
  | .str x, .int i => if x.length ≤ sizeLine then (L2.atI x.cps.toList i).map fun c => .frz (.str ⟨#[c]⟩) else none
  | _, _ => none
theorem reps_atI {N : AP mg} {H : Hp} {ds : List D} {vs : List V} {i : Int} {d : D} (r : Reps N H ds vs) (h : L2.atI ds i = some d) : ∃ v, L2.atI vs i = some v ∧ Rep N H d v := by
  unfold L2.atI at h ⊢
  rw [r.length]
  cases q : ixN ds.length i with
  | none => rw [q] at h; cases h
  | some j =>
    rw [q] at h
    exact r.get h
theorem vr_get {K : PySem.W.Frag} : VR2 (rIx K) getD1 := by
  intro mg W B σ H ρ x y a b res Q s hx hy hg hq
  unfold getD1 at hg
  split at hg
  · rename_i ds i
    cases q : L2.atI ds i with
    | none => rw [q] at hg; cases hg
    | some d =>
      rw [q] at hg
      cases hg
      obtain ⟨p, ws, rfl, hp, r⟩ := hx.lst
      obtain ⟨v, hv, rv⟩ := reps_atI r q
      exact .inl ⟨p, ws, i, v, rfl, hy.int, SqL.of hp, hv, hq W H _ .refl ⟨s, rv⟩⟩
  · rename_i ds i
    cases q : L2.atI ds i with
    | none => rw [q] at hg; cases hg
    | some d =>
      rw [q] at hg
      cases hg
      obtain ⟨p, ws, rfl, hp, _, r⟩ := hx.tup
      obtain ⟨v, hv, rv⟩ := reps_atI r q
      exact .inr (.inl ⟨p, ws, i, v, rfl, hy.int, hp.sq, hv, hq W H _ .refl ⟨s, rv⟩⟩)
  · rename_i ns i
    cases q : L2.atI ns i with
    | none => rw [q] at hg; cases hg
    | some d =>
      rw [q] at hg
      cases hg
      obtain ⟨p, rfl, hp⟩ := hx.scr
      refine .inl ⟨p, _, i, .int d, rfl, hy.int, .inl hp, ?_, hq W H _ .refl ⟨s, rfl⟩⟩
      unfold L2.atI at q ⊢
      rw [List.length_map]
      cases k : ixN ns.length i with
      | none => rw [k] at q; cases q
      | some j =>
        rw [k] at q
        have q : ns[j]? = some d := q
        show (ns.map V.int)[j]? = some (.int d)
        rw [List.getElem?_map, q]
        rfl
  · rename_i z i
    split at hg
    · rename_i hz
      cases q : L2.atI z.cps.toList i with
      | none => rw [q] at hg; cases hg
      | some c =>
        rw [q] at hg
        cases hg
        exact .inr (.inr ⟨z, i, c, hx.str, hy.int, hz, q, hq W H _ .refl ⟨s, rfl⟩⟩)
    · cases hg
  · cases hg
theorem de_ix (h1 : DO X Wx a o1) (h2 : DO X Wx b o2) (hs : PlainIx b := by exact fun _ _ => rfl) : DE X Wx (.Subscript a b pos) (f2 o1 o2 getD1) :=
  ⟨pe_imp (pe_ix ix_seq h1.pe h2.pe hs) fun _ _ _ h => rd2 vr_get h1.evo h2.evo h, evo_f2 h1.evo h2.evo⟩
/-! ### slices -/
def needInt : R → M R
  | .frz (.int i) => mret (.frz (.int i))
  | _ => fun _ => none
theorem evo_needInt (r : R) : EvoF (needInt r) := by
  cases r with
  | frz d =>
    cases d with
    | int i => exact evo_ret _
    | _ => exact fun _ _ e => nomatch e
  | own d => exact fun _ _ e => nomatch e
/-- a whole number for sure -/
def fI (f : M R) : M R := mbind f needInt
theorem evo_fI {f : M R} (h : EvoF f) : EvoF (fI f) := evo_bind h evo_needInt
theorem rd_fI {mg : Str → Option Value} {f : M R} {σ : L2.St} {H : Hp} {Q : VK} (h : rdE mg Wx (fI f) σ H Q) : rdE mg Wx f σ H fun v H1 => ∃ i, v = .int i ∧ Q (.int i) H1 := by
  obtain ⟨W, B, ρ, s, a⟩ := h
  refine ⟨W, B, ρ, s, (After.bind a).mono fun W1 H1 r ρ1 _ _ a1 v hv => ?_⟩
  cases r with
  | own d => exact a1.elim
  | frz d =>
    cases d with
    | int i =>
      obtain ⟨s1, rv⟩ := hv
      have e : v = .int i := rv
      exact ⟨i, e, After.here a1 _ ⟨s1, rfl⟩⟩
    | _ => exact a1.elim
theorem mono_rdE {mg : Str → Option Value} {f : M R} {σ : L2.St} {H : Hp} {Q Q' : VK} (h : rdE mg Wx f σ H Q) (hq : ∀ v H', Q v H' → Q' v H') : rdE mg Wx f σ H Q' := by
  obtain ⟨W, B, ρ, s, a⟩ := h
  exact ⟨W, B, ρ, s, a.mono fun W' H' r ρ' _ _ k v hv => hq v H' (k v hv)⟩
inductive Pt where
  | no | op (f : M R)
def rdP (mg : Str → Option Value) (Wx : WX) : Pt → TO
  | .no => tNoPart
  | .op f => tPart (rdE mg Wx f)
def DP (X : Cx) (Wx : WX) : Option Expr → Pt → Prop
  | none, .no => True
  | some e, .op f => DE X Wx e f
  | _, _ => False
theorem DP.po {eo : Option Expr} {p : Pt} (h : DP X Wx eo p) : PO X eo (rdP X.mg Wx p) := by
  cases eo with
  | none =>
    cases p with
    | no => exact po_none
    | op o => exact h.elim
  | some e =>
    cases p with
    | no => exact h.elim
    | op o => exact po_some (DE.pe h)
def Pt.opds : Pt → List Opd
  | .no => []
  | .op f => [.ev (fI f)]
theorem DP.evo {eo : Option Expr} {p : Pt} (h : DP X Wx eo p) : ∀ o ∈ p.opds, o.Evo := by
  intro o z
  cases p with
  | no => exact (List.not_mem_nil z).elim
  | op f =>
    cases eo with
    | none => exact h.elim
    | some e => rcases List.mem_cons.mp z with e | z; exact e ▸ evo_fI (DE.evo h); exact (List.not_mem_nil z).elim
def cutD (xs : List D) (lo hi : Option Int) : List D := (xs.drop (HT.sIx xs.length 0 lo)).take (HT.sIx xs.length xs.length hi - HT.sIx xs.length 0 lo)
def cutI (xs : List Int) (lo hi : Option Int) : List Int := (xs.drop (HT.sIx xs.length 0 lo)).take (HT.sIx xs.length xs.length hi - HT.sIx xs.length 0 lo)
def sliceD (lo hi : Option Int) : D → Option R
  | .lst ds => some (.own (.lst (cutD ds lo hi)))
  | .tup ds => some (.frz (.tup (cutD ds lo hi)))
  | .scr ns => some (.own (.lst ((cutI ns lo hi).map .int)))
  | .str x => if x.length ≤ sizeLine then some (.frz (.str (cutS x lo hi))) else none
  | _ => none
/-- the parts' numbers out of the operands' data -/
def partsD : Pt → Pt → List D → Option (Option Int × Option Int)
  | .no, .no, [] => some (none, none)
  | .op _, .no, [.int i] => some (some i, none)
  | .no, .op _, [.int j] => some (none, some j)
  | .op _, .op _, [.int i, .int j] => some (some i, some j)
  | _, _, _ => none
theorem parts00 {ds : List D} {a b : Option Int} (h : partsD .no .no ds = some (a, b)) : ds = [] ∧ a = none ∧ b = none := by
  cases ds with
  | nil => cases h; exact ⟨rfl, rfl, rfl⟩
  | cons _ _ => cases h
theorem parts10 {f : M R} {ds : List D} {a b : Option Int} (h : partsD (.op f) .no ds = some (a, b)) : ∃ i, ds = [.int i] ∧ a = some i ∧ b = none := by
  match ds, h with
  | [.int i], h => cases h; exact ⟨i, rfl, rfl, rfl⟩
theorem parts01 {f : M R} {ds : List D} {a b : Option Int} (h : partsD .no (.op f) ds = some (a, b)) : ∃ i, ds = [.int i] ∧ a = none ∧ b = some i := by
  match ds, h with
  | [.int i], h => cases h; exact ⟨i, rfl, rfl, rfl⟩
theorem parts11 {f g : M R} {ds : List D} {a b : Option Int} (h : partsD (.op f) (.op g) ds = some (a, b)) : ∃ i j, ds = [.int i, .int j] ∧ a = some i ∧ b = some j := by
  match ds, h with
  | [.int i, .int j], h => cases h; exact ⟨i, j, rfl, rfl, rfl⟩
def sliceL (l u : Pt) : List D → Option R
  | d :: ds => match partsD l u ds with
    | some (lo, hi) => sliceD lo hi d
    | none => none
  | [] => none
theorem cut_reps {N : AP mg} {H : Hp} {ds : List D} {vs : List V} {lo hi : Option Int} (r : Reps N H ds vs) : Reps N H (cutD ds lo hi) (cutV vs lo hi) := by
  unfold cutD cutV
  rw [r.length]
  exact (r.drop _).take _
theorem cut_ints (ns : List Int) (lo hi : Option Int) : cutV (ns.map V.int) lo hi = (cutI ns lo hi).map V.int := by
  unfold cutV cutI
  rw [List.length_map, ← List.map_drop, ← List.map_take]
def rSlA (K : PySem.W.Frag) : V → Option Int → Option Int → Hp → VK → Prop := fun x lo hi H Q => rSlL K x lo hi H Q ∨ rSlZ K x lo hi H Q ∨ rSlS x lo hi H Q
theorem sl_all : SlR X (rSlA X.K) := sl_list.or (sl_tupZ.or sl_str)
theorem slice_ok {K : PySem.W.Frag} {W B : AP mg} {σ : L2.St} {H : Hp} {ρ : Env} {x : V} {d : D} {lo hi : Option Int} {res : R} {Q : VK} (s : St W B σ H ρ) (hx : PRep (Eo W B) H d x) (hg : sliceD lo hi d = some res)
    (hq : ∀ W' H' v, Fr W H W' H' → VOk W' B σ H' ρ v res → Q v H') : rSlA K x lo hi H Q := by
  unfold sliceD at hg
  split at hg
  · cases hg
    obtain ⟨p, ws, rfl, hp, r⟩ := hx.lst
    exact .inl ⟨p, ws, rfl, SqL.of hp, fun t ht => hq _ _ _ (Fr.newW ht) (vok_lst s (cut_reps r) ht)⟩
  · rename_i ds
    cases hg
    obtain ⟨p, ws, rfl, hp, np, r⟩ := hx.tup
    refine .inr (.inl ⟨p, ws, rfl, hp.sq, fun hw => ?_, fun _ t o ht hd => hq _ _ _ (Fr.new ht) (vok_tup hd s (cut_reps r) ht)⟩)
    have e : cutD ds lo hi = ds := by
      unfold cutD
      rw [r.length] at hw
      rw [hw.1, hw.2]
      simp
    rw [e] at hq
    exact hq W H _ .refl ⟨s, p, ws, rfl, hp, np, r⟩
  · cases hg
    obtain ⟨p, rfl, hp⟩ := hx.scr
    refine .inl ⟨p, _, rfl, .inl hp, fun t ht => ?_⟩
    rw [cut_ints]
    exact hq _ _ _ (Fr.newW ht) (vok_lst s (ints_reps _) ht)
  · split at hg
    · rename_i hz
      cases hg
      exact .inr (.inr ⟨_, hx.str, hz, hq W H _ .refl ⟨s, rfl⟩⟩)
    · cases hg
  · cases hg
theorem de_slice {lo hi : Option Expr} {l u : Pt} {p2 : Pos} (h1 : DO X Wx a o1) (h2 : DP X Wx lo l) (h3 : DP X Wx hi u) : DE X Wx (.Subscript a (.Slice lo hi none p2) pos) (fL (o1 :: (l.opds ++ u.opds)) (sliceL l u)) := by
  have evl : ∀ o ∈ l.opds ++ u.opds, o.Evo := fun o z => (List.mem_append.mp z).elim (h2.evo o) (h3.evo o)
  have evo : ∀ o ∈ o1 :: (l.opds ++ u.opds), o.Evo := fun o z => by
    rcases List.mem_cons.mp z with e | z
    · rw [e]; exact h1.evo
    · exact evl o z
  refine ⟨pe_imp (pe_slice sl_all h1.pe h2.po h3.po) fun σ H Q ⟨W, B, ρ, s, a⟩ => ?_, evo_fL evo⟩
  have q : rdOs X.mg Wx (o1 :: (l.opds ++ u.opds)) σ H fun vs H1 => ∃ x ds lo' hi' ws, vs = x :: ws ∧ partsD l u ds = some (lo', hi') ∧ (∃ N : AP X.mg, PReps N H1 ds ws) ∧ rSlA X.K x lo' hi' H1 Q := by
    refine ⟨W, B, ρ, s, (After.bind a).mono fun W1 H1 ds ρ1 _ _ a1 vs s1 rs => ?_⟩
    obtain ⟨res, k, a2⟩ := a1.opt
    cases ds with
    | nil => cases k
    | cons d ds' =>
      cases e : partsD l u ds' with
      | none => simp [sliceL, e] at k
      | some lh =>
        simp only [sliceL, e] at k
        obtain ⟨x, ws, rfl, px, pw⟩ := rs
        exact ⟨x, ds', lh.1, lh.2, ws, rfl, e, ⟨_, pw⟩, slice_ok s1 px k fun W2 H2 v f hv => a2 W2 H2 f v hv⟩
  refine mono_rdO (rdOs_cons h1.evo evl q) fun x H1 q => ?_
  cases l with
  | no =>
    cases u with
    | no =>
      obtain ⟨x', ds, lo', hi', ws, e, e2, ⟨N, pr⟩, k⟩ := rdOs_nil q
      cases e
      obtain ⟨rfl, rfl, rfl⟩ := parts00 e2
      exact k
    | op o =>
      refine mono_rdE (rd_fI (rdOs_cons (os := []) (o := .ev (fI o)) (h3.evo _ List.mem_cons_self) (fun _ z => (List.not_mem_nil z).elim) q)) fun y H2 ⟨i, ey, q⟩ => ?_
      obtain ⟨x', ds, lo', hi', ws, e, e2, ⟨N, pr⟩, k⟩ := rdOs_nil q
      cases e
      obtain ⟨j, rfl, rfl, rfl⟩ := parts01 e2
      obtain ⟨v, ev, p⟩ := preps1 pr
      cases ev
      have p := p.int
      cases p
      exact ⟨_, ey, k⟩
  | op ol =>
    cases u with
    | no =>
      refine mono_rdE (rd_fI (rdOs_cons (os := []) (o := .ev (fI ol)) (h2.evo _ List.mem_cons_self) (fun _ z => (List.not_mem_nil z).elim) q)) fun y H2 ⟨i, ey, q⟩ => ?_
      obtain ⟨x', ds, lo', hi', ws, e, e2, ⟨N, pr⟩, k⟩ := rdOs_nil q
      cases e
      obtain ⟨j, rfl, rfl, rfl⟩ := parts10 e2
      obtain ⟨v, ev, p⟩ := preps1 pr
      cases ev
      have p := p.int
      cases p
      exact ⟨_, ey, k⟩
    | op o =>
      refine mono_rdE (rd_fI (rdOs_cons (o := .ev (fI ol)) (h2.evo _ List.mem_cons_self) (evo1 (h3.evo _ List.mem_cons_self)) q)) fun y H2 ⟨i, ey, q⟩ => ⟨i, ey, ?_⟩
      refine mono_rdE (rd_fI (rdOs_cons (os := []) (o := .ev (fI o)) (h3.evo _ List.mem_cons_self) (fun _ z => (List.not_mem_nil z).elim) q)) fun z H3 ⟨j, ez, q⟩ => ⟨j, ez, ?_⟩
      obtain ⟨x', ds, lo', hi', ws, e, e2, ⟨N, pr⟩, k⟩ := rdOs_nil q
      cases e
      obtain ⟨i', j', rfl, rfl, rfl⟩ := parts11 e2
      obtain ⟨v, w, ev, p1, p2⟩ := preps2 pr
      cases ev
      have p1 := p1.int
      have p2 := p2.int
      cases p1
      cases p2
      exact k
end
end Dz
/-! Dz 11: isinstance of built-in types, join; what changes an object that a name owns or has on loan. -/
namespace Dz
open PySem PySem.Spec PyProof.Rows L2
theorem boot_isi : bootBuiltins "isinstance" = some (.builtin "isinstance") := by decide +kernel
theorem boot_max : bootBuiltins "max" = some (.builtin "max") := by decide +kernel
theorem boot_min : bootBuiltins "min" = some (.builtin "min") := by decide +kernel
theorem boot_sum : bootBuiltins "sum" = some (.builtin "sum") := by decide +kernel
theorem boot_all : bootBuiltins "all" = some (.builtin "all") := by decide +kernel
theorem boot_any : bootBuiltins "any" = some (.builtin "any") := by decide +kernel
theorem boot_abs : bootBuiltins "abs" = some (.builtin "abs") := by decide +kernel
theorem boot_sorted : bootBuiltins "sorted" = some (.builtin "sorted") := by decide +kernel
theorem boot_repr : bootBuiltins "repr" = some (.builtin "repr") := by decide +kernel
/-! ### isinstance -/
inductive Ty where
  | str | tup | bl | int | lst
def Ty.nm : Ty → String
  | .str => "str"
  | .tup => "tuple"
  | .bl => "bool"
  | .int => "int"
  | .lst => "list"
def isT : Ty → D → Option Bool
  | .str, .str _ => some true
  | .tup, .tup _ => some true
  | .bl, .bl _ => some true
  | .int, .int _ => some true
  | .int, .bl _ => some true
  | .lst, .lst _ => some true
  | .lst, .scr _ => some true
  | _, .tpl _ => none
  | _, .cell _ => none
  | _, .obj _ _ _ => none
  | _, _ => some false
def kTy : D → String
  | .non => "NoneType"
  | .bl _ => "bool"
  | .int _ => "int"
  | .str _ => "str"
  | .tup _ => "tuple"
  | .tpl _ => "tuple"
  | .lst _ => "list"
  | .scr _ => "list"
  | .dK _ _ => "dict"
  | .dT _ _ => "dict"
  | .cell _ => "list"
  | .obj _ _ _ => "list"
def tyOk : D → Bool
  | .cell _ => false
  | .obj _ _ _ => false
  | _ => true
theorem isT_ok {T : Ty} {d : D} {b : Bool} (h : isT T d = some b) : tyOk d = true := by
  cases d <;> first | rfl | (cases T <;> cases h)
def allTys : List String := ["NoneType", "bool", "int", "str", "tuple", "list", "dict"]
def isS (a : String) : Ty → Bool
  | .str => a == "str"
  | .tup => a == "tuple"
  | .bl => a == "bool"
  | .int => a == "int" || a == "bool"
  | .lst => a == "list"
theorem kit_all : ∀ a ∈ allTys, (kitB a "str" = some (isS a .str) ∧ kitB a "tuple" = some (isS a .tup) ∧ kitB a "bool" = some (isS a .bl) ∧ kitB a "int" = some (isS a .int) ∧ kitB a "list" = some (isS a .lst)) := by
  decide +kernel
theorem kit_at (d : D) (T : Ty) : kitB (kTy d) T.nm = some (isS (kTy d) T) := by
  have h := kit_all (kTy d) (by cases d <;> simp [kTy, allTys])
  obtain ⟨h1, h2, h3, h4, h5⟩ := h
  cases T
  · exact h1
  · exact h2
  · exact h3
  · exact h4
  · exact h5
theorem isT_s (d : D) (T : Ty) (b : Bool) (h : isT T d = some b) : isS (kTy d) T = b := by
  cases T <;> cases d <;> simp [isT, isS, kTy] at h ⊢ <;> first | exact h | (subst h; decide) | skip
theorem tyx {K : PySem.W.Frag} {N : AP mg} {H : Hp} {d : D} {v : V} (h : PRep N H d v) (ht : tyOk d = true) : TyX K H v (.type (kTy d)) := by
  cases d with
  | non => rw [show v = .non from h.elim id fun ⟨a, _, z⟩ => z.elim]; exact .base .non
  | bl b => rw [h.bl]; exact .base (.bl b)
  | int b => rw [h.int]; exact .base (.int b)
  | str b => rw [h.str]; exact .base (.str b)
  | tup ds =>
    obtain ⟨a, vs, rfl, ⟨o, e, _⟩, _⟩ := h.tup
    exact .fTuple e
  | tpl ds =>
    rcases h with ⟨a, vs, rfl, e, _, _⟩ | ⟨a, e, h⟩
    · exact .base (.tup e)
    · exact h.elim
  | lst ds =>
    obtain ⟨a, vs, rfl, e, _⟩ := h.lst
    exact .base (.lst e)
  | scr ns =>
    obtain ⟨a, rfl, e⟩ := h.scr
    rcases e with e | ⟨o, e⟩
    · exact .base (.lst e)
    · exact .base (.frz e)
  | dK ks ds =>
    obtain ⟨a, kvs, rfl, e, _⟩ := h.dK
    exact .base (.dK e)
  | dT ks ds =>
    obtain ⟨a, kvs, rfl, e, _⟩ := h.dT
    exact .base (.dT e)
  | cell _ => cases ht
  | obj _ _ _ => cases ht
section
variable {X : Cx} {Wx : WX} {a b e : Expr} {es : List Expr} {o1 o2 : Opd} {pos p p2 : Pos} {x : Str} {fe : M R} {fs : List (M R)}
def isiD (T : Ty) (d : D) : Option R := (isT T d).map fun k => .frz (.bl k)
theorem vr_isi {K : PySem.W.Frag} {T : Ty} : VR1 (fun x H Q => rIsi K [x, .ty T.nm] H Q) (isiD T) := by
  intro mg W B σ H ρ v d res Q s r hg hq
  unfold isiD at hg
  cases q : isT T d with
  | none => rw [q] at hg; cases hg
  | some k =>
    rw [q] at hg
    cases hg
    exact ⟨v, _, _, _, _, rfl, .ty _, tyx r (isT_ok q), (kit_ty (kit_at d T)).trans (congrArg some (isT_s d T k q)), hq W H _ .refl ⟨s, rfl⟩⟩
theorem de_isi {T : Ty} (hg : Gl X "isinstance") (hm : X.mg "isinstance" = none) (hgx : Gl X x) (hmx : X.mg x = none) (hvx : bootBuiltins x = some (.type T.nm)) (h1 : DO X Wx a o1)
    (hs1 : starEach [.Name x p2] X.env = (false, eval (.Name x p2) X.env) :: starEach [] X.env := by rfl) (hs : starEach [a, .Name x p2] X.env = (false, eval a X.env) :: starEach [.Name x p2] X.env := by rfl)
    (hpl : (backTo pos (starEach [.Name x p2] X.env)).any (·.1) = false := by rfl) (hn : x ≠ "__name__" := by decide) (hd : (x == ("__debug__" : Str)) = false := by decide) :
    DE X Wx (.Call (.Name "isinstance" p) [a, .Name x p2] [] pos) (f1 o1 (isiD T)) :=
  ⟨pe_imp (pe_callB call_isi hg hm boot_isi (pa_cons h1.pe (pa_cons (pe_bltn hgx hmx hvx (v := .ty T.nm) rfl hn hd) pa_nil hs1) hs) (by decide) (by decide) hs hpl) fun _ _ _ q => rd1 vr_isi h1.evo q, evo_f1 h1.evo⟩
/-! ### join -/
def joinX (x : Str) : D → Option R
  | .lst ds => match strsD ds with
    | some ys => if (ys.map (·.length)).sum + ys.length * x.length ≤ 16777216 then some (.frz (.str (Txt.join x ys))) else none
    | none => none
  | .tup ds => match strsD ds with
    | some ys => if (ys.map (·.length)).sum + ys.length * x.length ≤ 16777216 then some (.frz (.str (Txt.join x ys))) else none
    | none => none
  | _ => none
theorem vr_join {K : PySem.W.Frag} {x : Str} : VR1 (fun y H Q => ∃ p, ∃ ys : List Str, y = .ref p ∧ (SqL K H p (ys.map V.str) ∨ SqT K H p (ys.map V.str)) ∧ (ys.map (·.length)).sum + ys.length * x.length ≤ 16777216 ∧ Q (.str (Txt.join x ys)) H) (joinX x) := by
  intro mg W B σ H ρ v d res Q s r hg hq
  unfold joinX at hg
  split at hg
  · split at hg
    · rename_i ys q
      split at hg
      · rename_i hz
        cases hg
        obtain ⟨p, ws, rfl, hp, rr⟩ := r.lst
        have e := strsD_rep q rr
        subst e
        exact ⟨p, ys, rfl, .inl (SqL.of hp), hz, hq W H _ .refl ⟨s, rfl⟩⟩
      · cases hg
    · cases hg
  · split at hg
    · rename_i ys q
      split at hg
      · rename_i hz
        cases hg
        obtain ⟨p, ws, rfl, hp, _, rr⟩ := r.tup
        have e := strsD_rep q rr
        subst e
        exact ⟨p, ys, rfl, .inr hp.sq, hz, hq W H _ .refl ⟨s, rfl⟩⟩
      · cases hg
    · cases hg
  · cases hg
/-- the text ahead of the point, then what it is called with -/
def jK (o2 : Opd) : R → M R
  | .frz (.str x) => f1 o2 (joinX x)
  | _ => fun _ => none
theorem evo_jK (h : o2.Evo) (r : R) : EvoF (jK o2 r) := by
  cases r with
  | own d => exact fun _ _ z => nomatch z
  | frz d =>
    cases d with
    | str x => exact evo_f1 h
    | _ => exact fun _ _ z => nomatch z
def fJoin (fe : M R) (o2 : Opd) : M R := mbind fe (jK o2)
theorem de_join {apos : Pos} (h1 : DE X Wx a fe) (h2 : DO X Wx b o2) (hs : starEach [b] X.env = [(false, eval b X.env)] := by rfl) (hbase : attributeBase a "join" X.env (eval a X.env) = eval a X.env := by rfl) (hline : (apos.endLine == pos.line) = true := by rfl) :
    DE X Wx (.Call (.Attribute a "join" apos) [b] [] pos) (fJoin fe o2) := by
  refine ⟨pe_imp (pe_join h1.pe h2.pe hs hbase hline) fun σ H Q ⟨W, B, ρ, s, a⟩ => ?_, evo_bind h1.evo fun r => evo_jK h2.evo r⟩
  refine ⟨W, B, ρ, s, (After.bind a).mono fun W1 H1 r ρ1 _ _ a1 v hv => ?_⟩
  cases r with
  | own d => exact a1.elim
  | frz d =>
    cases d with
    | str x =>
      obtain ⟨s1, rv⟩ := hv
      have e : v = .str x := rv
      have k : rdE X.mg Wx (f1 o2 (joinX x)) σ H1 Q := ⟨W1, B, ρ1, s1, a1⟩
      exact ⟨⟨x, e⟩, mono_rdO (rd1 vr_join h2.evo k) fun y H2 ⟨p, ys, ey, q1, q2, q3⟩ => ⟨x, p, ys, e, by rw [ey], q1, q2, q3⟩⟩
    | _ => exact a1.elim
end
end Dz
/-! Dz 12: what changes an object that a name owns or has on loan. -/
namespace Dz
open PySem PySem.Spec PyProof.Rows L2
theorem Fr.upd {W : AP mg} {H : Hp} {a : Addr} {o : HO} (wa : W a) : Fr W H W (upd H a o) := ⟨fun b u e n => by rw [upd_ne (fun z => n (by rw [z]; exact wa))]; exact e, fun _ z => .inl z, fun _ _ e => e, fun _ => rfl, rfl⟩
theorem St.mut {W B : AP mg} {σ : L2.St} {H : Hp} {ρ : Env} (s : St W B σ H ρ) {i : Nat} {t t' : Slot} {a : Addr} {o : HO} (e : ρ[i]? = some t) (hw : t.wr = true) (ev : sv σ i = some (.ref a)) (wa : W a) (hw' : t'.wr = true)
    (hs : SlotOk W B (upd H a o) (some (.ref a)) t') : St W B σ (upd H a o) (ρ.set i t') := by
  have hi : i < ρ.length := (List.getElem?_eq_some_iff.mp e).1
  have fr : Fr W H W (upd H a o) := Fr.upd wa
  have keepA : ∀ b u, H b = some u → ¬ (fun c => c = a) b → upd H a o b = some u := fun b u k n => by rw [upd_ne n]; exact k
  have sub : ∀ b, (fun c => c = a) b → Eo W B b := fun b z => .inl (z ▸ wa)
  have hR : Lf (Eo W B) (Eo W B) H := ⟨fun _ z => .inl z, fun _ _ e => e⟩
  have nh : ∀ (j : Nat) (cs : List D), (ρ.set i t')[j]? = some (Slot.hp cs) → ρ[j]? = some (Slot.hp cs) := fun j cs k => by
    by_cases hj : i = j
    · subst hj
      rw [List.getElem?_set_self hi] at k
      cases k
      cases hw'
    · rwa [List.getElem?_set_ne hj] at k
  have hne : ∀ (l : Nat) (x : Slot), (ρ.set i t')[l]? = some x → x.wr = true → ∃ y : Slot, ρ[l]? = some y ∧ y.wr = true := fun l x y wx => by
    by_cases hl : i = l
    · subst hl
      exact ⟨t, e, hw⟩
    · rw [List.getElem?_set_ne hl] at y
      exact ⟨x, y, wx⟩
  refine ⟨by rw [List.length_set]; exact s.len, fun j v k => ?_, fun b z => ?_, s.dis, fun j k v v' b hjk p q w1 w2 x1 x2 => ?_, fun j k v cs n b p w1 x1 q e1 => ?_, fun j k cs cs' p q => s.hp1 j k cs cs' (nh j cs p) (nh k cs' q)⟩
  rotate_left 3
  · obtain ⟨y1, p1, p2⟩ := hne j v p w1
    exact s.hpa j k y1 cs n b p1 p2 x1 (nh k cs q) e1
  · by_cases hj : i = j
    · subst hj
      rw [List.getElem?_set_self hi] at k
      cases k
      rw [ev]
      exact hs
    · rw [List.getElem?_set_ne hj] at k
      have q := s.slot j v k
      cases v with
      | emp => trivial
      | frz d => obtain ⟨x, e1, r⟩ := q; exact ⟨x, e1, r.fr fr⟩
      | own d =>
        obtain ⟨c, e1, w, r⟩ := q
        exact ⟨c, e1, w, r.mono (M := fun c => c = a) hR keepA sub fun (z : c = a) => s.apart i j t _ a hj e k hw rfl ev (by rw [e1, z])⟩
      | lent d =>
        obtain ⟨c, e1, w, r⟩ := q
        exact ⟨c, e1, w, r.mono (M := fun c => c = a) hR keepA sub fun (z : c = a) => s.apart i j t _ a hj e k hw rfl ev (by rw [e1, z])⟩
      | bor d =>
        obtain ⟨c, e1, w, r⟩ := q
        exact ⟨c, e1, w, r.mono (M := fun c => c = a) hR keepA sub fun (z : c = a) => s.dis a wa (z ▸ w)⟩
      | hp cs => exact HpOk.mono (M := fun c => c = a) q hR keepA sub (fun n b e1 (z : b = a) => s.hpa i j t cs n a e hw ev k (by rw [e1, z])) (fun _ _ _ w => w) rfl rfl
  · have q := s.dom b z
    unfold upd
    split
    · simp
    · exact q
  · obtain ⟨y1, p1, p2⟩ := hne j v p w1
    obtain ⟨y2, q1, q2⟩ := hne k v' q w2
    exact s.apart j k y1 y2 b hjk p1 q1 p2 q2 x1 x2
theorem AfterS.sub {mg : Str → Option Value} {Wx : WX} {W W0 B : AP mg} {σ : L2.St} {H : Hp} {o : Option (Res Fl)} {D : Ends} (h : AfterS mg Wx W B σ H o D) (hW : Ls W0 W) : AfterS mg Wx W0 B σ H o D := by
  cases o with
  | none => exact h
  | some r =>
    cases r with
    | err e ρ' => exact fun W' σ' H' c d f k s x => h W' σ' H' c d ((Fr.less hW).trans f) k s x
    | ok a ρ' => exact fun W' σ' H' f k => h W' σ' H' ((Fr.less hW).trans f) k
/-! ### the change of what a name has -/
def mutM (i : Nat) (g : D → Option (D × D)) : M R := fun ρ =>
  match ρ[i]? with
  | some (.own d) => match g d with
    | some (d', r) => some (.ok (.frz r) (ρ.set i (.own d')))
    | none => none
  | some (.lent d) => match g d with
    | some (d', r) => some (.ok (.frz r) (ρ.set i (.lent d')))
    | none => none
  | _ => none
theorem evo_lent {ρ : Env} {i : Nat} {d d' : D} (e : ρ[i]? = some (.lent d)) : Evo ρ (ρ.set i (.lent d')) := by
  have hi : i < ρ.length := (List.getElem?_eq_some_iff.mp e).1
  refine ⟨by simp, fun j x k => ?_, fun j x k => ?_, fun j x k => ?_, fun j x k => ?_, fun j x k => ?_⟩
  rotate_left 3
  · by_cases q : i = j
    · subst q; rw [e] at k; cases k
    · exact ⟨x, by rw [List.getElem?_set_ne q]; exact k⟩
  · by_cases q : i = j
    · subst q; rw [List.getElem?_set_self hi] at k; cases k
    · rw [List.getElem?_set_ne q] at k; exact ⟨x, k⟩
  · by_cases q : i = j
    · subst q; rw [List.getElem?_set_self hi] at k; cases k
    · rw [List.getElem?_set_ne q] at k; exact k
  · by_cases q : i = j
    · subst q; exact ⟨d', by rw [List.getElem?_set_self hi]⟩
    · exact ⟨x, by rw [List.getElem?_set_ne q]; exact k⟩
  · by_cases q : i = j
    · subst q; exact ⟨d, e⟩
    · rw [List.getElem?_set_ne q] at k; exact ⟨x, k⟩
theorem evo_mutM {i : Nat} {g : D → Option (D × D)} : EvoF (mutM i g) := fun ρ o h => by
  unfold mutM at h
  split at h
  · rename_i d e
    split at h
    · cases h
      exact .set e (fun _ z => nomatch z) (fun _ z => nomatch z) (fun _ z => nomatch z)
    · cases h
  · rename_i d e
    split at h
    · cases h
      exact evo_lent e
    · cases h
  · cases h
theorem mutM_ok {mg : Str → Option Value} {Wx : WX} {W B : AP mg} {σ : L2.St} {H : Hp} {ρ : Env} {i : Nat} {g : D → Option (D × D)} {Q : AP mg → Hp → R → Env → Prop} (s : St W B σ H ρ) (a : After mg Wx W B σ H (mutM i g ρ) Q) :
    ∃ c d d' r, sv σ i = some (.ref c) ∧ W c ∧ Top (Eo W B) H c d ∧ g d = some (d', r) ∧ ∀ o, Top (Eo W B) (upd H c o) c d' → ∃ ρ', St W B σ (upd H c o) ρ' ∧ Q W (upd H c o) (.frz r) ρ' := by
  unfold mutM at a
  split at a
  · rename_i d e
    split at a
    · rename_i d' r k
      obtain ⟨c, e1, wc, t⟩ := s.slot i _ e
      exact ⟨c, d, d', r, e1, wc, t, k, fun o tp => ⟨_, s.mut (t' := .own d') e rfl e1 wc rfl ⟨c, rfl, wc, tp⟩, a W _ (Fr.upd wc)⟩⟩
    · exact a.elim
  · rename_i d e
    split at a
    · rename_i d' r k
      obtain ⟨c, e1, wc, t⟩ := s.slot i _ e
      exact ⟨c, d, d', r, e1, wc, t, k, fun o tp => ⟨_, s.mut (t' := .lent d') e rfl e1 wc rfl ⟨c, rfl, wc, tp⟩, a W _ (Fr.upd wc)⟩⟩
    · exact a.elim
  · exact a.elim
/-- the name's object is a list (or, k, a dictionary) that may be written -/
def isLs : D → Bool
  | .lst _ => true
  | _ => false
def needW (i : Nat) (k : D → Bool) : M Unit := fun ρ =>
  match ρ[i]? with
  | some (.own d) => if k d then some (.ok () ρ) else none
  | some (.lent d) => if k d then some (.ok () ρ) else none
  | _ => none
theorem evo_needW {i : Nat} {k : D → Bool} : EvoF (needW i k) := fun ρ o h => by
  unfold needW at h
  split at h
  · split at h
    · cases h; exact .refl _
    · cases h
  · split at h
    · cases h; exact .refl _
    · cases h
  · cases h
theorem needW_ok {mg : Str → Option Value} {Wx : WX} {W B : AP mg} {σ : L2.St} {H : Hp} {ρ : Env} {i : Nat} {k : D → Bool} {Q : AP mg → Hp → Unit → Env → Prop} (s : St W B σ H ρ) (a : After mg Wx W B σ H (needW i k ρ) Q) :
    ∃ c d, sv σ i = some (.ref c) ∧ W c ∧ Top (Eo W B) H c d ∧ k d = true ∧ Q W H () ρ := by
  unfold needW at a
  split at a
  · rename_i d e
    split at a
    · rename_i hk
      obtain ⟨c, e1, wc, t⟩ := s.slot i _ e
      exact ⟨c, d, e1, wc, t, hk, a.here⟩
    · exact a.elim
  · rename_i d e
    split at a
    · rename_i hk
      obtain ⟨c, e1, wc, t⟩ := s.slot i _ e
      exact ⟨c, d, e1, wc, t, hk, a.here⟩
    · exact a.elim
  · exact a.elim
/-- what a method does to the object, by the data of its arguments -/
def VRM (r : V → List V → Hp → VK → Prop) (g : List D → D → Option (D × D)) : Prop := ∀ {mg : Str → Option Value} (W B : AP mg) (H : Hp) (a : Addr) (vs : List V) (ds : List D) (d d' r' : D) (Q : VK), W a → Top (Eo W B) H a d → Reps (Eo W B) H ds vs → g ds d = some (d', r') →
  (∀ o v, Top (Eo W B) (upd H a o) a d' → Rep (Eo W B) (upd H a o) r' v → Q v (upd H a o)) → r (.ref a) vs H Q
/-- arguments that are only looked at -/
def VRMo (r : V → List V → Hp → VK → Prop) (g : List D → D → Option (D × D)) : Prop := ∀ {mg : Str → Option Value} (W B : AP mg) (H : Hp) (a : Addr) (vs : List V) (ds : List D) (d d' r' : D) (Q : VK), W a → Top (Eo W B) H a d → PReps (Eo W B) H ds vs → g ds d = some (d', r') →
  (∀ o v, Top (Eo W B) (upd H a o) a d' → Rep (Eo W B) (upd H a o) r' v → Q v (upd H a o)) → r (.ref a) vs H Q
def fMut (i : Nat) (fs : List (M R)) (g : List D → D → Option (D × D)) : M R := mbind (needW i isLs) fun _ => mbind (evF fs) fun ds => mutM i (g ds)
def fMutO (i : Nat) (os : List Opd) (g : List D → D → Option (D × D)) : M R := mbind (needW i isLs) fun _ => mbind (evs os) fun ds => mutM i (g ds)
theorem Top.isL {N : AP mg} {H : Hp} {c : Addr} {d : D} (t : Top N H c d) (h : isLs d = true) : ∃ ds vs, d = .lst ds ∧ H c = some (.lst vs) ∧ Reps N H ds vs := by
  cases d with
  | lst ds => obtain ⟨vs, e, r⟩ := t; exact ⟨ds, vs, rfl, e, r⟩
  | _ => cases h
section
variable {X : Cx} {Wx : WX} {o e : Expr} {es : List Expr} {os : List Opd} {apos pos : Pos} {x : Str} {fe : M R} {fs : List (M R)} {name : Str} {fid : String} {r : V → List V → Hp → VK → Prop} {g : List D → D → Option (D × D)} {i : Nat}
theorem rd_mut (hr : VRM r g) {K : PySem.W.Frag} {mg : Str → Option Value} {σ : L2.St} {H : Hp} {Q : VK} (h : rdE mg Wx (fMut i fs g) σ H Q) :
    ∃ v, σ[i]? = some (some v) ∧ tyV K "list" v H ∧ rdF mg Wx fs σ H fun vs H2 => r v vs H2 Q := by
  obtain ⟨W, B, ρ, s, a⟩ := h
  obtain ⟨c, d, e1, wc, t, hl, a1⟩ := needW_ok s (After.bind a)
  obtain ⟨ds, vs, rfl, hc, _⟩ := t.isL hl
  refine ⟨.ref c, sv_some e1, .inl ⟨rfl, vs, .inl (.inl hc)⟩, W, B, ρ, s, (After.bind a1).mono fun W1 H1 ds1 ρ1 _ _ a2 vs1 s1 rs => ?_⟩
  obtain ⟨c', d2, d', r', e2, wc', t2, k, nx⟩ := mutM_ok s1 a2
  rw [e1] at e2
  cases e2
  refine hr W1 B H1 c vs1 ds1 d2 d' r' Q wc' t2 rs k fun o v tp rv => ?_
  obtain ⟨ρ', s', q⟩ := nx o tp
  exact q v ⟨s', rv⟩
theorem rd_mutO (hr : VRMo r g) {K : PySem.W.Frag} {mg : Str → Option Value} {σ : L2.St} {H : Hp} {Q : VK} (h : rdE mg Wx (fMutO i os g) σ H Q) :
    ∃ v, σ[i]? = some (some v) ∧ tyV K "list" v H ∧ rdOs mg Wx os σ H fun vs H2 => r v vs H2 Q := by
  obtain ⟨W, B, ρ, s, a⟩ := h
  obtain ⟨c, d, e1, wc, t, hl, a1⟩ := needW_ok s (After.bind a)
  obtain ⟨ds, vs, rfl, hc, _⟩ := t.isL hl
  refine ⟨.ref c, sv_some e1, .inl ⟨rfl, vs, .inl (.inl hc)⟩, W, B, ρ, s, (After.bind a1).mono fun W1 H1 ds1 ρ1 _ _ a2 vs1 s1 rs => ?_⟩
  obtain ⟨c', d2, d', r', e2, wc', t2, k, nx⟩ := mutM_ok s1 a2
  rw [e1] at e2
  cases e2
  refine hr W1 B H1 c vs1 ds1 d2 d' r' Q wc' t2 rs k fun o v tp rv => ?_
  obtain ⟨ρ', s', q⟩ := nx o tp
  exact q v ⟨s', rv⟩
theorem evo_mut (h : ∀ f ∈ fs, EvoF f) : EvoF (fMut i fs g) := evo_bind evo_needW fun _ => evo_bind (evo_evF h) fun _ => evo_mutM
theorem evo_mutO (h : ∀ o ∈ os, o.Evo) : EvoF (fMutO i os g) := evo_bind evo_needW fun _ => evo_bind (evo_evs h) fun _ => evo_mutM
theorem de_mut (slot : PySem.Slot "list" name fid) (hty : typeOf (.builtin fid) = pure (.type "method_descriptor")) (hm : MtR X fid r) (hr : VRM r g) (ho : PE X o (tVar i)) (ha : DF X Wx (e :: es) fs)
    (hbase : attributeBase o name X.env (eval o X.env) = eval o X.env := by rfl)
    (hfew : ((backTo pos (starEach (e :: es) X.env)).all (fun x => !x.1) && (backToKw pos (keywordEach [] X.env)).all (fun x => x.1.isSome)
      && decide ((e :: es).length + ([] : List Keyword).length + (if ([] : List Keyword).isEmpty then 0 else 1) < 30)) = true := by rfl)
    (hline : (apos.endLine == pos.line) = true := by rfl) (hs : starEach (e :: es) X.env = (false, eval e X.env) :: starEach es X.env := by rfl) (hplain : (backTo pos (starEach es X.env)).any (·.1) = false := by rfl) :
    DE X Wx (.Call (.Attribute o name apos) (e :: es) [] pos) (fMut i fs g) :=
  ⟨pe_imp (pe_bm PySem.F.plainAttrs_list slot hty hm ho ha.pa hbase hfew hline hs hplain) fun _ _ _ q => rd_mut hr q, evo_mut ha.evo⟩
theorem de_mutO (slot : PySem.Slot "list" name fid) (hty : typeOf (.builtin fid) = pure (.type "method_descriptor")) (hm : MtR X fid r) (hr : VRMo r g) (ho : PE X o (tVar i)) (ha : DOs X Wx (e :: es) os)
    (hbase : attributeBase o name X.env (eval o X.env) = eval o X.env := by rfl)
    (hfew : ((backTo pos (starEach (e :: es) X.env)).all (fun x => !x.1) && (backToKw pos (keywordEach [] X.env)).all (fun x => x.1.isSome)
      && decide ((e :: es).length + ([] : List Keyword).length + (if ([] : List Keyword).isEmpty then 0 else 1) < 30)) = true := by rfl)
    (hline : (apos.endLine == pos.line) = true := by rfl) (hs : starEach (e :: es) X.env = (false, eval e X.env) :: starEach es X.env := by rfl) (hplain : (backTo pos (starEach es X.env)).any (·.1) = false := by rfl) :
    DE X Wx (.Call (.Attribute o name apos) (e :: es) [] pos) (fMutO i os g) :=
  ⟨pe_imp (pe_bm PySem.F.plainAttrs_list slot hty hm ho ha.pa hbase hfew hline hs hplain) fun _ _ _ q => rd_mutO hr q, evo_mutO ha.evo⟩
theorem rdF_nil {mg : Str → Option Value} {σ : L2.St} {H : Hp} {Q : List V → Hp → Prop} (h : rdF mg Wx [] σ H Q) : Q [] H := by
  obtain ⟨W, B, ρ, s, a⟩ := h
  exact a.here [] s rfl
theorem de_mut0 (slot : PySem.Slot "list" name fid) (hty : typeOf (.builtin fid) = pure (.type "method_descriptor")) (hm : MtR X fid r) (hr : VRM r g) (ho : PE X o (tVar i))
    (hbase : attributeBase o name X.env (eval o X.env) = eval o X.env := by rfl) (hline : (apos.endLine == pos.line) = true := by rfl) :
    DE X Wx (.Call (.Attribute o name apos) [] [] pos) (fMut i [] g) :=
  ⟨pe_imp (pe_bm0 PySem.F.plainAttrs_list slot hty hm ho hbase hline) fun _ _ _ q => let ⟨v, e, t, k⟩ := rd_mut hr q; ⟨v, e, t, rdF_nil k⟩, evo_mut fun _ z => nomatch z⟩
/-! #### append, extend, pop, clear -/
def appD : List D → D → Option (D × D)
  | [v], .lst xs => if xs.length < sizeLine then some (.lst (xs ++ [v]), .non) else none
  | _, _ => none
theorem Reps.snoc {N : AP mg} {H : Hp} {ds ds2 : List D} {vs vs2 : List V} (h : Reps N H ds vs) (k : Reps N H ds2 vs2) : Reps N H (ds ++ ds2) (vs ++ vs2) := by
  induction ds generalizing vs with
  | nil => rw [show vs = [] from h]; exact k
  | cons d ds ih => obtain ⟨v, r, rfl, p, q⟩ := h; exact ⟨v, r ++ vs2, rfl, p, ih q⟩
theorem vrm_append : VRM rAppend appD := by
  intro mg W B H a vs ds d d' r' Q wa t rs hg hq
  unfold appD at hg
  split at hg
  · rename_i v xs
    split at hg
    · rename_i hz
      cases hg
      obtain ⟨ws, e, r⟩ := t
      obtain ⟨y, _, rfl, p, z⟩ := rs
      rw [show _ = [] from z]
      exact ⟨a, ws, y, rfl, rfl, e, by rw [r.length]; exact hz, hq _ _ ⟨_, upd_same, (Reps.snoc r (show Reps (Eo W B) H [v] [y] from ⟨y, [], rfl, p, rfl⟩)).fr (Fr.upd wa)⟩ rfl⟩
    · cases hg
  · cases hg
theorem de_append (ho : PE X o (tVar i)) (ha : DF X Wx [e] fs) (hbase : attributeBase o "append" X.env (eval o X.env) = eval o X.env := by rfl)
    (hfew : ((backTo pos (starEach [e] X.env)).all (fun x => !x.1) && (backToKw pos (keywordEach [] X.env)).all (fun x => x.1.isSome)
      && decide ([e].length + ([] : List Keyword).length + (if ([] : List Keyword).isEmpty then 0 else 1) < 30)) = true := by rfl)
    (hline : (apos.endLine == pos.line) = true := by rfl) (hs : starEach [e] X.env = (false, eval e X.env) :: starEach [] X.env := by rfl) :
    DE X Wx (.Call (.Attribute o "append" apos) [e] [] pos) (fMut i fs appD) := de_mut PySem.F.slot_list_append PySem.F.type_list_append mt_append vrm_append ho ha hbase hfew hline hs
def extD : List D → D → Option (D × D)
  | [.lst ys], .lst xs => if xs.length + ys.length ≤ sizeLine then some (.lst (xs ++ ys), .non) else none
  | _, _ => none
theorem vrm_extend : VRMo rExtend extD := by
  intro mg W B H a vs ds d d' r' Q wa t rs hg hq
  unfold extD at hg
  split at hg
  · rename_i ys xs
    split at hg
    · rename_i hz
      cases hg
      obtain ⟨ws, e, r⟩ := t
      obtain ⟨v, rfl, p⟩ := preps1 rs
      obtain ⟨b, us, rfl, hb, r2⟩ := p.lst
      exact ⟨a, b, ws, us, rfl, rfl, e, hb, by rw [r.length, r2.length]; exact hz, hq _ _ ⟨_, upd_same, (Reps.snoc r r2).fr (Fr.upd wa)⟩ rfl⟩
    · cases hg
  · cases hg
theorem de_extend (ho : PE X o (tVar i)) (ha : DOs X Wx [e] os) (hbase : attributeBase o "extend" X.env (eval o X.env) = eval o X.env := by rfl)
    (hfew : ((backTo pos (starEach [e] X.env)).all (fun x => !x.1) && (backToKw pos (keywordEach [] X.env)).all (fun x => x.1.isSome)
      && decide ([e].length + ([] : List Keyword).length + (if ([] : List Keyword).isEmpty then 0 else 1) < 30)) = true := by rfl)
    (hline : (apos.endLine == pos.line) = true := by rfl) (hs : starEach [e] X.env = (false, eval e X.env) :: starEach [] X.env := by rfl) :
    DE X Wx (.Call (.Attribute o "extend" apos) [e] [] pos) (fMutO i os extD) := de_mutO PySem.F.slot_list_extend PySem.F.type_list_extend mt_extend vrm_extend ho ha hbase hfew hline hs
def popD : List D → D → Option (D × D)
  | [], .lst xs => match xs[xs.length - 1]? with
    | some v => some (.lst xs.dropLast, v)
    | none => none
  | _, _ => none
theorem vrm_pop : VRM rPop popD := by
  intro mg W B H a vs ds d d' r' Q wa t rs hg hq
  unfold popD at hg
  split at hg
  · rename_i xs
    split at hg
    · rename_i v hv
      cases hg
      obtain ⟨ws, e, r⟩ := t
      rw [show vs = [] from rs]
      obtain ⟨y, ey, ry⟩ := r.get hv
      refine ⟨a, ws, y, rfl, rfl, e, by rw [r.length]; exact ey, hq _ _ ⟨_, upd_same, ?_⟩ (ry.fr (Fr.upd wa))⟩
      rw [List.dropLast_eq_take, List.dropLast_eq_take, r.length]
      exact (r.take _).fr (Fr.upd wa)
    · cases hg
  · cases hg
theorem de_pop (ho : PE X o (tVar i)) (hbase : attributeBase o "pop" X.env (eval o X.env) = eval o X.env := by rfl) (hline : (apos.endLine == pos.line) = true := by rfl) :
    DE X Wx (.Call (.Attribute o "pop" apos) [] [] pos) (fMut i [] popD) := de_mut0 PySem.F.slot_list_pop PySem.F.type_list_pop mt_pop vrm_pop ho hbase hline
def popAtD : List D → D → Option (D × D)
  | [.int i], .lst xs => if -(2 ^ 63) ≤ i ∧ i < 2 ^ 63 then match seqIndex? i xs.length with
    | some k => match xs[k]? with
      | some v => some (.lst (xs.eraseIdx k), v)
      | none => none
    | none => none
    else none
  | _, _ => none
theorem Reps.erase {N : AP mg} {H : Hp} : ∀ {ds : List D} {vs : List V} (k : Nat), Reps N H ds vs → Reps N H (ds.eraseIdx k) (vs.eraseIdx k)
  | [], _, _, h => by rw [show _ = [] from h]; exact rfl
  | d :: ds, _, 0, ⟨v, r, e, p, q⟩ => by rw [e]; exact q
  | d :: ds, _, k + 1, ⟨v, r, e, p, q⟩ => by rw [e]; exact ⟨v, r.eraseIdx k, rfl, p, Reps.erase k q⟩
theorem vrm_popAt : VRM rPopAt popAtD := by
  intro mg W B H a vs ds d d' r' Q wa t rs hg hq
  unfold popAtD at hg
  split at hg
  · rename_i i xs
    split at hg
    · rename_i hz
      split at hg
      · rename_i k hk
        split at hg
        · rename_i v hv
          cases hg
          obtain ⟨ws, e, r⟩ := t
          obtain ⟨y, _, rfl, p, z⟩ := rs
          rw [show _ = [] from z, show y = .int i from p]
          obtain ⟨u, eu, ru⟩ := r.get hv
          exact ⟨a, ws, i, k, u, rfl, rfl, e, hz.1, hz.2, by rw [r.length]; exact hk, eu, hq _ _ ⟨_, upd_same, (r.erase k).fr (Fr.upd wa)⟩ (ru.fr (Fr.upd wa))⟩
        · cases hg
      · cases hg
    · cases hg
  · cases hg
theorem de_popAt (ho : PE X o (tVar i)) (ha : DF X Wx [e] fs) (hbase : attributeBase o "pop" X.env (eval o X.env) = eval o X.env := by rfl)
    (hfew : ((backTo pos (starEach [e] X.env)).all (fun x => !x.1) && (backToKw pos (keywordEach [] X.env)).all (fun x => x.1.isSome)
      && decide ([e].length + ([] : List Keyword).length + (if ([] : List Keyword).isEmpty then 0 else 1) < 30)) = true := by rfl)
    (hline : (apos.endLine == pos.line) = true := by rfl) (hs : starEach [e] X.env = (false, eval e X.env) :: starEach [] X.env := by rfl) :
    DE X Wx (.Call (.Attribute o "pop" apos) [e] [] pos) (fMut i fs popAtD) := de_mut PySem.F.slot_list_pop PySem.F.type_list_pop mt_popAt vrm_popAt ho ha hbase hfew hline hs
/-! ### a store at a place; name += -/
def VRP (r : V → V → V → Hp → (Hp → Prop) → Prop) (g : D → D → D → Option D) : Prop := ∀ {mg : Str → Option Value} (W B : AP mg) (H : Hp) (a : Addr) (jv ev : V) (d d' j x : D) (Q : Hp → Prop), W a → Top (Eo W B) H a d → PRep (Eo W B) H j jv → Rep (Eo W B) H x ev → g j x d = some d' →
  (∀ o, Top (Eo W B) (upd H a o) a d' → Q (upd H a o)) → r (.ref a) jv ev H Q
def putD1 (g : D → D → D → Option D) (x : D) : List D → D → Option (D × D)
  | [j], d => (g j x d).map fun d' => (d', .non)
  | _, _ => none
def sPut (i : Nat) (o : Opd) (fe : M R) (g : D → D → D → Option D) : M Fl := mbind fe fun r => mbind (needSl i) fun _ => mbind (evs [o]) fun ds => mbind (mutM i (putD1 g r.d ds)) fun _ => mret .next
theorem evo_put {oj : Opd} {g : D → D → D → Option D} {d : D} (h : oj.Evo) : EvoF (mbind (needSl i) fun _ => mbind (evs [oj]) fun ds => mbind (mutM i (putD1 g d ds)) fun _ => mret Fl.next) :=
  evo_bind evo_needSl fun _ => evo_bind (evo_evs fun o z => by rcases List.mem_cons.mp z with e | z; exact e ▸ h; exact (List.not_mem_nil z).elim) fun _ => evo_bind evo_mutM fun _ => evo_ret _
theorem ds_put {j : Expr} {oj : Opd} {rp : V → V → V → Hp → (Hp → Prop) → Prop} {gp : D → D → D → Option D} {tpos : Pos} (hp : PSet X rp) (hr : VRP rp gp) (he : DE X Wx e fe) (ho : PE X o (tVar i)) (hj : DO X Wx j oj)
    (hs : swapsWithSole [.Subscript o j tpos] e pos.line X.env = pure false := by rfl) (hw : swappedStores [.Subscript o j tpos] e X.env = pure none := by rfl)
    (h1 : (assignEach [.Subscript o j tpos] X.env).map (·.2) = [assign (.Subscript o j tpos) X.env] := by rfl)
    (ha : ∀ v, assign (.Subscript o j tpos) X.env v = (do
      let ov ← holding [v] (eval o X.env)
      let iv ← holding [v, ov] (eval j X.env)
      standAt tpos
      holding [v, ov, iv] (setItem ov iv v)
      release [v, ov, iv] []) := by intro _; rfl) : DS X Wx (.Assign [.Subscript o j tpos] e pos) (sPut i oj fe gp) := by
  refine ⟨ps_imp (ps_asg he.pe (pg_sub ho hj.pe hp ha) hs hw h1) fun D σ H ⟨W, B, ρ, s, a⟩ => ?_, evo_bind he.evo fun r => evo_put hj.evo⟩
  refine ⟨W, B, ρ, s, (a.bindE fun r => evo_put hj.evo).mono fun W1 H1 r ρ1 _ _ a1 v hv => ?_⟩
  obtain ⟨W0, hW, s1, rv⟩ := hv.any
  have a1 := AfterS.sub a1 hW
  have a2 := a1.bindE fun _ => evo_bind (evo_evs fun o z => by rcases List.mem_cons.mp z with e | z; exact e ▸ hj.evo; exact (List.not_mem_nil z).elim) fun _ => evo_bind evo_mutM fun _ => evo_ret _
  unfold needSl at a2
  split at a2
  · rename_i d0 e0
    obtain ⟨v0, ev0, _⟩ := s1.at e0
    have a3 := a2.here
    have k : rdOs X.mg Wx [oj] σ H1 fun vs H2 => ∃ jv, vs = [jv] ∧ rp v0 jv v H2 fun H3 => D.nx σ H3 := by
      refine ⟨W0, B, ρ1, s1, (a3.bindE fun _ => evo_bind evo_mutM fun _ => evo_ret _).mono fun W2 H2 ds ρ2 _ fr2 a4 vs s2 prs => ?_⟩
      obtain ⟨c, d, d', r', e2, wc, t, kg, nx⟩ := mutM_ok s2 (a4.bindE fun _ => evo_ret _)
      rw [ev0] at e2
      cases e2
      cases ds with
      | nil => cases kg
      | cons jd ds =>
        cases ds with
        | cons _ _ => cases kg
        | nil =>
          obtain ⟨jv, rfl, pj⟩ := preps1 prs
          have kg : (gp jd r.d d).map (fun d' => (d', Dz.D.non)) = some (d', r') := kg
          cases eg : gp jd r.d d with
          | none => rw [eg] at kg; cases kg
          | some dd =>
            rw [eg] at kg
            cases kg
            refine ⟨jv, rfl, hr W2 B H2 c jv v d d' jd r.d _ wc t pj (rv.fr fr2) eg fun o tp => ?_⟩
            obtain ⟨ρ', s', q⟩ := nx o tp
            exact q.here s'
    refine ⟨v0, sv_some ev0, mono_rdO (rdOs_cons hj.evo (fun _ z => (List.not_mem_nil z).elim) k) fun jv H2 q => ?_⟩
    obtain ⟨jv', e, q⟩ := rdOs_nil q
    cases e
    exact q
  · exact a2.elim
def setLD : D → D → D → Option D
  | .int i, x, .lst xs => (ixN xs.length i).map fun j => .lst (xs.set j x)
  | _, _, _ => none
theorem Reps.setAt {N : AP mg} {H : Hp} : ∀ {ds : List D} {vs : List V} {d : D} {v : V} (k : Nat), Reps N H ds vs → Rep N H d v → Reps N H (ds.set k d) (vs.set k v)
  | [], _, _, _, _, h, _ => by rw [show _ = [] from h]; exact rfl
  | _ :: ds, _, d, v, 0, ⟨w, r, e, p, q⟩, h => by rw [e]; exact ⟨v, r, rfl, h, q⟩
  | _ :: ds, _, d, v, k + 1, ⟨w, r, e, p, q⟩, h => by rw [e]; exact ⟨w, r.set k v, rfl, p, Reps.setAt k q h⟩
theorem vrp_setL : VRP rSetL setLD := by
  intro mg W B H a jv ev d d' j x Q wa t pj rx hg hq
  unfold setLD at hg
  split at hg
  · rename_i i xs
    cases e : ixN xs.length i with
    | none => rw [e] at hg; cases hg
    | some k =>
      rw [e] at hg
      cases hg
      obtain ⟨ws, eh, r⟩ := t
      exact ⟨a, ws, i, k, rfl, pj.int, eh, by rw [r.length]; exact e, hq _ ⟨_, upd_same, (r.setAt k rx).fr (Fr.upd wa)⟩⟩
  · cases hg
def isInt : D → Option Int
  | .int i => some i
  | _ => none
def getI (i : Nat) : M Int := fun ρ =>
  match ρ[i]? with
  | some (.frz (.int n)) => some (.ok n ρ)
  | _ => none
theorem evo_getI {i : Nat} : EvoF (getI i) := fun ρ o h => by
  unfold getI at h
  split at h
  · cases h; exact .refl _
  · cases h
/-- a count goes up -/
def sInc (i : Nat) (o : Opd) : M Fl := mbind (getI i) fun n => mbind (f1 o fun d => (isInt d).map fun m => .frz (.int (n + m))) fun r => setSl i r
end
end Dz
/-! Dz 13: a def from its body; the law's end. -/
namespace Dz
open PySem PySem.Spec PyProof.Rows L2
/-- a def of a parameters, n names in all -/
def fnA (a n : Nat) (body : M Fl) : Fn := fun ps => if ps.length = a then runF n body ps else none
section
variable {P : Program} {w : World} {K : PySem.W.Frag} {mg : Str → Option Value} {base : Heap} {N ps : List Str} {qual x : Str} {scope : Scope} {f : Addr} {fd : FuncData} {cdv : Value} {A : Around} {outer : List Env} {s : Shared} {H : Hp} {E : XK} {params : Arguments} {body : List Stmt}
abbrev cxF (P : Program) (w : World) (K : PySem.W.Frag) (mg : Str → Option Value) (base : Heap) (N : List Str) (qual : Str) (scope : Scope) (f : Addr) (cdv : Value) (A : Around) (outer : List PySem.Env) (s : Shared) (H : Hp) (E : XK) : Cx :=
  cxOf (L2.CX P w) P w K mg base N qual scope f cdv A outer s H E
abbrev wxF (E : XK) : WX := fun c d _ H' => E c d H'
theorem takes_cx {outer : List PySem.Env} : Takes (cxF P w K mg base N qual scope f cdv A outer s H E) (wxF E) := takes_of rfl rfl rfl rfl
theorem owns_cx {outer : List PySem.Env} : PassesOwn (model P w) (cxF P w K mg base N qual scope f cdv A outer s H E).A (cxF P w K mg base N qual scope f cdv A outer s H E).env (cxF P w K mg base N qual scope f cdv A outer s H E).xe := passes_of rfl
/-- .. that works on cells, handed on behind the parameters -/
def fnC (a n : Nat) (body : M Fl) : Fn := fun ps => if ps.length = a + 1 then runF n body ps else none
def fnX (b : Bool) (a n : Nat) (body : M Fl) : Fn := fun ps => if ps.length = a + b.toNat then runF n body ps else none
theorem fnX_f {a n : Nat} {body : M Fl} : fnX false a n body = fnA a n body := rfl
theorem fnX_t {a n : Nat} {body : M Fl} : fnX true a n body = fnC a n body := rfl
theorem spX_arity {b : Bool} {a n : Nat} {fb : M Fl} {vs : List V} {Q : VK} (h : spX b mg (fnX b a n fb) vs H Q E) : vs.length = a ∧ spX b mg (runF n fb) vs H Q E := by
  obtain ⟨W, B, ps, s, hh, no, m⟩ := h
  by_cases hl : ps.length = a + b.toNat
  · have e : fnX b a n fb ps = runF n fb ps := if_pos hl
    rw [e] at m
    refine ⟨?_, W, B, ps, s, hh, no, m⟩
    obtain ⟨h1, h2, h3⟩ := exV_len s.len
    cases b
    · have := h2 rfl; simp at hl; omega
    · have := h3 rfl; simp at hl; omega
  · have e : fnX b a n fb ps = none := if_neg hl
    rw [e] at m
    exact m.elim
theorem fnok_ofX {b : Bool} {a n k : Nat} {fb : M Fl} (F : FunD K x qual params body scope [] [] f fd) (S : FnScope N ps scope) (hn : N.length = n) (ha : ps.length = a) (hb : a + b.toNat ≤ n)
    (h : ∀ (cdv : Value) (A : Around) (outer : List PySem.Env) (s : Shared) (H : Hp) (E : XK), Room k (A.deeper (envOfC qual scope s.heap.objs.size f cdv)) → DSs (cxF P w K mg base N qual scope f cdv A outer s H E) (wxF E) body fb) :
    FnOk P w K mg base (L2.CX P w) (k + 1) f fd ps (spX b mg (fnX b a n fb)) := by
  refine F.ok S (fun vs H Q E h => ha ▸ (spX_arity h).1) fun cdv A outer s H vs Q E hr hsp => ?_
  obtain ⟨hl, hsp⟩ := spX_arity hsp
  have hd := h cdv A outer s H E hr
  refine ⟨_, hd.pss, body_ok (X := cxF P w K mg base N qual scope f cdv A outer s H E) hn hd hsp ?_⟩
  omega
theorem fnok_of {a n k : Nat} {fb : M Fl} (F : FunD K x qual params body scope [] [] f fd) (S : FnScope N ps scope) (hn : N.length = n) (ha : ps.length = a)
    (h : ∀ (cdv : Value) (A : Around) (outer : List PySem.Env) (s : Shared) (H : Hp) (E : XK), Room k (A.deeper (envOfC qual scope s.heap.objs.size f cdv)) → DSs (cxF P w K mg base N qual scope f cdv A outer s H E) (wxF E) body fb) :
    FnOk P w K mg base (L2.CX P w) (k + 1) f fd ps (spD mg (fnA a n fb)) := by
  refine fnok_ofX (b := false) F S hn ha ?_ h
  have := congrArg List.length S.pre
  rw [List.length_take] at this
  simp
  omega
theorem callee_of {a n k : Nat} {fb : M Fl} (F : FunD K x qual params body scope [] [] f fd) (S : FnScope N ps scope) (hm : mg x = some (.ref f)) (hn : N.length = n) (ha : ps.length = a) (hb : Binds K fd ps [])
    (h : ∀ (cdv : Value) (A : Around) (outer : List PySem.Env) (s : Shared) (H : Hp) (E : XK), Room k (A.deeper (envOfC qual scope s.heap.objs.size f cdv)) → DSs (cxF P w K mg base N qual scope f cdv A outer s H E) (wxF E) body fb) :
    Callee P w K mg base (k + 1) x (fnA a n fb) := ⟨f, fd, ps, fnok_of F S hn ha h, hm, F.kp, hb⟩
theorem calleeC_of {a n k : Nat} {fb : M Fl} (F : FunD K x qual params body scope [] [] f fd) (S : FnScope N ps scope) (hm : mg x = some (.ref f)) (hn : N.length = n) (ha : ps.length = a) (hb : Binds K fd ps []) (hz : a + 1 ≤ n)
    (h : ∀ (cdv : Value) (A : Around) (outer : List PySem.Env) (s : Shared) (H : Hp) (E : XK), Room k (A.deeper (envOfC qual scope s.heap.objs.size f cdv)) → DSs (cxF P w K mg base N qual scope f cdv A outer s H E) (wxF E) body fb) :
    CalleeX true P w K mg base (k + 1) x (fnC a n fb) := ⟨f, fd, ps, fnok_ofX (b := true) F S hn ha hz h, hm, F.kp, hb⟩
end
/-! ### the law's end -/
theorem walk_ofC {l : PySem.W.OpenLaw} {n k : Nat} {q : Program} {loose : List Str} {XP : (Str → Option Value) → Heap → Prop} {YP : World → Heap → Prop} {d : DefRec} {x : Str}
    (hn : l.most = some n) (hn2 : n ≤ sizeLine) (hdf : d.params.defaults = []) (hr : Room k callerA)
    (F : ∀ (w : World) (mg : Str → Option Value) (fa : Addr) (h : Heap), YP w h → h.Ns mainGlobals mg → mg d.name = some (.ref fa) →
      ∃ (K : PySem.W.Frag) (fd : FuncData) (sp : Sp), K.In h ∧ (∀ (s : Shared) (u : Value), BindsTo s fd ⟨[u], []⟩ [(x, u)]) ∧
        (∀ (H : Hp) (a : Addr) (ns : List Int), ns.length ≤ n → SqL K H a (ns.map V.int) → sp [.ref a] H (fun v _ => v = .bl true) fun _ _ _ => False) ∧
        ∀ base : Heap, K.In base → base.Ns mainGlobals mg → FnOk l.prog w K mg base (L2.CX l.prog w) k fa fd [x] sp) :
    PySem.W.WalkO q loose XP YP l.row.toRowW d [] (fun f vs => PySem.call f vs) := by
  refine Att.attach_call hn hdf fun w s₀ s₁ mg mb fa o pm cd doc a vs ns G Y ho hd hcd hmg hobj hints hlen hg => ?_
  obtain ⟨K, fd, sp, KX, hb, hsp, hF⟩ := F w mg fa _ Y G.T.g hmg
  refine law_call KX G.T.g G.T.b G.T.builtins G.T.nolimit hg hobj hints (Nat.le_trans hlen hn2) hr hF hb (fun H hO hS => hsp H a ns hlen hS) fun H e s' h => ?_
  obtain ⟨_, _, _, _, _, _, _, _, _, _, _, _, z⟩ := h
  exact z
/-! ### the hook: what the heap says behind the top, and that no list is part of what is read -/
def noL (K : PySem.W.Frag) : Bool := K.all fun p => !(p.2.cls == Value.type "list")
theorem noL_at {K : PySem.W.Frag} {a : Addr} {o : Obj} (h : noL K = true) (e : K.lookup a = some o) : o.cls ≠ .type "list" := by
  have hm : (a, o) ∈ K := by
    clear h
    induction K with
    | nil => cases e
    | cons p K ih =>
      obtain ⟨b, u⟩ := p
      by_cases hb : a = b
      · subst hb
        rw [List.lookup_cons_self] at e
        cases e
        exact List.mem_cons_self
      · have : (a == b) = false := beq_false_of_ne hb
        rw [List.lookup_cons, this] at e
        exact List.mem_cons_of_mem _ (ih e)
  have q := List.all_eq_true.mp h _ hm
  intro z
  rw [z] at q
  simp at q
/-- what is read, without lists -/
def frZ (g : Addr → Option Obj) (as : List Addr) : PySem.W.Frag := (He.frG g as).filter fun p => !(p.2.cls == Value.type "list")
theorem frG_mem {g : Addr → Option Obj} {as : List Addr} {p : Addr × Obj} (h : p ∈ He.frG g as) : g p.1 = some p.2 := by
  unfold He.frG at h
  obtain ⟨a, _, e⟩ := List.mem_filterMap.mp h
  cases q : g a with
  | none => rw [q] at e; cases e
  | some o => rw [q] at e; cases e; exact q
theorem lookup_mem {K : PySem.W.Frag} {a : Addr} {o : Obj} (e : K.lookup a = some o) : (a, o) ∈ K := by
  induction K with
  | nil => cases e
  | cons p K ih =>
    obtain ⟨b, u⟩ := p
    by_cases hb : a = b
    · subst hb
      rw [List.lookup_cons_self] at e
      cases e
      exact List.mem_cons_self
    · have : (a == b) = false := beq_false_of_ne hb
      rw [List.lookup_cons, this] at e
      exact List.mem_cons_of_mem _ (ih e)
theorem frZ_in {as : List Addr} {h : Heap} : (frZ h.get? as).In h := fun _ _ e => frG_mem (p := (_, _)) (List.mem_filter.mp (lookup_mem e)).1
theorem frZ_noL {g : Addr → Option Obj} {as : List Addr} : noL (frZ g as) = true := List.all_eq_true.mpr fun p hp => (List.mem_filter.mp hp).2
def obsZG (n : Nat) (fa : List He.Fa) (fn : List He.DefD) (g : Addr → Option Obj) : He.AlD := He.obsD fa fn (frZ g (He.asD g n))
def SaysZ (fa : List He.Fa) (fn : List He.DefD) (K : PySem.W.Frag) : Prop := He.SaysD fa fn K ∧ noL K = true
def hookZ (n : Nat) (fa : List He.Fa) (fn : List He.DefD) : PySem.W.Hook where
  α := He.AlD
  obs := fun s => obsZG n fa fn s.heap.get?
  val := fun _ => He.valD fn
  says := fun _ h => ∃ K : PySem.W.Frag, K.In h ∧ SaysZ fa fn K
  of := fun _ _ e => ⟨_, frZ_in, e, frZ_noL⟩
  keeps := fun _ _ _ ⟨K, hK, c⟩ k => ⟨K, PySem.W.Frag.In.keeps hK k, c⟩
theorem obsZG_eq {n : Nat} {fa : List He.Fa} {fn : List He.DefD} {g : Addr → Option Obj} {s : Shared} (h : ∀ a, g a = s.heap.get? a) : obsZG n fa fn g = (hookZ n fa fn).obs s := by
  have e : g = s.heap.get? := funext h
  rw [e] <;> rfl
/-- the law's def, given its script -/
theorem law_says {mg : Str → Option Value} {m : Fn} {K : PySem.W.Frag} {H : Hp} {a : Addr} {ns : List Int} (hS : SqL K H a (ns.map V.int)) (hk : noL K = true) (hm : ∃ ps', m [.frz (.scr ns)] = some (.ret (.frz (.bl true)) ps')) :
    spD mg m [.ref a] H (fun v _ => v = .bl true) fun _ _ _ => False := by
  obtain ⟨ps', hm⟩ := hm
  refine ⟨⟨fun _ => False, fun _ => none, false⟩, ⟨fun _ => False, fun _ => none, false⟩, [.frz (.scr ns)], ⟨rfl, fun i t e => ?_, fun _ z => (Or.elim z id id : False).elim, fun _ z => z.elim, fun i j s t b hij e1 e2 w1 w2 => ?_, fun i j s cs n b e1 w1 _ _ z => (nomatch z), fun i j cs cs' e1 => by cases i <;> cases e1⟩, rfl, fun s z => by rcases List.mem_cons.mp z with e | z; exact e ▸ rfl; exact (List.not_mem_nil z).elim, ?_⟩
  · cases i with
    | zero =>
      cases e
      refine ⟨.ref a, rfl, a, rfl, ?_, fun z => Or.elim z id id⟩
      rcases hS with h | ⟨o, its, n, h, c, _⟩
      · exact h
      · exact absurd c (noL_at hk h)
    | succ i => simp at e
  · cases i with
    | zero => cases e1; cases w1
    | succ i => simp at e1
  · rw [hm]
    exact fun W' H' v _ _ hv => hv.2
end Dz
/-! Dz 14: the words that a generated text uses. -/
namespace Dz
open PySem PySem.Spec PyProof.Rows L2
section
variable {X : Cx} {Wx : WX} {a b e : Expr} {es : List Expr} {os : List Opd} {o1 o2 : Opd} {pos p p2 : Pos} {x : Str} {fe : M R} {fs : List (M R)} {i : Nat}
theorem do_ev {f : M R} (h : DE X Wx e f) : DO X Wx e (.ev f) := h
theorem do_sl (h : PE X e (tVar i)) : DO X Wx e (.sl i) := h
theorem da_val {f : M R} (h : DE X Wx e f) : DA X Wx e (.val f) := h
theorem da_bor (h : PE X e (tVar i)) : DA X Wx e (.bor i) := h
theorem da_lent (h : PE X e (tVar i)) : DA X Wx e (.lent i) := h
theorem da_cel {hi : Nat} {f : M R} (h : DE X Wx e f) : DA X Wx e (.cel hi f) := h
theorem dp_no : DP X Wx none .no := trivial
theorem dp_op {f : M R} (h : DE X Wx e f) : DP X Wx (some e) (.op f) := h
theorem u64 {j : Nat} {A : Around} (h : Room j A) : A.units + 64 < cLine := by have := h.un; omega
theorem u65 {j : Nat} {A : Around} (h : Room j A) : A.units + 65 < cLine := by have := h.un; omega
theorem u1 {j : Nat} {A : Around} (h : Room j A) : A.units + 1 < cLine := by have := h.un; omega
theorem de_max (hc : X.calm = true) (hg : Gl X "max") (hm : X.mg "max" = none) (ha : DOs X Wx (e :: es) os)
    (he : starEach (e :: es) X.env = (false, eval e X.env) :: starEach es X.env := by rfl) (hpl : (backTo pos (starEach es X.env)).any (·.1) = false := by rfl) : DE X Wx (.Call (.Name "max" p) (e :: es) [] pos) (fL os maxD) :=
  de_callB (callR_or (call_max2 hc) (cr_max hc)) vl_max hg hm boot_max ha (by decide) (by decide) he hpl
theorem de_min (hc : X.calm = true) (hg : Gl X "min") (hm : X.mg "min" = none) (ha : DOs X Wx (e :: es) os)
    (he : starEach (e :: es) X.env = (false, eval e X.env) :: starEach es X.env := by rfl) (hpl : (backTo pos (starEach es X.env)).any (·.1) = false := by rfl) : DE X Wx (.Call (.Name "min" p) (e :: es) [] pos) (fL os minD) :=
  de_callB (callR_or (call_min2 hc) (cr_min hc)) vl_min hg hm boot_min ha (by decide) (by decide) he hpl
theorem de_sum (hc : X.calm = true) (hg : Gl X "sum") (hm : X.mg "sum" = none) (ha : DOs X Wx (e :: es) os)
    (he : starEach (e :: es) X.env = (false, eval e X.env) :: starEach es X.env := by rfl) (hpl : (backTo pos (starEach es X.env)).any (·.1) = false := by rfl) : DE X Wx (.Call (.Name "sum" p) (e :: es) [] pos) (fL os sumD) :=
  de_callB (cr_sum hc) vl_sum hg hm boot_sum ha (by decide) (by decide) he hpl
theorem de_all (hc : X.calm = true) (hg : Gl X "all") (hm : X.mg "all" = none) (ha : DOs X Wx (e :: es) os)
    (he : starEach (e :: es) X.env = (false, eval e X.env) :: starEach es X.env := by rfl) (hpl : (backTo pos (starEach es X.env)).any (·.1) = false := by rfl) : DE X Wx (.Call (.Name "all" p) (e :: es) [] pos) (fL os allD) :=
  de_callB (cr_all hc) vl_all hg hm boot_all ha (by decide) (by decide) he hpl
theorem de_any (hc : X.calm = true) (hg : Gl X "any") (hm : X.mg "any" = none) (ha : DOs X Wx (e :: es) os)
    (he : starEach (e :: es) X.env = (false, eval e X.env) :: starEach es X.env := by rfl) (hpl : (backTo pos (starEach es X.env)).any (·.1) = false := by rfl) : DE X Wx (.Call (.Name "any" p) (e :: es) [] pos) (fL os anyD) :=
  de_callB (cr_any hc) vl_any hg hm boot_any ha (by decide) (by decide) he hpl
theorem de_abs (hc : X.calm = true) (hg : Gl X "abs") (hm : X.mg "abs" = none) (ha : DOs X Wx (e :: es) os)
    (he : starEach (e :: es) X.env = (false, eval e X.env) :: starEach es X.env := by rfl) (hpl : (backTo pos (starEach es X.env)).any (·.1) = false := by rfl) : DE X Wx (.Call (.Name "abs" p) (e :: es) [] pos) (fL os absD) :=
  de_callB call_abs vl_abs hg hm boot_abs ha (by decide) (by decide) he hpl
theorem de_intC (hc : X.calm = true) (hg : Gl X "int") (hm : X.mg "int" = none) (ha : DOs X Wx (e :: es) os)
    (he : starEach (e :: es) X.env = (false, eval e X.env) :: starEach es X.env := by rfl) (hpl : (backTo pos (starEach es X.env)).any (·.1) = false := by rfl) : DE X Wx (.Call (.Name "int" p) (e :: es) [] pos) (fL os intD) :=
  de_callTy call_int1 vl_int hg hm boot_int ha (by decide) (by decide) he hpl
theorem de_strC (hc : X.calm = true) (hg : Gl X "str") (hm : X.mg "str" = none) (ha : DOs X Wx (e :: es) os)
    (he : starEach (e :: es) X.env = (false, eval e X.env) :: starEach es X.env := by rfl) (hpl : (backTo pos (starEach es X.env)).any (·.1) = false := by rfl) : DE X Wx (.Call (.Name "str" p) (e :: es) [] pos) (fL os strDm) :=
  de_callTy call_str_int vl_str hg hm boot_str ha (by decide) (by decide) he hpl
theorem de_tupleC (hc : X.calm = true) (hg : Gl X "tuple") (hm : X.mg "tuple" = none) (ha : DOs X Wx (e :: es) os)
    (he : starEach (e :: es) X.env = (false, eval e X.env) :: starEach es X.env := by rfl) (hpl : (backTo pos (starEach es X.env)).any (·.1) = false := by rfl) : DE X Wx (.Call (.Name "tuple" p) (e :: es) [] pos) (fL os tupleD) :=
  de_callTy call_tupleZ vl_tuple hg hm boot_tuple ha (by decide) (by decide) he hpl
theorem de_listC (hc : X.calm = true) (hg : Gl X "list") (hm : X.mg "list" = none) (ha : DOs X Wx (e :: es) os)
    (he : starEach (e :: es) X.env = (false, eval e X.env) :: starEach es X.env := by rfl) (hpl : (backTo pos (starEach es X.env)).any (·.1) = false := by rfl) : DE X Wx (.Call (.Name "list" p) (e :: es) [] pos) (fL os listD) :=
  de_callTy call_list_of vl_list hg hm boot_list ha (by decide) (by decide) he hpl
/-! ### a call with a value of its own lent out: the name at i is no name of the program -/
def wipe1 {α : Type} (i : Nat) (g : M α) : M α := fun ρ =>
  match g ρ with
  | some (.ok a ρ') => some (.ok a (ρ'.set i .emp))
  | some (.err e ρ') => some (.err e (ρ'.set i .emp))
  | none => none
def putT (i : Nat) (r : R) : M Unit := fun ρ =>
  match r, ρ[i]? with
  | .own d, some .emp => some (.ok () (ρ.set i (.own d)))
  | _, _ => none
def isEmp (ρ : Env) (i : Nat) : Bool :=
  match ρ[i]? with
  | some .emp => true
  | _ => false
def fCallT (i : Nat) (m : Fn) (f : M R) (cs : List CA) : M R := fun ρ =>
  if isEmp ρ i then mbind f (fun r => wipe1 i (mbind (putT i r) fun _ => fCall m (.lent i :: cs))) ρ else none
theorem isEmp_at {ρ : Env} {i : Nat} (h : isEmp ρ i = true) : ρ[i]? = some .emp := by
  unfold isEmp at h
  split at h
  · assumption
  · cases h
theorem putT_ok {i : Nat} {r : R} {ρ : Env} {o : Res Unit} (h : putT i r ρ = some o) : ∃ d, r = .own d ∧ ρ[i]? = some .emp ∧ o = .ok () (ρ.set i (.own d)) := by
  unfold putT at h
  split at h
  · rename_i d e
    cases h
    exact ⟨d, rfl, e, rfl⟩
  · cases h
theorem Evo.unT {ρ ρ1 : Env} {i : Nat} {d : D} (e : ρ[i]? = some .emp) (h : Evo (ρ.set i (.own d)) ρ1) : Evo ρ (ρ1.set i .emp) := by
  have hi : i < ρ.length := (List.getElem?_eq_some_iff.mp e).1
  have h0 : Evo ρ (ρ.set i (.own d)) := .set e (fun _ z => nomatch z) (fun _ z => nomatch z) (fun _ z => nomatch z)
  have h1 := h0.trans h
  have hl : i < ρ1.length := by rw [h1.len]; exact hi
  refine h1.trans (.set (List.getElem?_eq_getElem hl) (fun d' z => ?_) (fun _ z => nomatch z) (fun _ z => nomatch z) (fun d' z => ?_))
  · obtain ⟨d2, e2⟩ := h1.tnel i d' (by rw [List.getElem?_eq_getElem hl, z])
    rw [e] at e2
    cases e2
  · obtain ⟨d2, e2⟩ := h1.ph i d' (by rw [List.getElem?_eq_getElem hl, z])
    rw [e] at e2
    cases e2
theorem evo_callT {m : Fn} {f : M R} {cs : List CA} (hf : EvoF f) (hc : ∀ c ∈ cs, c.Evo) : EvoF (fCallT i m f cs) := fun ρ o h => by
  unfold fCallT at h
  split at h
  · refine evo_bind (g := fun r => wipe1 i (mbind (putT i r) fun _ => fCall m (.lent i :: cs))) hf (fun r ρ1 o1 h1 => ?_) ρ o h
    have hc' : ∀ c ∈ CA.lent i :: cs, c.Evo := fun c z => by
      rcases List.mem_cons.mp z with e | z
      · rw [e]; trivial
      · exact hc c z
    unfold wipe1 at h1
    cases q : mbind (putT i r) (fun _ => fCall m (.lent i :: cs)) ρ1 with
    | none => rw [q] at h1; cases h1
    | some y =>
      rw [q] at h1
      unfold mbind at q
      cases q2 : putT i r ρ1 with
      | none => rw [q2] at q; cases q
      | some z =>
        obtain ⟨d, er, e, ez⟩ := putT_ok q2
        rw [q2, ez] at q
        rw [← fCallX_false (hi := 0)] at q
        have ev := (evo_callX hc' fun ps ρ ρ' h => evC_lok hc' h) _ _ q
        cases y with
        | ok a ρ' => cases h1; exact Evo.unT e ev
        | err x ρ' => cases h1; exact Evo.unT e ev
  · cases h
theorem St.unhide {W B : AP mg} {σ : L2.St} {H : Hp} {ρ : Env} {v : Option V} (h : St W B (σ.set i v) H ρ) : St W B σ H (ρ.set i .emp) := by
  have key : ∀ (j : Nat) (t : Slot), (ρ.set i .emp)[j]? = some t → (t = .emp) ∨ (i ≠ j ∧ ρ[j]? = some t) := fun j t e => by
    by_cases hj : i = j
    · subst hj
      have hl : i < ρ.length := by have := (List.getElem?_eq_some_iff.mp e).1; simpa using this
      rw [List.getElem?_set_self hl] at e
      cases e
      exact .inl rfl
    · rw [List.getElem?_set_ne hj] at e
      exact .inr ⟨hj, e⟩
  have nh : ∀ (j : Nat) (cs : List D), (ρ.set i .emp)[j]? = some (Slot.hp cs) → ρ[j]? = some (Slot.hp cs) := fun j cs e => by
    rcases key j _ e with z | z
    · cases z
    · exact z.2
  refine ⟨by have := h.len; simpa using this, fun j t e => ?_, h.dom, h.dis, fun j k t t' a hjk p q w1 w2 x1 x2 => ?_, fun j k t cs n a p w1 x1 q e1 => ?_, fun j k cs cs' p q => h.hp1 j k cs cs' (nh j cs p) (nh k cs' q)⟩
  rotate_left 2
  · rcases key j t p with z | ⟨h1, p⟩
    · rw [z] at w1; cases w1
    · exact h.hpa j k t cs n a p w1 (by rw [sv_set_ne _ h1]; exact x1) (nh k cs q) e1
  · rcases key j t e with z | ⟨hj, e⟩
    · rw [z]; trivial
    · have q := h.slot j t e
      rwa [sv_set_ne _ hj] at q
  · rcases key j t p with z | ⟨h1, p⟩
    · rw [z] at w1; cases w1
    · rcases key k t' q with z | ⟨h2, q⟩
      · rw [z] at w2; cases w2
      · exact h.apart j k t t' a hjk p q w1 w2 (by rw [sv_set_ne _ h1]; exact x1) (by rw [sv_set_ne _ h2]; exact x2)
theorem St.hide {W B : AP mg} {σ : L2.St} {H : Hp} {ρ : Env} {v : Option V} (h : St W B σ H (ρ.set i .emp)) : True := trivial
theorem VOk.unhide {W B : AP mg} {σ : L2.St} {H : Hp} {ρ : Env} {v : V} {u : Option V} {r : R} (h : VOk W B (σ.set i u) H ρ v r) : VOk W B σ H (ρ.set i .emp) v r := by
  cases r with
  | frz d => exact ⟨h.1.unhide, h.2⟩
  | own d =>
    obtain ⟨a, e, wa, s, t, hn⟩ := h
    refine ⟨a, e, wa, s.unhide, t, fun j t e w => ?_, fun j cs n e e1 => ?_⟩
    rotate_left 1
    · by_cases hj : i = j
      · subst hj
        have hl : i < ρ.length := by have := (List.getElem?_eq_some_iff.mp e).1; simpa using this
        rw [List.getElem?_set_self hl] at e
        cases e
      · rw [List.getElem?_set_ne hj] at e
        exact hn.ce j cs n e e1
    by_cases hj : i = j
    · subst hj
      have hl : i < ρ.length := by have := (List.getElem?_eq_some_iff.mp e).1; simpa using this
      rw [List.getElem?_set_self hl] at e
      cases e
      cases w
    · rw [List.getElem?_set_ne hj] at e
      have := hn.nm j t e w
      rwa [sv_set_ne _ hj] at this
theorem spD_mono {mg : Str → Option Value} {m : Fn} {vs : List V} {H : Hp} {Q : VK} {E E' : XK} (h : spD mg m vs H Q E) (he : ∀ c d H, E c d H → E' c d H) : spD mg m vs H Q E' := by
  obtain ⟨W, B, ps, s, hh, no, k⟩ := h
  refine ⟨W, B, ps, s, hh, no, ?_⟩
  cases q : m ps with
  | none => rw [q] at k; exact k
  | some y =>
    rw [q] at k
    cases y with
    | ret r ps' => exact k
    | exc e ps' => exact fun W' H' c d f lk s' x => he _ _ _ (k W' H' c d f lk s' x)
theorem rd_callT {mg : Str → Option Value} {m : Fn} {f : M R} {cs : List CA} {σ : L2.St} {H : Hp} {Q : VK} (hc : ∀ c ∈ cs, c.Evo) (ok : okCA (.lent i :: cs) = true) (hw : ∀ c d σ σ' H, Wx c d σ H → Wx c d σ' H) (h : rdE mg Wx (fCallT i m f cs) σ H Q) :
    rdE mg Wx f σ H fun v H1 => rdC mg Wx cs (σ.set i (some v)) H1 fun vs H2 => spD mg m ((v :: vs) ++ []) H2 Q (fun c d H => Wx c d σ H) := by
  obtain ⟨W, B, ρ, s, a⟩ := h
  refine ⟨W, B, ρ, s, ?_⟩
  unfold fCallT at a
  split at a
  · refine (After.bind a).mono fun W1 H1 r ρ1 e1 fr a1 v hv => ?_
    unfold wipe1 at a1
    have a2 : After mg Wx W1 B (σ.set i (some v)) H1 (mbind (putT i r) (fun _ => fCall m (.lent i :: cs)) ρ1) fun W' H' r' ρ' => ∀ u, VOk W' B (σ.set i (some v)) H' ρ' u r' → Q u H' := by
      cases q : mbind (putT i r) (fun _ => fCall m (.lent i :: cs)) ρ1 with
      | none => rw [q] at a1; exact a1.elim
      | some y =>
        rw [q] at a1
        cases y with
        | ok r' ρ' => exact fun W' H' f' u hu => a1 W' H' f' u hu.unhide
        | err e ρ' => exact fun W' H' c d f' s' x => hw _ _ _ _ _ (a1 W' H' c d f' s'.unhide x)
    have a3 := After.bind a2
    cases q2 : putT i r ρ1 with
    | none => rw [q2] at a3; exact a3.elim
    | some z =>
      obtain ⟨d, er, e, ez⟩ := putT_ok q2
      rw [q2, ez] at a3
      subst er
      have hi : i < ρ1.length := (List.getElem?_eq_some_iff.mp e).1
      have st := St.store (i := i) hv hi
      have hσ : i < σ.length := by rw [hv.st.len]; exact hi
      have k := rd_callX (b := false) (hi := 0) (m := m) ok (by unfold okB; rfl) (by rw [fCallX_false]; exact (⟨W1, B, _, st, After.here a3⟩ : rdE mg Wx (fCall m (.lent i :: cs)) (σ.set i (some v)) H1 Q))
      obtain ⟨x, ex, k⟩ := rdC_cons (c := .lent i) trivial k
      have : x = v := by
        have := sv_set (σ := σ) (i := i) (some v) hσ
        have e2 := sv_of ex
        rw [this] at e2
        cases e2
        rfl
      subst this
      obtain ⟨W2, B2, ρ2, s2, k⟩ := k
      exact ⟨W2, B2, ρ2, s2, k.mono fun W3 H3 ps ρ3 _ _ k vs s3 A => spD_mono (k vs s3 A) fun c d H => hw _ _ _ _ _⟩
  · exact a.elim
theorem inv_hidden {pins : List (Addr × Obj)} {σ : L2.St} {H : Hp} {s : Shared} {v : Option V} {z : Str} (I : Inv X pins σ H s) (hz : X.N[i]? = some z) (hv : ¬ Vis X.env.scope z) : Inv X pins (σ.set i v) H s := by
  obtain ⟨m, hn, hl⟩ := I.loc
  refine ⟨I.ok, I.os, I.bare, I.base, ⟨m, hn, fun j x u e1 e2 vis => ?_⟩, I.cell, I.free, I.freeC, I.pin, I.hok, by rw [List.length_set]; exact I.len⟩
  by_cases hj : i = j
  · subst hj
    rw [hz] at e1
    cases e1
    exact absurd vis hv
  · rw [List.getElem?_set_ne hj] at e2
    exact hl j x u e1 e2 vis
theorem set_back {σ : L2.St} {v : Option V} (h : i < σ.length) : (σ.set i v).set i (σ.getD i none) = σ := by
  rw [List.set_set]
  apply List.ext_getElem?
  intro j
  by_cases hj : i = j
  · subst hj
    rw [List.getElem?_set_self h, List.getD_eq_getElem?_getD, List.getElem?_eq_getElem h]
    rfl
  · rw [List.getElem?_set_ne hj]
theorem pa_consH {te : TE} {ta : TA} {z : Str} (hz : X.N[i]? = some z) (hv : ¬ Vis X.env.scope z) (h1 : PE X e te) (h2 : PA X es ta) (hs : starEach (e :: es) X.env = (false, eval e X.env) :: starEach es X.env := by rfl) :
    PA X (e :: es) (fun σ H Q => te σ H fun x H1 => ta (σ.set i (some x)) H1 fun xs H2 => Q (x :: xs) H2) := by
  refine ⟨fun pos pins s σ H Q I h => ?_⟩
  rw [hs]
  show wpAny _ _ (spliced ((false, eval e X.env) :: backTo pos (starEach es X.env))) _ _ s
  refine Calls.spliced_cons (thn (h1.run pins s σ H _ I h) fun u s1 ⟨x, H1, I1, r1, q1⟩ => ?_)
  refine thn (h2.run pos pins s1 _ H1 _ (inv_hidden I1 hz hv) q1) fun us s2 ⟨xs, H2, I2, r2, q2⟩ => ⟨x :: xs, H2, ?_, .cons r1 r2, q2⟩
  have hl : i < σ.length := by rw [I1.len]; exact (List.getElem?_eq_some_iff.mp hz).1
  have := inv_hidden (v := σ.getD i none) I2 hz hv
  rwa [set_back hl] at this
theorem hid_of {sc : Scope} {z : Str} (h : sc.names.lookup z = none) : ¬ Vis sc z := fun v => by
  rcases v with v | v | v <;> rw [h] at v <;> cases v
theorem de_callT {m : Fn} {f : M R} {cs : List CA} {z : Str} {k j : Nat} (c : Callee X.prog X.w X.K X.mg X.base k x m) (hr : Room j X.A) (hk : k ≤ j) (tk : Takes X Wx) (hg : Gl X x) (hz : X.N[i]? = some z) (hv : ¬ Vis X.env.scope z) (hw : ∀ c d σ σ' H, Wx c d σ H → Wx c d σ' H)
    (h1 : DE X Wx a f) (ha : DCs X Wx es cs) (ok : okCA (.lent i :: cs) = true := by rfl) (hdb : (x == ("__debug__" : Str)) = false := by decide)
    (he : starEach (a :: es) X.env = (false, eval a X.env) :: starEach es X.env := by rfl) (hpl : (backTo pos (starEach es X.env)).any (·.1) = false := by rfl) : DE X Wx (.Call (.Name x p) (a :: es) [] pos) (fCallT i m f cs) := by
  obtain ⟨g, fd, ps, F, hm, kp, hb⟩ := c.ex
  exact ⟨pe_imp (pe_callSD (E := fun σ c d H => Wx c d σ H) F (hr.mono hk) hg hm kp hb .nil (fun σ => L2.passAt tk σ) (pa_consH hz hv h1.pe ha.pa he) hdb he hpl) fun σ H Q q => rd_callT ha.evo ok hw q, evo_callT h1.evo ha.evo⟩
end
end Dz
/-! Dz 15: how the semantic functions are reckoned with (no program in sight). -/
namespace Dz
open PySem PySem.Spec PyProof.Rows L2
/-- f ends well, so that Q -/
def Ok0 {α : Type} (f : M α) (ρ : Env) (Q : α → Env → Prop) : Prop := ∃ a ρ', f ρ = some (.ok a ρ') ∧ Q a ρ'
def COk0 (m : Fn) (ps : List Slot) (Q : R → List Slot → Prop) : Prop := ∃ r ps', m ps = some (.ret r ps') ∧ Q r ps'
theorem Ok0.mono {α : Type} {f : M α} {ρ : Env} {Q Q' : α → Env → Prop} (h : Ok0 f ρ Q) (hq : ∀ a ρ', Q a ρ' → Q' a ρ') : Ok0 f ρ Q' := let ⟨a, ρ', e, q⟩ := h; ⟨a, ρ', e, hq a ρ' q⟩
theorem COk0.mono {m : Fn} {ps : List Slot} {Q Q' : R → List Slot → Prop} (h : COk0 m ps Q) (hq : ∀ a ρ', Q a ρ' → Q' a ρ') : COk0 m ps Q' := let ⟨a, ρ', e, q⟩ := h; ⟨a, ρ', e, hq a ρ' q⟩
section
variable {α β : Type} {ρ : Env}
@[simp ↓] theorem ok0_bind {f : M α} {g : α → M β} {Q : β → Env → Prop} : Ok0 (mbind f g) ρ Q ↔ Ok0 f ρ fun a ρ' => Ok0 (g a) ρ' Q := by
  constructor
  · rintro ⟨b, ρ2, e, q⟩
    obtain ⟨a, ρ1, e1, e2⟩ := mbind_ok e
    exact ⟨a, ρ1, e1, b, ρ2, e2, q⟩
  · rintro ⟨a, ρ1, e1, b, ρ2, e2, q⟩
    refine ⟨b, ρ2, ?_, q⟩
    unfold mbind
    rw [e1]
    exact e2
@[simp ↓] theorem ok0_ret {a : α} {Q : α → Env → Prop} : Ok0 (mret a) ρ Q ↔ Q a ρ := by
  constructor
  · rintro ⟨b, ρ2, e, q⟩
    cases e
    exact q
  · exact fun q => ⟨a, ρ, rfl, q⟩
@[simp ↓] theorem ok0_opt {o : Option α} {Q : α → Env → Prop} : Ok0 (mopt o) ρ Q ↔ ∃ a, o = some a ∧ Q a ρ := by
  constructor
  · rintro ⟨b, ρ2, e, q⟩
    cases o with
    | none => cases e
    | some a => cases e; exact ⟨b, rfl, q⟩
  · rintro ⟨a, e, q⟩
    subst e
    exact ⟨a, ρ, rfl, q⟩
@[simp ↓] theorem ok0_none {Q : α → Env → Prop} : Ok0 (fun _ => none) ρ Q ↔ False := ⟨fun ⟨_, _, e, _⟩ => (nomatch e), False.elim⟩
theorem ok0_is {f : M α} {a : α} {ρ' : Env} {Q : α → Env → Prop} (e : f ρ = some (.ok a ρ')) : Ok0 f ρ Q ↔ Q a ρ' := by
  constructor
  · rintro ⟨b, ρ2, e2, q⟩
    rw [e] at e2
    cases e2
    exact q
  · exact fun q => ⟨a, ρ', e, q⟩
theorem ok0_not {f : M α} {Q : α → Env → Prop} (e : f ρ = none) : Ok0 f ρ Q ↔ False := ⟨fun ⟨_, _, e2, _⟩ => (by rw [e] at e2; cases e2), False.elim⟩
@[simp ↓] theorem ok0_fIf {c : M Bool} {f g : M α} {Q : α → Env → Prop} : Ok0 (fIf c f g) ρ Q ↔ Ok0 c ρ fun k ρ' => if k = true then Ok0 f ρ' Q else Ok0 g ρ' Q := by
  unfold fIf
  rw [ok0_bind]
  constructor <;> rintro ⟨a, ρ1, e, q⟩ <;> refine ⟨a, ρ1, e, ?_⟩ <;> cases a <;> simpa using q
theorem ok0_ite {c : Bool} {f g : M α} {Q : α → Env → Prop} : Ok0 (if c = true then f else g) ρ Q ↔ if c = true then Ok0 f ρ Q else Ok0 g ρ Q := by cases c <;> simp
end
section
variable {ρ : Env}
@[simp ↓] theorem ok0_seq {f g : M Fl} {Q : Fl → Env → Prop} : Ok0 (sSeq f g) ρ Q ↔ Ok0 f ρ fun fl ρ' => match fl with
    | .next => Ok0 g ρ' Q
    | fl => Q fl ρ' := by
  unfold sSeq
  rw [ok0_bind]
  constructor <;> rintro ⟨a, ρ1, e, q⟩ <;> refine ⟨a, ρ1, e, ?_⟩ <;> cases a <;> simpa using q
@[simp ↓] theorem ok0_fC {d : D} {Q : R → Env → Prop} : Ok0 (fC d) ρ Q ↔ Q (.frz d) ρ := ok0_ret
@[simp ↓] theorem ok0_fName {i : Nat} {Q : R → Env → Prop} : Ok0 (fName i) ρ Q ↔ match ρ[i]? with
    | some (.frz d) => Q (.frz d) ρ
    | some (.own d) => Q (.frz d) (ρ.set i (.frz d))
    | _ => False := by
  cases h : ρ[i]? with
  | none => exact ok0_not (by unfold fName; rw [h])
  | some s => cases s <;> first | exact ok0_is (by unfold fName; rw [h]) | exact ok0_not (by unfold fName; rw [h])
@[simp ↓] theorem ok0_fMove {i : Nat} {Q : R → Env → Prop} : Ok0 (fMove i) ρ Q ↔ match ρ[i]? with
    | some (.frz d) => Q (.frz d) ρ
    | some (.own d) => Q (.own d) (ρ.set i .emp)
    | _ => False := by
  cases h : ρ[i]? with
  | none => exact ok0_not (by unfold fMove; rw [h])
  | some s => cases s <;> first | exact ok0_is (by unfold fMove; rw [h]) | exact ok0_not (by unfold fMove; rw [h])
@[simp ↓] theorem ok0_evs_nil {Q : List D → Env → Prop} : Ok0 (evs []) ρ Q ↔ Q [] ρ := ok0_ret
@[simp ↓] theorem ok0_evs_ev {f : M R} {os : List Opd} {Q : List D → Env → Prop} : Ok0 (evs (.ev f :: os)) ρ Q ↔ Ok0 f ρ fun r ρ1 => Ok0 (evs os) ρ1 fun ds ρ2 => Q (r.d :: ds) ρ2 := by
  show Ok0 (mbind f fun r => mbind (evs os) fun ds => mret (r.d :: ds)) ρ Q ↔ _
  simp
@[simp ↓] theorem ok0_evs_sl {i : Nat} {os : List Opd} {Q : List D → Env → Prop} : Ok0 (evs (.sl i :: os)) ρ Q ↔ (contAt ρ i).isSome = true ∧ Ok0 (evs os) ρ fun ds ρ2 => ∃ d, contAt ρ2 i = some d ∧ Q (d :: ds) ρ2 := by
  show Ok0 (mbind (needSl i) fun _ => mbind (evs os) fun ds => getSl i ds) ρ Q ↔ _
  rw [ok0_bind]
  constructor
  · rintro ⟨_, ρ1, e, q⟩
    unfold needSl at e
    split at e
    · rename_i d hd
      cases e
      refine ⟨by rw [hd]; rfl, ?_⟩
      refine (ok0_bind.mp q).mono fun ds ρ2 h => ?_
      obtain ⟨x, ρ3, e, h⟩ := h
      unfold getSl at e
      split at e
      · rename_i d2 hd2
        cases e
        exact ⟨d2, hd2, h⟩
      · cases e
    · cases e
  · rintro ⟨h1, q⟩
    obtain ⟨d, hd⟩ := Option.isSome_iff_exists.mp h1
    refine ⟨(), ρ, by unfold needSl; rw [hd], ok0_bind.mpr (q.mono fun ds ρ2 ⟨d2, hd2, h⟩ => ⟨d2 :: ds, ρ2, by unfold getSl; rw [hd2], h⟩)⟩
@[simp ↓] theorem ok0_f2 {o1 o2 : Opd} {g : D → D → Option R} {Q : R → Env → Prop} : Ok0 (f2 o1 o2 g) ρ Q ↔ Ok0 (evs [o1, o2]) ρ fun ds ρ' => ∃ r, ap2 g ds = some r ∧ Q r ρ' := by
  unfold f2
  simp only [ok0_bind, ok0_opt]
@[simp ↓] theorem ok0_f1 {o1 : Opd} {g : D → Option R} {Q : R → Env → Prop} : Ok0 (f1 o1 g) ρ Q ↔ Ok0 (evs [o1]) ρ fun ds ρ' => ∃ r, ap1 g ds = some r ∧ Q r ρ' := by
  unfold f1
  simp only [ok0_bind, ok0_opt]
@[simp ↓] theorem ok0_fL {os : List Opd} {g : List D → Option R} {Q : R → Env → Prop} : Ok0 (fL os g) ρ Q ↔ Ok0 (evs os) ρ fun ds ρ' => ∃ r, g ds = some r ∧ Q r ρ' := by
  unfold fL
  simp only [ok0_bind, ok0_opt]
@[simp] theorem ap2_eq {g : D → D → Option R} {a b : D} : ap2 g [a, b] = g a b := rfl
@[simp] theorem ap1_eq {g : D → Option R} {a : D} : ap1 g [a] = g a := rfl
@[simp] theorem rd_frz {d : D} : (R.frz d).d = d := rfl
@[simp] theorem rd_own {d : D} : (R.own d).d = d := rfl
@[simp] theorem slotOf_frz {d : D} : slotOf (.frz d) = .frz d := rfl
@[simp] theorem slotOf_own {d : D} : slotOf (.own d) = .own d := rfl
@[simp] theorem cont_frz {d : D} : (Slot.frz d).cont = some d := rfl
@[simp] theorem cont_own {d : D} : (Slot.own d).cont = some d := rfl
@[simp] theorem cont_bor {d : D} : (Slot.bor d).cont = some d := rfl
@[simp] theorem cont_lent {d : D} : (Slot.lent d).cont = some d := rfl
@[simp] theorem cont_emp : Slot.emp.cont = none := rfl
@[simp] theorem contAt_zero {s : Slot} {ρ : Env} : contAt (s :: ρ) 0 = s.cont := rfl
@[simp] theorem contAt_succ {s : Slot} {ρ : Env} {i : Nat} : contAt (s :: ρ) (i + 1) = contAt ρ i := by unfold contAt; rw [List.getElem?_cons_succ]
@[simp ↓] theorem ok0_fB {f : M R} {Q : Bool → Env → Prop} : Ok0 (fB f) ρ Q ↔ Ok0 f ρ fun r ρ' => ∃ k, asB r = some k ∧ Q k ρ' := by
  unfold fB
  simp only [ok0_bind, ok0_opt]
@[simp] theorem asB_frz {k : Bool} : asB (.frz (.bl k)) = some k := rfl
@[simp ↓] theorem ok0_fAnd {f g : M Bool} {Q : Bool → Env → Prop} : Ok0 (fAnd f g) ρ Q ↔ Ok0 f ρ fun c ρ' => if c = true then Ok0 g ρ' Q else Q false ρ' := by
  unfold fAnd
  rw [ok0_bind]
  constructor <;> rintro ⟨a, ρ1, e, q⟩ <;> refine ⟨a, ρ1, e, ?_⟩ <;> cases a <;> simpa using q
@[simp ↓] theorem ok0_fOr {f g : M Bool} {Q : Bool → Env → Prop} : Ok0 (fOr f g) ρ Q ↔ Ok0 f ρ fun c ρ' => if c = true then Q true ρ' else Ok0 g ρ' Q := by
  unfold fOr
  rw [ok0_bind]
  constructor <;> rintro ⟨a, ρ1, e, q⟩ <;> refine ⟨a, ρ1, e, ?_⟩ <;> cases a <;> simpa using q
@[simp ↓] theorem ok0_fNot {f : M Bool} {Q : Bool → Env → Prop} : Ok0 (fNot f) ρ Q ↔ Ok0 f ρ fun c ρ' => Q (!c) ρ' := by
  unfold fNot
  simp only [ok0_bind, ok0_ret]
@[simp ↓] theorem ok0_fAndV {f g : M R} {Q : R → Env → Prop} : Ok0 (fAndV f g) ρ Q ↔ Ok0 f ρ fun r ρ' => ∃ k, asB r = some k ∧ if k = true then Ok0 g ρ' Q else Q (.frz (.bl false)) ρ' := by
  unfold fAndV
  simp only [ok0_bind, ok0_fB]
  constructor <;> rintro ⟨a, ρ1, e, k, ek, q⟩ <;> refine ⟨a, ρ1, e, k, ek, ?_⟩ <;> cases k <;> simpa using q
@[simp ↓] theorem ok0_fOrV {f g : M R} {Q : R → Env → Prop} : Ok0 (fOrV f g) ρ Q ↔ Ok0 f ρ fun r ρ' => ∃ k, asB r = some k ∧ if k = true then Q (.frz (.bl true)) ρ' else Ok0 g ρ' Q := by
  unfold fOrV
  simp only [ok0_bind, ok0_fB]
  constructor <;> rintro ⟨a, ρ1, e, k, ek, q⟩ <;> refine ⟨a, ρ1, e, k, ek, ?_⟩ <;> cases k <;> simpa using q
@[simp ↓] theorem ok0_fNotV {f : M R} {Q : R → Env → Prop} : Ok0 (fNotV f) ρ Q ↔ Ok0 f ρ fun r ρ' => ∃ k, asB r = some k ∧ Q (.frz (.bl (!k))) ρ' := by
  unfold fNotV
  simp only [ok0_bind, ok0_fB, ok0_ret]
@[simp ↓] theorem ok0_evF_nil {Q : List D → Env → Prop} : Ok0 (evF []) ρ Q ↔ Q [] ρ := ok0_ret
@[simp ↓] theorem ok0_evF_cons {f : M R} {fs : List (M R)} {Q : List D → Env → Prop} : Ok0 (evF (f :: fs)) ρ Q ↔ Ok0 f ρ fun r ρ1 => Ok0 (evF fs) ρ1 fun ds ρ2 => Q (r.d :: ds) ρ2 := by
  show Ok0 (mbind f fun r => mbind (evF fs) fun ds => mret (r.d :: ds)) ρ Q ↔ _
  simp
@[simp ↓] theorem ok0_fTup {fs : List (M R)} {Q : R → Env → Prop} : Ok0 (fTup fs) ρ Q ↔ Ok0 (evF fs) ρ fun ds ρ' => ds.length ≤ sizeLine ∧ Q (.frz (.tup ds)) ρ' := by
  unfold fTup
  simp only [ok0_bind, ok0_opt]
  constructor <;> rintro ⟨a, ρ1, e, q⟩ <;> refine ⟨a, ρ1, e, ?_⟩
  · obtain ⟨r, er, q⟩ := q
    split at er
    · rename_i h; cases er; exact ⟨h, q⟩
    · cases er
  · exact ⟨_, if_pos q.1, q.2⟩
@[simp ↓] theorem ok0_fLst {fs : List (M R)} {Q : R → Env → Prop} : Ok0 (fLst fs) ρ Q ↔ Ok0 (evF fs) ρ fun ds ρ' => ds.length ≤ sizeLine ∧ Q (.own (.lst ds)) ρ' := by
  unfold fLst
  simp only [ok0_bind, ok0_opt]
  constructor <;> rintro ⟨a, ρ1, e, q⟩ <;> refine ⟨a, ρ1, e, ?_⟩
  · obtain ⟨r, er, q⟩ := q
    split at er
    · rename_i h; cases er; exact ⟨h, q⟩
    · cases er
  · exact ⟨_, if_pos q.1, q.2⟩
@[simp ↓] theorem ok0_fI {f : M R} {Q : R → Env → Prop} : Ok0 (fI f) ρ Q ↔ Ok0 f ρ fun r ρ' => ∃ i, r = .frz (.int i) ∧ Q (.frz (.int i)) ρ' := by
  unfold fI
  rw [ok0_bind]
  constructor <;> rintro ⟨a, ρ1, e, q⟩ <;> refine ⟨a, ρ1, e, ?_⟩
  · unfold needInt at q
    split at q
    · rename_i i; exact ⟨i, rfl, ok0_ret.mp q⟩
    · exact (ok0_none.mp q).elim
  · obtain ⟨i, rfl, q⟩ := q
    exact ok0_ret.mpr q
@[simp ↓] theorem ok0_sAsg {i : Nat} {f : M R} {Q : Fl → Env → Prop} : Ok0 (sAsg i f) ρ Q ↔ Ok0 f ρ fun r ρ' => Ok0 (setSl i r) ρ' Q := by
  unfold sAsg
  rw [ok0_bind]
@[simp ↓] theorem ok0_setSl {i : Nat} {r : R} {Q : Fl → Env → Prop} : Ok0 (setSl i r) ρ Q ↔ match ρ[i]? with
    | some (.lent _) => False
    | some (.hp _) => False
    | some _ => Q .next (ρ.set i (slotOf r))
    | none => False := by
  cases h : ρ[i]? with
  | none => exact ok0_not (by unfold setSl; rw [h])
  | some s => cases s <;> first | exact ok0_is (by unfold setSl; rw [h]) | exact ok0_not (by unfold setSl; rw [h])
@[simp ↓] theorem ok0_sRet {f : M R} {Q : Fl → Env → Prop} : Ok0 (sRet f) ρ Q ↔ Ok0 f ρ fun r ρ' => Q (.ret r) ρ' := by
  unfold sRet
  simp only [ok0_bind, ok0_ret]
@[simp ↓] theorem ok0_sExpr {f : M R} {Q : Fl → Env → Prop} : Ok0 (sExpr f) ρ Q ↔ Ok0 f ρ fun _ ρ' => Q .next ρ' := by
  unfold sExpr
  simp only [ok0_bind, ok0_ret]
@[simp ↓] theorem ok0_needSl {i : Nat} {Q : Unit → Env → Prop} : Ok0 (needSl i) ρ Q ↔ (contAt ρ i).isSome = true ∧ Q () ρ := by
  cases h : contAt ρ i with
  | none => rw [ok0_not (by unfold needSl; rw [h])]; simp
  | some d => rw [ok0_is (by unfold needSl; rw [h])]; simp
@[simp ↓] theorem ok0_needW {i : Nat} {k : D → Bool} {Q : Unit → Env → Prop} : Ok0 (needW i k) ρ Q ↔ match ρ[i]? with
    | some (.own d) => k d = true ∧ Q () ρ
    | some (.lent d) => k d = true ∧ Q () ρ
    | _ => False := by
  cases h : ρ[i]? with
  | none => exact ok0_not (by unfold needW; rw [h])
  | some s =>
    cases s with
    | own d =>
      show _ ↔ k d = true ∧ Q () ρ
      cases hk : k d with
      | true => rw [ok0_is (a := ()) (ρ' := ρ) (by unfold needW; rw [h]; exact if_pos hk)]; simp
      | false => rw [ok0_not (by unfold needW; rw [h]; exact if_neg (by rw [hk]; simp))]; simp
    | lent d =>
      show _ ↔ k d = true ∧ Q () ρ
      cases hk : k d with
      | true => rw [ok0_is (a := ()) (ρ' := ρ) (by unfold needW; rw [h]; exact if_pos hk)]; simp
      | false => rw [ok0_not (by unfold needW; rw [h]; exact if_neg (by rw [hk]; simp))]; simp
    | _ => exact ok0_not (by unfold needW; rw [h])
@[simp ↓] theorem ok0_mutM {i : Nat} {g : D → Option (D × D)} {Q : R → Env → Prop} : Ok0 (mutM i g) ρ Q ↔ match ρ[i]? with
    | some (.own d) => ∃ p, g d = some p ∧ Q (.frz p.2) (ρ.set i (.own p.1))
    | some (.lent d) => ∃ p, g d = some p ∧ Q (.frz p.2) (ρ.set i (.lent p.1))
    | _ => False := by
  cases h : ρ[i]? with
  | none => exact ok0_not (by unfold mutM; rw [h])
  | some s =>
    cases s with
    | own d =>
      show _ ↔ ∃ p, g d = some p ∧ Q (.frz p.2) (ρ.set i (.own p.1))
      cases hk : g d with
      | some p => rw [ok0_is (a := .frz p.2) (ρ' := ρ.set i (.own p.1)) (by unfold mutM; rw [h]; simp [hk])]; simp
      | none => rw [ok0_not (by unfold mutM; rw [h]; simp [hk])]; simp
    | lent d =>
      show _ ↔ ∃ p, g d = some p ∧ Q (.frz p.2) (ρ.set i (.lent p.1))
      cases hk : g d with
      | some p => rw [ok0_is (a := .frz p.2) (ρ' := ρ.set i (.lent p.1)) (by unfold mutM; rw [h]; simp [hk])]; simp
      | none => rw [ok0_not (by unfold mutM; rw [h]; simp [hk])]; simp
    | _ => exact ok0_not (by unfold mutM; rw [h])
@[simp ↓] theorem ok0_sPut {i : Nat} {o : Opd} {f : M R} {g : D → D → D → Option D} {Q : Fl → Env → Prop} : Ok0 (sPut i o f g) ρ Q ↔ Ok0 f ρ fun r ρ1 => (contAt ρ1 i).isSome = true ∧ Ok0 (evs [o]) ρ1 fun ds ρ2 => Ok0 (mutM i (putD1 g r.d ds)) ρ2 fun _ ρ3 => Q .next ρ3 := by
  unfold sPut
  simp only [ok0_bind, ok0_ret, ok0_needSl]
@[simp ↓] theorem ok0_fMut {i : Nat} {fs : List (M R)} {g : List D → D → Option (D × D)} {Q : R → Env → Prop} : Ok0 (fMut i fs g) ρ Q ↔ Ok0 (needW i isLs) ρ fun _ ρ1 => Ok0 (evF fs) ρ1 fun ds ρ2 => Ok0 (mutM i (g ds)) ρ2 Q := by
  unfold fMut
  simp only [ok0_bind]
@[simp ↓] theorem ok0_fMutO {i : Nat} {os : List Opd} {g : List D → D → Option (D × D)} {Q : R → Env → Prop} : Ok0 (fMutO i os g) ρ Q ↔ Ok0 (needW i isLs) ρ fun _ ρ1 => Ok0 (evs os) ρ1 fun ds ρ2 => Ok0 (mutM i (g ds)) ρ2 Q := by
  unfold fMutO
  simp only [ok0_bind]
@[simp] theorem putD1_eq {g : D → D → D → Option D} {x j d : D} : putD1 g x [j] d = (g j x d).map fun d' => (d', .non) := rfl
@[simp ↓] theorem ok0_fJoin {f : M R} {o : Opd} {Q : R → Env → Prop} : Ok0 (fJoin f o) ρ Q ↔ Ok0 f ρ fun r ρ1 => ∃ x, r = .frz (.str x) ∧ Ok0 (f1 o (joinX x)) ρ1 Q := by
  unfold fJoin
  rw [ok0_bind]
  constructor <;> rintro ⟨a, ρ1, e, q⟩ <;> refine ⟨a, ρ1, e, ?_⟩
  · unfold jK at q
    split at q
    · rename_i x; exact ⟨x, rfl, q⟩
    · exact (ok0_none.mp q).elim
  · obtain ⟨x, rfl, q⟩ := q
    exact q
@[simp ↓] theorem ok0_fCh {g g' : D → D → Option R} {o1 o2 o3 : Opd} {Q : R → Env → Prop} : Ok0 (fCh g g' o1 o2 o3) ρ Q ↔ Ok0 (evs [o1, o2]) ρ fun ds ρ1 => ∃ p, chB g ds = some p ∧ if p.2 = true then Ok0 (evs [o3]) ρ1 fun es ρ2 => ∃ r, ap1 (g' p.1) es = some r ∧ Q r ρ2 else Q (.frz (.bl false)) ρ1 := by
  unfold fCh
  simp only [ok0_bind, ok0_opt]
  constructor <;> rintro ⟨a, ρ1, e, p, ep, q⟩ <;> refine ⟨a, ρ1, e, p, ep, ?_⟩ <;> unfold chK at * <;> cases h : p.2 <;> simp_all
@[simp] theorem chB_eq {g : D → D → Option R} {i j : Int} : chB g [.int i, .int j] = ((g (.int i) (.int j)).bind asB).map fun k => (.int j, k) := rfl
/-! ### calls -/
@[simp ↓] theorem ok0_evC_nil {Q : List Slot → Env → Prop} : Ok0 (evC []) ρ Q ↔ Q [] ρ := ok0_ret
@[simp ↓] theorem ok0_evC_val {f : M R} {cs : List CA} {Q : List Slot → Env → Prop} : Ok0 (evC (.val f :: cs)) ρ Q ↔ Ok0 f ρ fun r ρ1 => Ok0 (evC cs) ρ1 fun ps ρ2 => Q (.frz r.d :: ps) ρ2 := by
  show Ok0 (mbind f fun r => mbind (evC cs) fun ps => mret (.frz r.d :: ps)) ρ Q ↔ _
  simp
@[simp ↓] theorem ok0_getC {g : Slot → Option Slot} {i : Nat} {ps : List Slot} {Q : List Slot → Env → Prop} : Ok0 (getC g i ps) ρ Q ↔ ∃ s, slAt g i ρ = some s ∧ Q (s :: ps) ρ := by
  cases h : slAt g i ρ with
  | none => rw [ok0_not (by unfold getC; rw [h])]; simp
  | some s => rw [ok0_is (by unfold getC; rw [h])]; simp
@[simp ↓] theorem ok0_evC_bor {i : Nat} {cs : List CA} {Q : List Slot → Env → Prop} : Ok0 (evC (.bor i :: cs)) ρ Q ↔ (contAt ρ i).isSome = true ∧ Ok0 (evC cs) ρ fun ps ρ2 => ∃ s, slAt borSl i ρ2 = some s ∧ Q (s :: ps) ρ2 := by
  show Ok0 (mbind (needSl i) fun _ => mbind (evC cs) fun ps => getC borSl i ps) ρ Q ↔ _
  simp
@[simp ↓] theorem ok0_evC_lent {i : Nat} {cs : List CA} {Q : List Slot → Env → Prop} : Ok0 (evC (.lent i :: cs)) ρ Q ↔ (contAt ρ i).isSome = true ∧ Ok0 (evC cs) ρ fun ps ρ2 => ∃ s, slAt lentSl i ρ2 = some s ∧ Q (s :: ps) ρ2 := by
  show Ok0 (mbind (needSl i) fun _ => mbind (evC cs) fun ps => getC lentSl i ps) ρ Q ↔ _
  simp
@[simp] theorem slAt_zero {g : Slot → Option Slot} {s : Slot} : slAt g 0 (s :: ρ) = g s := rfl
@[simp] theorem slAt_succ {g : Slot → Option Slot} {s : Slot} {i : Nat} : slAt g (i + 1) (s :: ρ) = slAt g i ρ := by unfold slAt; rw [List.getElem?_cons_succ]
@[simp] theorem borSl_frz {d : D} : borSl (.frz d) = some (.frz d) := rfl
@[simp] theorem borSl_own {d : D} : borSl (.own d) = some (.bor d) := rfl
@[simp] theorem borSl_bor {d : D} : borSl (.bor d) = some (.bor d) := rfl
@[simp] theorem borSl_lent {d : D} : borSl (.lent d) = some (.bor d) := rfl
@[simp] theorem lentSl_own {d : D} : lentSl (.own d) = some (.lent d) := rfl
@[simp] theorem lentSl_lent {d : D} : lentSl (.lent d) = some (.lent d) := rfl
theorem ok0_callM {m : Fn} {cs : List CA} {ps : List Slot} {Q : R → Env → Prop} : Ok0 (callM m cs ps) ρ Q ↔ COk0 m ps fun r ps' => Q r (putC cs ps' ρ) := by
  unfold COk0
  cases h : m ps with
  | none => rw [ok0_not (by unfold callM; rw [h])]; simp
  | some x =>
    cases x with
    | ret r ps' =>
      rw [ok0_is (by unfold callM; rw [h])]
      constructor
      · exact fun q => ⟨r, ps', rfl, q⟩
      · rintro ⟨_, _, e2, q⟩
        cases e2
        exact q
    | exc e ps' =>
      constructor
      · rintro ⟨_, _, e2, _⟩
        unfold callM at e2
        rw [h] at e2
        cases e2
      · rintro ⟨_, _, e2, _⟩
        cases e2
@[simp ↓] theorem ok0_fCall {m : Fn} {cs : List CA} {Q : R → Env → Prop} : Ok0 (fCall m cs) ρ Q ↔ Ok0 (evC cs) ρ fun ps ρ1 => COk0 m ps fun r ps' => Q r (putC cs ps' ρ1) := by
  unfold fCall
  simp only [ok0_bind, ok0_callM]
@[simp] theorem putC_nil {ps : List Slot} : putC [] ps ρ = ρ := by cases ps <;> rfl
@[simp] theorem putC_lent {i : Nat} {cs : List CA} {d : D} {ps : List Slot} : putC (.lent i :: cs) (.lent d :: ps) ρ = putC cs ps (ρ.set i (relent ρ i d)) := rfl
@[simp] theorem putC_val {f : M R} {cs : List CA} {s : Slot} {ps : List Slot} : putC (.val f :: cs) (s :: ps) ρ = putC cs ps ρ := rfl
@[simp] theorem putC_bor {i : Nat} {cs : List CA} {s : Slot} {ps : List Slot} : putC (.bor i :: cs) (s :: ps) ρ = putC cs ps ρ := rfl
@[simp] theorem relent_own0 {d d' : D} : relent (.own d' :: ρ) 0 d = .own d := rfl
@[simp] theorem relent_lent0 {d d' : D} : relent (.lent d' :: ρ) 0 d = .lent d := rfl
@[simp] theorem relent_succ {s : Slot} {i : Nat} {d : D} : relent (s :: ρ) (i + 1) d = relent ρ i d := by unfold relent; rw [List.getElem?_cons_succ]
@[simp] theorem isEmp_zero : isEmp (.emp :: ρ) 0 = true := rfl
@[simp] theorem isEmp_succ {s : Slot} {i : Nat} : isEmp (s :: ρ) (i + 1) = isEmp ρ i := by unfold isEmp; rw [List.getElem?_cons_succ]
theorem ok0_fCallT {i : Nat} {m : Fn} {f : M R} {cs : List CA} {Q : R → Env → Prop} (he : isEmp ρ i = true) (h : Ok0 f ρ fun r ρ1 => ∃ d, r = .own d ∧ isEmp ρ1 i = true ∧ Ok0 (fCall m (.lent i :: cs)) (ρ1.set i (.own d)) fun r ρ2 => Q r (ρ2.set i .emp)) :
    Ok0 (fCallT i m f cs) ρ Q := by
  obtain ⟨r, ρ1, e, d, rfl, h2, a, ρ2, e2, q⟩ := h
  refine ⟨a, ρ2.set i .emp, ?_, q⟩
  unfold fCallT
  rw [if_pos he]
  unfold mbind
  rw [e]
  show wipe1 i (mbind (putT i (.own d)) fun _ => fCall m (.lent i :: cs)) ρ1 = _
  unfold wipe1
  have k : putT i (.own d) ρ1 = some (.ok () (ρ1.set i (.own d))) := by unfold putT; rw [isEmp_at h2]
  have : mbind (putT i (.own d)) (fun _ => fCall m (.lent i :: cs)) ρ1 = some (.ok a ρ2) := by
    unfold mbind
    rw [k]
    exact e2
  rw [this]
/-- a def -/
theorem cok0_fnA {a n : Nat} {b : M Fl} {ps : List Slot} {Q : R → List Slot → Prop} (hl : ps.length = a) (h : Ok0 b (ps ++ List.replicate (n - a) .emp) fun fl ρ' => match fl with
    | .ret r => Q r (outPs ps ρ')
    | .next => Q (.frz .non) (outPs ps ρ')
    | _ => False) : COk0 (fnA a n b) ps Q := by
  obtain ⟨fl, ρ', e, q⟩ := h
  unfold COk0 fnA
  rw [if_pos hl]
  unfold runF
  rw [hl, e]
  cases fl with
  | ret r => exact ⟨r, _, rfl, q⟩
  | next => exact ⟨_, _, rfl, q⟩
  | brk => exact q.elim
  | cont => exact q.elim
@[simp] theorem outP_lent {d d' : D} : outP (.lent d) (.lent d') = .lent d' := rfl
@[simp] theorem outP_frz {d : D} {s : Slot} : outP (.frz d) s = .frz d := by cases s <;> rfl
@[simp] theorem outP_bor {d : D} {s : Slot} : outP (.bor d) s = .bor d := by cases s <;> rfl
@[simp] theorem outPs_nil {ρ : Env} : outPs [] ρ = [] := rfl
@[simp] theorem outPs_cons {p s : Slot} {ps : List Slot} {ρ : Env} : outPs (p :: ps) (s :: ρ) = outP p s :: outPs ps ρ := rfl
/-! ### targets, walks -/
@[simp ↓] theorem ok0_setTg_nm {i : Nat} {d : D} {Q : Unit → Env → Prop} : Ok0 (setTg (.nm i) d) ρ Q ↔ Ok0 (setSl i (.frz d)) ρ fun _ ρ' => Q () ρ' := by
  show Ok0 (mbind (setSl i (.frz d)) fun _ => mret ()) ρ Q ↔ _
  simp only [ok0_bind, ok0_ret]
@[simp ↓] theorem ok0_setTg_tp {ts : List Tg} {ds : List D} {Q : Unit → Env → Prop} : Ok0 (setTg (.tp ts) (.tup ds)) ρ Q ↔ Ok0 (setTgs ts ds) ρ Q := Iff.rfl
@[simp ↓] theorem ok0_setTg_tpl {ts : List Tg} {ds : List D} {Q : Unit → Env → Prop} : Ok0 (setTg (.tp ts) (.tpl ds)) ρ Q ↔ Ok0 (setTgs ts ds) ρ Q := Iff.rfl
@[simp ↓] theorem ok0_setTgs_nil {Q : Unit → Env → Prop} : Ok0 (setTgs [] []) ρ Q ↔ Q () ρ := ok0_ret
@[simp ↓] theorem ok0_setTgs_cons {t : Tg} {ts : List Tg} {d : D} {ds : List D} {Q : Unit → Env → Prop} : Ok0 (setTgs (t :: ts) (d :: ds)) ρ Q ↔ Ok0 (setTg t d) ρ fun _ ρ' => Ok0 (setTgs ts ds) ρ' Q := by
  show Ok0 (mbind (setTg t d) fun _ => setTgs ts ds) ρ Q ↔ _
  rw [ok0_bind]
@[simp ↓] theorem ok0_sUnp {t : Tg} {f : M R} {Q : Fl → Env → Prop} : Ok0 (sUnp t f) ρ Q ↔ Ok0 f ρ fun r ρ' => Ok0 (setTg t r.d) ρ' fun _ ρ2 => Q .next ρ2 := by
  unfold sUnp
  simp only [ok0_bind, ok0_ret]
@[simp ↓] theorem ok0_fSrc {g : D → Option (List D)} {f : M R} {Q : List D → Env → Prop} : Ok0 (fSrc g f) ρ Q ↔ Ok0 f ρ fun r ρ' => ∃ ds, g r.d = some ds ∧ Q ds ρ' := by
  unfold fSrc
  simp only [ok0_bind, ok0_opt]
@[simp ↓] theorem ok0_fSrcB {g : D → Option (List D)} {i : Nat} {Q : List D → Env → Prop} : Ok0 (fSrcB g i) ρ Q ↔ match ρ[i]? with
    | some (.bor d) => ∃ ds, g d = some ds ∧ Q ds ρ
    | some (.frz d) => ∃ ds, g d = some ds ∧ Q ds ρ
    | _ => False := by
  cases h : ρ[i]? with
  | none => exact ok0_not (by unfold fSrcB; rw [h])
  | some s =>
    cases s with
    | bor d =>
      have e : fSrcB g i ρ = mopt (g d) ρ := by unfold fSrcB; rw [h]
      show Ok0 _ _ _ ↔ ∃ ds, g d = some ds ∧ Q ds ρ
      rw [← ok0_opt]
      unfold Ok0
      rw [e]
    | frz d =>
      have e : fSrcB g i ρ = mopt (g d) ρ := by unfold fSrcB; rw [h]
      show Ok0 _ _ _ ↔ ∃ ds, g d = some ds ∧ Q ds ρ
      rw [← ok0_opt]
      unfold Ok0
      rw [e]
    | _ => exact ok0_not (by unfold fSrcB; rw [h])
@[simp ↓] theorem ok0_fRng {g : List D → Option (List D)} {os : List Opd} {Q : List D → Env → Prop} : Ok0 (fRng g os) ρ Q ↔ Ok0 (evs os) ρ fun ds ρ' => ∃ xs, g ds = some xs ∧ Q xs ρ' := by
  unfold fRng
  simp only [ok0_bind, ok0_opt]
/-- a walk with an invariant of what is still to come -/
theorem ok0_forL {t : Tg} {body : M Fl} {I : List D → Env → Prop} {Q : Fl → Env → Prop}
    (step : ∀ d ds ρ, I (d :: ds) ρ → Ok0 (setTg t d) ρ fun _ ρ1 => Ok0 body ρ1 fun fl ρ2 => match fl with
      | .next => I ds ρ2
      | .cont => I ds ρ2
      | .brk => Q .next ρ2
      | .ret r => Q (.ret r) ρ2) (fin : ∀ ρ, I [] ρ → Q .next ρ) : ∀ (ds : List D) (ρ : Env), I ds ρ → Ok0 (forL t body ds) ρ Q
  | [], ρ, h => ok0_ret.mpr (fin ρ h)
  | d :: ds, ρ, h => by
    show Ok0 (mbind (setTg t d) fun _ => mbind body fun fl => _) ρ Q
    rw [ok0_bind]
    refine (step d ds ρ h).mono fun _ ρ1 h1 => ?_
    rw [ok0_bind]
    refine h1.mono fun fl ρ2 h2 => ?_
    cases fl with
    | next => exact ok0_forL step fin ds ρ2 h2
    | cont => exact ok0_forL step fin ds ρ2 h2
    | brk => exact ok0_ret.mpr h2
    | ret r => exact ok0_ret.mpr h2
@[simp ↓] theorem ok0_sFor {t : Tg} {src : M (List D)} {body : M Fl} {Q : Fl → Env → Prop} : Ok0 (sFor t src body) ρ Q ↔ Ok0 src ρ fun ds ρ' => Ok0 (forL t body ds) ρ' Q := by
  unfold sFor
  rw [ok0_bind]
/-- a while with a measure -/
theorem ok0_while {c : M Bool} {body : M Fl} {I : Nat → Env → Prop} {Q : Fl → Env → Prop}
    (step : ∀ n ρ, I n ρ → Ok0 c ρ fun k ρ1 => if k = true then Ok0 body ρ1 fun fl ρ2 => (match fl with
      | .next => ∃ n', n' < n ∧ I n' ρ2
      | .cont => ∃ n', n' < n ∧ I n' ρ2
      | .brk => Q .next ρ2
      | .ret r => Q (.ret r) ρ2) else Q .next ρ1) : ∀ (n : Nat) (ρ : Env), I n ρ → Ok0 (sWhile c body) ρ Q := by
  have key : ∀ (n : Nat) (ρ : Env), I n ρ → Ok0 (whileN c body (n + 1)) ρ Q := fun n => by
    induction n using Nat.strongRecOn with
    | ind n ih =>
      intro ρ h
      show Ok0 (mbind c fun k => _) ρ Q
      rw [ok0_bind]
      refine (step n ρ h).mono fun k ρ1 h1 => ?_
      cases k with
      | false => exact ok0_ret.mpr h1
      | true =>
        show Ok0 (mbind body fun fl => _) ρ1 Q
        rw [ok0_bind]
        have h1 : Ok0 body ρ1 _ := h1
        refine h1.mono fun fl ρ2 h2 => ?_
        have go : (∃ n', n' < n ∧ I n' ρ2) → Ok0 (whileN c body n) ρ2 Q := fun ⟨n', hn, h3⟩ => by
          obtain ⟨a, ρ3, e, q⟩ := ih n' hn ρ2 h3
          have := whileN_add e (n - (n' + 1))
          rw [show n' + 1 + (n - (n' + 1)) = n by omega] at this
          exact ⟨a, ρ3, this, q⟩
        cases fl with
        | next => exact go h2
        | cont => exact go h2
        | brk => exact ok0_ret.mpr h2
        | ret r => exact ok0_ret.mpr h2
  intro n ρ h
  obtain ⟨a, ρ', e, q⟩ := key n ρ h
  exact ⟨a, ρ', sWhile_eq e, q⟩
/-! ### comprehensions -/
theorem ok0_lcL {t : Tg} {is : List Nat} {cond : M Bool} {elt : M R} {I : List D → List D → Env → Prop} {Q : List D → Env → Prop}
    (step : ∀ d ds acc ρ, I (d :: ds) acc ρ → Ok0 (setTg t d) ρ fun _ ρ1 => Ok0 cond ρ1 fun k ρ2 => if k = true then Ok0 elt ρ2 fun r ρ3 => acc.length < sizeLine ∧ I ds (acc ++ [r.d]) (wipeE ρ3 is) else I ds acc (wipeE ρ2 is)) (fin : ∀ acc ρ, I [] acc ρ → Q acc ρ) :
    ∀ (ds acc : List D) (ρ : Env), I ds acc ρ → Ok0 (lcL t is cond elt ds acc) ρ Q
  | [], acc, ρ, h => ok0_ret.mpr (fin acc ρ h)
  | d :: ds, acc, ρ, h => by
    show Ok0 (mbind (setTg t d) fun _ => mbind cond fun k => _) ρ Q
    rw [ok0_bind]
    refine (step d ds acc ρ h).mono fun _ ρ1 h1 => ?_
    rw [ok0_bind]
    refine h1.mono fun k ρ2 h2 => ?_
    cases k with
    | false => exact ok0_lcL step fin ds acc _ h2
    | true =>
      show Ok0 (mbind elt fun r => mbind (mopt (if acc.length < sizeLine then some () else none)) fun _ => fun ρ => lcL t is cond elt ds (acc ++ [r.d]) (wipeE ρ is)) ρ2 Q
      rw [ok0_bind]
      have h2 : Ok0 elt ρ2 _ := h2
      refine h2.mono fun r ρ3 ⟨hz, h3⟩ => ?_
      rw [ok0_bind, ok0_opt]
      exact ⟨(), if_pos hz, ok0_lcL step fin ds _ _ h3⟩
theorem ok0_fLc {t : Tg} {is : List Nat} {src : M (List D)} {cond : M Bool} {elt : M R} {Q : R → Env → Prop} (h : Ok0 src ρ fun ds ρ1 => wipeOk ρ1 is = true ∧ Ok0 (lcL t is cond elt ds []) (wipeE ρ1 is) fun acc ρ2 => Q (.own (.lst acc)) (backE ρ1 ρ2 is)) : Ok0 (fLc t is src cond elt) ρ Q := by
  obtain ⟨ds, ρ1, e, hw, acc, ρ2, e2, q⟩ := h
  refine ⟨_, _, ?_, q⟩
  unfold fLc mbind
  rw [e]
  show (if wipeOk ρ1 is = true then _ else _) = _
  rw [if_pos hw, e2]
  rfl
/-- a comprehension that changes nothing else -/
theorem ok0_lcMap {t : Tg} {is : List Nat} {cond : M Bool} {elt : M R} {ds : List D} {ρw : Env} {c : D → Bool} {e : D → D} {Q : List D → Env → Prop}
    (h : ∀ d ∈ ds, Ok0 (setTg t d) ρw fun _ ρ1 => Ok0 cond ρ1 fun k ρ2 => k = c d ∧ if k = true then Ok0 elt ρ2 fun r ρ3 => r.d = e d ∧ wipeE ρ3 is = ρw else wipeE ρ2 is = ρw)
    (hz : ds.length ≤ sizeLine) (hQ : Q ((ds.filter c).map e) ρw) : Ok0 (lcL t is cond elt ds []) ρw Q := by
  refine ok0_lcL (I := fun todo acc ρ => ρ = ρw ∧ ∃ done, ds = done ++ todo ∧ acc = (done.filter c).map e) (fun d todo acc ρ hI => ?_) (fun acc ρ hI => ?_) ds [] ρw ⟨rfl, [], rfl, rfl⟩
  · obtain ⟨rfl, done, hd, rfl⟩ := hI
    have hm : d ∈ ds := by rw [hd]; exact List.mem_append_right _ List.mem_cons_self
    refine (h d hm).mono fun _ ρ1 h1 => h1.mono fun k ρ2 ⟨hk, h2⟩ => ?_
    have hl : ((done.filter c).map e).length < sizeLine := by
      have h3 := List.length_filter_le c done
      have h4 := congrArg List.length hd
      rw [List.length_append, List.length_cons] at h4
      rw [List.length_map]
      omega
    cases k with
    | true =>
      have h2 : Ok0 elt ρ2 _ := h2
      refine h2.mono fun r ρ3 ⟨h5, h6⟩ => ⟨hl, h6, done ++ [d], by rw [hd, List.append_assoc]; rfl, ?_⟩
      rw [List.filter_append, List.map_append, List.filter_cons, if_pos hk.symm, h5]
      rfl
    | false =>
      refine ⟨h2, done ++ [d], by rw [hd, List.append_assoc]; rfl, ?_⟩
      rw [List.filter_append, List.filter_cons, if_neg (by rw [← hk]; simp)]
      simp
  · obtain ⟨rfl, done, hd, rfl⟩ := hI
    rw [List.append_nil] at hd
    rw [← hd]
    exact hQ
end
end Dz
/-! Dz 16: the same, stated so that simp works from the front and leaves what comes behind alone. -/
namespace Dz
open PySem PySem.Spec PyProof.Rows L2
/-- held as it stands (simp leaves x alone where something hangs on it) -/
def Dm {α : Type} (x : α) : Type := Unit
def Dm.mk {α : Type} {x : α} : Dm x := ()
/-- f ends well, so that Q -/
def Ok {α : Type} (f : M α) (ρ : Env) (Q : α → Env → Prop) (_u : Dm (f, Q) := Dm.mk) : Prop := Ok0 f ρ Q
def COk (m : Fn) (ps : List Slot) (Q : R → List Slot → Prop) (_u : Dm (m, Q) := Dm.mk) : Prop := COk0 m ps Q
theorem Ok.mono {α : Type} {f : M α} {ρ : Env} {Q Q' : α → Env → Prop} (h : Ok f ρ Q) (hq : ∀ a ρ', Q a ρ' → Q' a ρ') : Ok f ρ Q' := let ⟨a, ρ', e, q⟩ := h; ⟨a, ρ', e, hq a ρ' q⟩
theorem COk.mono {m : Fn} {ps : List Slot} {Q Q' : R → List Slot → Prop} (h : COk m ps Q) (hq : ∀ a ρ', Q a ρ' → Q' a ρ') : COk m ps Q' := let ⟨a, ρ', e, q⟩ := h; ⟨a, ρ', e, hq a ρ' q⟩
/-- a name that may be given something -/
def nl (s : Slot) : Prop := s = .emp ∨ (∃ d, s = .frz d) ∨ ∃ d, s = .own d
def wN (o : Option Slot) (P : Prop) : Prop := match o with
  | some .emp => P
  | some (.frz _) => P
  | some (.own _) => P
  | some (.bor _) => P
  | _ => False
@[simp] theorem wN_emp {P : Prop} : wN (some .emp) P ↔ P := Iff.rfl
@[simp] theorem wN_frz {P : Prop} {d : D} : wN (some (.frz d)) P ↔ P := Iff.rfl
@[simp] theorem wN_own {P : Prop} {d : D} : wN (some (.own d)) P ↔ P := Iff.rfl
@[simp] theorem wN_bor {P : Prop} {d : D} : wN (some (.bor d)) P ↔ P := Iff.rfl
theorem wN_nl {P : Prop} {s : Slot} (h : nl s) : wN (some s) P ↔ P := by rcases h with rfl | ⟨d, rfl⟩ | ⟨d, rfl⟩ <;> exact Iff.rfl
@[simp] theorem nl_emp : nl .emp := .inl rfl
@[simp] theorem nl_frz {d : D} : nl (.frz d) := .inr (.inl ⟨d, rfl⟩)
@[simp] theorem nl_own {d : D} : nl (.own d) := .inr (.inr ⟨d, rfl⟩)
/-- where there is something: so that P -/
def sN {α : Type} (o : Option α) (P : α → Prop) : Prop := ∃ a, o = some a ∧ P a
@[simp] theorem sN_some {α : Type} {a : α} {P : α → Prop} : sN (some a) P ↔ P a := ⟨fun ⟨_, e, h⟩ => by cases e; exact h, fun h => ⟨a, rfl, h⟩⟩
@[simp] theorem sN_none {α : Type} {P : α → Prop} : sN none P ↔ False := ⟨fun ⟨_, e, _⟩ => (nomatch e), False.elim⟩
@[simp] theorem sN_ite {α : Type} {c : Prop} [Decidable c] {a : α} {P : α → Prop} : sN (if c then some a else none) P ↔ c ∧ P a := by
  by_cases h : c
  · rw [if_pos h, sN_some]; exact ⟨fun k => ⟨h, k⟩, fun k => k.2⟩
  · rw [if_neg h, sN_none]; exact ⟨False.elim, fun k => h k.1⟩
@[simp] theorem sN_map {α β : Type} {o : Option α} {f : α → β} {P : β → Prop} : sN (o.map f) P ↔ sN o fun a => P (f a) := by
  cases o <;> simp
theorem sN_of {α : Type} {o : Option α} {a : α} {P : α → Prop} (e : o = some a) : sN o P ↔ P a := by rw [e, sN_some]
section
variable {α β : Type} {ρ : Env}
@[simp ↓] theorem ok_bind {f : M α} {g : α → M β} {Q : β → Env → Prop} : Ok (mbind f g) ρ Q ↔ Ok f ρ fun a ρ' => Ok (g a) ρ' Q := ok0_bind
@[simp ↓] theorem ok_ret {a : α} {Q : α → Env → Prop} : Ok (mret a) ρ Q ↔ Q a ρ := ok0_ret
@[simp ↓] theorem ok_opt {o : Option α} {Q : α → Env → Prop} : Ok (mopt o) ρ Q ↔ sN (o) fun a => Q a ρ := ok0_opt
@[simp ↓] theorem ok_none {Q : α → Env → Prop} : Ok (fun _ => none) ρ Q ↔ False := ok0_none
@[simp ↓] theorem ok_fIf {c : M Bool} {f g : M α} {Q : α → Env → Prop} : Ok (fIf c f g) ρ Q ↔ Ok c ρ fun k ρ' => if k = true then Ok f ρ' Q else Ok g ρ' Q := ok0_fIf
@[simp ↓] theorem ok_seq {f g : M Fl} {Q : Fl → Env → Prop} : Ok (sSeq f g) ρ Q ↔ Ok f ρ fun fl ρ' => match fl with
    | .next => Ok g ρ' Q
    | fl => Q fl ρ' := ok0_seq
@[simp ↓] theorem ok_fC {d : D} {Q : R → Env → Prop} : Ok (fC d) ρ Q ↔ Q (.frz d) ρ := ok0_fC
@[simp ↓] theorem ok_fName {i : Nat} {Q : R → Env → Prop} : Ok (fName i) ρ Q ↔ match ρ[i]? with
    | some (.frz d) => Q (.frz d) ρ
    | some (.own d) => Q (.frz d) (ρ.set i (.frz d))
    | _ => False := ok0_fName
@[simp ↓] theorem ok_fMove {i : Nat} {Q : R → Env → Prop} : Ok (fMove i) ρ Q ↔ match ρ[i]? with
    | some (.frz d) => Q (.frz d) ρ
    | some (.own d) => Q (.own d) (ρ.set i .emp)
    | _ => False := ok0_fMove
@[simp ↓] theorem ok_evs_nil {Q : List D → Env → Prop} : Ok (evs []) ρ Q ↔ Q [] ρ := ok0_evs_nil
@[simp ↓] theorem ok_evs_ev {f : M R} {os : List Opd} {Q : List D → Env → Prop} : Ok (evs (.ev f :: os)) ρ Q ↔ Ok f ρ fun r ρ1 => Ok (evs os) ρ1 fun ds ρ2 => Q (r.d :: ds) ρ2 := ok0_evs_ev
@[simp ↓] theorem ok_evs_sl {i : Nat} {os : List Opd} {Q : List D → Env → Prop} : Ok (evs (.sl i :: os)) ρ Q ↔ (contAt ρ i).isSome = true ∧ Ok (evs os) ρ fun ds ρ2 => sN (contAt ρ2 i) fun d => Q (d :: ds) ρ2 := ok0_evs_sl
@[simp ↓] theorem ok_f2 {o1 o2 : Opd} {g : D → D → Option R} {Q : R → Env → Prop} : Ok (f2 o1 o2 g) ρ Q ↔ Ok (evs [o1, o2]) ρ fun ds ρ' => sN (ap2 g ds) fun r => Q r ρ' := ok0_f2
@[simp ↓] theorem ok_f1 {o1 : Opd} {g : D → Option R} {Q : R → Env → Prop} : Ok (f1 o1 g) ρ Q ↔ Ok (evs [o1]) ρ fun ds ρ' => sN (ap1 g ds) fun r => Q r ρ' := ok0_f1
@[simp ↓] theorem ok_fL {os : List Opd} {g : List D → Option R} {Q : R → Env → Prop} : Ok (fL os g) ρ Q ↔ Ok (evs os) ρ fun ds ρ' => sN (g ds) fun r => Q r ρ' := ok0_fL
@[simp ↓] theorem ok_fB {f : M R} {Q : Bool → Env → Prop} : Ok (fB f) ρ Q ↔ Ok f ρ fun r ρ' => sN (asB r) fun k => Q k ρ' := ok0_fB
@[simp ↓] theorem ok_fAnd {f g : M Bool} {Q : Bool → Env → Prop} : Ok (fAnd f g) ρ Q ↔ Ok f ρ fun c ρ' => if c = true then Ok g ρ' Q else Q false ρ' := ok0_fAnd
@[simp ↓] theorem ok_fOr {f g : M Bool} {Q : Bool → Env → Prop} : Ok (fOr f g) ρ Q ↔ Ok f ρ fun c ρ' => if c = true then Q true ρ' else Ok g ρ' Q := ok0_fOr
@[simp ↓] theorem ok_fNot {f : M Bool} {Q : Bool → Env → Prop} : Ok (fNot f) ρ Q ↔ Ok f ρ fun c ρ' => Q (!c) ρ' := ok0_fNot
@[simp ↓] theorem ok_fAndV {f g : M R} {Q : R → Env → Prop} : Ok (fAndV f g) ρ Q ↔ Ok f ρ fun r ρ' => sN (asB r) fun k => if k = true then Ok g ρ' Q else Q (.frz (.bl false)) ρ' := ok0_fAndV
@[simp ↓] theorem ok_fOrV {f g : M R} {Q : R → Env → Prop} : Ok (fOrV f g) ρ Q ↔ Ok f ρ fun r ρ' => sN (asB r) fun k => if k = true then Q (.frz (.bl true)) ρ' else Ok g ρ' Q := ok0_fOrV
@[simp ↓] theorem ok_fNotV {f : M R} {Q : R → Env → Prop} : Ok (fNotV f) ρ Q ↔ Ok f ρ fun r ρ' => sN (asB r) fun k => Q (.frz (.bl (!k))) ρ' := ok0_fNotV
@[simp ↓] theorem ok_evF_nil {Q : List D → Env → Prop} : Ok (evF []) ρ Q ↔ Q [] ρ := ok0_evF_nil
@[simp ↓] theorem ok_evF_cons {f : M R} {fs : List (M R)} {Q : List D → Env → Prop} : Ok (evF (f :: fs)) ρ Q ↔ Ok f ρ fun r ρ1 => Ok (evF fs) ρ1 fun ds ρ2 => Q (r.d :: ds) ρ2 := ok0_evF_cons
@[simp ↓] theorem ok_fTup {fs : List (M R)} {Q : R → Env → Prop} : Ok (fTup fs) ρ Q ↔ Ok (evF fs) ρ fun ds ρ' => ds.length ≤ sizeLine ∧ Q (.frz (.tup ds)) ρ' := ok0_fTup
@[simp ↓] theorem ok_fLst {fs : List (M R)} {Q : R → Env → Prop} : Ok (fLst fs) ρ Q ↔ Ok (evF fs) ρ fun ds ρ' => ds.length ≤ sizeLine ∧ Q (.own (.lst ds)) ρ' := ok0_fLst
@[simp ↓] theorem ok_fI {f : M R} {Q : R → Env → Prop} : Ok (fI f) ρ Q ↔ Ok f ρ fun r ρ' => ∃ i, r = .frz (.int i) ∧ Q (.frz (.int i)) ρ' := ok0_fI
@[simp ↓] theorem ok_sAsg {i : Nat} {f : M R} {Q : Fl → Env → Prop} : Ok (sAsg i f) ρ Q ↔ Ok f ρ fun r ρ' => Ok (setSl i r) ρ' Q := ok0_sAsg
theorem ok_setSl0 {i : Nat} {r : R} {Q : Fl → Env → Prop} : Ok (setSl i r) ρ Q ↔ wN ρ[i]? (Q .next (ρ.set i (slotOf r))) := by
  refine Iff.trans ok0_setSl ?_
  cases ρ[i]? with
  | none => exact Iff.rfl
  | some s => cases s <;> exact Iff.rfl
@[simp ↓] theorem ok_setSl {i : Nat} {r : R} {Q : Fl → Env → Prop} : Ok (setSl i r) ρ Q ↔ wN ρ[i]? (Q .next (ρ.set i (slotOf r))) := ok_setSl0
@[simp ↓] theorem ok_sRet {f : M R} {Q : Fl → Env → Prop} : Ok (sRet f) ρ Q ↔ Ok f ρ fun r ρ' => Q (.ret r) ρ' := ok0_sRet
@[simp ↓] theorem ok_sExpr {f : M R} {Q : Fl → Env → Prop} : Ok (sExpr f) ρ Q ↔ Ok f ρ fun _ ρ' => Q .next ρ' := ok0_sExpr
@[simp ↓] theorem ok_needSl {i : Nat} {Q : Unit → Env → Prop} : Ok (needSl i) ρ Q ↔ (contAt ρ i).isSome = true ∧ Q () ρ := ok0_needSl
@[simp ↓] theorem ok_needW {i : Nat} {k : D → Bool} {Q : Unit → Env → Prop} : Ok (needW i k) ρ Q ↔ match ρ[i]? with
    | some (.own d) => k d = true ∧ Q () ρ
    | some (.lent d) => k d = true ∧ Q () ρ
    | _ => False := ok0_needW
@[simp ↓] theorem ok_mutM {i : Nat} {g : D → Option (D × D)} {Q : R → Env → Prop} : Ok (mutM i g) ρ Q ↔ match ρ[i]? with
    | some (.own d) => sN (g d) fun p => Q (.frz p.2) (ρ.set i (.own p.1))
    | some (.lent d) => sN (g d) fun p => Q (.frz p.2) (ρ.set i (.lent p.1))
    | _ => False := ok0_mutM
@[simp ↓] theorem ok_sPut {i : Nat} {o : Opd} {f : M R} {g : D → D → D → Option D} {Q : Fl → Env → Prop} : Ok (sPut i o f g) ρ Q ↔ Ok f ρ fun r ρ1 => (contAt ρ1 i).isSome = true ∧ Ok (evs [o]) ρ1 fun ds ρ2 => Ok (mutM i (putD1 g r.d ds)) ρ2 fun _ ρ3 => Q .next ρ3 := ok0_sPut
@[simp ↓] theorem ok_fMut {i : Nat} {fs : List (M R)} {g : List D → D → Option (D × D)} {Q : R → Env → Prop} : Ok (fMut i fs g) ρ Q ↔ Ok (needW i isLs) ρ fun _ ρ1 => Ok (evF fs) ρ1 fun ds ρ2 => Ok (mutM i (g ds)) ρ2 Q := ok0_fMut
@[simp ↓] theorem ok_fMutO {i : Nat} {os : List Opd} {g : List D → D → Option (D × D)} {Q : R → Env → Prop} : Ok (fMutO i os g) ρ Q ↔ Ok (needW i isLs) ρ fun _ ρ1 => Ok (evs os) ρ1 fun ds ρ2 => Ok (mutM i (g ds)) ρ2 Q := ok0_fMutO
@[simp ↓] theorem ok_fJoin {f : M R} {o : Opd} {Q : R → Env → Prop} : Ok (fJoin f o) ρ Q ↔ Ok f ρ fun r ρ1 => ∃ x, r = .frz (.str x) ∧ Ok (f1 o (joinX x)) ρ1 Q := ok0_fJoin
theorem ok_fCh0 {g g' : D → D → Option R} {o1 o2 o3 : Opd} {Q : R → Env → Prop} : Ok (fCh g g' o1 o2 o3) ρ Q ↔ Ok (evs [o1, o2]) ρ fun ds ρ1 => sN (chB g ds) fun p => if p.2 = true then Ok (evs [o3]) ρ1 (fun es ρ2 => sN (ap1 (g' p.1) es) fun r => Q r ρ2) else Q (.frz (.bl false)) ρ1 := ok0_fCh
@[simp ↓] theorem ok_evC_nil {Q : List Slot → Env → Prop} : Ok (evC []) ρ Q ↔ Q [] ρ := ok0_evC_nil
@[simp ↓] theorem ok_evC_val {f : M R} {cs : List CA} {Q : List Slot → Env → Prop} : Ok (evC (.val f :: cs)) ρ Q ↔ Ok f ρ fun r ρ1 => Ok (evC cs) ρ1 fun ps ρ2 => Q (.frz r.d :: ps) ρ2 := ok0_evC_val
@[simp ↓] theorem ok_getC {g : Slot → Option Slot} {i : Nat} {ps : List Slot} {Q : List Slot → Env → Prop} : Ok (getC g i ps) ρ Q ↔ sN (slAt g i ρ) fun s => Q (s :: ps) ρ := ok0_getC
@[simp ↓] theorem ok_evC_bor {i : Nat} {cs : List CA} {Q : List Slot → Env → Prop} : Ok (evC (.bor i :: cs)) ρ Q ↔ (contAt ρ i).isSome = true ∧ Ok (evC cs) ρ fun ps ρ2 => sN (slAt borSl i ρ2) fun s => Q (s :: ps) ρ2 := ok0_evC_bor
@[simp ↓] theorem ok_evC_lent {i : Nat} {cs : List CA} {Q : List Slot → Env → Prop} : Ok (evC (.lent i :: cs)) ρ Q ↔ (contAt ρ i).isSome = true ∧ Ok (evC cs) ρ fun ps ρ2 => sN (slAt lentSl i ρ2) fun s => Q (s :: ps) ρ2 := ok0_evC_lent
@[simp ↓] theorem ok_fCall {m : Fn} {cs : List CA} {Q : R → Env → Prop} : Ok (fCall m cs) ρ Q ↔ Ok (evC cs) ρ fun ps ρ1 => COk m ps fun r ps' => Q r (putC cs ps' ρ1) := ok0_fCall
@[simp ↓] theorem ok_setTg_nm {i : Nat} {d : D} {Q : Unit → Env → Prop} : Ok (setTg (.nm i) d) ρ Q ↔ Ok (setSl i (.frz d)) ρ fun _ ρ' => Q () ρ' := ok0_setTg_nm
@[simp ↓] theorem ok_setTg_tp {ts : List Tg} {ds : List D} {Q : Unit → Env → Prop} : Ok (setTg (.tp ts) (.tup ds)) ρ Q ↔ Ok (setTgs ts ds) ρ Q := ok0_setTg_tp
@[simp ↓] theorem ok_setTg_tpl {ts : List Tg} {ds : List D} {Q : Unit → Env → Prop} : Ok (setTg (.tp ts) (.tpl ds)) ρ Q ↔ Ok (setTgs ts ds) ρ Q := ok0_setTg_tpl
@[simp ↓] theorem ok_setTgs_nil {Q : Unit → Env → Prop} : Ok (setTgs [] []) ρ Q ↔ Q () ρ := ok0_setTgs_nil
@[simp ↓] theorem ok_setTgs_cons {t : Tg} {ts : List Tg} {d : D} {ds : List D} {Q : Unit → Env → Prop} : Ok (setTgs (t :: ts) (d :: ds)) ρ Q ↔ Ok (setTg t d) ρ fun _ ρ' => Ok (setTgs ts ds) ρ' Q := ok0_setTgs_cons
@[simp ↓] theorem ok_sUnp {t : Tg} {f : M R} {Q : Fl → Env → Prop} : Ok (sUnp t f) ρ Q ↔ Ok f ρ fun r ρ' => Ok (setTg t r.d) ρ' fun _ ρ2 => Q .next ρ2 := ok0_sUnp
@[simp ↓] theorem ok_fSrc {g : D → Option (List D)} {f : M R} {Q : List D → Env → Prop} : Ok (fSrc g f) ρ Q ↔ Ok f ρ fun r ρ' => sN (g r.d) fun ds => Q ds ρ' := ok0_fSrc
@[simp ↓] theorem ok_fSrcB {g : D → Option (List D)} {i : Nat} {Q : List D → Env → Prop} : Ok (fSrcB g i) ρ Q ↔ match ρ[i]? with
    | some (.bor d) => sN (g d) fun ds => Q ds ρ
    | some (.frz d) => sN (g d) fun ds => Q ds ρ
    | _ => False := ok0_fSrcB
@[simp ↓] theorem ok_fRng {g : List D → Option (List D)} {os : List Opd} {Q : List D → Env → Prop} : Ok (fRng g os) ρ Q ↔ Ok (evs os) ρ fun ds ρ' => sN (g ds) fun xs => Q xs ρ' := ok0_fRng
@[simp ↓] theorem ok_sFor {t : Tg} {src : M (List D)} {body : M Fl} {Q : Fl → Env → Prop} : Ok (sFor t src body) ρ Q ↔ Ok src ρ fun ds ρ' => Ok (forL t body ds) ρ' Q := ok0_sFor
def chN (o : Option (D × Bool)) (P : D → Bool → Prop) : Prop := sN (o) fun p => P p.1 p.2
@[simp] theorem chN_some {d : D} {k : Bool} {P : D → Bool → Prop} : chN (some (d, k)) P ↔ P d k := sN_some (a := (d, k)) (P := fun p => P p.1 p.2)
@[simp ↓] theorem ok_fCh {g g' : D → D → Option R} {o1 o2 o3 : Opd} {Q : R → Env → Prop} : Ok (fCh g g' o1 o2 o3) ρ Q ↔ Ok (evs [o1, o2]) ρ fun ds ρ1 => chN (chB g ds) fun d k => if k = true then Ok (evs [o3]) ρ1 fun es ρ2 => sN (ap1 (g' d) es) fun r => Q r ρ2 else Q (.frz (.bl false)) ρ1 := ok_fCh0
@[simp] theorem chB_le {i j : Int} : chB leD [.int i, .int j] = some (.int j, decide (i ≤ j)) := rfl
@[simp] theorem chB_lt {i j : Int} : chB ltD [.int i, .int j] = some (.int j, decide (i < j)) := rfl
theorem ok_is {f : M α} {a : α} {ρ' : Env} {Q : α → Env → Prop} (e : f ρ = some (.ok a ρ')) : Ok f ρ Q ↔ Q a ρ' := ok0_is e
theorem ok_fCallT {i : Nat} {m : Fn} {f : M R} {cs : List CA} {Q : R → Env → Prop} (he : isEmp ρ i = true) (h : Ok f ρ fun r ρ1 => ∃ d, r = .own d ∧ isEmp ρ1 i = true ∧ Ok (fCall m (.lent i :: cs)) (ρ1.set i (.own d)) fun r ρ2 => Q r (ρ2.set i .emp)) :
    Ok (fCallT i m f cs) ρ Q := ok0_fCallT he h
theorem cok_fnA {a n : Nat} {b : M Fl} {ps : List Slot} {Q : R → List Slot → Prop} (hl : ps.length = a) (h : Ok b (ps ++ List.replicate (n - a) .emp) fun fl ρ' => match fl with
    | .ret r => Q r (outPs ps ρ')
    | .next => Q (.frz .non) (outPs ps ρ')
    | _ => False) : COk (fnA a n b) ps Q := cok0_fnA hl h
theorem ok_forL {t : Tg} {body : M Fl} {I : List D → Env → Prop} {Q : Fl → Env → Prop}
    (step : ∀ d ds ρ, I (d :: ds) ρ → Ok (setTg t d) ρ fun _ ρ1 => Ok body ρ1 fun fl ρ2 => match fl with
      | .next => I ds ρ2
      | .cont => I ds ρ2
      | .brk => Q .next ρ2
      | .ret r => Q (.ret r) ρ2) (fin : ∀ ρ, I [] ρ → Q .next ρ) : ∀ (ds : List D) (ρ : Env), I ds ρ → Ok (forL t body ds) ρ Q := ok0_forL step fin
theorem ok_lcL {t : Tg} {is : List Nat} {cond : M Bool} {elt : M R} {I : List D → List D → Env → Prop} {Q : List D → Env → Prop}
    (step : ∀ d ds acc ρ, I (d :: ds) acc ρ → Ok (setTg t d) ρ fun _ ρ1 => Ok cond ρ1 fun k ρ2 => if k = true then Ok elt ρ2 fun r ρ3 => acc.length < sizeLine ∧ I ds (acc ++ [r.d]) (wipeE ρ3 is) else I ds acc (wipeE ρ2 is)) (fin : ∀ acc ρ, I [] acc ρ → Q acc ρ) :
    ∀ (ds acc : List D) (ρ : Env), I ds acc ρ → Ok (lcL t is cond elt ds acc) ρ Q := ok0_lcL step fin
theorem ok_while {c : M Bool} {body : M Fl} {I : Nat → Env → Prop} {Q : Fl → Env → Prop}
    (step : ∀ n ρ, I n ρ → Ok c ρ fun k ρ1 => if k = true then Ok body ρ1 fun fl ρ2 => (match fl with
      | .next => ∃ n', n' < n ∧ I n' ρ2
      | .cont => ∃ n', n' < n ∧ I n' ρ2
      | .brk => Q .next ρ2
      | .ret r => Q (.ret r) ρ2) else Q .next ρ1) : ∀ (n : Nat) (ρ : Env), I n ρ → Ok (sWhile c body) ρ Q := ok0_while step
theorem ok_fLc {t : Tg} {is : List Nat} {src : M (List D)} {cond : M Bool} {elt : M R} {Q : R → Env → Prop} (h : Ok src ρ fun ds ρ1 => wipeOk ρ1 is = true ∧ Ok (lcL t is cond elt ds []) (wipeE ρ1 is) fun acc ρ2 => Q (.own (.lst acc)) (backE ρ1 ρ2 is)) : Ok (fLc t is src cond elt) ρ Q := ok0_fLc h
theorem ok_lcMap {t : Tg} {is : List Nat} {cond : M Bool} {elt : M R} {ds : List D} {ρw : Env} {c : D → Bool} {e : D → D} {Q : List D → Env → Prop}
    (h : ∀ d ∈ ds, Ok (setTg t d) ρw fun _ ρ1 => Ok cond ρ1 fun k ρ2 => k = c d ∧ if k = true then Ok elt ρ2 fun r ρ3 => r.d = e d ∧ wipeE ρ3 is = ρw else wipeE ρ2 is = ρw)
    (hz : ds.length ≤ sizeLine) (hQ : Q ((ds.filter c).map e) ρw) : Ok (lcL t is cond elt ds []) ρw Q := ok0_lcMap h hz hQ
/-! ### numbers -/
theorem atI0 {α : Type} {x : α} {xs : List α} : L2.atI (x :: xs) 0 = some x := by
  simp [L2.atI, ixN]
theorem atI1 {α : Type} {x y : α} {xs : List α} : L2.atI (x :: y :: xs) 1 = some y := by
  have : (1 : Int) < ((xs.length + 1 + 1 : Nat) : Int) := by omega
  simp [L2.atI, ixN]
  rw [if_pos (by omega)]
  rfl
theorem atI2 {α : Type} {x y z : α} {xs : List α} : L2.atI (x :: y :: z :: xs) 2 = some z := by
  simp [L2.atI, ixN]
  rw [if_pos (by omega)]
  rfl
theorem mulOk_r {i j : Int} (h1 : -18446744073709551616 < j) (h2 : j < 18446744073709551616) : MulOk i j := .inl (.inr ⟨h1, h2⟩)
theorem mulOk_l {i j : Int} (h1 : -18446744073709551616 < i) (h2 : i < 18446744073709551616) : MulOk i j := .inl (.inl ⟨h1, h2⟩)
theorem cdivW {i j : Int} (h1 : 0 < j) (h2 : j < 18446744073709551616) : CDivW i j := by
  refine ⟨h1, ?_⟩
  have : j.natAbs < 2 ^ 64 := by omega
  have := (Nat.log2_lt (by omega : j.natAbs ≠ 0)).mpr this
  omega
@[simp] theorem eqB_int {i j : Int} : eqB (.int i) (.int j) = decide (i = j) := by
  show PyData.eqv (.int i) (.int j) = _
  simp only [PyData.eqv]
  by_cases h : i = j <;> simp [h]
@[simp] theorem eqB_bl {i j : Bool} : eqB (.bl i) (.bl j) = (i == j) := by
  show PyData.eqv (.bool i) (.bool j) = _
  cases i <;> cases j <;> simp [PyData.eqv]
@[simp] theorem eqB_str {i j : Str} : eqB (.str i) (.str j) = decide (i = j) := by
  show PyData.eqv (.str i) (.str j) = _
  simp only [PyData.eqv]
  by_cases h : i = j <;> simp [h]
@[simp] theorem okD_int {i : Int} : okD (.int i) = true := rfl
@[simp] theorem okD_bl {i : Bool} : okD (.bl i) = true := rfl
@[simp] theorem okD_str {i : Str} : okD (.str i) = PyData.strOk i := by
  unfold okD SeqAt.shaped py
  simp [PyData.canLay0, PyData.depth]
theorem join0_len (ys : List Str) : (Txt.join (Str.ofString "") ys).length = (ys.map (·.length)).sum := by
  rw [_root_.TL.join_eq]
  induction ys with
  | nil => rfl
  | cons x r ih =>
    cases r with
    | nil => simp [Str.join]
    | cons z r =>
      show (x ++ Str.ofString "" ++ Str.join (Str.ofString "") (z :: r)).length = _
      rw [Str.length_append, Str.length_append, ih]
      simp
      rfl
theorem atI_lt {α : Type} {xs : List α} {i : Int} (h0 : 0 ≤ i) (h1 : i < xs.length) : ∃ x, L2.atI xs i = some x := by
  unfold L2.atI ixN
  rw [if_pos h0, if_pos h1]
  exact ⟨xs[i.toNat]'(by omega), by simp [List.getElem?_eq_getElem (show i.toNat < xs.length by omega)]⟩
/-! ### operators at work -/
@[simp] theorem sizeLine_val : sizeLine = 16777216 := rfl
theorem mulOk_ite {i : Int} {b : Prop} [Decidable b] : MulOk i (if b then 1 else 0) := by
  by_cases h : b
  · rw [if_pos h]; exact mulOk_r (by decide) (by decide)
  · rw [if_neg h]; exact mulOk_r (by decide) (by decide)
@[simp] theorem addD_int {i j : Int} : addD (.int i) (.int j) = some (.frz (.int (i + j))) := rfl
@[simp] theorem addD_str {x y : Str} : addD (.str x) (.str y) = if x.length + y.length ≤ sizeLine then some (.frz (.str (x ++ y))) else none := rfl
@[simp] theorem addD_tup {x y : List D} : addD (.tup x) (.tup y) = if x.length + y.length ≤ sizeLine then some (.frz (.tup (x ++ y))) else none := rfl
@[simp] theorem addD_lst {x y : List D} : addD (.lst x) (.lst y) = if x.length + y.length ≤ sizeLine then some (.own (.lst (x ++ y))) else none := rfl
@[simp] theorem subD_int {i j : Int} : subD (.int i) (.int j) = some (.frz (.int (i - j))) := rfl
@[simp] theorem mulD_int {i j : Int} : mulD (.int i) (.int j) = if MulOk i j then some (.frz (.int (i * j))) else none := rfl
@[simp] theorem fdivD_int {i j : Int} : fdivD (.int i) (.int j) = if CDivW i j then some (.frz (.int (i / j))) else none := rfl
@[simp] theorem modD_int {i j : Int} : modD (.int i) (.int j) = if 0 < j then some (.frz (.int (i % j))) else none := rfl
theorem powD_int {i j : Int} : powD (.int i) (.int j) = if L2.CPow i j then some (.frz (.int (i ^ j.toNat))) else none := rfl
@[simp] theorem powD_lit {i j : Int} (h1 : 0 ≤ j) (h2 : j ≤ 1000000) (h3 : -18446744073709551616 < i) (h4 : i < 18446744073709551616) : powD (.int i) (.int j) = some (.frz (.int (i ^ j.toNat))) := if_pos ⟨h1, h2, by omega⟩
@[simp] theorem negD_int {i : Int} : negD (.int i) = some (.frz (.int (-i))) := rfl
@[simp] theorem ltD_int {i j : Int} : ltD (.int i) (.int j) = some (.frz (.bl (decide (i < j)))) := rfl
@[simp] theorem leD_int {i j : Int} : leD (.int i) (.int j) = some (.frz (.bl (decide (i ≤ j)))) := rfl
@[simp] theorem gtD_int {i j : Int} : gtD (.int i) (.int j) = some (.frz (.bl (decide (j < i)))) := rfl
@[simp] theorem geD_int {i j : Int} : geD (.int i) (.int j) = some (.frz (.bl (decide (j ≤ i)))) := rfl
@[simp] theorem eqD_int {i j : Int} : eqD (.int i) (.int j) = some (.frz (.bl (decide (i = j)))) := by simp [eqD]
@[simp] theorem neD_int {i j : Int} : neD (.int i) (.int j) = some (.frz (.bl (!decide (i = j)))) := by simp [neD]
@[simp] theorem eqD_bl {i j : Bool} : eqD (.bl i) (.bl j) = some (.frz (.bl (i == j))) := by simp [eqD]
@[simp] theorem neD_bl {i j : Bool} : neD (.bl i) (.bl j) = some (.frz (.bl (!(i == j)))) := by simp [neD]
@[simp] theorem lenD_lst {ds : List D} : lenD [.lst ds] = some (.frz (.int ds.length)) := rfl
@[simp] theorem lenD_tup {ds : List D} : lenD [.tup ds] = some (.frz (.int ds.length)) := rfl
@[simp] theorem lenD_scr {ns : List Int} : lenD [.scr ns] = some (.frz (.int ns.length)) := rfl
@[simp] theorem lenD_str {x : Str} : lenD [.str x] = if x.length ≤ sizeLine then some (.frz (.int x.length)) else none := rfl
@[simp] theorem intD_int {i : Int} : Dz.intD [.int i] = some (.frz (.int i)) := rfl
@[simp] theorem intD_bl {k : Bool} : Dz.intD [.bl k] = some (.frz (.int (if k then 1 else 0))) := rfl
@[simp] theorem maxD_two {i j : Int} : maxD [.int i, .int j] = some (.frz (.int (if j > i then j else i))) := rfl
@[simp] theorem minD_two {i j : Int} : minD [.int i, .int j] = some (.frz (.int (if j < i then j else i))) := rfl
@[simp] theorem getD1_lst {ds : List D} {i : Int} : getD1 (.lst ds) (.int i) = (L2.atI ds i).map .frz := rfl
@[simp] theorem getD1_tup {ds : List D} {i : Int} : getD1 (.tup ds) (.int i) = (L2.atI ds i).map .frz := rfl
@[simp] theorem getD1_scr {ns : List Int} {i : Int} : getD1 (.scr ns) (.int i) = (L2.atI ns i).map fun n => .frz (.int n) := rfl
@[simp] theorem getD1_str {x : Str} {i : Int} : getD1 (.str x) (.int i) = if x.length ≤ sizeLine then (L2.atI x.cps.toList i).map fun c => .frz (.str ⟨#[c]⟩) else none := rfl
@[simp] theorem setLD_at {i : Int} {x : D} {xs : List D} : setLD (.int i) x (.lst xs) = (L2.ixN xs.length i).map fun j => .lst (xs.set j x) := rfl
@[simp] theorem appD_at {v : D} {xs : List D} : appD [v] (.lst xs) = if xs.length < sizeLine then some (.lst (xs ++ [v]), .non) else none := rfl
theorem rng1_at {n : Int} (h1 : -4611686018427387904 ≤ n) (h2 : n < 4611686018427387904) : rng1 [.int n] = some (rangeL 0 n.toNat) := if_pos ⟨h1, h2⟩
theorem rng2_at {m n : Int} (h1 : -4611686018427387904 ≤ m) (h2 : m < 4611686018427387904) (h3 : -4611686018427387904 ≤ n) (h4 : n < 4611686018427387904) : rng2 [.int m, .int n] = some (rangeL m (n - m).toNat) := if_pos ⟨h1, h2, h3, h4⟩
@[simp] theorem seqD_lst {ds : List D} : seqD (.lst ds) = some ds := rfl
@[simp] theorem seqD_tup {ds : List D} : seqD (.tup ds) = some ds := rfl
@[simp] theorem seqD_scr {ns : List Int} : seqD (.scr ns) = some (ns.map .int) := rfl
@[simp] theorem strD_str {x : Str} : strD (.str x) = some (strsOf x) := rfl
@[simp] theorem isLs_lst {ds : List D} : isLs (.lst ds) = true := rfl
@[simp] theorem sliceL_00 {d : D} : sliceL .no .no [d] = sliceD none none d := rfl
@[simp] theorem sliceL_01 {f : M R} {d : D} {i : Int} : sliceL .no (.op f) [d, .int i] = sliceD none (some i) d := rfl
@[simp] theorem sliceL_10 {f : M R} {d : D} {i : Int} : sliceL (.op f) .no [d, .int i] = sliceD (some i) none d := rfl
@[simp] theorem sliceL_11 {f g : M R} {d : D} {i j : Int} : sliceL (.op f) (.op g) [d, .int i, .int j] = sliceD (some i) (some j) d := rfl
@[simp] theorem sliceD_lst {lo hi : Option Int} {ds : List D} : sliceD lo hi (.lst ds) = some (.own (.lst (cutD ds lo hi))) := rfl
@[simp] theorem sliceD_tup {lo hi : Option Int} {ds : List D} : sliceD lo hi (.tup ds) = some (.frz (.tup (cutD ds lo hi))) := rfl
@[simp] theorem sliceD_scr {lo hi : Option Int} {ns : List Int} : sliceD lo hi (.scr ns) = some (.own (.lst ((cutI ns lo hi).map .int))) := rfl
@[simp] theorem sliceD_str {lo hi : Option Int} {x : Str} : sliceD lo hi (.str x) = if x.length ≤ sizeLine then some (.frz (.str (L2.cutS x lo hi))) else none := rfl
@[simp] theorem allD_bls {ns : List Bool} : allD [.lst (ns.map .bl)] = some (.frz (.bl (ns.all fun b => b))) := by
  show (blsD (ns.map .bl)).map _ = _
  rw [blsD_map]
  rfl
@[simp] theorem anyD_bls {ns : List Bool} : anyD [.lst (ns.map .bl)] = some (.frz (.bl (ns.any fun b => b))) := by
  show (blsD (ns.map .bl)).map _ = _
  rw [blsD_map]
  rfl
end
end Dz
/-! Dz 17: what the plain laws share. -/
namespace Dz
open PySem
theorem strs_of : ∀ {acc : List D}, (∀ d ∈ acc, ∃ c, d = D.str ⟨#[c]⟩) → ∃ ys : List Str, strsD acc = some ys ∧ ys.length = acc.length ∧ ∀ y ∈ ys, y.length = 1
  | [], _ => ⟨[], rfl, rfl, fun _ z => (List.not_mem_nil z).elim⟩
  | d :: acc, h => by
    obtain ⟨c, rfl⟩ := h d List.mem_cons_self
    obtain ⟨ys, e, l, k⟩ := strs_of fun x z => h x (List.mem_cons_of_mem _ z)
    refine ⟨⟨#[c]⟩ :: ys, ?_, by simp [l], fun y z => ?_⟩
    · show (strsD acc).map _ = _
      rw [e]; rfl
    · rcases List.mem_cons.mp z with rfl | z
      · rfl
      · exact k y z
theorem sum_ones : ∀ {ys : List Str}, (∀ y ∈ ys, y.length = 1) → (ys.map (·.length)).sum = ys.length
  | [], _ => rfl
  | y :: ys, h => by
    rw [List.map_cons, List.sum_cons, h y List.mem_cons_self, sum_ones fun z k => h z (List.mem_cons_of_mem _ k), List.length_cons]
    omega
theorem char_at {x : Str} {i : Int} (hx : x.length ≤ 16777216) (h0 : 0 ≤ i) (h1 : i < x.length) : ∃ c, getD1 (.str x) (.int i) = some (.frz (.str ⟨#[c]⟩)) := by
  obtain ⟨c, hc⟩ := atI_lt (xs := x.cps.toList) h0 (by simpa [Str.length] using h1)
  exact ⟨c, by simp [hx, hc]⟩
def inS (S : Str) (c : Nat) : Bool := !(Builtin.Str.occurrences S ⟨#[c]⟩ 0 S.length 1).isEmpty
theorem inD_ch {S : Str} {c : Nat} : inD (.str ⟨#[c]⟩) (.str S) = some (.frz (.bl (inS S c))) := rfl
theorem strs_len {x : Str} : (strsOf x).length = x.length := by simp [strsOf, Str.length]
theorem cutD_mem {xs : List D} {lo hi : Option Int} {d : D} (h : d ∈ cutD xs lo hi) : d ∈ xs := List.mem_of_mem_drop (List.mem_of_mem_take h)
theorem cutD_len {xs : List D} {lo hi : Option Int} : (cutD xs lo hi).length ≤ xs.length := by
  unfold cutD
  rw [List.length_take, List.length_drop]
  omega
theorem ok_set {i : Nat} {r : R} {ρ : Env} {s : Slot} {Q : Fl → Env → Prop} (h : ρ[i]? = some s) (hn : nl s) (hq : Q .next (ρ.set i (slotOf r))) : Ok (setSl i r) ρ Q := by
  simp [h, wN_nl hn, hq]
theorem mulOk_pow2 {i j : Int} {a b : Nat} (hi : i.natAbs < 2 ^ a) (hj : j.natAbs < 2 ^ b) (h : a + b ≤ 900000) : MulOk i j := by
  have key : ∀ {x c : Nat}, x < 2 ^ c → x.log2 ≤ c := fun {x c} hx => by
    by_cases h0 : x = 0
    · subst h0; simp
    · have := (Nat.log2_lt h0).mpr hx; omega
  have h1 := key hi
  have h2 := key hj
  exact .inr (by show _ + _ < 1000000; omega)
theorem mulOk_01 {i j : Int} (h : j = 0 ∨ j = 1) : MulOk i j := mulOk_r (by omega) (by omega)
/-- the numbers of a range -/
theorem rangeL_mem {lo : Int} {n : Nat} {d : D} (h : d ∈ rangeL lo n) : ∃ k : Int, d = .int k ∧ lo ≤ k ∧ k < lo + n := by
  obtain ⟨i, hi, rfl⟩ := List.mem_map.mp h
  have := List.mem_range.mp hi
  exact ⟨_, rfl, by omega, by omega⟩
theorem rangeL_len {lo : Int} {n : Nat} : (rangeL lo n).length = n := by simp [rangeL]
end Dz
/-! Dz 18: a, b = x, y; zip, enumerate. -/
namespace Dz
open PySem PySem.Spec PyProof.Rows L2
theorem setTgs_case {ts : List Tg} {ds : List D} {ρ : Env} {x : Res Unit} (h : setTgs ts ds ρ = some x) : ∃ ρ', setTgs ts ds ρ = some (.ok () ρ') ∧ x = .ok () ρ' := by
  cases x with
  | ok u ρ' => exact ⟨ρ', h, rfl⟩
  | err e ρ' => exact (setTgs_noerr ts ds h).elim
section
variable {X : Cx} {Wx : WX} {a b c e e2 : Expr} {es : List Expr} {fs : List (M R)} {pos p pos2 tpos : Pos} {i j l : Nat} {x y z : Str}
/-- names = as many values, stored from the right -/
def sPar (ts : List Tg) (fs : List (M R)) : M Fl := mbind (evF fs) fun ds => mbind (setTgs ts ds) fun _ => mret .next
theorem evo_par {ts : List Tg} (h : ∀ f ∈ fs, EvoF f) : EvoF (sPar ts fs) := evo_bind (evo_evF h) fun ds => evo_bind (evo_setTgs ts ds) fun _ => evo_ret _
theorem rd_par {mg : Str → Option Value} {K : PySem.W.Frag} {ts : List Tg} {D : Ends} {σ : L2.St} {H : Hp} (h : rdS mg Wx (sPar ts fs) D σ H) : rdF mg Wx fs σ H fun vs H1 => vs.length = ts.length ∧ gsOf K ts vs σ H1 D.nx := by
  obtain ⟨W, B, ρ, s, a⟩ := h
  refine ⟨W, B, ρ, s, (a.bindE fun ds => evo_bind (evo_setTgs ts ds) fun _ => evo_ret _).mono fun W1 H1 ds ρ1 _ _ a1 vs s1 rs => ?_⟩
  unfold mbind at a1
  cases q : setTgs ts ds ρ1 with
  | none => rw [q] at a1; exact a1.elim
  | some x =>
    obtain ⟨ρ2, q2, ex⟩ := setTgs_case q
    rw [q, ex] at a1
    exact setTgs_ok ts ds q2 s1 rs fun σ' s' k => a1 W1 σ' H1 .refl k s'
theorem ds_par {px py pt : Pos} {kt k2 pt2} (hc : X.calm = true) (hN : X.N.Nodup) (hi : X.N[i]? = some x) (hj : X.N[j]? = some y) (hij : i ≠ j)
    (hx : X.env.scope.names.lookup x = some .local) (hy : X.env.scope.names.lookup y = some .local) (ha : DF X Wx [a, b] fs)
    (hw : swappedStores [.Tuple [.Name x px, .Name y py] kt pt] (.Tuple [a, b] k2 pt2) X.env = pure (some [x, y]))
    (hs : swapsWithSole [.Tuple [.Name x px, .Name y py] kt pt] (.Tuple [a, b] k2 pt2) pos.line X.env = pure false := by rfl) :
    DS X Wx (.Assign [.Tuple [.Name x px, .Name y py] kt pt] (.Tuple [a, b] k2 pt2) pos) (sPar [.nm i, .nm j] fs) := by
  refine ⟨ps_imp (ps_par hc hN hi hj hij hx hy ha.pa hw hs) fun D σ H q => ?_, evo_par ha.evo⟩
  obtain ⟨W, B, ρ, s, k⟩ := rd_par (K := X.K) q
  refine ⟨W, B, ρ, s, k.mono fun W1 H1 ds ρ1 _ _ k vs s1 rs => ?_⟩
  obtain ⟨v, r, e1, w, r2, e2, e3, q⟩ := (k vs s1 rs).2
  subst e1 e2 e3
  exact ⟨v, w, rfl, q⟩
theorem ds_par3 {px py pz pt : Pos} {kt k2 pt2} (hc : X.calm = true) (hN : X.N.Nodup) (hi : X.N[i]? = some x) (hj : X.N[j]? = some y) (hl : X.N[l]? = some z) (hij : i ≠ j) (hil : i ≠ l) (hjl : j ≠ l)
    (hx : X.env.scope.names.lookup x = some .local) (hy : X.env.scope.names.lookup y = some .local) (hz : X.env.scope.names.lookup z = some .local) (ha : DF X Wx [a, b, c] fs)
    (hw : swappedStores [.Tuple [.Name x px, .Name y py, .Name z pz] kt pt] (.Tuple [a, b, c] k2 pt2) X.env = pure (some [x, y, z]))
    (hs : swapsWithSole [.Tuple [.Name x px, .Name y py, .Name z pz] kt pt] (.Tuple [a, b, c] k2 pt2) pos.line X.env = pure false := by rfl) :
    DS X Wx (.Assign [.Tuple [.Name x px, .Name y py, .Name z pz] kt pt] (.Tuple [a, b, c] k2 pt2) pos) (sPar [.nm i, .nm j, .nm l] fs) := by
  refine ⟨ps_imp (ps_par3 hc hN hi hj hl hij hil hjl hx hy hz ha.pa hw hs) fun D σ H q => ?_, evo_par ha.evo⟩
  obtain ⟨W, B, ρ, s, k⟩ := rd_par (K := X.K) q
  refine ⟨W, B, ρ, s, k.mono fun W1 H1 ds ρ1 _ _ k vs s1 rs => ?_⟩
  obtain ⟨v, r, e1, w, r2, e2, u, r3, e3, e4, q⟩ := (k vs s1 rs).2
  subst e1 e2 e3 e4
  exact ⟨v, w, u, rfl, q⟩
/-! ### sources that are walked -/
inductive Wk where
  | ev (f : M R) | sl (i : Nat)
/-- what a borrowed or frozen name holds -/
def heldAt (ρ : Env) (i : Nat) : Option D := match ρ[i]? with
  | some (.bor d) => some d
  | some (.frz d) => some d
  | _ => none
def getH (i : Nat) : M D := fun ρ => match heldAt ρ i with
  | some d => some (.ok d ρ)
  | none => none
theorem evo_getH {i : Nat} : EvoF (getH i) := fun ρ o e => by
  unfold getH at e
  split at e
  · cases e; exact .refl _
  · cases e
def evW : List Wk → M (List D)
  | [] => mret []
  | .ev f :: ws => mbind f fun r => mbind (evW ws) fun ds => mret (r.d :: ds)
  | .sl i :: ws => mbind (getH i) fun d => mbind (evW ws) fun ds => mret (d :: ds)
def Wk.Evo : Wk → Prop
  | .ev f => EvoF f
  | .sl _ => True
theorem evo_evW : ∀ {ws : List Wk}, (∀ w ∈ ws, w.Evo) → EvoF (evW ws)
  | [], _ => evo_ret _
  | .ev f :: ws, h => evo_bind (h _ List.mem_cons_self) fun _ => evo_bind (evo_evW fun o z => h o (List.mem_cons_of_mem _ z)) fun _ => evo_ret _
  | .sl i :: ws, h => evo_bind evo_getH fun _ => evo_bind (evo_evW fun o z => h o (List.mem_cons_of_mem _ z)) fun _ => evo_ret _
/-- it stands for d and nothing here changes it -/
def WRep (W B : AP mg) (H : Hp) (d : D) (v : V) : Prop := Rep (Eo W B) H d v ∨ ∃ a, v = .ref a ∧ ¬ W a ∧ TopR (Eo W B) H a d
def WReps (W B : AP mg) (H : Hp) : List D → List V → Prop
  | [], vs => vs = []
  | d :: ds, vs => ∃ v r, vs = v :: r ∧ WRep W B H d v ∧ WReps W B H ds r
theorem WRep.fr {W W' B : AP mg} {H H' : Hp} {d : D} {v : V} (h : WRep W B H d v) (f : Fr W H W' H') : WRep W' B H' d v := by
  rcases h with h | ⟨a, e, n, t⟩
  · exact .inl (h.fr f)
  · refine .inr ⟨a, e, fun z => ?_, t.fr f n⟩
    rcases f.sub a z with k | k
    · exact n k
    · exact t.trk k
def rdW (mg : Str → Option Value) (Wx : WX) (ws : List Wk) : TA := fun σ H Q => ∃ W B ρ, St W B σ H ρ ∧ After mg Wx W B σ H (evW ws ρ) fun W' H' ds ρ' => ∀ vs, St W' B σ H' ρ' → WReps W' B H' ds vs → Q vs H'
def rdW1 (mg : Str → Option Value) (Wx : WX) : Wk → TE
  | .ev f => rdE mg Wx f
  | .sl i => tVar i
theorem heldAt_ok {W B : AP mg} {σ : L2.St} {H : Hp} {ρ : Env} (s : St W B σ H ρ) {d : D} (h : heldAt ρ i = some d) : ∃ v, sv σ i = some v ∧ WRep W B H d v := by
  unfold heldAt at h
  split at h
  · rename_i d' e
    cases h
    obtain ⟨a, e1, ba, t⟩ := s.slot i _ e
    exact ⟨_, e1, .inr ⟨a, rfl, fun z => s.dis a z ba, t⟩⟩
  · rename_i d' e
    cases h
    obtain ⟨v, e1, r⟩ := s.slot i _ e
    exact ⟨v, e1, .inl r⟩
  · cases h
theorem rdW_cons {mg : Str → Option Value} {w : Wk} {ws : List Wk} {σ : L2.St} {H : Hp} {Q : List V → Hp → Prop} (h : rdW mg Wx (w :: ws) σ H Q) :
    rdW1 mg Wx w σ H fun x H1 => rdW mg Wx ws σ H1 fun xs H2 => Q (x :: xs) H2 := by
  obtain ⟨W, B, ρ, s, a⟩ := h
  cases w with
  | ev f =>
    refine ⟨W, B, ρ, s, After.mono (After.bind a) fun W1 H1 r ρ1 e1 fr1 a1 v hv => ?_⟩
    obtain ⟨W0, hW, s1, r1⟩ := hv.any
    refine ⟨W0, B, ρ1, s1, After.mono (After.bind (a1.sub hW)) fun W2 H2 ds ρ2 e2 fr2 a2 vs s2 r2 => ?_⟩
    exact a2.here (v :: vs) s2 ⟨v, vs, rfl, .inl (r1.fr fr2), r2⟩
  | sl i =>
    have a := After.bind a
    unfold getH at a
    split at a
    · rename_i d e
      obtain ⟨v, e1, r1⟩ := heldAt_ok s e
      refine ⟨v, sv_some e1, W, B, ρ, s, After.mono (After.bind a.here) fun W2 H2 ds ρ2 e2 fr2 a2 vs s2 r2 => ?_⟩
      exact a2.here (v :: vs) s2 ⟨v, vs, rfl, r1.fr fr2, r2⟩
    · exact a.elim
def DW1 (X : Cx) (Wx : WX) (e : Expr) : Wk → Prop
  | .ev f => DE X Wx e f
  | .sl i => PE X e (tVar i)
theorem DW1.pe {w : Wk} (h : DW1 X Wx e w) : PE X e (rdW1 X.mg Wx w) := by
  cases w with
  | ev f => exact DE.pe h
  | sl i => exact h
theorem DW1.evo {w : Wk} (h : DW1 X Wx e w) : w.Evo := by
  cases w with
  | ev f => exact DE.evo h
  | sl i => trivial
theorem dw_ev {f : M R} (h : DE X Wx e f) : DW1 X Wx e (.ev f) := h
theorem dw_sl (h : PE X e (tVar i)) : DW1 X Wx e (.sl i) := h
structure DWs (X : Cx) (Wx : WX) (es : List Expr) (ws : List Wk) : Prop where
  pa : PA X es (rdW X.mg Wx ws)
  evo : ∀ w ∈ ws, w.Evo
theorem dws_nil : DWs X Wx [] [] := ⟨pa_imp pa_nil fun _ _ _ ⟨W, B, ρ, s, a⟩ => a.here [] s rfl, fun _ z => nomatch z⟩
theorem dws_cons {w : Wk} {ws : List Wk} (h1 : DW1 X Wx e w) (h2 : DWs X Wx es ws) (hs : starEach (e :: es) X.env = (false, eval e X.env) :: starEach es X.env := by rfl) : DWs X Wx (e :: es) (w :: ws) :=
  ⟨pa_imp (pa_cons h1.pe h2.pa hs) fun _ _ _ h => rdW_cons h, fun z hz => by
    rcases List.mem_cons.mp hz with e | k
    · rw [e]; exact h1.evo
    · exact h2.evo z k⟩
/-- what it is, as a list or as a tuple -/
theorem WRep.lst {W B : AP mg} {H : Hp} {ds : List D} {v : V} (h : WRep W B H (.lst ds) v) : ∃ a vs, v = .ref a ∧ ¬ W a ∧ H a = some (.lst vs) ∧ Reps (Eo W B) H ds vs := by
  rcases h with ⟨a, vs, e, h, n, r⟩ | ⟨a, e, n, vs, h, r⟩
  · exact ⟨a, vs, e, fun z => n (.inl z), h, r⟩
  · exact ⟨a, vs, e, n, h, r⟩
theorem WRep.tup {W B : AP mg} {H : Hp} {ds : List D} {v : V} (h : WRep W B H (.tup ds) v) : ∃ a vs, v = .ref a ∧ ¬ W a ∧ TupZ H a vs ∧ Reps (Eo W B) H ds vs := by
  rcases h with ⟨a, vs, e, h, n, r⟩ | ⟨a, e, n, h⟩
  · exact ⟨a, vs, e, fun z => n (.inl z), h, r⟩
  · exact h.elim
def fWalk (g : List D → Option (List D)) (ws : List Wk) : M (List D) := mbind (evW ws) fun ds => mopt (g ds)
theorem evo_walk {g : List D → Option (List D)} {ws : List Wk} (h : ∀ w ∈ ws, w.Evo) : EvoF (fWalk g ws) := evo_bind (evo_evW h) fun _ => evo_opt _
/-! ### zip -/
def zipL (xs ys : List D) : List D := (xs.zip ys).map fun p => .tpl [p.1, p.2]
def zipD : List D → Option (List D)
  | [.lst xs, .lst ys] => some (zipL xs ys)
  | [.tup xs, .tup ys] => some (zipL xs ys)
  | _ => none
theorem zipL_get {xs ys : List D} {i : Nat} {d : D} (h : (zipL xs ys)[i]? = some d) : ∃ x y, xs[i]? = some x ∧ ys[i]? = some y ∧ d = .tpl [x, y] := by
  unfold zipL at h
  rw [List.getElem?_map] at h
  cases q : (xs.zip ys)[i]? with
  | none => rw [q] at h; cases h
  | some p =>
    rw [q] at h
    cases h
    obtain ⟨h1, h2⟩ := List.getElem?_zip_eq_some.mp q
    exact ⟨p.1, p.2, h1, h2, rfl⟩
theorem zipL_len {xs ys : List D} : (zipL xs ys).length = min xs.length ys.length := by simp [zipL]
theorem rep_tpl2 {W' B : AP mg} {H' : Hp} {T : Addr} {d1 d2 : D} {v1 v2 : V} (hT : H' T = none) (dom : ∀ a, W' a ∨ B a → H' a ≠ none) (r1 : Rep (Eo W' B) H' d1 v1) (r2 : Rep (Eo W' B) H' d2 v2) :
    Rep (Eo W' B) (upd H' T (.tup [v1, v2])) (.tpl [d1, d2]) (.ref T) := by
  have f : Fr W' H' W' (upd H' T (.tup [v1, v2])) := Fr.new hT
  exact ⟨T, _, rfl, upd_same, fun z => dom T z hT, ⟨v1, _, rfl, r1.fr f, v2, _, rfl, r2.fr f, rfl⟩⟩
theorem itok_zipL {K : PySem.W.Frag} {W B : AP mg} {H : Hp} {a b : Addr} {xs ys : List V} {ds es : List D} (na : ¬ W a) (ha : H a = some (.lst xs)) (ra : Reps (Eo W B) H ds xs) (nb : ¬ W b) (hb : H b = some (.lst ys)) (rb : Reps (Eo W B) H es ys) :
    ItOk (Itz K a b) W B H (zipL ds es) := fun W' H' i f dom => by
  have ha' := f.keep a _ ha na
  have hb' := f.keep b _ hb nb
  refine ⟨fun hi => ⟨xs, ys, SqL.of ha', SqL.of hb', ?_⟩, fun d hd => ?_⟩
  · rw [zipL_len] at hi
    rw [ra.length, rb.length]
    omega
  · obtain ⟨dx, dy, e1, e2, rfl⟩ := zipL_get hd
    obtain ⟨x, hx, rx⟩ := ra.get e1
    obtain ⟨y, hy, ry⟩ := rb.get e2
    refine ⟨⟨xs, ys, x, y, SqL.of ha', SqL.of hb', hx, hy⟩, fun v H'' yl => ?_⟩
    obtain ⟨T, x', y', rfl, hT, eH, k1, k2⟩ := yl
    have z1 := k1 xs (SqL.of ha')
    have z2 := k2 ys (SqL.of hb')
    rw [hx] at z1
    rw [hy] at z2
    cases z1
    cases z2
    exact ⟨.inr ⟨T, _, hT, eH⟩, eH ▸ rep_tpl2 hT dom (rx.fr f) (ry.fr f)⟩
theorem itok_zipT {K : PySem.W.Frag} {W B : AP mg} {H : Hp} {a b : Addr} {xs ys : List V} {ds es : List D} (na : ¬ W a) (ha : TupZ H a xs) (ra : Reps (Eo W B) H ds xs) (nb : ¬ W b) (hb : TupZ H b ys) (rb : Reps (Eo W B) H es ys) :
    ItOk (RZ.ItzT K a b) W B H (zipL ds es) := fun W' H' i f dom => by
  have ha' : TupZ H' a xs := ha.keep f.keep na
  have hb' : TupZ H' b ys := hb.keep f.keep nb
  refine ⟨fun hi => ⟨xs, ys, ha'.sq, hb'.sq, ?_⟩, fun d hd => ?_⟩
  · rw [zipL_len] at hi
    rw [ra.length, rb.length]
    omega
  · obtain ⟨dx, dy, e1, e2, rfl⟩ := zipL_get hd
    obtain ⟨x, hx, rx⟩ := ra.get e1
    obtain ⟨y, hy, ry⟩ := rb.get e2
    refine ⟨⟨xs, ys, x, y, ha'.sq, hb'.sq, hx, hy⟩, fun v H'' yl => ?_⟩
    obtain ⟨T, x', y', rfl, hT, eH, k1, k2⟩ := yl
    have z1 := k1 xs ha'.sq
    have z2 := k2 ys hb'.sq
    rw [hx] at z1
    rw [hy] at z2
    cases z1
    cases z2
    exact ⟨.inr ⟨T, _, hT, eH⟩, eH ▸ rep_tpl2 hT dom (rx.fr f) (ry.fr f)⟩
theorem di_zip {elts : List Expr} {kk : Nat} {ws : List Wk} (hg : Gl X "zip") (hm : X.mg "zip" = none) (ha : DWs X Wx [e, e2] ws)
    (hs : starEach [e, e2] X.env = (false, eval e X.env) :: starEach [e2] X.env := by rfl) (hpl : (backTo pos (starEach [e2] X.env)).any (·.1) = false := by rfl) :
    DI X Wx (.Tuple elts kk tpos) (.Call (.Name "zip" p) [e, e2] [] pos) (fWalk zipD ws) := by
  refine ⟨pi_imp (RZ.pi_zipA hg hm ha.pa hs hpl) fun σ H R ⟨W, B, ρ, s, a⟩ => ⟨W, B, ρ, s, (After.bind a).mono fun W1 H1 ds ρ1 _ _ a1 vs s1 rs => ?_⟩, evo_walk ha.evo⟩
  obtain ⟨items, k, a2⟩ := a1.opt
  have a2 := a2 W1 H1 .refl
  unfold zipD at k
  split at k
  · cases k
    obtain ⟨v, r, rfl, p1, v2, r2, rfl, p2, rfl⟩ := rs
    obtain ⟨a1, xs, rfl, n1, h1, q1⟩ := p1.lst
    obtain ⟨b1, ys, rfl, n2, h2, q2⟩ := p2.lst
    exact ⟨a1, b1, xs, ys, rfl, .inl ⟨SqL.of h1, SqL.of h2, a2 _ W1 .rfl' s1 (itok_zipL n1 h1 q1 n2 h2 q2)⟩⟩
  · cases k
    obtain ⟨v, r, rfl, p1, v2, r2, rfl, p2, rfl⟩ := rs
    obtain ⟨a1, xs, rfl, n1, h1, q1⟩ := p1.tup
    obtain ⟨b1, ys, rfl, n2, h2, q2⟩ := p2.tup
    exact ⟨a1, b1, xs, ys, rfl, .inr ⟨h1.sq, h2.sq, a2 _ W1 .rfl' s1 (itok_zipT n1 h1 q1 n2 h2 q2)⟩⟩
  · cases k
/-! ### enumerate -/
def enumFrom (n : Nat) : List D → List D
  | [] => []
  | x :: xs => .tpl [.int (n : Nat), x] :: enumFrom (n + 1) xs
theorem enum_len : ∀ {n : Nat} {xs : List D}, (enumFrom n xs).length = xs.length
  | _, [] => rfl
  | n, x :: xs => by rw [show enumFrom n (x :: xs) = .tpl [.int (n : Nat), x] :: enumFrom (n + 1) xs from rfl, List.length_cons, List.length_cons, enum_len]
theorem enum_get : ∀ {n : Nat} {xs : List D} {i : Nat} {d : D}, (enumFrom n xs)[i]? = some d → ∃ x, xs[i]? = some x ∧ d = .tpl [.int ((n + i : Nat) : Int), x]
  | _, [], _, _, h => by simp [enumFrom] at h
  | n, x :: xs, 0, d, h => by
    simp [enumFrom] at h
    exact ⟨x, by simp, by rw [← h]; rfl⟩
  | n, x :: xs, i + 1, d, h => by
    have h : (enumFrom (n + 1) xs)[i]? = some d := by simpa [enumFrom] using h
    obtain ⟨y, e, rfl⟩ := enum_get h
    exact ⟨y, by simpa using e, by rw [show n + 1 + i = n + (i + 1) by omega]⟩
def enumD : List D → Option (List D)
  | [.lst xs] => some (enumFrom 0 xs)
  | _ => none
theorem itok_enumL {K : PySem.W.Frag} {W B : AP mg} {H : Hp} {a : Addr} {xs : List V} {ds : List D} (na : ¬ W a) (ha : H a = some (.lst xs)) (ra : Reps (Eo W B) H ds xs) :
    ItOk (Ite K a) W B H (enumFrom 0 ds) := fun W' H' i f dom => by
  have ha' := f.keep a _ ha na
  refine ⟨fun hi => ⟨xs, SqL.of ha', ?_⟩, fun d hd => ?_⟩
  · rw [enum_len] at hi
    rw [ra.length]
    omega
  · obtain ⟨dx, e1, rfl⟩ := enum_get hd
    obtain ⟨x, hx, rx⟩ := ra.get e1
    refine ⟨⟨xs, x, SqL.of ha', hx⟩, fun v H'' yl => ?_⟩
    obtain ⟨T, x', rfl, hT, eH, k1⟩ := yl
    have z1 := k1 xs (SqL.of ha')
    rw [hx] at z1
    cases z1
    refine ⟨.inr ⟨T, _, hT, eH⟩, eH ▸ rep_tpl2 hT dom ?_ (rx.fr f)⟩
    rw [Nat.zero_add]
    rfl
theorem di_enum {elts : List Expr} {kk : Nat} {ws : List Wk} (hg : Gl X "enumerate") (hm : X.mg "enumerate" = none) (ha : DWs X Wx [e] ws) (hs : starEach [e] X.env = [(false, eval e X.env)] := by rfl) :
    DI X Wx (.Tuple elts kk tpos) (.Call (.Name "enumerate" p) [e] [] pos) (fWalk enumD ws) := by
  refine ⟨pi_imp (pi_enum hg hm ha.pa hs) fun σ H R ⟨W, B, ρ, s, a⟩ => ⟨W, B, ρ, s, (After.bind a).mono fun W1 H1 ds ρ1 _ _ a1 vs s1 rs => ?_⟩, evo_walk ha.evo⟩
  obtain ⟨items, k, a2⟩ := a1.opt
  have a2 := a2 W1 H1 .refl
  unfold enumD at k
  split at k
  · cases k
    obtain ⟨v, r, rfl, p1, rfl⟩ := rs
    obtain ⟨a1, xs, rfl, n1, h1, q1⟩ := p1.lst
    exact ⟨a1, xs, rfl, SqL.of h1, a2 _ W1 .rfl' s1 (itok_enumL n1 h1 q1)⟩
  · cases k
end
end Dz
/-! Dz 19: index, count, remove; a count that goes up. -/
namespace Dz
open PySem PySem.Spec PyProof.Rows L2
section
variable {X : Cx} {pins : List (Addr × Obj)} {σ : L2.St} {H : Hp} {s : Shared}
/-- items and a value, read as data -/
theorem deep_items {its : List Value} {xs : List V} {ds : List PyData} {y : V} {uy : Value} {d : PyData} (I : Inv X pins σ H s) (ha : DpAll X.K H xs ds) (rv : Vals xs its) (hy : Dp X.K H y d) (ry : RelV y uy) (sl : PyData.canLayAll0 ds = true) (sd : SeqAt.shaped d = true) (hu : X.A.units + 65 < cLine) :
    its.length = ds.length ∧ (∀ v, v ∈ its.toArray → SeqAt.EqAt X.A.in1 s v uy (PyData.eqv (SeqAt.readOf s.heap v) d)) ∧ its.map (SeqAt.readOf s.heap) = ds := by
  obtain ⟨bs, r1⟩ := Dp.reads I d y uy hy ry
  obtain ⟨as, h4⟩ := Dp.readsAll I ds _ its ha rv
  exact ⟨SeqAt.ReadsAll.length ds its as h4, SeqAt.items_eqAt (vs := its.toArray) (show ReadsAll s.heap its.toArray.toList ds as from h4) r1 sl (SeqAt.canLay_of_shaped sd) (room_tup sd hu), SeqAt.readsAll_map ds its as sl h4⟩
theorem read_at {its : List Value} {ds : List PyData} {h : Heap} (hmap : its.map (SeqAt.readOf h) = ds) {m : Nat} (hm : m < its.toArray.size) {z : PyData} (hz : ds[m]? = some z) : SeqAt.readOf h its.toArray[m] = z := by
  have hml : m < its.length := by simpa using hm
  rw [← hmap, List.getElem?_map, List.getElem?_eq_getElem hml] at hz
  have e1 : SeqAt.readOf h its[m] = z := Option.some.inj (show some (SeqAt.readOf h its[m]) = some z from hz)
  simpa using e1
/-- the first place -/
def isFirst (ds : List PyData) (d : PyData) (j : Nat) : Prop := (∃ z, ds[j]? = some z ∧ PyData.eqv z d = true) ∧ ∀ (m : Nat) (z : PyData), m < j → ds[m]? = some z → PyData.eqv z d = false
def rIdxT (K : PySem.W.Frag) : V → List V → Hp → VK → Prop := fun x vs H Q => ∃ (a : Addr) (y : V) (d : PyData) (ds : List PyData) (xs : List V) (j : Nat), x = .ref a ∧ vs = [y] ∧ SqT K H a xs ∧ DpAll K H xs ds ∧ Dp K H y d ∧ PyData.canLayAll0 ds = true ∧ SeqAt.shaped d = true ∧ isFirst ds d j ∧ Q (.int (j : Nat)) H
theorem mt_idxT (hu : X.A.units + 65 < cLine) : MtR X "tuple.index" (rIdxT X.K) := by
  intro pins s σ H x vs v us Q I rx rs h
  obtain ⟨a, y, d, ds, xs, j, rfl, rfl, hq, ha, hy, sl, sd, ⟨⟨z, hz, hzj⟩, hno⟩, q⟩ := h
  cases rx
  obtain ⟨uy, rfl, ry⟩ := rs.one
  obtain ⟨its, rv, pl, hlen⟩ := I.tuple hq
  obtain ⟨⟨cls, dd, dt, sls⟩, ho, hc, n, hd⟩ := pl
  simp only at hc hd
  subst hc hd
  obtain ⟨hn, heq, hmap⟩ := deep_items I ha rv hy ry sl sd hu
  obtain ⟨hjd, _⟩ := List.getElem?_eq_some_iff.mp hz
  have hj : j < its.toArray.size := by simp; omega
  refine call_meets PySem.F.slot_tuple_index ⟨_, ho, rfl⟩ PySem.F.entry_tuple_index (PySem.F.args_tuple_index_2 _ _) (TI.tuple_indexAt a its.toArray n dd sls uy (fun u => PyData.eqv (SeqAt.readOf s.heap u) d) j hj ?_ ?_)
    ⟨ho, heq, ⟨.int (j : Nat), H, I.tok _, ⟨_, rfl⟩, q⟩⟩
  · show PyData.eqv (SeqAt.readOf s.heap its.toArray[j]) d = true
    rw [read_at hmap hj hz]
    exact hzj
  · intro m hm hmj
    have hmd : m < ds.length := by simp at hm; omega
    show PyData.eqv (SeqAt.readOf s.heap its.toArray[m]) d = false
    rw [read_at hmap hm (List.getElem?_eq_getElem hmd)]
    exact hno m _ hmj (List.getElem?_eq_getElem hmd)
def rIdxL (K : PySem.W.Frag) : V → List V → Hp → VK → Prop := fun x vs H Q => ∃ (a : Addr) (y : V) (d : PyData) (ds : List PyData) (xs : List V) (j : Nat), x = .ref a ∧ vs = [y] ∧ SqL K H a xs ∧ DpAll K H xs ds ∧ Dp K H y d ∧ PyData.canLayAll0 ds = true ∧ SeqAt.shaped d = true ∧ isFirst ds d j ∧ Q (.int (j : Nat)) H
theorem mt_idxL (hu : X.A.units + 65 < cLine) : MtR X "list.index" (rIdxL X.K) := by
  intro pins s σ H x vs v us Q I rx rs h
  obtain ⟨a, y, d, ds, xs, j, rfl, rfl, hq, ha, hy, sl, sd, ⟨⟨z, hz, hzj⟩, hno⟩, q⟩ := h
  cases rx
  obtain ⟨uy, rfl, ry⟩ := rs.one
  obtain ⟨its, rv, ⟨⟨cls, dd, data, sls⟩, n, ho, hc, hdn, hdt⟩, hlen⟩ := I.list hq
  simp only at hc hdt
  subst hc hdt
  obtain ⟨hn, heq, hmap⟩ := deep_items I ha rv hy ry sl sd hu
  have hsl := sizeLine_eq
  have hvl := rv.length
  obtain ⟨hjd, _⟩ := List.getElem?_eq_some_iff.mp hz
  have hj : j < its.toArray.size := by simp; omega
  refine call_meets PySem.F.slot_list_index ⟨_, ho, rfl⟩ PySem.F.entry_list_index (PySem.F.args_list_index_2 _ _) (SeqAt.list_indexAt a its.toArray n dd sls uy (fun u => PyData.eqv (SeqAt.readOf s.heap u) d) j hj (by simp at hj; omega) ?_ ?_)
    ⟨ho, heq, ⟨.int (j : Nat), H, I.tok _, ⟨_, rfl⟩, q⟩⟩
  · show PyData.eqv (SeqAt.readOf s.heap its.toArray[j]) d = true
    rw [read_at hmap hj hz]
    exact hzj
  · intro m hm hmj
    have hmd : m < ds.length := by simp at hm; omega
    show PyData.eqv (SeqAt.readOf s.heap its.toArray[m]) d = false
    rw [read_at hmap hm (List.getElem?_eq_getElem hmd)]
    exact hno m _ hmj (List.getElem?_eq_getElem hmd)
def rCntL (K : PySem.W.Frag) : V → List V → Hp → VK → Prop := fun x vs H Q => ∃ (a : Addr) (y : V) (d : PyData) (ds : List PyData) (xs : List V), x = .ref a ∧ vs = [y] ∧ SqL K H a xs ∧ DpAll K H xs ds ∧ Dp K H y d ∧ PyData.canLayAll0 ds = true ∧ SeqAt.shaped d = true ∧ Q (.int (ds.countP fun z => PyData.eqv z d : Nat)) H
theorem mt_cntL (hu : X.A.units + 65 < cLine) : MtR X "list.count" (rCntL X.K) := by
  intro pins s σ H x vs v us Q I rx rs h
  obtain ⟨a, y, d, ds, xs, rfl, rfl, hq, ha, hy, sl, sd, q⟩ := h
  cases rx
  obtain ⟨uy, rfl, ry⟩ := rs.one
  obtain ⟨its, rv, ⟨⟨cls, dd, data, sls⟩, n, ho, hc, hdn, hdt⟩, hlen⟩ := I.list hq
  simp only at hc hdt
  subst hc hdt
  obtain ⟨hn, heq, hmap⟩ := deep_items I ha rv hy ry sl sd hu
  refine call_meets PySem.F.slot_list_count ⟨_, ho, rfl⟩ PySem.F.entry_list_count (PySem.F.args_list_count_2 _ _) (SeqAt.list_countAt a its.toArray n dd sls uy (fun u => PyData.eqv (SeqAt.readOf s.heap u) d))
    ⟨ho, heq, ⟨.int (ds.countP fun z => PyData.eqv z d : Nat), H, I.tok _, ⟨s.toks, ?_⟩, q⟩⟩
  rw [← hmap, List.countP_map]
  rfl
def rRemL (K : PySem.W.Frag) : V → List V → Hp → VK → Prop := fun x vs H Q => ∃ (a : Addr) (y : V) (d : PyData) (ds : List PyData) (xs : List V) (j : Nat), x = .ref a ∧ vs = [y] ∧ H a = some (.lst xs) ∧ DpAll K H xs ds ∧ Dp K H y d ∧ PyData.canLayAll0 ds = true ∧ SeqAt.shaped d = true ∧ isFirst ds d j ∧ Q .non (upd H a (.lst (xs.eraseIdx j)))
theorem mt_remL (hu : X.A.units + 65 < cLine) : MtR X "list.remove" (rRemL X.K) := by
  intro pins s σ H x vs v us Q I rx rs h
  obtain ⟨a, y, d, ds, xs, j, rfl, rfl, hH, ha, hy, sl, sd, ⟨⟨z, hz, hzj⟩, hno⟩, q⟩ := h
  cases rx
  obtain ⟨uy, rfl, ry⟩ := rs.one
  obtain ⟨zz, its, n, rv, hl, e⟩ := I.lstM hH
  obtain ⟨hn, heq, hmap⟩ := deep_items I ha rv hy ry sl sd hu
  obtain ⟨hjd, _⟩ := List.getElem?_eq_some_iff.mp hz
  have hj : j < its.toArray.size := by simp; omega
  refine call_meets PySem.F.slot_list_remove ⟨_, e, rfl⟩ PySem.F.entry_list_remove (PySem.F.args_list_remove_2 _ _) (SeqAt.list_removeAt a its.toArray n none #[] uy (fun u => PyData.eqv (SeqAt.readOf s.heap u) d) j hj ?_ ?_ (by rw [List.size_toArray]; omega))
    ⟨e, heq, ?_⟩
  · show PyData.eqv (SeqAt.readOf s.heap its.toArray[j]) d = true
    rw [read_at hmap hj hz]
    exact hzj
  · intro m hm hmj
    have hmd : m < ds.length := by simp at hm; omega
    show PyData.eqv (SeqAt.readOf s.heap its.toArray[m]) d = false
    rw [read_at hmap hm (List.getElem?_eq_getElem hmd)]
    exact hno m _ hmj (List.getElem?_eq_getElem hmd)
  · refine ⟨.non, _, I.lset (its' := its.eraseIdx j) (t' := s.toks) hH e ?_ (rv.eraseIdx j) ?_, rfl, q⟩
    · show its.toArray.eraseIdxIfInBounds j = (its.eraseIdx j).toArray
      rw [List.eraseIdxIfInBounds_toArray]
    · have z2 := len_erase xs j
      omega
end
/-! ### on data -/
def findD (xs : List D) (x : D) : Option Nat := xs.findIdx? fun z => eqB z x
theorem first_of {xs : List D} {x : D} {j : Nat} (h : findD xs x = some j) : isFirst (pys xs) (py x) j := by
  obtain ⟨hl, h1, h2⟩ := List.findIdx?_eq_some_iff_getElem.mp h
  refine ⟨⟨py xs[j], by rw [pys_map, List.getElem?_map, List.getElem?_eq_getElem hl]; rfl, h1⟩, fun m z hm hz => ?_⟩
  rw [pys_map, List.getElem?_map] at hz
  cases q : xs[m]? with
  | none => rw [q] at hz; cases hz
  | some w =>
    rw [q] at hz
    cases hz
    obtain ⟨hml, ew⟩ := List.getElem?_eq_some_iff.mp q
    have := h2 m hm
    rw [ew] at this
    exact Bool.eq_false_iff.mpr this
def okL (xs : List D) : Bool := PyData.canLayAll0 (pys xs)
def idxD : List D → D → Option R
  | [x], .lst xs => if okL xs = true ∧ okD x = true then (findD xs x).map fun j => .frz (.int (j : Nat)) else none
  | [x], .tup xs => if okL xs = true ∧ okD x = true then (findD xs x).map fun j => .frz (.int (j : Nat)) else none
  | _, _ => none
def cntD : List D → D → Option R
  | [x], .lst xs => if okL xs = true ∧ okD x = true then some (.frz (.int (xs.countP fun z => eqB z x : Nat))) else none
  | _, _ => none
def remD : List D → D → Option (D × D)
  | [x], .lst xs => if okL xs = true ∧ okD x = true then (findD xs x).map fun j => (.lst (xs.eraseIdx j), .non) else none
  | _, _ => none
/-- a method that only looks -/
def VRMr (r : V → List V → Hp → VK → Prop) (g : List D → D → Option R) : Prop := ∀ {mg : Str → Option Value} (W B : AP mg) (σ : L2.St) (H : Hp) (ρ : Env) (v : V) (vs : List V) (d : D) (ds : List D) (res : R) (Q : VK), St W B σ H ρ → PRep (Eo W B) H d v → PReps (Eo W B) H ds vs → g ds d = some res →
  (∀ W' H' u, Fr W H W' H' → VOk W' B σ H' ρ u res → Q u H') → r v vs H Q
def gM (k : D → Bool) (g : List D → D → Option R) : List D → Option R
  | d :: ds => if k d = true then g ds d else none
  | _ => none
def isTu : D → Bool
  | .tup _ => true
  | _ => false
def isSq : D → Bool
  | .lst _ => true
  | .scr _ => true
  | _ => false
section
variable {X : Cx} {Wx : WX} {o e : Expr} {es : List Expr} {os : List Opd} {o1 : Opd} {apos pos : Pos} {x : Str} {fe : M R} {fs : List (M R)} {name : Str} {fid : String} {r : V → List V → Hp → VK → Prop} {g : List D → D → Option R} {i : Nat}
theorem reps_of_p {N : AP mg} {H : Hp} : ∀ {ds : List D} {vs : List V}, PReps N H ds vs → vs.length = ds.length
  | [], _, h => by rw [show _ = [] from h]; rfl
  | d :: ds, _, ⟨v, r, e, p, q⟩ => by rw [e, List.length_cons, List.length_cons, reps_of_p q]
def needK (k : D → Bool) (i : Nat) : M Unit := fun ρ => match contAt ρ i with
  | some d => if k d = true then some (.ok () ρ) else none
  | none => none
/-- a cell's content is such -/
def needCe (k : D → Bool) (hi : Nat) (r : R) : M Unit := mbind (getCe hi r []) fun ds => mopt (match ds with
  | d :: _ => if k d = true then some () else none
  | [] => none)
/-- what a method is called on, its kind looked at, then the arguments -/
def evM (k : D → Bool) : Opd → List Opd → M (List D)
  | .ev f, os => mbind f fun r => mbind (mopt (if k r.d = true then some () else none)) fun _ => mbind (evs os) fun ds => mret (r.d :: ds)
  | .sl i, os => mbind (needK k i) fun _ => mbind (evs os) fun ds => getSl i ds
  | .dr hi f, os => mbind f fun r => mbind (needCe k hi r) fun _ => mbind (evs os) fun ds => getCe hi r ds
theorem evo_kind {k : D → Bool} {i : Nat} : EvoF (needK k i) := fun ρ o e => by
  unfold needK at e
  split at e
  · split at e
    · cases e; exact .refl _
    · cases e
  · cases e
theorem evo_evM {k : D → Bool} (h1 : o1.Evo) (h2 : ∀ o ∈ os, o.Evo) : EvoF (evM k o1 os) := by
  cases o1 with
  | ev f => exact evo_bind h1 fun _ => evo_bind (evo_opt _) fun _ => evo_bind (evo_evs h2) fun _ => evo_ret _
  | sl i => exact evo_bind evo_kind fun _ => evo_bind (evo_evs h2) fun _ => evo_getSl
  | dr hi f => exact evo_bind h1 fun _ => evo_bind (evo_bind evo_getCe fun _ => evo_opt _) fun _ => evo_bind (evo_evs h2) fun _ => evo_getCe
theorem needCe_ok {mg : Str → Option Value} {k : D → Bool} {hi : Nat} {r : R} {α : Type} {g : Unit → M α} {W B : AP mg} {σ : L2.St} {H : Hp} {ρ : Env} {v : V} {Q : AP mg → Hp → α → Env → Prop} (hv : VOk W B σ H ρ v r) (a : After mg Wx W B σ H (mbind (needCe k hi r) g ρ) Q) :
    ∃ d, PRep (Eo W B) H d v ∧ k d = true ∧ After mg Wx W B σ H (g () ρ) Q := by
  have a1 := After.bind (After.bind a)
  cases q : getCe hi r [] ρ with
  | none => rw [q] at a1; exact a1.elim
  | some o =>
    obtain ⟨n, cs, d, rfl, eh, ed, rfl, no⟩ := getCe_some q
    rw [q] at a1
    have a1 := After.here a1
    obtain ⟨x, rfl, _, _, t⟩ := hv.1.cell (W0 := W) hv.2 (fun _ _ e => e) eh ed
    have a1 : After mg Wx W B σ H (mopt (if k d = true then some () else none) ρ) _ := a1
    by_cases hk : k d = true
    · rw [if_pos hk] at a1
      exact ⟨d, t.prep no, hk, After.here a1⟩
    · rw [if_neg hk] at a1
      exact a1.elim
theorem rdM {mg : Str → Option Value} {k : D → Bool} (hos : ∀ o ∈ os, o.Evo) {σ : L2.St} {H : Hp} {Q : List V → Hp → Prop}
    (h : ∃ W B ρ, St W B σ H ρ ∧ After mg Wx W B σ H (evM k o1 os ρ) fun W' H' ds ρ' => ∀ vs, St W' B σ H' ρ' → PReps (Eo W' B) H' ds vs → Q vs H') :
    rdO mg Wx o1 σ H fun x H1 => (∃ (N : AP mg) (d : D), PRep N H1 d x ∧ k d = true) ∧ rdOs mg Wx os σ H1 fun xs H2 => Q (x :: xs) H2 := by
  obtain ⟨W, B, ρ, s, a⟩ := h
  cases o1 with
  | ev f =>
    refine ⟨W, B, ρ, s, After.mono (After.bind a) fun W1 H1 r ρ1 e1 fr1 a1 v hv => ?_⟩
    have a1 := After.bind a1
    by_cases hk : k r.d = true
    · rw [if_pos hk] at a1
      have a1 := After.here a1
      obtain ⟨W0, B1, hW, s1, hB, hp, hu⟩ := hv.park
      have hu' : ∀ W' H' ρ', Evo ρ1 ρ' → St W' B1 σ H' ρ' → St W' B σ H' ρ' := fun W' H' ρ' ev => hu σ ρ' H' W' fun i d q => ⟨ev.bor i d q, rfl⟩
      refine ⟨⟨_, r.d, hp W0 H1 .refl, hk⟩, W0, B1, ρ1, s1, After.park (ρ1 := ρ1) (After.mono (After.bind (a1.sub hW)) fun W2 H2 ds ρ2 e2 fr2 a2 vs s2 r2 => ?_) hB (fun r q => evo_evs hos _ _ q) hu'⟩
      exact a2.here (v :: vs) (hu' W2 H2 ρ2 (evo_evs hos _ _ e2) s2) ⟨v, vs, rfl, (hp W2 H2 fr2).less (.bb hB), PReps.less (.bb hB) r2⟩
    · rw [if_neg hk] at a1
      exact a1.elim
  | sl i =>
    have a : After mg Wx W B σ H (mbind (needK k i) (fun _ => mbind (evs os) fun ds => getSl i ds) ρ) _ := a
    have a := After.bind a
    unfold needK at a
    split at a
    · rename_i d e
      split at a
      · rename_i hk
        obtain ⟨v, e1, p1⟩ := s.at e
        refine ⟨v, sv_some e1, ⟨_, d, p1, hk⟩, W, B, ρ, s, After.mono (After.bind a.here) fun W2 H2 ds ρ2 e2 fr2 a2 vs s2 r2 => ?_⟩
        unfold getSl at a2
        split at a2
        · rename_i d2 e3
          obtain ⟨v2, e4, r4⟩ := s2.at e3
          rw [e1] at e4
          cases e4
          exact a2.here (v :: vs) s2 ⟨v, vs, rfl, r4, r2⟩
        · exact a2.elim
      · exact a.elim
    · exact a.elim
  | dr hi f =>
    refine ⟨W, B, ρ, s, After.mono (After.bind a) fun W1 H1 r ρ1 e1 fr1 a1 v hv => ?_⟩
    obtain ⟨d0, p0, hk0, a1⟩ := needCe_ok hv a1
    refine ⟨⟨_, d0, p0, hk0⟩, W1, B, ρ1, hv.st, (After.bind a1).mono fun W2 H2 ds ρ2 e2 fr2 a2 vs s2 r2 => ?_⟩
    cases q : getCe hi r ds ρ2 with
    | none => rw [q] at a2; exact a2.elim
    | some o =>
      obtain ⟨n, cs, d, rfl, eh, ed, rfl, no⟩ := getCe_some q
      rw [q] at a2
      obtain ⟨a, rfl, _, _, t⟩ := s2.cell (W0 := W2) hv.2 fr2.tab eh ed
      exact a2.here (.ref a :: vs) s2 ⟨.ref a, vs, rfl, t.prep no, r2⟩
def gA (g : List D → D → Option R) : List D → Option R
  | d :: ds => g ds d
  | [] => none
def fMeth (k : D → Bool) (o1 : Opd) (os : List Opd) (g : List D → D → Option R) : M R := mbind (evM k o1 os) fun ds => mopt (gA g ds)
theorem evo_meth {k : D → Bool} (h1 : o1.Evo) (h2 : ∀ o ∈ os, o.Evo) : EvoF (fMeth k o1 os g) := evo_bind (evo_evM h1 h2) fun _ => evo_opt _
theorem rd_meth {mg : Str → Option Value} {k : D → Bool} (hr : VRMr r g) (hos : ∀ o ∈ os, o.Evo) {σ : L2.St} {H : Hp} {Q : VK} (h : rdE mg Wx (fMeth k o1 os g) σ H Q) :
    rdO mg Wx o1 σ H fun x H1 => (∃ (N : AP mg) (d : D), PRep N H1 d x ∧ k d = true) ∧ rdOs mg Wx os σ H1 fun xs H2 => r x xs H2 Q := by
  obtain ⟨W, B, ρ, s, a⟩ := h
  have h : ∃ W B ρ, St W B σ H ρ ∧ After mg Wx W B σ H (evM k o1 os ρ) fun W' H' ds ρ' => ∀ vs, St W' B σ H' ρ' → PReps (Eo W' B) H' ds vs → ∃ x xs, vs = x :: xs ∧ r x xs H' Q := by
    refine ⟨W, B, ρ, s, (After.bind a).mono fun W1 H1 ds ρ1 _ _ a1 vs s1 rs => ?_⟩
    obtain ⟨res, e, a2⟩ := a1.opt
    cases ds with
    | nil => cases e
    | cons d ds =>
      obtain ⟨x, xs, rfl, p, ps⟩ := rs
      exact ⟨x, xs, rfl, hr W1 B σ H1 ρ1 x xs d ds res Q s1 p ps e fun W' H' u f hv => a2 W' H' f u hv⟩
  refine mono_rdO (rdM hos h) fun x H1 ⟨hk, q⟩ => ⟨hk, mono_rdOs q fun xs H2 ⟨x', xs', e, q⟩ => ?_⟩
  cases e
  exact q
theorem ty_list {K : PySem.W.Frag} {H : Hp} {x : V} (h : ∃ (N : AP mg) (d : D), PRep N H d x ∧ isSq d = true) : tyV K "list" x H := by
  obtain ⟨N, d, p, hk⟩ := h
  cases d with
  | lst ds => obtain ⟨a, vs, rfl, e, _⟩ := p.lst; exact .inl ⟨rfl, vs, SqL.of e⟩
  | scr ns => obtain ⟨a, rfl, e⟩ := p.scr; exact .inl ⟨rfl, _, .inl e⟩
  | _ => cases hk
theorem ty_tup {H : Hp} {x : V} (h : ∃ (N : AP mg) (d : D), PRep N H d x ∧ isTu d = true) : ∃ a vs, x = .ref a ∧ TupZ H a vs := by
  obtain ⟨N, d, p, hk⟩ := h
  cases d with
  | tup ds => obtain ⟨a, vs, rfl, e, _⟩ := p.tup; exact ⟨a, vs, rfl, e⟩
  | _ => cases hk
theorem de_methL (slot : PySem.Slot "list" name fid) (hty : typeOf (.builtin fid) = pure (.type "method_descriptor")) (hm : MtR X fid r) (hr : VRMr r g) (ho : DO X Wx o o1) (ha : DOs X Wx (e :: es) os)
    (hbase : attributeBase o name X.env (eval o X.env) = eval o X.env := by rfl)
    (hfew : ((backTo pos (starEach (e :: es) X.env)).all (fun x => !x.1) && (backToKw pos (keywordEach [] X.env)).all (fun x => x.1.isSome)
      && decide ((e :: es).length + ([] : List Keyword).length + (if ([] : List Keyword).isEmpty then 0 else 1) < 30)) = true := by rfl)
    (hline : (apos.endLine == pos.line) = true := by rfl) (hs : starEach (e :: es) X.env = (false, eval e X.env) :: starEach es X.env := by rfl) (hplain : (backTo pos (starEach es X.env)).any (·.1) = false := by rfl) :
    DE X Wx (.Call (.Attribute o name apos) (e :: es) [] pos) (fMeth isSq o1 os g) :=
  ⟨pe_imp (pe_bm PySem.F.plainAttrs_list slot hty hm ho.pe ha.pa hbase hfew hline hs hplain) fun _ _ _ q => mono_rdO (rd_meth hr ha.evo q) fun x H1 ⟨k, q⟩ => ⟨ty_list k, q⟩, evo_meth ho.evo ha.evo⟩
theorem de_methT (slot : PySem.Slot "tuple" name fid) (hty : typeOf (.builtin fid) = pure (.type "method_descriptor")) (hm : MtR X fid r) (hr : VRMr r g) (ho : DO X Wx o o1) (ha : DOs X Wx (e :: es) os)
    (hbase : attributeBase o name X.env (eval o X.env) = eval o X.env := by rfl)
    (hfew : ((backTo pos (starEach (e :: es) X.env)).all (fun x => !x.1) && (backToKw pos (keywordEach [] X.env)).all (fun x => x.1.isSome)
      && decide ((e :: es).length + ([] : List Keyword).length + (if ([] : List Keyword).isEmpty then 0 else 1) < 30)) = true := by rfl)
    (hline : (apos.endLine == pos.line) = true := by rfl) (hs : starEach (e :: es) X.env = (false, eval e X.env) :: starEach es X.env := by rfl) (hplain : (backTo pos (starEach es X.env)).any (·.1) = false := by rfl) :
    DE X Wx (.Call (.Attribute o name apos) (e :: es) [] pos) (fMeth isTu o1 os g) :=
  ⟨pe_imp (pe_tm slot hty hm ho.pe ha.pa hbase hfew hline hs hplain) fun _ _ _ q => mono_rdO (rd_meth hr ha.evo q) fun x H1 ⟨k, q⟩ => ⟨ty_tup k, q⟩, evo_meth ho.evo ha.evo⟩
theorem dpall {K : PySem.W.Frag} {N : AP mg} {H : Hp} {ds : List D} {vs : List V} (r : Reps N H ds vs) (h : okL ds = true) : DpAll K H vs (pys ds) := Reps.dp ds vs r h
theorem vrm_idxL {K : PySem.W.Frag} : VRMr (rIdxL K) (fun ds d => match d with
    | .lst xs => idxD ds (.lst xs)
    | _ => none) := by
  intro mg W B σ H ρ v vs d ds res Q s p rs hg hq
  dsimp only at hg
  split at hg
  · rename_i xs
    unfold idxD at hg
    split at hg
    · rename_i x ys e
      cases e
      split at hg
      · rename_i hz
        cases q : findD xs x with
        | none => rw [q] at hg; cases hg
        | some j =>
          rw [q] at hg
          cases hg
          obtain ⟨y, rfl, py⟩ := preps1 rs
          obtain ⟨a, ws, rfl, hp, r⟩ := p.lst
          exact ⟨a, y, _, _, ws, j, rfl, rfl, SqL.of hp, dpall r hz.1, py.dp hz.2, hz.1, hz.2, first_of q, hq W H _ .refl ⟨s, rfl⟩⟩
      · cases hg
    · rename_i e; cases e
    · cases hg
  · cases hg
theorem vrm_idxT {K : PySem.W.Frag} : VRMr (rIdxT K) (fun ds d => match d with
    | .tup xs => idxD ds (.tup xs)
    | _ => none) := by
  intro mg W B σ H ρ v vs d ds res Q s p rs hg hq
  dsimp only at hg
  split at hg
  · rename_i xs
    unfold idxD at hg
    split at hg
    · rename_i e; cases e
    · rename_i x ys e
      cases e
      split at hg
      · rename_i hz
        cases q : findD xs x with
        | none => rw [q] at hg; cases hg
        | some j =>
          rw [q] at hg
          cases hg
          obtain ⟨y, rfl, py⟩ := preps1 rs
          obtain ⟨a, ws, rfl, hp, _, r⟩ := p.tup
          exact ⟨a, y, _, _, ws, j, rfl, rfl, hp.sq, dpall r hz.1, py.dp hz.2, hz.1, hz.2, first_of q, hq W H _ .refl ⟨s, rfl⟩⟩
      · cases hg
    · cases hg
  · cases hg
theorem vrm_cntL {K : PySem.W.Frag} : VRMr (rCntL K) cntD := by
  intro mg W B σ H ρ v vs d ds res Q s p rs hg hq
  unfold cntD at hg
  split at hg
  · rename_i x xs
    split at hg
    · rename_i hz
      cases hg
      obtain ⟨y, rfl, py⟩ := preps1 rs
      obtain ⟨a, ws, rfl, hp, r⟩ := p.lst
      refine ⟨a, y, _, _, ws, rfl, rfl, SqL.of hp, dpall r hz.1, py.dp hz.2, hz.1, hz.2, ?_⟩
      rw [pys_map, List.countP_map]
      exact hq W H _ .refl ⟨s, rfl⟩
    · cases hg
  · cases hg
theorem vrm_remL {K : PySem.W.Frag} : VRMo (rRemL K) remD := by
  intro mg W B H a vs ds d d' r' Q wa t rs hg hq
  unfold remD at hg
  split at hg
  · rename_i x xs
    split at hg
    · rename_i hz
      cases q : findD xs x with
      | none => rw [q] at hg; cases hg
      | some j =>
        rw [q] at hg
        cases hg
        obtain ⟨ws, e, r⟩ := t
        obtain ⟨y, rfl, py⟩ := preps1 rs
        exact ⟨a, y, _, _, ws, j, rfl, rfl, e, dpall r hz.1, py.dp hz.2, hz.1, hz.2, first_of q, hq _ _ ⟨_, upd_same, (r.erase j).fr (Fr.upd wa)⟩ rfl⟩
    · cases hg
  · cases hg
def idxLD (ds : List D) (d : D) : Option R := match d with
  | .lst xs => idxD ds (.lst xs)
  | _ => none
def idxTD (ds : List D) (d : D) : Option R := match d with
  | .tup xs => idxD ds (.tup xs)
  | _ => none
theorem de_idxL (hu : X.A.units + 65 < cLine) (ho : DO X Wx o o1) (ha : DOs X Wx [e] os) (hbase : attributeBase o "index" X.env (eval o X.env) = eval o X.env := by rfl)
    (hfew : ((backTo pos (starEach [e] X.env)).all (fun x => !x.1) && (backToKw pos (keywordEach [] X.env)).all (fun x => x.1.isSome)
      && decide ([e].length + ([] : List Keyword).length + (if ([] : List Keyword).isEmpty then 0 else 1) < 30)) = true := by rfl)
    (hline : (apos.endLine == pos.line) = true := by rfl) (hs : starEach [e] X.env = (false, eval e X.env) :: starEach [] X.env := by rfl) :
    DE X Wx (.Call (.Attribute o "index" apos) [e] [] pos) (fMeth isSq o1 os idxLD) := de_methL PySem.F.slot_list_index PySem.F.type_list_index (mt_idxL hu) vrm_idxL ho ha hbase hfew hline hs
theorem de_idxT (hu : X.A.units + 65 < cLine) (ho : DO X Wx o o1) (ha : DOs X Wx [e] os) (hbase : attributeBase o "index" X.env (eval o X.env) = eval o X.env := by rfl)
    (hfew : ((backTo pos (starEach [e] X.env)).all (fun x => !x.1) && (backToKw pos (keywordEach [] X.env)).all (fun x => x.1.isSome)
      && decide ([e].length + ([] : List Keyword).length + (if ([] : List Keyword).isEmpty then 0 else 1) < 30)) = true := by rfl)
    (hline : (apos.endLine == pos.line) = true := by rfl) (hs : starEach [e] X.env = (false, eval e X.env) :: starEach [] X.env := by rfl) :
    DE X Wx (.Call (.Attribute o "index" apos) [e] [] pos) (fMeth isTu o1 os idxTD) := de_methT PySem.F.slot_tuple_index PySem.F.type_tuple_index (mt_idxT hu) vrm_idxT ho ha hbase hfew hline hs
theorem de_cntL (hu : X.A.units + 65 < cLine) (ho : DO X Wx o o1) (ha : DOs X Wx [e] os) (hbase : attributeBase o "count" X.env (eval o X.env) = eval o X.env := by rfl)
    (hfew : ((backTo pos (starEach [e] X.env)).all (fun x => !x.1) && (backToKw pos (keywordEach [] X.env)).all (fun x => x.1.isSome)
      && decide ([e].length + ([] : List Keyword).length + (if ([] : List Keyword).isEmpty then 0 else 1) < 30)) = true := by rfl)
    (hline : (apos.endLine == pos.line) = true := by rfl) (hs : starEach [e] X.env = (false, eval e X.env) :: starEach [] X.env := by rfl) :
    DE X Wx (.Call (.Attribute o "count" apos) [e] [] pos) (fMeth isSq o1 os cntD) := de_methL PySem.F.slot_list_count PySem.F.type_list_count (mt_cntL hu) vrm_cntL ho ha hbase hfew hline hs
theorem de_remL (hu : X.A.units + 65 < cLine) (ho : PE X o (tVar i)) (ha : DOs X Wx [e] os) (hbase : attributeBase o "remove" X.env (eval o X.env) = eval o X.env := by rfl)
    (hfew : ((backTo pos (starEach [e] X.env)).all (fun x => !x.1) && (backToKw pos (keywordEach [] X.env)).all (fun x => x.1.isSome)
      && decide ([e].length + ([] : List Keyword).length + (if ([] : List Keyword).isEmpty then 0 else 1) < 30)) = true := by rfl)
    (hline : (apos.endLine == pos.line) = true := by rfl) (hs : starEach [e] X.env = (false, eval e X.env) :: starEach [] X.env := by rfl) :
    DE X Wx (.Call (.Attribute o "remove" apos) [e] [] pos) (fMutO i os remD) := de_mutO PySem.F.slot_list_remove PySem.F.type_list_remove (mt_remL hu) (vrm_remL (K := X.K)) ho ha hbase hfew hline hs
/-! ### a count that goes up -/
theorem ds_inc {pos' : Pos} (hN : X.N.Nodup) (hi : X.N[i]? = some x) (hx : Loc X.env.scope x) (he : DO X Wx e o1) (hf : X.fn x = true ∨ X.env.scope.names.lookup x = some .local := by first | exact .inl rfl | exact .inr rfl | assumption) :
    DS X Wx (.AugAssign (.Name x pos') .Add e pos) (sInc i o1) := by
  refine ⟨ps_imp (ps_aug hN hi hx he.pe ip_add hf) fun D σ H ⟨W, B, ρ, s, a⟩ => ?_, evo_bind evo_getI fun _ => evo_bind (evo_f1 he.evo) fun _ => evo_setSl⟩
  have a := a.bindE fun _ => evo_bind (evo_f1 he.evo) fun _ => evo_setSl
  unfold getI at a
  split at a
  · rename_i n e1
    obtain ⟨v, e2, rv⟩ := s.slot i _ e1
    have ev : v = .int n := rv
    subst ev
    have a1 := (After.here a).bindE fun _ => evo_setSl
    refine ⟨.int n, sv_some e2, rd1 (r := fun y H1 Q => ipI (fun i j => i + j) (.int n) y H1 Q) ?_ he.evo (⟨W, B, ρ, s, a1.mono fun W1 H1 r ρ1 _ _ k v hv => asg_ok k hv⟩ : rdE X.mg Wx _ σ H fun z H2 => D.nx (σ.set i (some z)) H2)⟩
    intro mg W B σ H ρ v d res Q s p hg hq
    cases d with
    | int m =>
      cases hg
      exact ⟨n, m, rfl, p.int, hq W H _ .refl ⟨s, rfl⟩⟩
    | _ => cases hg
  · exact a.elim
end
end Dz
/-! Dz 20: dictionaries with keys that are whole numbers or texts; list(range(..)). -/
namespace Dz
open PySem PySem.Spec PyProof.Rows L2
/-! ### list(range(..)) -/
section
variable {X : Cx} {Wx : WX} {o a b e : Expr} {es : List Expr} {os : List Opd} {o1 o2 : Opd} {apos pos p p2 : Pos} {x : Str} {fe : M R} {fs : List (M R)} {i : Nat}
theorem rgV_map {lo : Int} {n : Nat} : ((List.range n).map fun i => V.int (lo + (i : Nat))) = ((List.range n).map fun i => lo + ((i : Nat) : Int)).map V.int := by simp [List.map_map]
theorem reps_range {N : AP mg} {H : Hp} {lo : Int} {n : Nat} : Reps N H (rangeL lo n) ((List.range n).map fun i => V.int (lo + (i : Nat))) := by
  rw [rgV_map]
  have e : rangeL lo n = ((List.range n).map fun i => lo + ((i : Nat) : Int)).map D.int := by simp [rangeL, List.map_map]
  rw [e]
  exact ints_reps _
def lrgD (g : List D → Option (List D)) (ds : List D) : Option R := match g ds with
  | some xs => if xs.length ≤ 16777216 then some (.own (.lst xs)) else none
  | none => none
theorem lrg1_some {ds : List D} {res : R} (e : lrgD rng1 ds = some res) : ∃ n : Int, ds = [.int n] ∧ True ∧ res = .own (.lst (rangeL 0 n.toNat)) ∧ (-(2 ^ 62) ≤ n ∧ n < 2 ^ 62) ∧ n.toNat ≤ 16777216 := by
  unfold lrgD at e
  split at e
  · rename_i xs hx
    split at e
    · rename_i hz
      cases e
      unfold rng1 at hx
      split at hx
      · rename_i j
        split at hx
        · rename_i hj
          cases hx
          rw [rangeL_len] at hz
          exact ⟨j, rfl, trivial, rfl, hj, hz⟩
        · cases hx
      · cases hx
    · cases e
  · cases e
theorem de_lrg1 {b : Expr} (hc : X.calm = true) (hg : Gl X "list") (hm : X.mg "list" = none) (hg2 : Gl X "range") (hm2 : X.mg "range" = none) (ha : DO X Wx a o1) (na : starEach [a] X.env = (false, eval a X.env) :: starEach [] X.env := by rfl)
    (nb : starEach [.Call (.Name "range" p2) [a] [] apos] X.env = (false, eval (.Call (.Name "range" p2) [a] [] apos) X.env) :: starEach [] X.env := by rfl) :
    DE X Wx (.Call (.Name "list" p) [.Call (.Name "range" p2) [a] [] apos] [] pos) (fL [o1] (lrgD rng1)) := by
  refine ⟨pe_imp (pe_listRg hc hg hm (prg_1 hg2 hm2 ha.pe na) nb) fun σ H Q ⟨W, B, ρ, s, k⟩ => ?_, evo_fL (evo1 ha.evo)⟩
  have q : rdOs X.mg Wx [o1] σ H fun vs H1 => ∃ n, vs = [.int n] ∧ RgOk 0 n ∧ ∀ q, H1 q = none → Q (.ref q) (upd H1 q (.lst (rgV 0 n))) := by
    refine ⟨W, B, ρ, s, (After.bind k).mono fun W1 H1 ds ρ1 _ _ k1 vs s1 rs => ?_⟩
    obtain ⟨res, e, k2⟩ := k1.opt
    obtain ⟨n, ed, e1, e2, h1, h2⟩ := lrg1_some e
    subst ed
    subst e2
    obtain ⟨v, rfl, pv⟩ := preps1 rs
    refine ⟨n, by rw [pv.int], ⟨by omega, by omega, h1.1, h1.2, by rw [Int.sub_zero]; omega⟩, fun q hq => k2 _ _ (Fr.newW hq) _ (vok_lst s1 ?_ hq)⟩
    show Reps _ _ (rangeL 0 n.toNat) ((List.range (n - 0).toNat).map fun i => V.int (0 + (i : Nat)))
    rw [Int.sub_zero]
    exact reps_range
  refine mono_rdO (rdOs_cons (os := []) ha.evo (fun _ z => (List.not_mem_nil z).elim) q) fun x H1 q => ?_
  obtain ⟨n, e, h1, h2⟩ := rdOs_nil q
  cases e
  exact ⟨n, rfl, h1, h2⟩
/-! ### dictionaries -/
def lkD : List Key → List D → Key → Option D
  | k' :: ks, v :: vs, k => if k' = k then some v else lkD ks vs k
  | _, _, _ => none
theorem lk_rep {N : AP mg} {H : Hp} {k : Key} : ∀ {ks : List Key} {ds : List D} {kvs : List (Key × V)}, kvs.map (·.1) = ks → Reps N H ds (kvs.map (·.2)) → (∀ d, lkD ks ds k = some d → ∃ v, valV kvs k = some v ∧ Rep N H d v) ∧ (lkD ks ds k = none → valV kvs k = none)
  | [], ds, kvs, e, r => by
    have : kvs = [] := List.map_eq_nil_iff.mp e
    subst this
    exact ⟨fun d h => (nomatch h), fun _ => rfl⟩
  | k' :: ks, ds, [], e, r => by cases e
  | k' :: ks, [], kv :: kvs, e, r => by cases r
  | k' :: ks, d :: ds, (k2, v) :: kvs, e, ⟨w, r2, e2, p, q⟩ => by
    have e1 : k2 = k' := (List.cons.inj e).1
    have e3 : kvs.map (·.1) = ks := (List.cons.inj e).2
    have e4 : v = w := (List.cons.inj e2).1
    have e5 : kvs.map (·.2) = r2 := (List.cons.inj e2).2
    subst e1 e4
    rw [← e5] at q
    obtain ⟨h1, h2⟩ := lk_rep (k := k) e3 q
    by_cases hk : k2 = k
    · subst hk
      refine ⟨fun d' h => ⟨v, by simp [valV], ?_⟩, fun h => ?_⟩
      · have : d = d' := by simpa [lkD] using h
        exact this ▸ p
      · simp [lkD] at h
    · refine ⟨fun d' h => ?_, fun h => ?_⟩
      · have h' : lkD ks ds k = some d' := by simpa [lkD, hk] using h
        obtain ⟨u, hu, ru⟩ := h1 d' h'
        exact ⟨u, by simpa [valV, hk] using hu, ru⟩
      · have h' : lkD ks ds k = none := by simpa [lkD, hk] using h
        simpa [valV, hk] using h2 h'
def putDs (ks : List Key) (ds : List D) (k : Key) (x : D) : List Key × List D :=
  if (ks.any fun k' => decide (k' = k)) = true then (ks, ((ks.zip ds).map fun p => if p.1 = k then x else p.2)) else (ks ++ [k], ds ++ [x])
def dropDs (ks : List Key) (ds : List D) (k : Key) : List Key × List D := (ks.filter fun k' => decide (k' ≠ k), ((ks.zip ds).filter fun p => decide (p.1 ≠ k)).map (·.2))
theorem put_rep {N : AP mg} {H : Hp} {k : Key} {x : D} {v : V} (hx : Rep N H x v) : ∀ {ks : List Key} {ds : List D} {kvs : List (Key × V)}, kvs.map (·.1) = ks → Reps N H ds (kvs.map (·.2)) →
    (putK kvs k v).map (·.1) = (putDs ks ds k x).1 ∧ Reps N H (putDs ks ds k x).2 ((putK kvs k v).map (·.2)) := by
  intro ks ds kvs e r
  have ea : (ks.any fun k' => decide (k' = k)) = (kvs.any fun kv => decide (kv.1 = k)) := by rw [← e, List.any_map]; rfl
  unfold putDs putK
  rw [ea]
  by_cases h : (kvs.any fun kv => decide (kv.1 = k)) = true
  · rw [if_pos h, if_pos h]
    clear h ea
    refine ⟨?_, ?_⟩
    · rw [← e]
      simp only [List.map_map]
      refine List.map_congr_left fun kv _ => ?_
      show (if kv.1 = k then (kv.1, v) else kv).1 = kv.1
      split <;> rfl
    · induction kvs generalizing ks ds with
      | nil =>
        subst e
        have : ds = [] := by cases ds with
          | nil => rfl
          | cons d ds => obtain ⟨_, _, z, _⟩ := r; cases z
        subst this
        exact rfl
      | cons kv kvs ih =>
        obtain ⟨k2, u⟩ := kv
        cases ds with
        | nil => cases r
        | cons d ds =>
          obtain ⟨w, r2, e2, p, q⟩ := r
          cases e2
          subst e
          have ih := ih rfl q
          by_cases hk : k2 = k
          · subst hk
            simp only [List.map_cons, List.zip_cons_cons, if_true]
            exact ⟨v, _, rfl, hx, ih⟩
          · simp only [List.map_cons, List.zip_cons_cons]
            rw [if_neg hk, if_neg hk]
            exact ⟨u, _, rfl, p, ih⟩
  · rw [if_neg h, if_neg h]
    exact ⟨by simp [e], by
      rw [List.map_append]
      exact Reps.snoc r ⟨v, [], rfl, hx, rfl⟩⟩
theorem drop_rep {N : AP mg} {H : Hp} {k : Key} : ∀ {ks : List Key} {ds : List D} {kvs : List (Key × V)}, kvs.map (·.1) = ks → Reps N H ds (kvs.map (·.2)) →
    (dropK kvs k).map (·.1) = (dropDs ks ds k).1 ∧ Reps N H (dropDs ks ds k).2 ((dropK kvs k).map (·.2)) := by
  intro ks ds kvs e r
  unfold dropDs dropK
  induction kvs generalizing ks ds with
  | nil =>
    subst e
    have : ds = [] := by cases ds with
      | nil => rfl
      | cons d ds => obtain ⟨_, _, z, _⟩ := r; cases z
    subst this
    exact ⟨rfl, rfl⟩
  | cons kv kvs ih =>
    obtain ⟨k2, u⟩ := kv
    cases ds with
    | nil => cases r
    | cons d ds =>
      obtain ⟨w, r2, e2, p, q⟩ := r
      cases e2
      subst e
      obtain ⟨h1, h2⟩ := ih rfl q
      by_cases hk : k2 = k
      · subst hk
        refine ⟨by simpa using h1, by simpa using h2⟩
      · refine ⟨by simpa [hk] using h1, ?_⟩
        simp only [List.map_cons, List.zip_cons_cons, List.filter_cons, ne_eq, hk, not_false_eq_true, decide_true, if_true]
        exact ⟨u, _, rfl, p, h2⟩
/-- {} -/
def fDict0 : M R := mret (.own (.dK [] []))
theorem vok_dK {W B : AP mg} {σ : L2.St} {H : Hp} {ρ : Env} {p : Addr} {ks : List Key} {ds : List D} {kvs : List (Key × V)} (s : St W B σ H ρ) (e : kvs.map (·.1) = ks) (r : Reps (Eo W B) H ds (kvs.map (·.2))) (hp : H p = none) :
    VOk (Pl W p) B σ (upd H p (.dK kvs)) ρ (.ref p) (.own (.dK ks ds)) := by
  refine ⟨p, rfl, .inr rfl, s.newW hp, ⟨kvs, upd_same, e, ?_⟩, s.free hp⟩
  refine Reps.mono (N := Eo W B) (N' := Eo (Pl W p) B) (H' := upd H p (.dK kvs)) ⟨fun a z => ?_, fun _ _ e => e⟩ (fun a o e _ => by rw [upd_ne (ne_of_none e hp)]; exact e) _ _ r
  rcases z with (z | z) | z
  · exact .inl (.inl z)
  · subst z; exact .inr hp
  · exact .inl (.inr z)
theorem de_dict0 : DE X Wx (.Dict [] [] pos) fDict0 := by
  refine ⟨pe_imp pe_dnewK fun σ H Q ⟨W, B, ρ, s, a⟩ p hp => ?_, evo_ret _⟩
  exact a (Pl W p) _ (Fr.newW hp) _ (vok_dK s rfl rfl hp)
/-- d[k] -/
def getKD : D → D → Option R
  | .dK ks ds, x => match keyD x with
    | some k => (lkD ks ds k).map .frz
    | none => none
  | _, _ => none
theorem vr_dget : VR2 (fun x y H Q => ∃ a v, x = .ref a ∧ DGet H a y (some v) ∧ Q v H) getKD := by
  intro mg W B σ H ρ x y a b res Q s hx hy hg hq
  unfold getKD at hg
  split at hg
  · rename_i ks ds
    split at hg
    · rename_i k hk
      cases q : lkD ks ds k with
      | none => rw [q] at hg; cases hg
      | some d =>
        rw [q] at hg
        cases hg
        obtain ⟨p, kvs, rfl, hp, e, r⟩ := hx.dK
        obtain ⟨v, hv, rv⟩ := (lk_rep e r).1 d q
        have g := dget_dK hy hk hp
        rw [hv] at g
        exact ⟨p, v, rfl, g, hq W H _ .refl ⟨s, rv⟩⟩
    · cases hg
  · cases hg
theorem de_dget (hu : X.A.units + 1 < cLine) (h1 : DO X Wx a o1) (h2 : DO X Wx b o2) (hs : NoSl b := by exact fun _ _ => rfl) : DE X Wx (.Subscript a b pos) (f2 o1 o2 getKD) :=
  ⟨pe_imp (pe_dget hu h1.pe h2.pe hs) fun _ _ _ h => rd2 vr_dget h1.evo h2.evo h, evo_f2 h1.evo h2.evo⟩
/-- d[k] = v -/
def putKD : D → D → D → Option D
  | j, x, .dK ks ds => match keyD j with
    | some k => if ks.length < sizeLine then some (.dK (putDs ks ds k x).1 (putDs ks ds k x).2) else none
    | none => none
  | _, _, _ => none
theorem vrp_putK : VRP rSetD putKD := by
  intro mg W B H a jv ev d d' j x Q wa t pj rx hg hq
  unfold putKD at hg
  split at hg
  · rename_i ks ds
    split at hg
    · rename_i k hk
      split at hg
      · rename_i hz
        cases hg
        obtain ⟨kvs, eh, e, r⟩ := t
        have ek := keyD_rep pj hk
        subst ek
        have hl : kvs.length < sizeLine := by rw [← e, List.length_map] at hz; exact hz
        obtain ⟨h1, h2⟩ := put_rep (k := k) rx e r
        exact ⟨a, _, rfl, DPut.k eh hl, hq _ ⟨_, upd_same, h1, h2.fr (Fr.upd wa)⟩⟩
      · cases hg
    · cases hg
  · cases hg
/-! ### methods whose arguments may be kept -/
def evMF (k : D → Bool) : Opd → List (M R) → M (List D)
  | .ev f, fs => mbind f fun r => mbind (mopt (if k r.d = true then some () else none)) fun _ => mbind (evF fs) fun ds => mret (r.d :: ds)
  | .sl i, fs => mbind (needK k i) fun _ => mbind (evF fs) fun ds => getSl i ds
  | .dr hi f, fs => mbind f fun r => mbind (needCe k hi r) fun _ => mbind (evF fs) fun ds => getCe hi r ds
theorem evo_evMF {k : D → Bool} (h1 : o1.Evo) (h2 : ∀ f ∈ fs, EvoF f) : EvoF (evMF k o1 fs) := by
  cases o1 with
  | ev f => exact evo_bind h1 fun _ => evo_bind (evo_opt _) fun _ => evo_bind (evo_evF h2) fun _ => evo_ret _
  | sl i => exact evo_bind evo_kind fun _ => evo_bind (evo_evF h2) fun _ => evo_getSl
  | dr hi f => exact evo_bind h1 fun _ => evo_bind (evo_bind evo_getCe fun _ => evo_opt _) fun _ => evo_bind (evo_evF h2) fun _ => evo_getCe
theorem rdMF {mg : Str → Option Value} {k : D → Bool} (hos : ∀ f ∈ fs, EvoF f) {σ : L2.St} {H : Hp} {Q : V → List V → Hp → Prop}
    (h : ∃ W B ρ, St W B σ H ρ ∧ After mg Wx W B σ H (evMF k o1 fs ρ) fun W' H' ds ρ' => ∀ x xs d ds', ds = d :: ds' → St W' B σ H' ρ' → PRep (Eo W' B) H' d x → Reps (Eo W' B) H' ds' xs → Q x xs H') :
    rdO mg Wx o1 σ H fun x H1 => (∃ (N : AP mg) (d : D), PRep N H1 d x ∧ k d = true) ∧ rdF mg Wx fs σ H1 fun xs H2 => Q x xs H2 := by
  obtain ⟨W, B, ρ, s, a⟩ := h
  cases o1 with
  | ev f =>
    refine ⟨W, B, ρ, s, After.mono (After.bind a) fun W1 H1 r ρ1 e1 fr1 a1 v hv => ?_⟩
    have a1 := After.bind a1
    by_cases hk : k r.d = true
    · rw [if_pos hk] at a1
      have a1 := After.here a1
      obtain ⟨W0, B1, hW, s1, hB, hp, hu⟩ := hv.park
      have hu' : ∀ W' H' ρ', Evo ρ1 ρ' → St W' B1 σ H' ρ' → St W' B σ H' ρ' := fun W' H' ρ' ev => hu σ ρ' H' W' fun i d q => ⟨ev.bor i d q, rfl⟩
      refine ⟨⟨_, r.d, hp W0 H1 .refl, hk⟩, W0, B1, ρ1, s1, After.park (ρ1 := ρ1) (After.mono (After.bind (a1.sub hW)) fun W2 H2 ds ρ2 e2 fr2 a2 vs s2 r2 => ?_) hB (fun r q => evo_evF hos _ _ q) hu'⟩
      exact a2.here v vs r.d ds rfl (hu' W2 H2 ρ2 (evo_evF hos _ _ e2) s2) ((hp W2 H2 fr2).less (.bb hB)) (r2.less (.bb hB))
    · rw [if_neg hk] at a1
      exact a1.elim
  | sl i =>
    have a : After mg Wx W B σ H (mbind (needK k i) (fun _ => mbind (evF fs) fun ds => getSl i ds) ρ) _ := a
    have a := After.bind a
    unfold needK at a
    split at a
    · rename_i d e
      split at a
      · rename_i hk
        obtain ⟨v, e1, p1⟩ := s.at e
        refine ⟨v, sv_some e1, ⟨_, d, p1, hk⟩, W, B, ρ, s, After.mono (After.bind a.here) fun W2 H2 ds ρ2 e2 fr2 a2 vs s2 r2 => ?_⟩
        unfold getSl at a2
        split at a2
        · rename_i d2 e3
          obtain ⟨v2, e4, r4⟩ := s2.at e3
          rw [e1] at e4
          cases e4
          exact a2.here v vs d2 ds rfl s2 r4 r2
        · exact a2.elim
      · exact a.elim
    · exact a.elim
  | dr hi f =>
    refine ⟨W, B, ρ, s, After.mono (After.bind a) fun W1 H1 r ρ1 e1 fr1 a1 v hv => ?_⟩
    obtain ⟨d0, p0, hk0, a1⟩ := needCe_ok hv a1
    refine ⟨⟨_, d0, p0, hk0⟩, W1, B, ρ1, hv.st, (After.bind a1).mono fun W2 H2 ds ρ2 e2 fr2 a2 vs s2 r2 => ?_⟩
    cases q : getCe hi r ds ρ2 with
    | none => rw [q] at a2; exact a2.elim
    | some o =>
      obtain ⟨n, cs, d, rfl, eh, ed, rfl, no⟩ := getCe_some q
      rw [q] at a2
      obtain ⟨a, rfl, _, _, t⟩ := s2.cell (W0 := W2) hv.2 fr2.tab eh ed
      exact a2.here (.ref a) vs d ds rfl s2 (t.prep no) r2
def isDk : D → Bool
  | .dK _ _ => true
  | _ => false
theorem isD_of {N : AP mg} {H : Hp} {d : D} {x : V} (p : PRep N H d x) (hk : isDk d = true) : ∃ a, x = .ref a ∧ IsD H a := by
  cases d with
  | dK ks ds => obtain ⟨a, kvs, rfl, e, _⟩ := p.dK; exact ⟨a, rfl, .inl ⟨kvs, .inl e⟩⟩
  | _ => cases hk
/-- d.get(k, x) -/
def dgetD : List D → Option R
  | [.dK ks ds, x, z] => match keyD x with
    | some k => some (.frz ((lkD ks ds k).getD z))
    | none => none
  | _ => none
def fDGet (o1 : Opd) (fs : List (M R)) : M R := mbind (evMF isDk o1 fs) fun ds => mopt (dgetD ds)
theorem de_get {f : Expr} (hu : X.A.units + 1 < cLine) (ho : DO X Wx o o1) (ha : DF X Wx [e, f] fs) (h1 : DE X Wx e fe) {fe2 : M R} (h2 : DE X Wx f fe2) (hf : fs = [fe, fe2]) (m : M2 X o "get" apos e f pos) :
    DE X Wx (.Call (.Attribute o "get" apos) [e, f] [] pos) (fDGet o1 fs) := by
  subst hf
  refine ⟨pe_imp (pe_dget2 hu ho.pe h1.pe h2.pe m) fun σ H Q ⟨W, B, ρ, s, a⟩ => ?_, evo_bind (evo_evMF ho.evo ha.evo) fun _ => evo_opt _⟩
  refine mono_rdO (rdMF (Q := fun x xs H3 => ∃ a y z o, x = .ref a ∧ xs = [y, z] ∧ DGet H3 a y o ∧ Q (o.getD z) H3) ha.evo ⟨W, B, ρ, s, (After.bind a).mono fun W1 H1 ds ρ1 _ _ a1 x xs d ds' ed s1 px rxs => ?_⟩) fun x H1 ⟨⟨N, d, p, hk⟩, q⟩ => ?_
  · subst ed
    obtain ⟨res, k, a2⟩ := a1.opt
    unfold dgetD at k
    split at k
    · rename_i ks vs x' z' e
      cases e
      split at k
      · rename_i key hkey
        cases k
        obtain ⟨y, _, rfl, py, z, _, rfl, pz, ez⟩ := rxs
        subst ez
        obtain ⟨a, kvs, rfl, hp, e, r⟩ := px.dK
        have g := dget_dK (.inl py) hkey hp
        refine ⟨a, y, z, _, rfl, rfl, g, ?_⟩
        obtain ⟨l1, l2⟩ := lk_rep (k := key) e r
        cases q : lkD ks vs key with
        | none =>
          rw [l2 q]
          rw [q] at a2
          exact a2 W1 H1 .refl _ ⟨s1, pz⟩
        | some dd =>
          obtain ⟨v, hv, rv⟩ := l1 dd q
          rw [hv]
          rw [q] at a2
          exact a2 W1 H1 .refl _ ⟨s1, rv⟩
      · cases k
    · cases k
  · obtain ⟨a, rfl, hd⟩ := isD_of p hk
    refine ⟨a, rfl, hd, ?_⟩
    refine mono_rdE (rdF_cons q) fun y H2 q => mono_rdE (rdF_cons q) fun z H3 q => ?_
    obtain ⟨a', y', z', ov, e1, e2, g, k⟩ := rdF_nil q
    cases e1
    cases e2
    exact ⟨ov, g, k⟩
/-- d.pop(k), k there -/
def dpopD : List D → D → Option (D × D)
  | [x], .dK ks ds => match keyD x with
    | some k => (lkD ks ds k).map fun v => (.dK (dropDs ks ds k).1 (dropDs ks ds k).2, v)
    | none => none
  | _, _ => none
def fDPop (i : Nat) (fs : List (M R)) : M R := mbind (needW i isDk) fun _ => mbind (evF fs) fun ds => mutM i (dpopD ds)
theorem de_dpop (ho : PE X o (tVar i)) (h1 : DE X Wx e fe) (m : M1 X o "pop" apos e pos) : DE X Wx (.Call (.Attribute o "pop" apos) [e] [] pos) (fDPop i [fe]) := by
  have ev : ∀ f ∈ [fe], EvoF f := fun f z => by rcases List.mem_cons.mp z with e | z; exact e ▸ h1.evo; exact (List.not_mem_nil z).elim
  refine ⟨pe_imp (pe_dpop1 ho h1.pe m) fun σ H Q ⟨W, B, ρ, s, a⟩ => ?_, evo_bind evo_needW fun _ => evo_bind (evo_evF ev) fun _ => evo_mutM⟩
  obtain ⟨c, d, e1, wc, t, hl, a1⟩ := needW_ok s (After.bind a)
  have hd : IsD H c := by
    cases d with
    | dK ks ds => obtain ⟨kvs, e, _⟩ := t; exact .inl ⟨kvs, .inl e⟩
    | _ => cases hl
  refine ⟨.ref c, sv_some e1, c, rfl, hd, ?_⟩
  have q : rdF X.mg Wx [fe] σ H fun xs H2 => ∃ y kvs k v, xs = [y] ∧ H2 c = some (.dK kvs) ∧ y = kV k ∧ valV kvs k = some v ∧ Q v (upd H2 c (.dK (dropK kvs k))) := by
    refine ⟨W, B, ρ, s, (After.bind a1).mono fun W1 H1 ds1 ρ1 _ _ a2 vs1 s1 rs => ?_⟩
    obtain ⟨c', d2, d', r', e2, wc', t2, kg, nx⟩ := mutM_ok s1 a2
    rw [e1] at e2
    cases e2
    unfold dpopD at kg
    split at kg
    · rename_i x ks vs _
      split at kg
      · rename_i key hkey
        cases q : lkD ks vs key with
        | none => rw [q] at kg; cases kg
        | some dd =>
          rw [q] at kg
          cases kg
          obtain ⟨y, _, rfl, py, ez⟩ := rs
          subst ez
          obtain ⟨kvs, hp, e, r⟩ := t2
          obtain ⟨v, hv, rv⟩ := (lk_rep (k := key) e r).1 _ q
          obtain ⟨p1, p2⟩ := drop_rep (k := key) e r
          obtain ⟨ρ', s', qq⟩ := nx (.dK (dropK kvs key)) ⟨_, upd_same, p1, p2.fr (Fr.upd wc')⟩
          exact ⟨y, kvs, key, v, rfl, hp, keyD_rep (.inl py) hkey, hv, qq v ⟨s', rv.fr (Fr.upd wc')⟩⟩
      · cases kg
    · cases kg
  refine mono_rdE (rdF_cons q) fun y H2 q => ?_
  obtain ⟨y', kvs, k, v, e, r⟩ := rdF_nil q
  cases e
  exact ⟨kvs, k, v, r⟩
end
end Dz
/-! Dz 21: dict(pairs). -/
namespace Dz
open PySem PySem.Spec PyProof.Rows L2
theorem pairs_two {X : Cx} {pins : List (Addr × Obj)} {σ : L2.St} {H : Hp} {s : Shared} (I : Inv X pins σ H s) : ∀ {ps : List Addr} {kvs : List (Key × V)}, Paired (fun p kv => SqT X.K H p [kV kv.1, kv.2]) ps kvs →
    ∃ (prs : List (Key × Value)) (vs : List (Value × Value)), KV kvs prs ∧ prs.length = ps.length ∧ vs.length = ps.length ∧
      ∀ (j : Nat) (k v : Value), vs[j]? = some (k, v) → (∃ b, ps[j]? = some b ∧ IsTup s.heap b #[k, v]) ∧ ∃ key, prs[j]? = some (key, v) ∧ keyIs key k = true
  | _, _, .nil => ⟨[], [], .nil, rfl, rfl, fun j k v e => by simp at e⟩
  | _, _, .cons (a := p) (b := kv) h t => by
    obtain ⟨prs, vs, r, hl, hl2, hp⟩ := pairs_two I t
    obtain ⟨its, rv, ht, _⟩ := I.tuple h
    obtain ⟨u, y, ei, ru, ry⟩ := vals2 rv
    subst ei
    refine ⟨(kv.1, y) :: prs, (u, y) :: vs, .cons ⟨rfl, ry⟩ r, by rw [List.length_cons, List.length_cons, hl], by rw [List.length_cons, List.length_cons, hl2], fun j k v e => ?_⟩
    cases j with
    | zero =>
      have e' : (u, y) = (k, v) := Option.some.inj e
      cases e'
      exact ⟨⟨p, rfl, ht⟩, kv.1, rfl, kV_is (P := X.prog) (w := X.w) ru⟩
    | succ j =>
      obtain ⟨⟨b, e1, e2⟩, key, e3, e4⟩ := hp j k v (by simpa using e)
      exact ⟨⟨b, by simpa using e1, e2⟩, key, by simpa using e3, e4⟩
theorem call_dictT {X : Cx} (hcalm : X.calm = true) : CallR X (.type "dict") (fun xs H Q => ∃ (a : Addr) (ps : List Addr) (kvs : List (Key × V)), xs = [.ref a] ∧ TupZ H a (ps.map V.ref) ∧ Paired (fun p kv => SqT X.K H p [kV kv.1, kv.2]) ps kvs ∧
    ∀ p, H p = none → Q (.ref p) (upd H p (.dK (mergeK [] kvs)))) := by
  intro pins s σ H xs us Q I r q
  obtain ⟨a, ps, kvs, ex, ⟨o, hq, hdn⟩, hp, q⟩ := q
  subst ex
  obtain ⟨u, eu, rx⟩ := vals1 r
  subst eu
  cases rx
  obtain ⟨e1, hz, its, rv, ob, e2, hc, n, hd⟩ := I.hok a _ hq
  rw [e1] at e2
  cases e2
  have ei := refs_at rv
  subst ei
  rw [List.length_map] at hz
  obtain ⟨prs, vs, rel, hl, hl2, hpr⟩ := pairs_two I hp
  refine PySem.call_dict_pairs (knd := mixKind X.prog X.w) (kvs := prs) (PySem.PairArg.tuple a (ps.map Value.ref).toArray (fun j => ps.getD j 0) vs) (I.ok.hd hcalm) ⟨⟨o, n, e1, hc, hdn, hd⟩, by simp [hl2], fun j k v e => ?_⟩ ⟨by rw [hl, hl2], fun j k v e => ?_⟩ (by rw [hl2]; exact hz) fun h' tk hd' k => ?_
  · obtain ⟨⟨b, e3, e4⟩, _⟩ := hpr j k v e
    have : ps.getD j 0 = b := by rw [List.getD_eq_getElem?_getD, e3]; rfl
    show (List.map Value.ref ps).toArray[j]? = some (Value.ref (ps.getD j 0)) ∧ PairAt s.heap (ps.getD j 0) k v
    rw [this]
    exact ⟨by simp [e3], .inl e4⟩
  · obtain ⟨_, key, e5, e6⟩ := hpr j k v e
    exact ⟨key, e5, e6⟩
  · have hm : (s.heap.objs.size == sysModules) = false := beq_eq_false_iff_ne.mpr (Nat.ne_of_gt I.big)
    have hlen : (mergeK [] kvs).length ≤ sizeLine := by
      refine Nat.le_trans (length_mergeK kvs []) ?_
      rw [List.length_nil, Nat.zero_add, rel.length, hl]
      exact hz
    exact ⟨.ref s.heap.objs.size, upd H s.heap.objs.size (.dK (mergeK [] kvs)), I.laid (t' := tk) (fun b o e => k b o (fun z => nomatch z) e) (Nat.le_refl _) (show ObjOk X.prog X.w _ _ _ (.dK (mergeK [] kvs)) from ⟨hlen, hm, merged [] prs, KV.merge rel .nil, hd'⟩), rfl, q _ (I.hok.fresh (Nat.le_refl _))⟩
/-! ### on data -/
def pairD : D → Option (Key × D)
  | .tup [k, v] => (keyD k).map fun key => (key, v)
  | _ => none
def pairsD : List D → Option (List (Key × D))
  | [] => some []
  | d :: ds => match pairD d, pairsD ds with
    | some p, some ps => some (p :: ps)
    | _, _ => none
def mergeDs : List Key → List D → List (Key × D) → List Key × List D
  | ks, ds, [] => (ks, ds)
  | ks, ds, p :: ps => mergeDs (putDs ks ds p.1 p.2).1 (putDs ks ds p.1 p.2).2 ps
theorem pairD_some {d : D} {p : Key × D} (h : pairD d = some p) : ∃ k, d = .tup [k, p.2] ∧ keyD k = some p.1 := by
  unfold pairD at h
  split at h
  · rename_i k v
    cases q : keyD k with
    | none => rw [q] at h; cases h
    | some key => rw [q] at h; cases h; exact ⟨k, rfl, q⟩
  · cases h
theorem pairs_rep {K : PySem.W.Frag} {N : AP mg} {H : Hp} : ∀ {ds : List D} {vs : List V} {ps : List (Key × D)}, pairsD ds = some ps → Reps N H ds vs →
    ∃ (as : List Addr) (kvs : List (Key × V)), vs = as.map V.ref ∧ Paired (fun p kv => SqT K H p [kV kv.1, kv.2]) as kvs ∧ Paired (fun kv p => kv.1 = p.1 ∧ Rep N H p.2 kv.2) kvs ps
  | [], vs, ps, h, r => by
    cases h
    rw [show vs = [] from r]
    exact ⟨[], [], rfl, .nil, .nil⟩
  | d :: ds, vs, ps, h, ⟨v, r, e, p, q⟩ => by
    unfold pairsD at h
    split at h
    · rename_i p0 ps0 h1 h2
      cases h
      obtain ⟨k, rfl, hk⟩ := pairD_some h1
      obtain ⟨a, ws, rfl, tz, n, rk⟩ := p
      obtain ⟨kv, r2, e2, pk, v2, r3, e3, pv, e4⟩ := rk
      subst e4 e3 e2
      obtain ⟨as, kvs, e5, P1, P2⟩ := pairs_rep (K := K) h2 q
      have ek := keyD_rep (.inl pk) hk
      subst ek
      exact ⟨a :: as, (p0.1, v2) :: kvs, by rw [e, e5]; rfl, .cons tz.sq P1, .cons ⟨rfl, pv⟩ P2⟩
    · cases h
theorem merge_rep {N : AP mg} {H : Hp} : ∀ {ps : List (Key × D)} {kvs more : List (Key × V)} {ks : List Key} {ds : List D}, Paired (fun kv p => kv.1 = p.1 ∧ Rep N H p.2 kv.2) more ps → kvs.map (·.1) = ks → Reps N H ds (kvs.map (·.2)) →
    (mergeK kvs more).map (·.1) = (mergeDs ks ds ps).1 ∧ Reps N H (mergeDs ks ds ps).2 ((mergeK kvs more).map (·.2))
  | _, kvs, _, ks, ds, .nil, e, r => ⟨e, r⟩
  | _, kvs, _, ks, ds, .cons (a := kv) (b := p) h t, e, r => by
    obtain ⟨h1, h2⟩ := put_rep (k := p.1) h.2 e r
    have := merge_rep t h1 h2
    unfold mergeK at this ⊢
    rw [List.foldl_cons, h.1]
    exact this
def dictD : List D → Option R
  | [.tup ds] => (pairsD ds).map fun ps => .own (.dK (mergeDs [] [] ps).1 (mergeDs [] [] ps).2)
  | [.lst ds] => (pairsD ds).map fun ps => .own (.dK (mergeDs [] [] ps).1 (mergeDs [] [] ps).2)
  | [.dK ks ds] => some (.own (.dK ks ds))
  | _ => none
section
variable {X : Cx} {Wx : WX} {e : Expr} {es : List Expr} {os : List Opd} {pos p : Pos}
def rDictC (K : PySem.W.Frag) : List V → Hp → VK → Prop := fun xs H Q => (∃ (a : Addr) (ps : List Addr) (kvs : List (Key × V)), xs = [.ref a] ∧ TupZ H a (ps.map V.ref) ∧ Paired (fun p kv => SqT K H p [kV kv.1, kv.2]) ps kvs ∧ ∀ p, H p = none → Q (.ref p) (upd H p (.dK (mergeK [] kvs)))) ∨
  (∃ (a : Addr) (ps : List Addr) (kvs : List (Key × V)), xs = [.ref a] ∧ SqL K H a (ps.map V.ref) ∧ Paired (fun p kv => SqT K H p [kV kv.1, kv.2]) ps kvs ∧ ∀ p, H p = none → Q (.ref p) (upd H p (.dK (mergeK [] kvs)))) ∨
  (∃ (a : Addr) (kvs : List (Key × V)), xs = [.ref a] ∧ Rd H a (.dK kvs) ∧ ∀ p, H p = none → Q (.ref p) (upd H p (.dK kvs)))
theorem vl_dict {K : PySem.W.Frag} : VRL (rDictC K) dictD := by
  intro mg W B σ H ρ vs ds res Q s rs hg hq
  unfold dictD at hg
  split at hg
  · rename_i xs
    cases q : pairsD xs with
    | none => rw [q] at hg; cases hg
    | some ps =>
      rw [q] at hg
      cases hg
      obtain ⟨v, rfl, p⟩ := preps1 rs
      obtain ⟨a, ws, rfl, hp, n, r⟩ := p.tup
      obtain ⟨as, kvs, rfl, P1, P2⟩ := pairs_rep (K := K) q r
      obtain ⟨m1, m2⟩ := merge_rep (kvs := []) (ks := []) (ds := []) P2 rfl rfl
      exact .inl ⟨a, as, kvs, rfl, hp, P1, fun p hp => hq _ _ _ (Fr.newW hp) (vok_dK s m1 m2 hp)⟩
  · rename_i xs
    cases q : pairsD xs with
    | none => rw [q] at hg; cases hg
    | some ps =>
      rw [q] at hg
      cases hg
      obtain ⟨v, rfl, p⟩ := preps1 rs
      obtain ⟨a, ws, rfl, hp, r⟩ := p.lst
      obtain ⟨as, kvs, rfl, P1, P2⟩ := pairs_rep (K := K) q r
      obtain ⟨m1, m2⟩ := merge_rep (kvs := []) (ks := []) (ds := []) P2 rfl rfl
      exact .inr (.inl ⟨a, as, kvs, rfl, SqL.of hp, P1, fun p hp => hq _ _ _ (Fr.newW hp) (vok_dK s m1 m2 hp)⟩)
  · cases hg
    obtain ⟨v, rfl, p⟩ := preps1 rs
    obtain ⟨a, kvs, rfl, hp, e, r⟩ := p.dK
    exact .inr (.inr ⟨a, kvs, rfl, .inl hp, fun p hp => hq _ _ _ (Fr.newW hp) (vok_dK s e r hp)⟩)
  · cases hg
theorem de_dictC (hc : X.calm = true) (hg : Gl X "dict") (hm : X.mg "dict" = none) (ha : DOs X Wx (e :: es) os)
    (he : starEach (e :: es) X.env = (false, eval e X.env) :: starEach es X.env := by rfl) (hpl : (backTo pos (starEach es X.env)).any (·.1) = false := by rfl) : DE X Wx (.Call (.Name "dict" p) (e :: es) [] pos) (fL os dictD) :=
  de_callTy (callR_or (call_dictT hc) (callR_or (call_dictP hc) call_dictD)) vl_dict hg hm boot_dict ha (by decide) (by decide) he hpl
end
end Dz
/-! Dz 22: a def that calls itself: as deep as is said. -/
namespace Dz
open PySem PySem.Spec PyProof.Rows L2
/-- a def that never ends well -/
theorem callee_zero {P : Program} {w : World} {K : PySem.W.Frag} {mg : Str → Option Value} {base : Heap} {ps : List Str} {qual x : Str} {scope : Scope} {f : Addr} {fd : FuncData} {params : Arguments} {body : List Stmt} {k : Nat} (F : FunD K x qual params body scope [] [] f fd) (hm : mg x = some (.ref f)) (hb : Binds K fd ps []) :
    Callee P w K mg base k x (fun _ => none) := by
  have no : ∀ vs H Q E, spD mg (fun _ => none) vs H Q E → False := fun vs H Q E ⟨_, _, _, _, _, _, z⟩ => z
  exact ⟨f, fd, ps, ⟨fun vs H Q E h => (no vs H Q E h).elim, fun A outer s H args us vs Q E _ _ _ _ h => (no vs H Q E h).elim⟩, hm, F.kp, hb⟩
/-- a def by its own, n deep -/
def recF (a N : Nat) (b : Fn → M Fl) : Nat → Fn
  | 0 => fun _ => none
  | n + 1 => fnA a N (b (recF a N b n))
theorem callee_rec {P : Program} {w : World} {K : PySem.W.Frag} {mg : Str → Option Value} {base : Heap} {N ps : List Str} {qual x : Str} {scope : Scope} {f : Addr} {fd : FuncData} {params : Arguments} {body : List Stmt} {a n k : Nat} {b : Fn → M Fl}
    (F : FunD K x qual params body scope [] [] f fd) (S : FnScope N ps scope) (hm : mg x = some (.ref f)) (hn : N.length = n) (ha : ps.length = a) (hb : Binds K fd ps [])
    (h : ∀ (j : Nat) (self : Fn), k ≤ j → Callee P w K mg base j x self → ∀ (cdv : Value) (A : Around) (outer : List PySem.Env) (s : Shared) (H : Hp) (E : XK), Room j (A.deeper (envOfC qual scope s.heap.objs.size f cdv)) → DSs (cxF P w K mg base N qual scope f cdv A outer s H E) (wxF E) body (b self)) :
    ∀ d, Callee P w K mg base (k + d) x (recF a n b d)
  | 0 => callee_zero F hm hb
  | d + 1 => callee_of F S hm hn ha hb (h (k + d) _ (Nat.le_add_right _ _) (callee_rec F S hm hn ha hb h d))
/-! ### slices by one word -/
def fSlice (o : Opd) (l u : Pt) : M R := fL (o :: (l.opds ++ u.opds)) (sliceL l u)
theorem de_slc {X : Cx} {Wx : WX} {a : Expr} {o1 : Opd} {lo hi : Option Expr} {l u : Pt} {pos p2 : Pos} (h1 : DO X Wx a o1) (h2 : DP X Wx lo l) (h3 : DP X Wx hi u) : DE X Wx (.Subscript a (.Slice lo hi none p2) pos) (fSlice o1 l u) := de_slice h1 h2 h3
section
variable {o : Opd} {ρ : Dz.Env} {Q : R → Dz.Env → Prop} {f g : M R}
@[simp ↓] theorem ok_slc00 : Ok (fSlice o .no .no) ρ Q ↔ Ok (fL [o] (sliceL .no .no)) ρ Q := Iff.rfl
@[simp ↓] theorem ok_slc10 : Ok (fSlice o (.op f) .no) ρ Q ↔ Ok (fL [o, .ev (fI f)] (sliceL (.op f) .no)) ρ Q := Iff.rfl
@[simp ↓] theorem ok_slc01 : Ok (fSlice o .no (.op f)) ρ Q ↔ Ok (fL [o, .ev (fI f)] (sliceL .no (.op f))) ρ Q := Iff.rfl
@[simp ↓] theorem ok_slc11 : Ok (fSlice o (.op f) (.op g)) ρ Q ↔ Ok (fL [o, .ev (fI f), .ev (fI g)] (sliceL (.op f) (.op g))) ρ Q := Iff.rfl
end
end Dz
/-! Dz 23: a < b < c as a test. -/
namespace Dz
open PySem PySem.Spec PyProof.Rows L2
section
variable {X : Cx} {Wx : WX} {a b c : Expr} {o1 o2 o3 : Opd} {pos : Pos}
theorem rd_chain {g g' : D → D → Option R} {p p' : Int → Int → Bool} {σ : L2.St} {H : Hp} {Q : VK}
    (hg : ∀ i j, g (.int i) (.int j) = some (.frz (.bl (p i j)))) (hg' : ∀ j d, g' (.int j) d = match d with | .int k => some (.frz (.bl (p' j k))) | _ => none)
    (h1 : o1.Evo) (h2 : o2.Evo) (h3 : o3.Evo) (q : rdE X.mg Wx (fCh g g' o1 o2 o3) σ H Q) : tChain (rI0 fun i j => .bl (p i j)) (rI0 fun i j => .bl (p' i j)) (rdO X.mg Wx o1) (rdO X.mg Wx o2) (rdO X.mg Wx o3) σ H Q := by
  obtain ⟨W, B, ρ, s, a⟩ := q
  have q : rdOs X.mg Wx [o1, o2] σ H fun vs H2 => ∃ i j, vs = [.int i, .int j] ∧ if p i j = true then rdO X.mg Wx o3 σ H2 fun w' H4 => ∃ k, w' = .int k ∧ Q (.bl (p' j k)) H4 else Q (.bl false) H2 := by
    refine ⟨W, B, ρ, s, (After.bind a).mono fun W1 H1 ds ρ1 _ _ a1 vs s1 rs => ?_⟩
    obtain ⟨⟨d, k⟩, e, a2⟩ := (After.bind a1).opt
    have a2 := a2 W1 H1 .refl
    obtain ⟨i, j, rfl, rfl, e2⟩ := chB_some e
    · rw [hg] at e2
      cases e2
      obtain ⟨x, _, rfl, px, y, _, rfl, py, z⟩ := rs
      rw [show _ = [] from z, px.int, py.int]
      refine ⟨i, j, rfl, ?_⟩
      cases hk : p i j with
      | true =>
        rw [hk] at a2
        show if true = true then _ else _
        rw [if_pos rfl]
        have q3 : rdOs X.mg Wx [o3] σ H1 fun ws H4 => ∃ w', ws = [w'] ∧ ∃ k, w' = .int k ∧ Q (.bl (p' j k)) H4 := by
          refine ⟨W1, B, ρ1, s1, (After.bind (show After X.mg Wx W1 B σ H1 (mbind (evs [o3]) (fun ds => mopt (ap1 (g' (.int j)) ds)) ρ1) _ from a2)).mono fun W3 H3 ds3 ρ3 _ _ a3 ws s3 rs3 => ?_⟩
          obtain ⟨r3, e3, a4⟩ := a3.opt
          obtain ⟨d3, rfl, e4⟩ := ap1_some e3
          obtain ⟨w', _, rfl, pw, z⟩ := rs3
          rw [show _ = [] from z]
          rw [hg'] at e4
          split at e4
          · cases e4
            exact ⟨w', rfl, _, pw.int, a4 W3 H3 .refl _ ⟨s3, rfl⟩⟩
          · cases e4
        refine mono_rdO (rdOs_cons (os := []) h3 (fun _ z => (List.not_mem_nil z).elim) q3) fun w' H4 q => ?_
        obtain ⟨w2, e, k⟩ := rdOs_nil q
        cases e
        exact k
      | false =>
        rw [hk] at a2
        show if false = true then _ else _
        rw [if_neg Bool.false_ne_true]
        exact a2 W1 H1 .refl (V.bl false) ⟨s1, rfl⟩
  refine mono_rdO (rdOs_cons h1 (evo1 h2) q) fun x H1 q => mono_rdO (rdOs_cons (os := []) h2 (fun _ z => (List.not_mem_nil z).elim) q) fun y H2 q => ?_
  obtain ⟨i, j, e, k⟩ := rdOs_nil q
  cases e
  refine ⟨i, j, rfl, rfl, p i j, rfl, ?_⟩
  cases hk : p i j with
  | true =>
    rw [hk] at k
    rw [if_pos rfl] at k ⊢
    exact mono_rdO k fun w' H4 ⟨k, e, q⟩ => ⟨j, k, rfl, e, q⟩
  | false =>
    rw [hk] at k
    rw [if_neg Bool.false_ne_true] at k ⊢
    exact k
theorem dt_chain {op op' : CmpOp} {g g' : D → D → Option R} {p p' : Int → Int → Bool} (ho : OpR X (compareOp op) (rI0 fun i j => .bl (p i j))) (ho' : OpR X (compareOp op') (rI0 fun i j => .bl (p' i j)))
    (hg : ∀ i j, g (.int i) (.int j) = some (.frz (.bl (p i j)))) (hg' : ∀ j d, g' (.int j) d = match d with | .int k => some (.frz (.bl (p' j k))) | _ => none)
    (h1 : DO X Wx a o1) (h2 : DO X Wx b o2) (h3 : DO X Wx c o3) (hm : lastMarks [op, op'] [b, c] = false := by rfl) : DT X Wx (.Compare a [op, op'] [b, c] pos) (fB (fCh g g' o1 o2 o3)) := by
  refine ⟨pt_imp (pt_chain ho ho' h1.pe h2.pe h3.pe hm) fun σ H Q q => rd_chain hg hg' h1.evo h2.evo h3.evo (rdT_bool q), evo_fB (evo_bind (evo_evs (evo2 h1.evo h2.evo)) fun ds => evo_bind (evo_opt _) fun q => by
    unfold chK
    cases q.2
    · exact evo_ret _
    · exact evo_bind (evo_evs (evo1 h3.evo)) fun _ => evo_opt _)⟩
theorem dt_lele (h1 : DO X Wx a o1) (h2 : DO X Wx b o2) (h3 : DO X Wx c o3) : DT X Wx (.Compare a [.LtE, .LtE] [b, c] pos) (fB (fCh leD leD o1 o2 o3)) := dt_chain op_le op_le (fun _ _ => rfl) leD_r h1 h2 h3 (nomark c)
theorem dt_lelt (h1 : DO X Wx a o1) (h2 : DO X Wx b o2) (h3 : DO X Wx c o3) : DT X Wx (.Compare a [.LtE, .Lt] [b, c] pos) (fB (fCh leD ltD o1 o2 o3)) := dt_chain op_le op_lt (fun _ _ => rfl) ltD_r h1 h2 h3 (nomark c)
theorem dt_ltlt (h1 : DO X Wx a o1) (h2 : DO X Wx b o2) (h3 : DO X Wx c o3) : DT X Wx (.Compare a [.Lt, .Lt] [b, c] pos) (fB (fCh ltD ltD o1 o2 o3)) := dt_chain op_lt op_lt (fun _ _ => rfl) ltD_r h1 h2 h3 (nomark c)
theorem dt_ltle (h1 : DO X Wx a o1) (h2 : DO X Wx b o2) (h3 : DO X Wx c o3) : DT X Wx (.Compare a [.Lt, .LtE] [b, c] pos) (fB (fCh ltD leD o1 o2 o3)) := dt_chain op_lt op_le (fun _ _ => rfl) leD_r h1 h2 h3 (nomark c)
end
end Dz
/-! Dz 24: what is gathered out of a zip: the pairs are all there at once. -/
namespace ZC
open PySem PySem.W PySem.Calls PyProof.Rows PySem.Spec
open PySem.Sem (wp)
theorem zip_no_len : typeLookup (.type "zip") "__len__" = pure none := by rw [typeLookup_type, builtinLookup_eq_fast]; kernel_rfl
theorem zip_no_hint : typeLookup (.type "zip") "__length_hint__" = pure none := by rw [typeLookup_type, builtinLookup_eq_fast]; kernel_rfl
section
variable {prog : Program} {w : World} {A : Around} {E : Value → Shared → Prop} {s : Shared} {z TI TO i1 i2 : Addr} {fp1 fp2 : List Addr} {n1 n2 i : Nat} {P1 P2 : Nat → Value → Prop} {St1 St2 : Nat → Heap → Prop}
theorem zipH_next_item {Q : Value → Shared → Prop} {T : Addr} {f : Bool} {oT : Obj} (S : ZipSep2 z TI TO i1 i2 fp1 fp2) (D1 : Draws prog w A i1 fp1 n1 P1 St1) (D2 : Draws prog w A i2 fp2 n2 P2 St2)
    (hz : IsZipHeld s.heap z TI TO T f) (hT : s.heap.get? T = some oT) (hTI : IsTupOf2 s.heap TI (.ref i1) (.ref i2)) (st1 : St1 i s.heap) (st2 : St2 i s.heap) (hlt1 : i < n1) (hlt2 : i < n2)
    (hQ : ∀ x1 x2 h' tk, P1 i x1 → P2 i x2 → IsZipHeld h' z TI TO T true → St1 (i + 1) h' → St2 (i + 1) h' → IsTupOf2 h' s.heap.objs.size x1 x2 → h'.objs.size = s.heap.objs.size + 1 →
      (∀ c o, c ≠ z → c ≠ i1 → c ≠ i2 → s.heap.get? c = some o → h'.get? c = some o) → Q (.ref s.heap.objs.size) { s with heap := h', toks := tk }) :
    wpAny (model prog w) A (Builtin.«zip.__next__» ⟨[.ref z], []⟩) (fun fin s' => ∃ v, fin = .done (.ret v) ∧ Q v s') E s := by
  obtain ⟨hp, g, d, tk0, os⟩ := s
  show wpAny _ _ (field (.ref z) 2 >>= _) _ _ _
  refine wpAny_bind (wpAny_field hz rfl (x := .bool false) rfl ?_)
  show wpAny _ _ (field (.ref z) 3 >>= _) _ _ _
  refine wpAny_bind (wpAny_field hz rfl (x := .ref TI) rfl ?_)
  refine wpAny_bind (wpAny_seqItems hTI rfl ?_)
  show wpAny _ _ (Builtin.SmallTypes.ownedTupleIsFree (.ref z) >>= _) _ _ _
  refine wpAny_bind (wpAny_tupleHeld_zip hz hT fun h₁ hz₁ hs₁ => ?_)
  replace hs₁ : Heap.SameBut z hp h₁ := hs₁
  simp only [Bool.false_eq_true, if_false]
  refine wpAny_bind ?_
  rw [← Array.forIn_toList]
  simp only [List.forIn_cons, List.forIn_nil]
  refine wpAny_bind (wpAny_bind (wpAny_holding ?_))
  show wpAny _ _ (Builtin.SmallTypes.nextOf (.ref i1) >>= _) _ _ ⟨h₁, g, d, tk0, os⟩
  refine wpAny_bind (D1.item i _ _ _ hlt1 (D1.over st1 hs₁ S.zf1) fun x1 h₂ tk1 hx1 sn1 hs₂ => wpAny_pure ?_)
  replace hs₂ : Heap.SameBut i1 h₁ h₂ := hs₂
  refine wpAny_pure ?_
  refine wpAny_bind (wpAny_bind (wpAny_holding ?_))
  show wpAny _ _ (Builtin.SmallTypes.nextOf (.ref i2) >>= _) _ _ ⟨h₂, g, d, tk1, os⟩
  refine wpAny_bind (D2.item i _ _ _ hlt2 (D2.over (D2.over st2 hs₁ S.zf2) hs₂ S.sep1_2) fun x2 h₃ tk2 hx2 sn2 hs₃ => wpAny_pure ?_)
  replace hs₃ : Heap.SameBut i2 h₂ h₃ := hs₃
  refine wpAny_pure (wpAny_pure ?_)
  show wpAny _ _ (newTuple [x1, x2] >>= _) _ _ _
  refine wpAny_bind (wpAny_newTuple ?_)
  have hsz : h₃.objs.size = hp.objs.size := by rw [hs₃.1, hs₂.1, hs₁.1]
  have hz₃ : IsZipHeld h₃ z TI TO T true := hs₃.extBut _ _ S.zi2 (hs₂.extBut _ _ S.zi1 hz₁)
  have hk : ∀ c o, c ≠ z → c ≠ i1 → c ≠ i2 → hp.get? c = some o → h₃.get? c = some o := fun c o c1 c2 c3 e => hs₃.extBut _ _ c3 (hs₂.extBut _ _ c2 (hs₁.extBut _ _ c1 e))
  refine wpAny_pure ⟨_, rfl, ?_⟩
  show Q (.ref h₃.objs.size) _
  have hp4 : IsTupOf2 (h₃.push { cls := .type "tuple", data := .seq #[x1, x2] }) h₃.objs.size x1 x2 := Heap.get?_push_size _ rfl
  have hz4 : (h₃.push { cls := .type "tuple", data := .seq #[x1, x2] }).objs.size = h₃.objs.size + 1 := Heap.size_push ..
  rw [hsz] at hp4 hz4 ⊢
  exact hQ _ _ _ _ hx1 hx2 (Heap.get?_push_of_some _ hz₃) (D1.frame _ _ _ (D1.over sn1 hs₃ S.sep2_1) fun b _ o e => Heap.get?_push_of_some _ e) (D2.frame _ _ _ sn2 fun b _ o e => Heap.get?_push_of_some _ e) hp4 hz4 fun c o c1 c2 c3 e => Heap.get?_push_of_some _ (hk c o c1 c2 c3 e)
theorem zipH_next_end {Q : Fin → Shared → Prop} {T : Addr} {f : Bool} {oT : Obj} (S : ZipSep2 z TI TO i1 i2 fp1 fp2) (D1 : Draws prog w A i1 fp1 n1 P1 St1) (D2 : Draws prog w A i2 fp2 n2 P2 St2)
    (hz : IsZipHeld s.heap z TI TO T f) (hT : s.heap.get? T = some oT) (hTI : IsTupOf2 s.heap TI (.ref i1) (.ref i2)) (st1 : St1 i s.heap) (st2 : St2 i s.heap) (hle1 : i ≤ n1) (hle2 : i ≤ n2) (hend : i = n1 ∨ i = n2)
    (hE : ∀ h' tk e, (∀ c o, c ≠ z → c ≠ i1 → c ≠ i2 → s.heap.get? c = some o → h'.get? c = some o) → (∃ o, h'.get? e = some o ∧ o.cls = .type "StopIteration") → E (.ref e) { s with heap := h', toks := tk }) :
    wpAny (model prog w) A (Builtin.«zip.__next__» ⟨[.ref z], []⟩) Q E s := by
  obtain ⟨hp, g, d, tk0, os⟩ := s
  show wpAny _ _ (field (.ref z) 2 >>= _) _ _ _
  refine wpAny_bind (wpAny_field hz rfl (x := .bool false) rfl ?_)
  show wpAny _ _ (field (.ref z) 3 >>= _) _ _ _
  refine wpAny_bind (wpAny_field hz rfl (x := .ref TI) rfl ?_)
  refine wpAny_bind (wpAny_seqItems hTI rfl ?_)
  show wpAny _ _ (Builtin.SmallTypes.ownedTupleIsFree (.ref z) >>= _) _ _ _
  refine wpAny_bind (wpAny_tupleHeld_zip hz hT fun h₁ hz₁ hs₁ => ?_)
  replace hs₁ : Heap.SameBut z hp h₁ := hs₁
  simp only [Bool.false_eq_true, if_false]
  refine wpAny_bind ?_
  rw [← Array.forIn_toList]
  simp only [List.forIn_cons, List.forIn_nil]
  refine wpAny_bind (wpAny_bind (wpAny_holding ?_))
  show wpAny _ _ (Builtin.SmallTypes.nextOf (.ref i1) >>= _) _ _ ⟨h₁, g, d, tk0, os⟩
  by_cases hlt1 : i < n1
  · have hi2 : i = n2 := by omega
    refine wpAny_bind (D1.item i _ _ _ hlt1 (D1.over st1 hs₁ S.zf1) fun x1 h₂ tk1 hx1 sn1 hs₂ => wpAny_pure ?_)
    replace hs₂ : Heap.SameBut i1 h₁ h₂ := hs₂
    refine wpAny_pure ?_
    refine wpAny_bind (wpAny_bind (wpAny_holding ?_))
    show wpAny _ _ (Builtin.SmallTypes.nextOf (.ref i2) >>= _) _ _ ⟨h₂, g, d, tk1, os⟩
    refine wpAny_bind (D2.done ⟨h₂, g, d, tk1, os⟩ _ _ (by rw [← hi2]; exact D2.over (D2.over st2 hs₁ S.zf2) hs₂ S.sep1_2) fun q e hq he => ?_)
    replace hq : Heap.ExtBut i2 h₂ q := hq
    exact hE q tk1 e (fun c o cz c1 c2 x => hq _ _ c2 (hs₂.extBut _ _ c1 (hs₁.extBut _ _ cz x))) he
  · have hi1 : i = n1 := by omega
    refine wpAny_bind (D1.done ⟨h₁, g, d, tk0, os⟩ _ _ (by rw [← hi1]; exact D1.over st1 hs₁ S.zf1) fun q e hq he => ?_)
    replace hq : Heap.ExtBut i1 h₁ q := hq
    exact hE q tk0 e (fun c o cz c1 c2 x => hq _ _ c1 (hs₁.extBut _ _ cz x)) he
/-- a zip at turn i, gathered into S -/
def ZSt (z TI TO i1 i2 S : Addr) (h : Heap) : Prop :=
  IsTupOf2 h TI (.ref i1) (.ref i2) ∧ ((IsZip h z TI TO .none ∧ ∃ a1 a2, IsTupOf2 h TO a1 a2) ∨ ∃ T f oT, IsZipHeld h z TI TO T f ∧ h.get? T = some oT ∧ T ≠ z ∧ T ≠ i1 ∧ T ≠ i2 ∧ T ≠ S)
theorem ZSt.typeIs {S : Addr} (x : ZSt z TI TO i1 i2 S s.heap) : s.TypeIs (.ref z) "zip" := by
  rcases x.2 with ⟨h, _⟩ | ⟨_, _, _, h, _⟩
  · exact ⟨_, h, rfl⟩
  · exact ⟨_, h, rfl⟩
theorem ZSt.keep {S : Addr} {h h' : Heap} (x : ZSt z TI TO i1 i2 S h) (hz : z ≠ S) (hTI : TI ≠ S) (hTO : TO ≠ S) (k : ∀ b o, b ≠ S → h.get? b = some o → h'.get? b = some o) : ZSt z TI TO i1 i2 S h' := by
  refine ⟨k _ _ hTI x.1, ?_⟩
  rcases x.2 with ⟨h, a1, a2, g⟩ | ⟨T, f, oT, h, g, e1, e2, e3, e4⟩
  · exact .inl ⟨k _ _ hz h, a1, a2, k _ _ hTO g⟩
  · exact .inr ⟨T, f, oT, k _ _ hz h, k _ _ e4 g, e1, e2, e3, e4⟩
theorem nxtZ {Q : Option Value → Shared → Prop} {L : Addr} (S : ZipSep2 z TI TO i1 i2 fp1 fp2) (D1 : Draws prog w A.in1 i1 fp1 n1 P1 St1) (D2 : Draws prog w A.in1 i2 fp2 n2 P2 St2)
    (hs : ZSt z TI TO i1 i2 L s.heap) (hL : L < s.heap.objs.size) (st1 : St1 i s.heap) (st2 : St2 i s.heap) (hlt1 : i < n1) (hlt2 : i < n2)
    (hQ : ∀ x1 x2 h' tk, P1 i x1 → P2 i x2 → ZSt z TI TO i1 i2 L h' → St1 (i + 1) h' → St2 (i + 1) h' → IsTupOf2 h' s.heap.objs.size x1 x2 → h'.objs.size = s.heap.objs.size + 1 →
      (∀ c o, c ≠ z → c ≠ TO → c ≠ i1 → c ≠ i2 → s.heap.get? c = some o → h'.get? c = some o) → Q (some (.ref s.heap.objs.size)) { s with heap := h', toks := tk }) :
    wpAny (model prog w) A (pyNext (.ref z)) Q E s := by
  obtain ⟨_, l1⟩ := D1.live _ _ st1
  obtain ⟨_, l2⟩ := D2.live _ _ st2
  have lt : ∀ {c o}, s.heap.get? c = some o → s.heap.objs.size ≠ c := fun e => Nat.ne_of_gt (Heap.lt_size e)
  rcases id hs.2 with ⟨hz, a1, a2, hTO⟩ | ⟨T, f, oT, hz, hT, e1, e2, e3, e4⟩
  · exact wpAny_pyNext_zipD2_item S D1 D2 hz hs.1 hTO st1 st2 hlt1 hlt2 fun x1 x2 h' tk p1 p2 b1 b2 d1 d2 b5 b6 b7 =>
      hQ x1 x2 h' tk p1 p2 ⟨b7 _ _ S.TIz S.TITO S.TIi1 S.TIi2 hs.1, .inr ⟨_, false, _, b1, b5, lt hz, lt l1, lt l2, Nat.ne_of_gt hL⟩⟩ d1 d2 b5 b6 b7
  · have hTy : s.TypeIs (.ref z) "zip" := ⟨_, hz, rfl⟩
    unfold pyNext
    exact wpAny_bind (wpAny_attempt (wpAny_callSpecial?_slot (name := Str.ofString "__next__") hTy PySem.F.slot_zip_next
      (wpAny_call_entry PySem.F.slot_zip_next hTy PySem.F.entry_zip_next
        (zipH_next_item S D1 D2 hz hT hs.1 st1 st2 hlt1 hlt2 fun x1 x2 h' tk p1 p2 b1 d1 d2 b5 b6 b7 => wpAny_pure (hQ x1 x2 h' tk p1 p2 ⟨b7 _ _ S.TIz S.TIi1 S.TIi2 hs.1, .inr ⟨T, true, oT, b1, b7 _ _ e1 e2 e3 hT, e1, e2, e3, e4⟩⟩ d1 d2 b5 b6 fun c o cz _ c1 c2 => b7 c o cz c1 c2)) (PySem.F.args_zip_next_1 _))))
theorem finZ {Q : Option Value → Shared → Prop} {L : Addr} (S : ZipSep2 z TI TO i1 i2 fp1 fp2) (D1 : Draws prog w A.in1 i1 fp1 n1 P1 St1) (D2 : Draws prog w A.in1 i2 fp2 n2 P2 St2)
    (hs : ZSt z TI TO i1 i2 L s.heap) (st1 : St1 i s.heap) (st2 : St2 i s.heap) (hle1 : i ≤ n1) (hle2 : i ≤ n2) (hend : i = n1 ∨ i = n2)
    (hQ : ∀ h' tk, (∀ c o, c ≠ z → c ≠ TO → c ≠ i1 → c ≠ i2 → s.heap.get? c = some o → h'.get? c = some o) → Q none { s with heap := h', toks := tk }) : wpAny (model prog w) A (pyNext (.ref z)) Q E s := by
  rcases id hs.2 with ⟨hz, a1, a2, hTO⟩ | ⟨T, f, oT, hz, hT, e1, e2, e3, e4⟩
  · exact wpAny_pyNext_zipD2_end S D1 D2 hz hs.1 hTO st1 st2 hle1 hle2 hend hQ
  · have hTy : s.TypeIs (.ref z) "zip" := ⟨_, hz, rfl⟩
    unfold pyNext
    refine wpAny_bind (wpAny_attempt (wpAny_callSpecial?_slot (name := Str.ofString "__next__") hTy PySem.F.slot_zip_next
      (wpAny_call_entry PySem.F.slot_zip_next hTy PySem.F.entry_zip_next (zipH_next_end S D1 D2 hz hT hs.1 st1 st2 hle1 hle2 hend fun h' tk e hk he => ?_) (PySem.F.args_zip_next_1 _))))
    obtain ⟨o, ho, hc⟩ := he
    refine wpAny_bind (wpAny_isInstance (T := "StopIteration") (b := true) ⟨o, ho, hc⟩ isSubtype_stop ?_)
    exact wpAny_pure (hQ _ _ fun c o cz _ c1 c2 => hk c o cz c1 c2)
end
/-- the pairs that were made -/
structure Made (P1 P2 : Nat → Value → Prop) (lo : Addr) (h : Heap) (as : List Addr) : Prop where
  rise : as.Pairwise (· < ·)
  above : ∀ a ∈ as, lo < a
  pairs : ∀ (j : Nat) (a : Addr), as[j]? = some a → ∃ x1 x2, P1 j x1 ∧ P2 j x2 ∧ IsTupOf2 h a x1 x2
theorem Made.there {P1 P2 : Nat → Value → Prop} {lo : Addr} {h : Heap} {as : List Addr} (g : Made P1 P2 lo h as) {a : Addr} (ha : a ∈ as) : a < h.objs.size := by
  obtain ⟨j, hj⟩ := List.mem_iff_getElem?.mp ha
  obtain ⟨_, _, _, _, e⟩ := g.pairs j a hj
  exact Heap.lt_size e
theorem Made.low {P1 P2 : Nat → Value → Prop} {lo lo' : Addr} {h : Heap} {as : List Addr} (g : Made P1 P2 lo h as) (hl : lo' ≤ lo) : Made P1 P2 lo' h as := ⟨g.rise, fun a ha => Nat.lt_of_le_of_lt hl (g.above a ha), g.pairs⟩
section
variable {prog : Program} {w : World} {A : Around} {s : Shared} {R : Result → Shared → Prop} {z TI TO i1 i2 : Addr} {fp1 fp2 : List Addr} {n1 n2 : Nat} {P1 P2 : Nat → Value → Prop} {St1 St2 : Nat → Heap → Prop}
theorem loopZ {S : Addr} (SP : ZipSep2 z TI TO i1 i2 fp1 fp2) (D1 : Draws prog w A.in1.in1 i1 fp1 n1 P1 St1) (D2 : Draws prog w A.in1.in1 i2 fp2 n2 P2 St2) (hzS : z < S) (hTS : TI < S) (hOS : TO < S) (h1S : i1 < S) (h2S : i2 < S) (hf1 : S ∉ fp1) (hf2 : S ∉ fp2) (hn : min n1 n2 ≤ sizeLine) (res : Value) {h₁ : Heap}
    (hR : ∀ h' tk acc c as, (∀ b o, b ≠ S → b ≠ z → b ≠ TO → b ≠ i1 → b ≠ i2 → h₁.get? b = some o → h'.get? b = some o) → h'.get? S = some { cls := .type "list", dict := none, data := .seq acc c, slots := #[] } → as.length = min n1 n2 → Made P1 P2 S h' as →
      acc.toList = as.map Value.ref → R (.ok (.ret res)) { s with heap := h', toks := tk }) :
    ∀ (k i : Nat) (h : Heap) (tk c : Nat) (acc : Array Value) (as : List Addr), min n1 n2 - i = k → i ≤ min n1 n2 → ZSt z TI TO i1 i2 S h → St1 i h → St2 i h → (∀ b o, b ≠ S → b ≠ z → b ≠ TO → b ≠ i1 → b ≠ i2 → h₁.get? b = some o → h.get? b = some o) →
      h.get? S = some { cls := .type "list", dict := none, data := .seq acc c, slots := #[] } → acc.toList = as.map Value.ref → as.length = i → Made P1 P2 S h as →
      codeAny (model prog w) A (.builtin "list.extend.loop" ⟨[.ref S, .ref z, res], []⟩) R { s with heap := h, toks := tk } := by
  have ab : ∀ {a}, S < a → a ≠ z ∧ a ≠ TO ∧ a ≠ i1 ∧ a ≠ i2 ∧ a ≠ S := fun h => ⟨Nat.ne_of_gt (Nat.lt_trans hzS h), Nat.ne_of_gt (Nat.lt_trans hOS h), Nat.ne_of_gt (Nat.lt_trans h1S h), Nat.ne_of_gt (Nat.lt_trans h2S h), Nat.ne_of_gt h⟩
  intro k
  induction k with
  | zero =>
    intro i h tk c acc as hk hi hst hs1 hs2 hkeep hS hacc hal hG
    refine codeAny_builtin PySem.F.entry_extend_loop ?_
    rw [Around.under_plainId PySem.F.plain_extend_loop _]
    show wpAny _ A.in1 (pyNext (.ref z) >>= _) _ _ _
    refine wpAny_bind (finZ (s := { s with heap := h, toks := tk }) (A := A.in1) SP D1 D2 hst hs1 hs2 (by omega) (by omega) (by omega) fun h' tk' he => ?_)
    refine wpAny_pure (hR h' tk' acc c as (fun b o e0 e1 e2 e3 e4 e => he b o e1 e2 e3 e4 (hkeep b o e0 e1 e2 e3 e4 e)) (he S _ (Nat.ne_of_gt hzS) (Nat.ne_of_gt hOS) (Nat.ne_of_gt h1S) (Nat.ne_of_gt h2S) hS) (by omega) ⟨hG.rise, hG.above, fun j a hj => ?_⟩ hacc)
    obtain ⟨x1, x2, p1, p2, e3⟩ := hG.pairs j a hj
    obtain ⟨a1, a2, a3, a4, _⟩ := ab (hG.above a (List.mem_of_getElem? hj))
    exact ⟨x1, x2, p1, p2, he a _ a1 a2 a3 a4 e3⟩
  | succ k ih =>
    intro i h tk c acc as hk hi hst hs1 hs2 hkeep hS hacc hal hG
    have hlt : i < min n1 n2 := by omega
    have hsz : acc.size = i := by rw [← Array.length_toList, hacc, List.length_map, hal]
    have hSl : S < h.objs.size := Heap.lt_size hS
    refine codeAny_builtin PySem.F.entry_extend_loop ?_
    rw [Around.under_plainId PySem.F.plain_extend_loop _]
    show wpAny _ A.in1 (pyNext (.ref z) >>= _) _ _ _
    refine wpAny_bind (nxtZ (s := { s with heap := h, toks := tk }) (A := A.in1) (L := S) SP D1 D2 hst hSl hs1 hs2 (by omega) (by omega) fun x1 x2 h' tk' p1 p2 hst' hs1' hs2' ht hz hkp => ?_)
    dsimp only at ht hz hkp ⊢
    have hS' := hkp S _ (Nat.ne_of_gt hzS) (Nat.ne_of_gt hOS) (Nat.ne_of_gt h1S) (Nat.ne_of_gt h2S) hS
    have up : ∀ b o, b ≠ S → h'.get? b = some o → (h'.update S (Obj.mapSeq (·.push (Value.ref h.objs.size)))).get? b = some o := fun b o hb e => (Heap.get?_update_other _ _ (Ne.symm hb)).trans e
    show wpAny _ A.in1 (updateSeq S (·.push (Value.ref h.objs.size)) >>= _) _ _ _
    refine wpAny_bind ?_
    refine wpAny_updateSeq hS' rfl (wpAny_pure ⟨plainId_quiet PySem.F.plain_extend_loop _, ih (i + 1) _ tk' _ (acc.push (Value.ref h.objs.size)) (as ++ [h.objs.size]) (by omega) hlt (hst'.keep (Nat.ne_of_lt hzS) (Nat.ne_of_lt hTS) (Nat.ne_of_lt hOS) up)
      (D1.frame _ _ _ hs1' fun b hb o e => up b o (fun q => hf1 (q ▸ hb)) e) (D2.frame _ _ _ hs2' fun b hb o e => up b o (fun q => hf2 (q ▸ hb)) e)
      (fun b o e0 e1 e2 e3 e4 e => up b o e0 (hkp b o e1 e2 e3 e4 (hkeep b o e0 e1 e2 e3 e4 e))) (Heap.get?_update_self _ hS' rfl) (by rw [Array.toList_push, hacc, List.map_append]; rfl) (by rw [List.length_append, hal]; rfl) ⟨?_, ?_, ?_⟩⟩) (by rw [hsz]; omega) (by show (acc.push (Value.ref h.objs.size)).size ≤ sizeLine + 1; rw [Array.size_push, hsz]; omega)
    · refine List.pairwise_append.mpr ⟨hG.rise, List.pairwise_singleton _ _, fun a ha b hb => ?_⟩
      rw [List.mem_singleton.mp hb]
      exact hG.there ha
    · intro a ha
      rcases List.mem_append.mp ha with ha | ha
      · exact hG.above a ha
      · rw [List.mem_singleton.mp ha]; exact hSl
    · intro j b hj
      rcases Nat.lt_trichotomy j as.length with h1 | h1 | h1
      · rw [List.getElem?_append_left h1] at hj
        obtain ⟨y1, y2, q1, q2, e3⟩ := hG.pairs j b hj
        obtain ⟨a1, a2, a3, a4, a5⟩ := ab (hG.above b (List.mem_of_getElem? hj))
        exact ⟨y1, y2, q1, q2, up b _ a5 (hkp b _ a1 a2 a3 a4 e3)⟩
      · subst h1
        have hb : h.objs.size = b := by simpa using hj
        subst hb
        exact ⟨x1, x2, by rw [hal]; exact p1, by rw [hal]; exact p2, up _ _ (Nat.ne_of_gt hSl) ht⟩
      · have hnone : (as ++ [h.objs.size])[j]? = none := List.getElem?_eq_none (by rw [List.length_append, List.length_singleton]; omega)
        rw [hnone] at hj; cases hj
end
section
variable {prog : Program} {w : World} {A : Around} {E : Value → Shared → Prop} {s : Shared} {z TI TO i1 i2 : Addr} {fp1 fp2 : List Addr} {n1 n2 : Nat} {P1 P2 : Nat → Value → Prop} {St1 St2 : Nat → Heap → Prop}
theorem collectZ {R : List Value → Shared → Prop} (SP : ZipSep2 z TI TO i1 i2 fp1 fp2) (D1 : Draws prog w A.in1.in1 i1 fp1 n1 P1 St1) (D2 : Draws prog w A.in1.in1 i2 fp2 n2 P2 St2)
    (hz : IsZip s.heap z TI TO .none) (hTI : IsTupOf2 s.heap TI (.ref i1) (.ref i2)) {a1 a2 : Value} (hTO : IsTupOf2 s.heap TO a1 a2) (st1 : St1 0 s.heap) (st2 : St2 0 s.heap)
    (hf1 : ∀ b ∈ fp1, b < s.heap.objs.size) (hf2 : ∀ b ∈ fp2, b < s.heap.objs.size) (hn : min n1 n2 ≤ sizeLine)
    (h : ∀ (h' : Heap) (tk : Nat) (as : List Addr), (∀ b o, b ≠ z → b ≠ TO → b ≠ i1 → b ≠ i2 → s.heap.get? b = some o → h'.get? b = some o) → s.heap.objs.size < h'.objs.size → as.length = min n1 n2 → Made P1 P2 s.heap.objs.size h' as → R (as.map Value.ref) { s with heap := h', toks := tk }) :
    wpAny (model prog w) A (collect (.ref z)) R E s := by
  have hzS : z < s.heap.objs.size := Heap.lt_size hz
  have hTS : TI < s.heap.objs.size := Heap.lt_size hTI
  have hOS : TO < s.heap.objs.size := Heap.lt_size hTO
  have h1S : i1 < s.heap.objs.size := hf1 _ SP.mem1
  have h2S : i2 < s.heap.objs.size := hf2 _ SP.mem2
  have n1S : s.heap.objs.size ∉ fp1 := fun q => Nat.lt_irrefl _ (hf1 _ q)
  have n2S : s.heap.objs.size ∉ fp2 := fun q => Nat.lt_irrefl _ (hf2 _ q)
  unfold collect
  refine wpAny_bind (wpAny_runValue (codeAny_builtin PySem.F.entry_proto_collect ?_))
  rw [Around.under_plainId PySem.F.plain_proto_collect _]
  show wpAny _ A.in1 (newList [] >>= fun l => again (.builtin "list.__iadd__" ⟨[l, .ref z], []⟩)) _ _ s
  refine wpAny_bind (wpAny_newObj_type ?_)
  refine wpAny_pure ⟨plainId_quiet PySem.F.plain_list_iadd _, codeAny_builtin PySem.F.entry_list_iadd ?_⟩
  rw [Around.under_plainId PySem.F.plain_list_iadd _]
  have hz1 : IsZip (s.heap.push { cls := .type "list", data := .seq ([] : List Value).toArray }) z TI TO .none := Heap.get?_push_of_some _ hz
  have hTy : Shared.TypeIs { s with heap := s.heap.push { cls := .type "list", data := .seq ([] : List Value).toArray } } (.ref z) "zip" := ⟨_, hz1, rfl⟩
  show wpAny _ A.in1 (Builtin.List.listExtendWith (.ref s.heap.objs.size) (.ref z) (.ref s.heap.objs.size)) _ _ _
  unfold Builtin.List.listExtendWith
  refine wpAny_bind (wpAny_typeOf hTy ?_)
  have h1 : Builtin.List.listSameRef (.ref s.heap.objs.size) (.ref z) = false := by simp [Builtin.List.listSameRef, Nat.ne_of_gt hzS]
  have h2 : (Value.type "zip" == Value.type "list") = false := by decide
  have h3 : (Value.type "zip" == Value.type "tuple") = false := by decide
  simp only [h1, h2, h3, Bool.or_false, Bool.false_eq_true, if_false]
  refine wpAny_bind (wpAny_pyIter_zip hz1 ?_)
  refine wpAny_bind (wpAny_holding ?_)
  unfold Builtin.List.listLengthHint
  refine wpAny_bind (wpAny_specialOf hTy zip_no_len ?_)
  show wpAny _ A.in1 (specialOf (Value.ref z) (Str.ofString "__length_hint__") >>= _) _ _ _
  refine wpAny_bind (wpAny_specialOf hTy zip_no_hint ?_)
  refine wpAny_pure ?_
  show wpAny _ A.in1 (rule "list.extend.makes-room" >>= fun _ => Builtin.List.listTouch (.ref s.heap.objs.size) >>= fun _ =>
    again (.builtin "list.extend.loop" ⟨[.ref s.heap.objs.size, .ref z, .ref s.heap.objs.size], []⟩)) _ _ _
  refine wpAny_bind (wpAny_rule ?_)
  have hS₁ : (s.heap.push { cls := .type "list", data := .seq ([] : List Value).toArray }).get? s.heap.objs.size = some { cls := .type "list", data := .seq ([] : List Value).toArray } := Heap.get?_push_size _ rfl
  refine wpAny_bind ?_
  show wpAny _ A.in1 (updateSeq s.heap.objs.size (·.push .none) >>= fun _ => updateSeq s.heap.objs.size (·.pop)) _ _ _
  refine wpAny_bind (wpAny_updateSeq hS₁ rfl ?_)
  have hS₂ := Heap.get?_update_self (Obj.mapSeq (·.push Value.none)) hS₁ rfl
  refine wpAny_updateSeq hS₂ rfl ?_
  have hS₃ := Heap.get?_update_self (Obj.mapSeq (·.pop)) hS₂ rfl
  have oth : ∀ b o, b ≠ s.heap.objs.size → s.heap.get? b = some o →
      (((s.heap.push { cls := .type "list", data := .seq ([] : List Value).toArray }).update s.heap.objs.size (Obj.mapSeq (·.push Value.none))).update s.heap.objs.size (Obj.mapSeq (·.pop))).get? b = some o :=
    fun b o hb e => (Heap.get?_update_other _ _ (Ne.symm hb)).trans ((Heap.get?_update_other _ _ (Ne.symm hb)).trans (Heap.get?_push_of_some _ e))
  refine wpAny_pure ⟨plainId_quiet PySem.F.plain_extend_loop _, loopZ (s := s) (h₁ := s.heap) SP D1 D2 hzS hTS hOS h1S h2S n1S n2S hn (.ref s.heap.objs.size) (fun h' tk acc c as hk hS' hl hG hacc => ?_) (min n1 n2) 0 _ s.toks _ _ [] (Nat.sub_zero _) (Nat.zero_le _)
    ⟨oth _ _ (Nat.ne_of_lt hTS) hTI, .inl ⟨oth _ _ (Nat.ne_of_lt hzS) hz, a1, a2, oth _ _ (Nat.ne_of_lt hOS) hTO⟩⟩ (D1.frame _ _ _ st1 fun b hb o e => oth b o (fun q => n1S (q ▸ hb)) e) (D2.frame _ _ _ st2 fun b hb o e => oth b o (fun q => n2S (q ▸ hb)) e)
    (fun b o e0 _ _ _ _ e => oth b o e0 e) hS₃ rfl rfl ⟨List.Pairwise.nil, (fun _ ha => nomatch ha), (fun j a hj => by simp at hj)⟩⟩
  show wpAny _ A (load s.heap.objs.size >>= _) _ _ _
  refine wpAny_bind (wpAny_load hS' ?_)
  refine wpAny_pure ?_
  show R acc.toList _
  rw [hacc]
  exact h h' tk as (fun b o e1 e2 e3 e4 e => hk b o (Nat.ne_of_lt (Heap.lt_size e)) e1 e2 e3 e4 e) (Heap.lt_size hS') hl hG
/-- tuple(zip(..)) -/
theorem code_tuple_zip {Q₁ : Value → Shared → Prop} (SP : ZipSep2 z TI TO i1 i2 fp1 fp2) (D1 : Draws prog w A.in1.in1.in1 i1 fp1 n1 P1 St1) (D2 : Draws prog w A.in1.in1.in1 i2 fp2 n2 P2 St2)
    (hz : IsZip s.heap z TI TO .none) (hTI : IsTupOf2 s.heap TI (.ref i1) (.ref i2)) {a1 a2 : Value} (hTO : IsTupOf2 s.heap TO a1 a2) (st1 : St1 0 s.heap) (st2 : St2 0 s.heap)
    (hf1 : ∀ b ∈ fp1, b < s.heap.objs.size) (hf2 : ∀ b ∈ fp2, b < s.heap.objs.size) (hn : min n1 n2 ≤ sizeLine)
    (h : ∀ (h' : Heap) (tk : Nat) (as : List Addr), (∀ b o, b ≠ z → b ≠ TO → b ≠ i1 → b ≠ i2 → s.heap.get? b = some o → h'.get? b = some o) → s.heap.objs.size < h'.objs.size → as.length = min n1 n2 → Made P1 P2 s.heap.objs.size h' as →
      Q₁ (.ref h'.objs.size) { s with heap := h'.push { cls := .type "tuple", data := .seq (as.map Value.ref).toArray }, toks := tk }) :
    codeAny (model prog w) A (.call (.builtin "tuple.__new__") ⟨[.type "tuple", .ref z], []⟩) (wants Q₁ E) s := by
  refine codeAny_of_tree ?_
  show wpAny _ A.in1 (do checkBuiltinCall "tuple.__new__" ⟨[.type "tuple", .ref z], []⟩; again (.builtin "tuple.__new__" ⟨[.type "tuple", .ref z], []⟩)) _ _ s
  refine wpAny_bind (wpAny_of_eq (PySem.F.newCall_tuple_1 _) (wpAny_pure ⟨plainId_quiet PySem.F.plain_tuple_new _, codeAny_builtin PySem.F.entry_tuple_new ?_⟩))
  rw [Around.under_plainId PySem.F.plain_tuple_new _]
  have hsub := sub_tuple_self
  have hinit := init_tuple_lookup
  have hmh := madeHere_tuple
  have hTy : s.TypeIs (.ref z) "zip" := ⟨_, hz, rfl⟩
  wp_walk using wpAny_typeOf hTy, collectZ SP D1 D2 hz hTI hTO st1 st2 hf1 hf2 hn
  intro h' tk as hk hlt hl hG
  show wpAny _ _ (Builtin.Tuple.tupleExact (as.map Value.ref).toArray >>= fun v => ret v) _ _ _
  unfold Builtin.Tuple.tupleExact
  refine wpAny_bind (wpAny_newObj_type ?_ (by show (as.map Value.ref).toArray.size ≤ sizeLine; rw [List.size_toArray, List.length_map, hl]; exact hn))
  exact wpAny_pure (h h' tk as hk hlt hl hG)
theorem call_tuple_zip {Q : Value → Shared → Prop} (SP : ZipSep2 z TI TO i1 i2 fp1 fp2) (D1 : Draws prog w A.in1.in1.in1.in1 i1 fp1 n1 P1 St1) (D2 : Draws prog w A.in1.in1.in1.in1 i2 fp2 n2 P2 St2)
    (hz : IsZip s.heap z TI TO .none) (hTI : IsTupOf2 s.heap TI (.ref i1) (.ref i2)) {a1 a2 : Value} (hTO : IsTupOf2 s.heap TO a1 a2) (st1 : St1 0 s.heap) (st2 : St2 0 s.heap)
    (hf1 : ∀ b ∈ fp1, b < s.heap.objs.size) (hf2 : ∀ b ∈ fp2, b < s.heap.objs.size) (hn : min n1 n2 ≤ sizeLine)
    (h : ∀ (h' : Heap) (tk : Nat) (as : List Addr), (∀ b o, b ≠ z → b ≠ TO → b ≠ i1 → b ≠ i2 → s.heap.get? b = some o → h'.get? b = some o) → s.heap.objs.size < h'.objs.size → as.length = min n1 n2 → Made P1 P2 s.heap.objs.size h' as →
      Q (.ref h'.objs.size) { s with heap := h'.push { cls := .type "tuple", data := .seq (as.map Value.ref).toArray }, toks := tk }) :
    wpAny (model prog w) A (call (.type "tuple") [.ref z]) Q E s := by
  refine callType_codes (Q₁ := fun obj s₁ => s₁.TypeIs obj "tuple" ∧ Q obj s₁) PySem.F.called_tuple (PySem.F.typeCall_tuple_1 _) PySem.F.entry_object_init
    (code_tuple_zip SP D1 D2 hz hTI hTO st1 st2 hf1 hf2 hn fun h' tk as hk hlt hl hG => ⟨⟨_, Heap.get?_push_size _ rfl, rfl⟩, h h' tk as hk hlt hl hG⟩) fun obj s₁ h₁ => ?_
  exact ⟨h₁.1, PySem.F.args_object_init_2 obj _, object_init_meets PySem.F.called_tuple.init.lookup PySem.F.called_tuple.made (by decide) prog w A.in1 _ s₁ ⟨h₁.1, rfl, h₁.2⟩⟩
end
end ZC
/-! Dz 25: tuple(zip(a, b)) as a value. -/
namespace Dz
open PySem PySem.Spec PyProof.Rows L2
/-- new tuples, one by one -/
def NewTs : Hp → List (List V) → (List Addr → Hp → Prop) → Prop
  | H, [], K => K [] H
  | H, vs :: r, K => ∀ (p : Addr) (o : Obj), H p = none → o.dict = none → NewTs (upd H p (.frz o (.tup vs))) r fun ps H' => K (p :: ps) H'
def TupIn (h' : Heap) (lo a : Addr) (vs : List V) : Prop := lo ≤ a ∧ ∃ (o : Obj) (its : List Value), o.dict = none ∧ h'.get? a = some o ∧ Vals vs its ∧ IsTup h' a its.toArray ∧ vs.length ≤ sizeLine
section
variable {X : Cx} {pins : List (Addr × Obj)} {σ : L2.St} {H0 : Hp} {s : Shared} {h' : Heap} {tk : Nat}
theorem takeZ (I0 : Inv X pins σ H0 s) (L : List Addr) : ∀ (rows : List (List V)) (H1 : Hp) (K : List Addr → Hp → Prop), Inv X pins σ H1 { s with heap := h', toks := tk } → L.Nodup → (∀ a ∈ L, H1 a = none) →
    Paired (TupIn h' s.heap.objs.size) L rows → NewTs H1 rows K →
    ∃ H2, Inv X pins σ H2 { s with heap := h', toks := tk } ∧ K L H2 ∧ ∀ a, a ∉ L → H2 a = H1 a := by
  induction L with
  | nil =>
    intro rows H1 K I1 _ _ hp q
    cases hp
    exact ⟨H1, I1, q, fun _ _ => rfl⟩
  | cons a L ih =>
    intro rows H1 K I1 hn hf hp q
    cases hp with
    | cons hh t =>
      rename_i vs rows
      obtain ⟨hb, o, its, hd, hg, r, ht, hz⟩ := hh
      have hnone := hf a (List.mem_cons_self ..)
      have I2 : Inv X pins σ (upd H1 a (.frz o (.tup vs))) { s with heap := h', toks := tk } := I1.take (h' := h') (t' := tk) (fun b ob _ e => e) (I0.fpOk hb hnone) ⟨hg, hz, its, r, ht⟩
      rw [List.nodup_cons] at hn
      have hf2 : ∀ c ∈ L, upd H1 a (.frz o (.tup vs)) c = none := fun c hc => by
        rw [upd_ne (fun z => hn.1 (by rw [← z]; exact hc))]
        exact hf c (List.mem_cons_of_mem _ hc)
      have q2 := q a o hnone hd
      obtain ⟨H2, I3, k, e⟩ := ih rows _ _ I2 hn.2 hf2 t q2
      refine ⟨H2, I3, k, fun c hc => ?_⟩
      have n1 : c ∉ L := fun z => hc (List.mem_cons_of_mem _ z)
      have n2 : c ≠ a := fun z => hc (by rw [z]; exact List.mem_cons_self ..)
      rw [e c n1, upd_ne n2]
end
/-- what zip can walk: a list or a tuple -/
def ItemsAt (h : Heap) (a : Addr) (items : Array Value) : Prop := h.IsList a items ∨ h.IsTuple a items
theorem ItemsAt.lt {h : Heap} {a : Addr} {items : Array Value} (x : ItemsAt h a items) : a < h.objs.size := by
  rcases x with ⟨o, ho, _⟩ | ⟨o, ho, _⟩
  · exact Heap.lt_size ho
  · exact Heap.lt_size ho
theorem ItemsAt.beg {P : Program} {w : World} {h : Heap} {a : Addr} {items : Array Value} (x : ItemsAt h a items) : ∃ o HB, Begins (.ref a) o HB ∧ HB h ∧ ∀ (A : Around) (it : Addr), A.handled = none → a ≠ it →
    ∃ St, Draws P w A it [it, a] items.size (fun i v => items[i]? = some v) St ∧ ∀ h', h'.get? it = some o → HB h' → St 0 h' := by
  rcases x with x | x
  · exact ⟨_, _, begins_list a items, x, fun A it hh hne => ⟨_, Draws.list hh it a hne items, fun h' e q => ⟨⟨_, e, rfl, rfl⟩, q⟩⟩⟩
  · exact ⟨_, _, begins_tuple a items, x, fun A it hh hne => ⟨_, Draws.tuple hh it a hne items, fun h' e q => ⟨⟨_, e, rfl, rfl⟩, q⟩⟩⟩
section
variable {X : Cx}
def SqA (K : PySem.W.Frag) (H : Hp) (a : Addr) (xs : List V) : Prop := SqL K H a xs ∨ SqT K H a xs
theorem SqA.items {pins : List (Addr × Obj)} {σ : L2.St} {H : Hp} {s : Shared} (I : Inv X pins σ H s) {a : Addr} {xs : List V} (h : SqA X.K H a xs) : ∃ its, Vals xs its ∧ ItemsAt s.heap a its.toArray ∧ xs.length ≤ sizeLine := by
  rcases h with h | h
  · obtain ⟨its, r, p, z⟩ := I.list h
    exact ⟨its, r, .inl p.isList, z⟩
  · obtain ⟨its, r, p, z⟩ := I.tuple h
    exact ⟨its, r, .inr p, z⟩
def rZipT (K : PySem.W.Frag) : List V → Hp → VK → Prop := fun vs H Q => ∃ a b xs ys, vs = [.ref a, .ref b] ∧ SqA K H a xs ∧ SqA K H b ys ∧
  NewTs H ((xs.zip ys).map fun p => [p.1, p.2]) fun ps H' => NewT H' (ps.map V.ref) Q
theorem paired_of {α β : Type} {F : α → β → Prop} : ∀ {l₁ : List α} {l₂ : List β}, l₁.length = l₂.length → (∀ (j : Nat) (a : α) (b : β), l₁[j]? = some a → l₂[j]? = some b → F a b) → Paired F l₁ l₂
  | [], [], _, _ => .nil
  | [], _ :: _, h, _ => by simp at h
  | _ :: _, [], h, _ => by simp at h
  | a :: l₁, b :: l₂, h, f => .cons (f 0 a b rfl rfl) (paired_of (by simpa using h) fun j x y e1 e2 => f (j + 1) x y (by simpa using e1) (by simpa using e2))
theorem refs_vals : ∀ (as : List Addr), Vals (as.map V.ref) (as.map Value.ref)
  | [] => .nil
  | _ :: as => .cons rfl (refs_vals as)
theorem pe_zipT {e e2 : Expr} {ta : TA} {p p2 pos pos2 : Pos} (hc : X.calm = true) (hg : Gl X "tuple") (hm : X.mg "tuple" = none) (hg2 : Gl X "zip") (hm2 : X.mg "zip" = none) (ha : PA X [e, e2] ta)
    (hs1 : starEach [Expr.Call (.Name "zip" p2) [e, e2] [] pos2] X.env = (false, eval (Expr.Call (.Name "zip" p2) [e, e2] [] pos2) X.env) :: starEach [] X.env := by rfl)
    (hs : starEach [e, e2] X.env = (false, eval e X.env) :: starEach [e2] X.env := by rfl) (hpl : (backTo pos2 (starEach [e2] X.env)).any (·.1) = false := by rfl) :
    PE X (.Call (.Name "tuple" p) [.Call (.Name "zip" p2) [e, e2] [] pos2] [] pos) (tCB (rZipT X.K) ta) := by
  refine ⟨fun pins s σ H Q I h => ?_⟩
  refine wpAny_Call_Name_kw (ld_blt I hg hm boot_tuple ?_ (by decide) (by decide))
  refine PyProof.Rows.callWith_type1 ?_ hs1 rfl
  rw [hs1]
  show wpAny _ _ (spliced ((false, eval (Expr.Call (.Name "zip" p2) [e, e2] [] pos2) X.env) :: backTo pos (starEach [] X.env))) _ _ s
  refine Calls.spliced_cons ?_
  refine Call_ (ld_blt I hg2 hm2 PyProof.Rows.boot_zip (PyProof.Rows.callWith_type1 (thn (ha.run pos2 pins s σ H _ I h) fun us s1 ⟨vs, H1, I1, r1, q1⟩ => ?_) hs hpl))
  obtain ⟨a, b, xs, ys, rfl, hx, hy, q⟩ := q1
  obtain ⟨u1, u2, rfl, r1, r2⟩ := vals2 r1
  cases r1
  cases r2
  obtain ⟨its, rx, ix, zx⟩ := hx.items I1
  obtain ⟨its2, ry, iy, zy⟩ := hy.items I1
  obtain ⟨o1, B1, b1, g1, d1⟩ := ix.beg (P := X.prog) (w := X.w)
  obtain ⟨o2, B2, b2, g2, d2⟩ := iy.beg (P := X.prog) (w := X.w)
  have hh : X.A.handled = none := I1.ok.hd hc
  refine zip_begins2 b1 b2 g1 g2 fun h' hz hTI hTO e1 e2 hsz hk => ?_
  refine Calls.spliced_nil ?_
  have la := ix.lt
  have lb := iy.lt
  obtain ⟨S1, D1, st1⟩ := d1 X.A.in1.in1.in1.in1 s1.heap.objs.size hh (Nat.ne_of_lt la)
  obtain ⟨S2, D2, st2⟩ := d2 X.A.in1.in1.in1.in1 (s1.heap.objs.size + 1) hh (Nat.ne_of_lt (Nat.lt_succ_of_lt lb))
  have lx := rx.length
  have ly := ry.length
  have hsep := zip_sep2 (N := s1.heap.objs.size) (fp1 := [a]) (fp2 := [b]) (fun c hc => by rw [List.mem_singleton.mp hc]; exact la) (fun c hc => by rw [List.mem_singleton.mp hc]; exact lb)
  refine ZC.call_tuple_zip (s := { s1 with heap := h' }) hsep D1 D2 hz hTI hTO (st1 h' e1 (b1.keeps _ _ g1 hk)) (st2 h' e2 (b2.keeps _ _ g2 hk)) (fun c hc => ?_) (fun c hc => ?_) (by simp only [List.size_toArray]; omega) fun hF tk as hk2 hlt hl hG => ?_
  · show c < h'.objs.size
    rw [hsz]
    rcases List.mem_cons.mp hc with z | z
    · rw [z]; exact Nat.lt_add_of_pos_right (by omega)
    · rw [List.mem_singleton.mp z]; exact Nat.lt_of_lt_of_le la (Nat.le_add_right _ _)
  · show c < h'.objs.size
    rw [hsz]
    rcases List.mem_cons.mp hc with z | z
    · rw [z]; exact Nat.add_lt_add_left (by omega) _
    · rw [List.mem_singleton.mp z]; exact Nat.lt_of_lt_of_le lb (Nat.le_add_right _ _)
  · have big : ∀ {c : Addr}, c ∈ as → s1.heap.objs.size + 5 < c := fun hc => by have z := hG.above _ hc; rw [show Shared.heap { s1 with heap := h' } = h' from rfl, hsz] at z; exact z
    have kp : ∀ c o, s1.heap.get? c = some o → hF.get? c = some o := fun c o e => by
      have lc := Heap.lt_size e
      exact hk2 c o (Nat.ne_of_lt (Nat.lt_of_lt_of_le lc (Nat.le_add_right _ _))) (Nat.ne_of_lt (Nat.lt_of_lt_of_le lc (Nat.le_add_right _ _))) (Nat.ne_of_lt lc) (Nat.ne_of_lt (Nat.lt_succ_of_lt lc)) (hk c o e)
    have I2 : Inv X pins σ H1 { s1 with heap := hF, toks := tk } := I1.kept (t' := tk) kp
    have nd : as.Nodup := List.Pairwise.imp (fun h => Nat.ne_of_lt h) hG.rise
    have hlen : as.length = ((xs.zip ys).map fun p => [p.1, p.2]).length := by
      rw [List.length_map, List.length_zip, hl]; simp only [List.size_toArray]; rw [lx, ly]
    have hp : Paired (TupIn hF s1.heap.objs.size) as ((xs.zip ys).map fun p => [p.1, p.2]) := paired_of hlen fun j c vs ec ev => by
      obtain ⟨w1, w2, p1, p2, et⟩ := hG.pairs j c ec
      rw [List.getElem?_map] at ev
      cases hz : (xs.zip ys)[j]? with
      | none => rw [hz] at ev; cases ev
      | some q =>
        rw [hz] at ev
        cases ev
        obtain ⟨f1, f2⟩ := List.getElem?_zip_eq_some.mp hz
        obtain ⟨v1, k1, m1⟩ := rx.get f1
        obtain ⟨v2, k2, m2⟩ := ry.get f2
        have p1' : its[j]? = some w1 := by simpa using p1
        have p2' : its2[j]? = some w2 := by simpa using p2
        rw [k1] at p1'
        rw [k2] at p2'
        cases p1'
        cases p2'
        exact ⟨Nat.le_of_lt (Nat.lt_of_le_of_lt (Nat.le_add_right _ 5) (big (List.mem_of_getElem? ec))), _, [w1, w2], rfl, et, .cons m1 (.cons m2 .nil), ⟨_, et, rfl, 0, rfl⟩, (by rw [sizeLine_eq]; show 2 ≤ 16777216; omega)⟩
    obtain ⟨H2, I3, k, ee⟩ := takeZ (s := s1) (h' := hF) (tk := tk) I1 as _ H1 _ I2 nd (fun c hc => I1.hok.fresh (Nat.le_of_lt (Nat.lt_of_le_of_lt (Nat.le_add_right _ 5) (big hc)))) hp q
    have hzl : (as.map V.ref).length ≤ sizeLine := by rw [List.length_map, hlen, List.length_map, List.length_zip]; omega
    exact ⟨.ref hF.objs.size, _, laidT (s := { s1 with toks := tk }) I3 (refs_vals as) hzl, rfl, k _ _ (I3.hok.fresh (Nat.le_refl _)) rfl⟩
end
/-! ### on data -/
def zipRow (xs ys : List D) : List D := (xs.zip ys).map fun p => .tup [p.1, p.2]
def zipTD : List D → Option R
  | [a, b] => (seqD a).bind fun xs => (seqD b).map fun ys => .frz (.tup (zipRow xs ys))
  | _ => none
theorem prep_items {K : PySem.W.Frag} {N : AP mg} {H : Hp} {d : D} {v : V} {ds : List D} (h : PRep N H d v) (e : seqD d = some ds) : ∃ a vs, v = .ref a ∧ SqA K H a vs ∧ Reps N H ds vs := by
  unfold seqD at e
  split at e
  · cases e
    obtain ⟨a, vs, rfl, p, r⟩ := h.lst
    exact ⟨a, vs, rfl, .inl (SqL.of p), r⟩
  · cases e
    obtain ⟨a, vs, rfl, p, _, r⟩ := h.tup
    exact ⟨a, vs, rfl, .inr p.sq, r⟩
  · cases e
    obtain ⟨a, rfl, p⟩ := h.scr
    exact ⟨a, _, rfl, .inl (.inl p), ints_reps _⟩
  · cases e
theorem paired_map {α β : Type} {F G : α → β → Prop} (h : ∀ a b, F a b → G a b) : ∀ {l₁ : List α} {l₂ : List β}, Paired F l₁ l₂ → Paired G l₁ l₂
  | _, _, .nil => .nil
  | _, _, .cons x t => .cons (h _ _ x) (paired_map h t)
theorem newTs_rep {W B : AP mg} {σ : L2.St} {ρ : Env} : ∀ (rd : List (List D)) (rv : List (List V)) (H : Hp) (K : List Addr → Hp → Prop), St W B σ H ρ → Paired (Reps (Eo W B) H) rd rv →
    (∀ ps H', Fr W H W H' → St W B σ H' ρ → Reps (Eo W B) H' (rd.map .tup) (ps.map V.ref) → K ps H') → NewTs H rv K := by
  intro rd
  induction rd with
  | nil =>
    intro rv H K s hp k
    cases hp
    exact k [] H .refl s rfl
  | cons d rd ih =>
    intro rv H K s hp k
    cases hp with
    | cons r t =>
      rename_i vs rv
      intro p o hpn hd
      have v := vok_tup hd s r hpn
      refine ih rv _ _ (s.new hpn) (paired_map (fun _ _ x => x.fr (Fr.new hpn)) t) fun ps H' f s' rr => ?_
      refine k (p :: ps) H' ((Fr.new hpn).trans f) s' ⟨.ref p, _, rfl, ?_, rr⟩
      exact Rep.fr (show Rep (Eo W B) _ (.tup d) (.ref p) from v.2) f
theorem reps_zip {N : AP mg} {H : Hp} : ∀ {xs ys : List D} {vs ws : List V}, Reps N H xs vs → Reps N H ys ws → Paired (Reps N H) ((xs.zip ys).map fun p => [p.1, p.2]) ((vs.zip ws).map fun p => [p.1, p.2])
  | [], _, _, _, h, _ => by
    rw [show _ = [] from h]
    exact .nil
  | _ :: _, [], _, ws, _, h => by
    rw [show ws = [] from h, List.zip_nil_right, List.zip_nil_right]
    exact .nil
  | x :: xs, y :: ys, _, _, h1, h2 => by
    obtain ⟨v, vs, rfl, p1, q1⟩ := h1
    obtain ⟨w, ws, rfl, p2, q2⟩ := h2
    exact .cons ⟨v, [w], rfl, p1, w, [], rfl, p2, rfl⟩ (reps_zip q1 q2)
theorem vl_zipT {K : PySem.W.Frag} : VRL (rZipT K) zipTD := by
  intro mg W B σ H ρ vs ds res Q s rs hg hq
  unfold zipTD at hg
  split at hg
  · rename_i da db
    cases ea : seqD da with
    | none => rw [ea] at hg; cases hg
    | some xs =>
      cases eb : seqD db with
      | none => rw [ea, eb] at hg; cases hg
      | some ys =>
        rw [ea, eb] at hg
        cases hg
        obtain ⟨v, w, rfl, p1, p2⟩ := preps2 rs
        obtain ⟨a, xv, rfl, sx, rx⟩ := prep_items (K := K) p1 ea
        obtain ⟨b, yv, rfl, sy, ry⟩ := prep_items (K := K) p2 eb
        refine ⟨a, b, xv, yv, rfl, sx, sy, newTs_rep ((xs.zip ys).map fun p => [p.1, p.2]) _ H _ s (reps_zip rx ry) fun ps H' f s' rr => ?_⟩
        intro t o ht hd
        refine hq W _ _ (f.trans (Fr.new ht)) ?_
        show VOk W B σ _ ρ _ (R.frz (D.tup (zipRow xs ys)))
        have e : zipRow xs ys = ((xs.zip ys).map fun p => [p.1, p.2]).map D.tup := by rw [zipRow, List.map_map]; rfl
        rw [e]
        exact vok_tup hd s' rr ht
  · cases hg
section
variable {X : Cx} {Wx : WX} {e e2 : Expr} {os : List Opd} {p p2 pos pos2 : Pos}
theorem de_zipT (hc : X.calm = true) (hg : Gl X "tuple") (hm : X.mg "tuple" = none) (hg2 : Gl X "zip") (hm2 : X.mg "zip" = none) (ha : DOs X Wx [e, e2] os)
    (hs1 : starEach [Expr.Call (.Name "zip" p2) [e, e2] [] pos2] X.env = (false, eval (Expr.Call (.Name "zip" p2) [e, e2] [] pos2) X.env) :: starEach [] X.env := by rfl)
    (hs : starEach [e, e2] X.env = (false, eval e X.env) :: starEach [e2] X.env := by rfl) (hpl : (backTo pos2 (starEach [e2] X.env)).any (·.1) = false := by rfl) :
    DE X Wx (.Call (.Name "tuple" p) [.Call (.Name "zip" p2) [e, e2] [] pos2] [] pos) (fL os zipTD) :=
  ⟨pe_imp (pe_zipT hc hg hm hg2 hm2 ha.pa hs1 hs hpl) fun _ _ _ q => rdL vl_zipT q, evo_fL ha.evo⟩
end
end Dz
/-! Dz 26: cells: made, changed. -/
namespace Dz
open PySem PySem.Spec PyProof.Rows L2
/-- a new cell of a fresh object -/
def allocM (hi : Nat) (r : R) : M R := fun ρ =>
  match r with
  | .own d => match ρ[hi]? with
    | some (.hp cs) => some (.ok (.frz (.cell cs.length)) (ρ.set hi (.hp (cs ++ [d]))))
    | _ => none
  | _ => none
theorem allocM_some {hi : Nat} {r : R} {ρ : Env} {o : Res R} (h : allocM hi r ρ = some o) : ∃ d cs, r = .own d ∧ ρ[hi]? = some (Slot.hp cs) ∧ o = .ok (.frz (.cell cs.length)) (ρ.set hi (.hp (cs ++ [d]))) := by
  unfold allocM at h
  split at h
  · split at h
    · cases h; exact ⟨_, _, rfl, by assumption, rfl⟩
    · cases h
  · cases h
/-- the cells change -/
theorem evo_hp {ρ : Env} {hi : Nat} {cs cs' : List D} (q : ρ[hi]? = some (Slot.hp cs)) : Evo ρ (ρ.set hi (.hp cs')) := by
  have hl := (List.getElem?_eq_some_iff.mp q).1
  refine ⟨by simp, fun i d e => ?_, fun i d e => ?_, fun i d e => ?_, fun i d e => ?_, fun i d e => ?_⟩
  · by_cases z : hi = i
    · subst z; rw [List.getElem?_set_self hl] at e; cases e
    · rwa [List.getElem?_set_ne z] at e
  · by_cases z : hi = i
    · subst z; rw [q] at e; cases e
    · exact ⟨d, by rwa [List.getElem?_set_ne z]⟩
  · by_cases z : hi = i
    · subst z; rw [List.getElem?_set_self hl] at e; cases e
    · exact ⟨d, by rwa [List.getElem?_set_ne z] at e⟩
  · by_cases z : hi = i
    · subst z; exact ⟨cs', List.getElem?_set_self hl⟩
    · exact ⟨d, by rwa [List.getElem?_set_ne z]⟩
  · by_cases z : hi = i
    · subst z; exact ⟨cs, q⟩
    · exact ⟨d, by rwa [List.getElem?_set_ne z] at e⟩
theorem evo_alloc {hi : Nat} {r : R} : EvoF (allocM hi r) := fun ρ o h => by
  obtain ⟨d, cs, _, e, rfl⟩ := allocM_some h
  exact evo_hp e
/-- one more cell, at a -/
def Al (W : AP mg) (n : Nat) (a : Addr) : AP mg := ⟨W.p, fun m => if m = n then some a else W.t m, W.h⟩
section
variable {mg : Str → Option Value} {W B : AP mg} {σ : L2.St} {H : Hp} {ρ : Env} {hi : Nat} {cs : List D}
theorem hp_slot (s : St W B σ H ρ) (e : ρ[hi]? = some (Slot.hp cs)) : HpOk W B H cs := s.slot hi _ e
theorem al_tab (q : HpOk W B H cs) (a : Addr) : ∀ n b, W.t n = some b → (Al W cs.length a).t n = some b := fun n b e => by
  show (if n = cs.length then some a else W.t n) = some b
  rw [if_neg (fun z => by have := q.lt n b e; omega)]
  exact e
theorem al_fr (q : HpOk W B H cs) (a : Addr) : Fr W H (Al W cs.length a) H := ⟨fun _ _ e _ => e, fun _ z => .inl z, al_tab q a, fun z => (by rw [q.on] at z; cases z), rfl⟩
theorem St.alloc (s : St W B σ H ρ) (e : ρ[hi]? = some (Slot.hp cs)) {a : Addr} {d : D} (wa : W a) (t : CTop (Eo W B) H a d) (hn : Free W σ ρ a) : St (Al W cs.length a) B σ H (ρ.set hi (.hp (cs ++ [d]))) := by
  have q := hp_slot s e
  have hl := (List.getElem?_eq_some_iff.mp e).1
  have hN : Lf (Eo (Al W cs.length a) B) (Eo W B) H := ⟨fun _ z => .inl z, al_tab q a⟩
  have oth : ∀ (i : Nat) (u : Slot), hi ≠ i → (ρ.set hi (.hp (cs ++ [d])))[i]? = some u → ρ[i]? = some u := fun i u n h => by rwa [List.getElem?_set_ne n] at h
  have wr : ∀ (i : Nat) (u : Slot), (ρ.set hi (.hp (cs ++ [d])))[i]? = some u → u.wr = true → ρ[i]? = some u := fun i u h w => by
    by_cases n : hi = i
    · subst n; rw [List.getElem?_set_self hl] at h; cases h; cases w
    · exact oth i u n h
  have hps : ∀ (i : Nat) (c : List D), (ρ.set hi (.hp (cs ++ [d])))[i]? = some (Slot.hp c) → i = hi := fun i c h => by
    by_cases n : hi = i
    · exact n.symm
    · exact s.hp1 i hi c cs (oth i _ n h) e
  have tr : ∀ {x : Addr} {d : D}, Top (Eo W B) H x d → Top (Eo (Al W cs.length a) B) H x d := fun {x d} r => Top.mono (M := fun _ => False) hN (fun _ _ e _ => e) (fun _ z => z.elim) (fun z => z) r
  have ctr : ∀ {x : Addr} {d : D}, CTop (Eo W B) H x d → CTop (Eo (Al W cs.length a) B) H x d := fun {x d} r => CTop.mono (M := fun _ => False) hN (fun _ _ e _ => e) (fun _ z => z.elim) (fun z => z) r
  refine ⟨by rw [List.length_set]; exact s.len, fun i u h => ?_, s.dom, s.dis, fun i j u v b hij p p2 w1 w2 x1 x2 => s.apart i j u v b hij (wr i u p w1) (wr j v p2 w2) w1 w2 x1 x2, fun i j u c n b p w x p2 e2 => ?_, fun i j c c' p p2 => by rw [hps i c p, hps j c' p2]⟩
  · by_cases n : hi = i
    · subst n
      rw [List.getElem?_set_self hl] at h
      cases h
      refine ⟨q.on, fun n d' ed => ?_, fun n b eb => ?_, fun n m b e1 e2 => ?_⟩
      · by_cases hn' : n < cs.length
        · rw [List.getElem?_append_left hn'] at ed
          obtain ⟨b, e1, w, t'⟩ := q.at_ n d' ed
          exact ⟨b, al_tab q a n b e1, w, ctr t'⟩
        · have hn2 : n = cs.length := by
            have := (List.getElem?_eq_some_iff.mp ed).1
            simp at this
            omega
          subst hn2
          rw [List.getElem?_append_right (Nat.le_refl _), Nat.sub_self] at ed
          cases ed
          exact ⟨a, if_pos rfl, wa, ctr t⟩
      · have eb : (if n = cs.length then some a else W.t n) = some b := eb
        rw [List.length_append, List.length_singleton]
        split at eb
        · omega
        · have := q.lt n b eb; omega
      · have e1 : (if n = cs.length then some a else W.t n) = some b := e1
        have e2 : (if m = cs.length then some a else W.t m) = some b := e2
        split at e1
        · cases e1
          split at e2
          · omega
          · exact absurd e2 (hn.ce _ cs m e)
        · split at e2
          · cases e2
            exact absurd e1 (hn.ce _ cs n e)
          · exact q.inj n m b e1 e2
    · have z := s.slot i u (oth i u n h)
      cases u with
      | emp => trivial
      | frz d => obtain ⟨x, e1, r⟩ := z; exact ⟨x, e1, Rep.mono hN (fun _ _ e _ => e) _ _ r⟩
      | own d => obtain ⟨x, e1, w, r⟩ := z; exact ⟨x, e1, w, tr r⟩
      | lent d => obtain ⟨x, e1, w, r⟩ := z; exact ⟨x, e1, w, tr r⟩
      | bor d => obtain ⟨x, e1, w, r⟩ := z; exact ⟨x, e1, w, tr r⟩
      | hp c => exact absurd (hps i c h) fun z => n z.symm
  · have e2 : (if n = cs.length then some a else W.t n) = some b := e2
    split at e2
    · cases e2
      exact hn.nm i u (wr i u p w) w x
    · exact s.hpa i hi u cs n b (wr i u p w) w x e e2
/-- what a cell holds changes -/
theorem St.mutC (s : St W B σ H ρ) (e : ρ[hi]? = some (Slot.hp cs)) {n : Nat} {a : Addr} {o : HO} {d' : D} (ea : W.t n = some a) (t : CTop (Eo W B) (upd H a o) a d') : St W B σ (upd H a o) (ρ.set hi (.hp (cs.set n d'))) := by
  have q := hp_slot s e
  have hl := (List.getElem?_eq_some_iff.mp e).1
  obtain ⟨d0, ed0, wa, _⟩ := q.w ea
  have hR : Lf (Eo W B) (Eo W B) H := ⟨fun _ z => .inl z, fun _ _ e => e⟩
  have fr : Fr W H W (upd H a o) := Fr.upd wa
  have keepA : ∀ b u, H b = some u → ¬ (fun c => c = a) b → upd H a o b = some u := fun b u k n => by rw [upd_ne n]; exact k
  have sub : ∀ b, (fun c => c = a) b → Eo W B b := fun b z => .inl (z ▸ wa)
  have oth : ∀ (i : Nat) (u : Slot), hi ≠ i → (ρ.set hi (.hp (cs.set n d')))[i]? = some u → ρ[i]? = some u := fun i u n h => by rwa [List.getElem?_set_ne n] at h
  have wr : ∀ (i : Nat) (u : Slot), (ρ.set hi (.hp (cs.set n d')))[i]? = some u → u.wr = true → ρ[i]? = some u := fun i u h w => by
    by_cases n : hi = i
    · subst n; rw [List.getElem?_set_self hl] at h; cases h; cases w
    · exact oth i u n h
  have hps : ∀ (i : Nat) (c : List D), (ρ.set hi (.hp (cs.set n d')))[i]? = some (Slot.hp c) → i = hi := fun i c h => by
    by_cases n : hi = i
    · exact n.symm
    · exact s.hp1 i hi c cs (oth i _ n h) e
  refine ⟨by rw [List.length_set]; exact s.len, fun i u h => ?_, fun b z => ?_, s.dis, fun i j u v b hij p p2 w1 w2 x1 x2 => s.apart i j u v b hij (wr i u p w1) (wr j v p2 w2) w1 w2 x1 x2, fun i j u c n b p w x p2 e2 => s.hpa i hi u cs n b (wr i u p w) w x e e2, fun i j c c' p p2 => by rw [hps i c p, hps j c' p2]⟩
  · by_cases z : hi = i
    · subst z
      rw [List.getElem?_set_self hl] at h
      cases h
      refine ⟨q.on, fun m d'' ed => ?_, fun m b eb => by rw [List.length_set]; exact q.lt m b eb, q.inj⟩
      by_cases hm : n = m
      · subst hm
        rw [List.getElem?_set_self (List.getElem?_eq_some_iff.mp ed0).1] at ed
        cases ed
        exact ⟨a, ea, wa, t⟩
      · rw [List.getElem?_set_ne hm] at ed
        obtain ⟨b, e1, w, t'⟩ := q.at_ m d'' ed
        exact ⟨b, e1, w, t'.mono (M := fun c => c = a) hR keepA sub fun (z : b = a) => hm (q.inj n m a ea (by rw [e1, z]))⟩
    · have k := oth i u z h
      have y := s.slot i u k
      cases u with
      | emp => trivial
      | frz d => obtain ⟨x, e1, r⟩ := y; exact ⟨x, e1, r.fr fr⟩
      | own d =>
        obtain ⟨c, e1, w, r⟩ := y
        exact ⟨c, e1, w, r.mono (M := fun c => c = a) hR keepA sub fun (z : c = a) => s.hpa i hi _ cs n c k rfl e1 e (by rw [z]; exact ea)⟩
      | lent d =>
        obtain ⟨c, e1, w, r⟩ := y
        exact ⟨c, e1, w, r.mono (M := fun c => c = a) hR keepA sub fun (z : c = a) => s.hpa i hi _ cs n c k rfl e1 e (by rw [z]; exact ea)⟩
      | bor d =>
        obtain ⟨c, e1, w, r⟩ := y
        exact ⟨c, e1, w, r.mono (M := fun c => c = a) hR keepA sub fun (z : c = a) => s.dis a wa (z ▸ w)⟩
      | hp c => exact absurd (hps i c h) fun y => z y.symm
  · have y := s.dom b z
    unfold upd
    split
    · simp
    · exact y
end
def fCell (hi : Nat) (f : M R) : M R := mbind f fun r => allocM hi r
def mutC (hi : Nat) (r : R) (g : D → Option (D × D)) : M R := fun ρ =>
  match r with
  | .frz (.cell n) => match ρ[hi]? with
    | some (.hp cs) => match cs[n]? with
      | some d => match g d with
        | some (d', x) => some (.ok (.frz x) (ρ.set hi (.hp (cs.set n d'))))
        | none => none
      | none => none
    | _ => none
  | _ => none
theorem mutC_some {hi : Nat} {r : R} {g : D → Option (D × D)} {ρ : Env} {o : Res R} (h : mutC hi r g ρ = some o) : ∃ n cs d d' x, r = .frz (.cell n) ∧ ρ[hi]? = some (Slot.hp cs) ∧ cs[n]? = some d ∧ g d = some (d', x) ∧ o = .ok (.frz x) (ρ.set hi (.hp (cs.set n d'))) := by
  unfold mutC at h
  split at h
  · split at h
    · split at h
      · split at h
        · cases h; exact ⟨_, _, _, _, _, rfl, by assumption, by assumption, by assumption, rfl⟩
        · cases h
      · cases h
    · cases h
  · cases h
theorem evo_mutC {hi : Nat} {r : R} {g : D → Option (D × D)} : EvoF (mutC hi r g) := fun ρ o h => by
  obtain ⟨n, cs, d, d', x, _, e, _, _, rfl⟩ := mutC_some h
  exact evo_hp e
section
variable {mg : Str → Option Value} {Wx : WX} {W B : AP mg} {σ : L2.St} {H : Hp} {ρ : Env} {hi : Nat} {r : R} {g : D → Option (D × D)} {v : V}
theorem mutC_ok {Q : AP mg → Hp → R → Env → Prop} (s : St W B σ H ρ) {N0 : AP mg} {H0 : Hp} {d0 : D} (hr : r = .frz d0) (hv : Rep N0 H0 d0 v) (ht : ∀ n a, N0.t n = some a → W.t n = some a) (a : After mg Wx W B σ H (mutC hi r g ρ) Q) :
    ∃ c d d' x, v = .ref c ∧ W c ∧ CTop (Eo W B) H c d ∧ g d = some (d', x) ∧ ∀ o, CTop (Eo W B) (upd H c o) c d' → ∃ ρ', St W B σ (upd H c o) ρ' ∧ Q W (upd H c o) (.frz x) ρ' := by
  cases q : mutC hi r g ρ with
  | none => rw [q] at a; exact a.elim
  | some o =>
    obtain ⟨n, cs, d, d', x, e0, eh, ed, eg, rfl⟩ := mutC_some q
    rw [q] at a
    subst hr
    cases e0
    obtain ⟨c, ev, et, wc, t⟩ := s.cell (W0 := W) hv ht eh ed
    exact ⟨c, d, d', x, ev, wc, t, eg, fun o tp => ⟨_, s.mutC eh et tp, a W _ (Fr.upd wc)⟩⟩
end
def fMutC (hi : Nat) (fr : M R) (fs : List (M R)) (g : List D → D → Option (D × D)) : M R := mbind fr fun r => mbind (needCe isLs hi r) fun _ => mbind (evF fs) fun ds => mutC hi r (g ds)
def fMutOC (hi : Nat) (fr : M R) (os : List Opd) (g : List D → D → Option (D × D)) : M R := mbind fr fun r => mbind (needCe isLs hi r) fun _ => mbind (evs os) fun ds => mutC hi r (g ds)
theorem evo_needCe {k : D → Bool} {hi : Nat} {r : R} : EvoF (needCe k hi r) := evo_bind evo_getCe fun _ => evo_opt _
theorem CTop.ls {N : AP mg} {H : Hp} {c : Addr} {d : D} (t : CTop N H c d) (h : isLs d = true) : Top N H c d := by
  rcases t with t | ⟨_, _, _, _, _, _, e, _⟩
  · exact t
  · subst e; cases h
section
variable {X : Cx} {Wx : WX} {o e : Expr} {es : List Expr} {os : List Opd} {apos pos : Pos} {x : Str} {fe fr : M R} {fs : List (M R)} {name : Str} {fid : String} {r : V → List V → Hp → VK → Prop} {g : List D → D → Option (D × D)} {hi : Nat}
theorem de_cell (h : DE X Wx e fe) : DE X Wx e (fCell hi fe) := by
  refine ⟨pe_imp h.pe fun σ H Q ⟨W, B, ρ, s, a⟩ => ⟨W, B, ρ, s, (After.bind a).mono fun W1 H1 r ρ1 _ _ a1 v hv => ?_⟩, evo_bind h.evo fun _ => evo_alloc⟩
  cases q : allocM hi r ρ1 with
  | none => rw [q] at a1; exact a1.elim
  | some o =>
    obtain ⟨d, cs, rfl, eh, rfl⟩ := allocM_some q
    rw [q] at a1
    obtain ⟨b, rfl, wb, s1, t, hn⟩ := hv
    have qh := hp_slot s1 eh
    exact a1 _ H1 (al_fr qh b) (.ref b) ⟨s1.alloc eh wb (.inl t) hn, b, if_pos rfl, rfl⟩
/-- the methods that g comes of leave lists lists, by VRM; what they hand back is data -/
def isLsG (g : List D → D → Option (D × D)) : Prop := ∀ ds d d' x, g ds d = some (d', x) → isLs d = true
theorem vokR_frz {W B : AP mg} {σ : L2.St} {H : Hp} {ρ : Env} {v : V} {r : R} (h : ∃ d, r = .frz d) (hv : VOk W B σ H ρ v r) : ∃ d, r = .frz d ∧ Rep (Eo W B) H d v := by
  obtain ⟨d, rfl⟩ := h
  exact ⟨d, rfl, hv.2⟩
theorem needCe_frz {k : D → Bool} {hi : Nat} {r : R} {ρ : Env} {o : Res Unit} (h : needCe k hi r ρ = some o) : ∃ d, r = .frz d := by
  unfold needCe mbind at h
  cases q : getCe hi r [] ρ with
  | none => rw [q] at h; cases h
  | some z =>
    obtain ⟨n, _, _, e, _⟩ := getCe_some q
    exact ⟨_, e⟩
theorem rd_mutC (hl : isLsG g) (hr : VRM r g) {K : PySem.W.Frag} {mg : Str → Option Value} {σ : L2.St} {H : Hp} {Q : VK} (h : rdE mg Wx (fMutC hi fr fs g) σ H Q) :
    rdE mg Wx fr σ H fun v H1 => tyV K "list" v H1 ∧ rdF mg Wx fs σ H1 fun vs H2 => r v vs H2 Q := by
  obtain ⟨W, B, ρ, s, a⟩ := h
  refine ⟨W, B, ρ, s, (After.bind a).mono fun W1 H1 rr ρ1 _ _ a1 v hv => ?_⟩
  have hf : ∃ d, rr = .frz d := by
    cases q : needCe isLs hi rr ρ1 with
    | none => have := After.bind a1; rw [q] at this; exact this.elim
    | some o => exact needCe_frz q
  obtain ⟨d0, e0, rep⟩ := vokR_frz hf hv
  obtain ⟨d, p, hk, a2⟩ := needCe_ok hv a1
  obtain ⟨b, vs, rfl, eb, _⟩ : ∃ b vs, v = .ref b ∧ H1 b = some (.lst vs) ∧ True := by
    cases d with
    | lst ds => obtain ⟨b, vs, e1, e2, _⟩ := p.lst; exact ⟨b, vs, e1, e2, trivial⟩
    | _ => cases hk
  refine ⟨.inl ⟨rfl, vs, .inl (.inl eb)⟩, W1, B, ρ1, hv.st, (After.bind a2).mono fun W2 H2 ds1 ρ2 _ fr2 a3 vs1 s2 rs => ?_⟩
  obtain ⟨c, d, d', x, ev, wc, t, k, nx⟩ := mutC_ok s2 e0 rep fr2.tab a3
  cases ev
  refine hr W2 B H2 b vs1 ds1 d d' x Q wc (t.ls (hl _ _ _ _ k)) rs k fun o v tp rv => ?_
  obtain ⟨ρ', s', q⟩ := nx o (.inl tp)
  exact q v ⟨s', rv⟩
theorem rd_mutOC (hl : isLsG g) (hr : VRMo r g) {K : PySem.W.Frag} {mg : Str → Option Value} {σ : L2.St} {H : Hp} {Q : VK} (h : rdE mg Wx (fMutOC hi fr os g) σ H Q) :
    rdE mg Wx fr σ H fun v H1 => tyV K "list" v H1 ∧ rdOs mg Wx os σ H1 fun vs H2 => r v vs H2 Q := by
  obtain ⟨W, B, ρ, s, a⟩ := h
  refine ⟨W, B, ρ, s, (After.bind a).mono fun W1 H1 rr ρ1 _ _ a1 v hv => ?_⟩
  have hf : ∃ d, rr = .frz d := by
    cases q : needCe isLs hi rr ρ1 with
    | none => have := After.bind a1; rw [q] at this; exact this.elim
    | some o => exact needCe_frz q
  obtain ⟨d0, e0, rep⟩ := vokR_frz hf hv
  obtain ⟨d, p, hk, a2⟩ := needCe_ok hv a1
  obtain ⟨b, vs, rfl, eb, _⟩ : ∃ b vs, v = .ref b ∧ H1 b = some (.lst vs) ∧ True := by
    cases d with
    | lst ds => obtain ⟨b, vs, e1, e2, _⟩ := p.lst; exact ⟨b, vs, e1, e2, trivial⟩
    | _ => cases hk
  refine ⟨.inl ⟨rfl, vs, .inl (.inl eb)⟩, W1, B, ρ1, hv.st, (After.bind a2).mono fun W2 H2 ds1 ρ2 _ fr2 a3 vs1 s2 rs => ?_⟩
  obtain ⟨c, d, d', x, ev, wc, t, k, nx⟩ := mutC_ok s2 e0 rep fr2.tab a3
  cases ev
  refine hr W2 B H2 b vs1 ds1 d d' x Q wc (t.ls (hl _ _ _ _ k)) rs k fun o v tp rv => ?_
  obtain ⟨ρ', s', q⟩ := nx o (.inl tp)
  exact q v ⟨s', rv⟩
theorem evo_fMutC (h0 : EvoF fr) (h : ∀ f ∈ fs, EvoF f) : EvoF (fMutC hi fr fs g) := evo_bind h0 fun _ => evo_bind evo_needCe fun _ => evo_bind (evo_evF h) fun _ => evo_mutC
theorem evo_fMutOC (h0 : EvoF fr) (h : ∀ o ∈ os, o.Evo) : EvoF (fMutOC hi fr os g) := evo_bind h0 fun _ => evo_bind evo_needCe fun _ => evo_bind (evo_evs h) fun _ => evo_mutC
theorem de_mutC (slot : PySem.Slot "list" name fid) (hty : typeOf (.builtin fid) = pure (.type "method_descriptor")) (hm : MtR X fid r) (hl : isLsG g) (hr : VRM r g) (ho : DE X Wx o fr) (ha : DF X Wx (e :: es) fs)
    (hbase : attributeBase o name X.env (eval o X.env) = eval o X.env := by rfl)
    (hfew : ((backTo pos (starEach (e :: es) X.env)).all (fun x => !x.1) && (backToKw pos (keywordEach [] X.env)).all (fun x => x.1.isSome)
      && decide ((e :: es).length + ([] : List Keyword).length + (if ([] : List Keyword).isEmpty then 0 else 1) < 30)) = true := by rfl)
    (hline : (apos.endLine == pos.line) = true := by rfl) (hs : starEach (e :: es) X.env = (false, eval e X.env) :: starEach es X.env := by rfl) (hplain : (backTo pos (starEach es X.env)).any (·.1) = false := by rfl) :
    DE X Wx (.Call (.Attribute o name apos) (e :: es) [] pos) (fMutC hi fr fs g) :=
  ⟨pe_imp (pe_bm PySem.F.plainAttrs_list slot hty hm ho.pe ha.pa hbase hfew hline hs hplain) fun _ _ _ q => rd_mutC hl hr q, evo_fMutC ho.evo ha.evo⟩
theorem de_mutOC (slot : PySem.Slot "list" name fid) (hty : typeOf (.builtin fid) = pure (.type "method_descriptor")) (hm : MtR X fid r) (hl : isLsG g) (hr : VRMo r g) (ho : DE X Wx o fr) (ha : DOs X Wx (e :: es) os)
    (hbase : attributeBase o name X.env (eval o X.env) = eval o X.env := by rfl)
    (hfew : ((backTo pos (starEach (e :: es) X.env)).all (fun x => !x.1) && (backToKw pos (keywordEach [] X.env)).all (fun x => x.1.isSome)
      && decide ((e :: es).length + ([] : List Keyword).length + (if ([] : List Keyword).isEmpty then 0 else 1) < 30)) = true := by rfl)
    (hline : (apos.endLine == pos.line) = true := by rfl) (hs : starEach (e :: es) X.env = (false, eval e X.env) :: starEach es X.env := by rfl) (hplain : (backTo pos (starEach es X.env)).any (·.1) = false := by rfl) :
    DE X Wx (.Call (.Attribute o name apos) (e :: es) [] pos) (fMutOC hi fr os g) :=
  ⟨pe_imp (pe_bm PySem.F.plainAttrs_list slot hty hm ho.pe ha.pa hbase hfew hline hs hplain) fun _ _ _ q => rd_mutOC hl hr q, evo_fMutOC ho.evo ha.evo⟩
theorem de_mutC0 (slot : PySem.Slot "list" name fid) (hty : typeOf (.builtin fid) = pure (.type "method_descriptor")) (hm : MtR X fid r) (hl : isLsG g) (hr : VRM r g) (ho : DE X Wx o fr)
    (hbase : attributeBase o name X.env (eval o X.env) = eval o X.env := by rfl) (hline : (apos.endLine == pos.line) = true := by rfl) :
    DE X Wx (.Call (.Attribute o name apos) [] [] pos) (fMutC hi fr [] g) :=
  ⟨pe_imp (pe_bm0 PySem.F.plainAttrs_list slot hty hm ho.pe hbase hline) fun σ H Q q => by
    obtain ⟨W, B, ρ, s, a⟩ := rd_mutC hl hr q
    exact ⟨W, B, ρ, s, a.mono fun W' H' r ρ' _ _ k v hv => let ⟨t, k⟩ := k v hv; ⟨t, rdF_nil k⟩⟩, evo_fMutC ho.evo fun _ z => nomatch z⟩
end
end Dz
/-! Dz 27: cells written by place; a def with cells of its own. -/
namespace Dz
open PySem PySem.Spec PyProof.Rows L2
def notObj : D → Bool
  | .obj _ _ _ => false
  | _ => true
theorem CTop.no {mg : Str → Option Value} {N : AP mg} {H : Hp} {c : Addr} {d : D} (t : CTop N H c d) (h : notObj d = true) : Top N H c d := by
  rcases t with t | ⟨_, _, _, _, _, _, e, _⟩
  · exact t
  · subst e; cases h
/-- (cell)[j] = e -/
def sPutC (hi : Nat) (fc : M R) (o : Opd) (fe : M R) (g : D → D → D → Option D) : M Fl := mbind fe fun r => mbind fc fun c => mbind (evs [o]) fun ds => mbind (mutC hi c (putD1 g r.d ds)) fun _ => mret .next
section
variable {X : Cx} {Wx : WX} {o e : Expr} {pos : Pos} {fe fc : M R} {hi : Nat}
theorem evo_put2 {oj : Opd} {g : D → D → D → Option D} {d : D} {c : R} (h : oj.Evo) : EvoF (mbind (evs [oj]) fun ds => mbind (mutC hi c (putD1 g d ds)) fun _ => mret Fl.next) :=
  evo_bind (evo_evs fun o z => by rcases List.mem_cons.mp z with e | z; exact e ▸ h; exact (List.not_mem_nil z).elim) fun _ => evo_bind evo_mutC fun _ => evo_ret _
theorem ds_putC {j : Expr} {oj : Opd} {rp : V → V → V → Hp → (Hp → Prop) → Prop} {gp : D → D → D → Option D} {tpos : Pos} (hp : PSet X rp) (hr : VRP rp gp) (hn : ∀ j x d d', gp j x d = some d' → notObj d = true) (he : DE X Wx e fe) (ho : DE X Wx o fc) (hj : DO X Wx j oj)
    (hs : swapsWithSole [.Subscript o j tpos] e pos.line X.env = pure false := by rfl) (hw : swappedStores [.Subscript o j tpos] e X.env = pure none := by rfl)
    (h1 : (assignEach [.Subscript o j tpos] X.env).map (·.2) = [assign (.Subscript o j tpos) X.env] := by rfl)
    (ha : ∀ v, assign (.Subscript o j tpos) X.env v = (do
      let ov ← holding [v] (eval o X.env)
      let iv ← holding [v, ov] (eval j X.env)
      standAt tpos
      holding [v, ov, iv] (setItem ov iv v)
      release [v, ov, iv] []) := by intro _; rfl) : DS X Wx (.Assign [.Subscript o j tpos] e pos) (sPutC hi fc oj fe gp) := by
  refine ⟨ps_imp (ps_asg he.pe (pg_sub ho.pe hj.pe hp ha) hs hw h1) fun D σ H ⟨W, B, ρ, s, a⟩ => ?_, evo_bind he.evo fun r => evo_bind ho.evo fun c => evo_put2 hj.evo⟩
  refine ⟨W, B, ρ, s, (a.bindE fun r => evo_bind ho.evo fun c => evo_put2 hj.evo).mono fun W1 H1 r ρ1 _ _ a1 v hv => ?_⟩
  obtain ⟨W0, hW, s1, rv⟩ := hv.any
  have a1 := AfterS.sub a1 hW
  refine ⟨W0, B, ρ1, s1, (a1.bindE fun c => evo_put2 hj.evo).mono fun W2 H2 c ρ2 _ fr2 a2 u hu => ?_⟩
  have k : rdOs X.mg Wx [oj] σ H2 fun vs H3 => ∃ jv, vs = [jv] ∧ rp u jv v H3 fun H4 => D.nx σ H4 := by
    refine ⟨W2, B, ρ2, hu.st, (a2.bindE fun _ => evo_bind evo_mutC fun _ => evo_ret _).mono fun W3 H3 ds ρ3 _ fr3 a4 vs s3 prs => ?_⟩
    have a5 := a4.bindE fun _ => evo_ret _
    have hf : ∃ d, c = .frz d := by
      cases q : mutC hi c (putD1 gp r.d ds) ρ3 with
      | none => rw [q] at a5; exact a5.elim
      | some o => obtain ⟨n, _, _, _, _, e0, _⟩ := mutC_some q; exact ⟨_, e0⟩
    obtain ⟨d0, e0, rep⟩ := vokR_frz hf hu
    obtain ⟨b, d, d', x, ev, wc, t, kg, nx⟩ := mutC_ok s3 e0 rep fr3.tab a5
    cases ds with
    | nil => cases kg
    | cons jd ds =>
      cases ds with
      | cons _ _ => cases kg
      | nil =>
        obtain ⟨jv, rfl, pj⟩ := preps1 prs
        have kg : (gp jd r.d d).map (fun d' => (d', Dz.D.non)) = some (d', x) := kg
        cases eg : gp jd r.d d with
        | none => rw [eg] at kg; cases kg
        | some dd =>
          rw [eg] at kg
          cases kg
          subst ev
          refine ⟨jv, rfl, hr W3 B H3 b jv v d d' jd r.d _ wc (t.no (hn _ _ _ _ eg)) pj ((rv.fr fr2).fr fr3) eg fun o tp => ?_⟩
          obtain ⟨ρ', s', q⟩ := nx o (.inl tp)
          exact q.here s'
  refine mono_rdO (rdOs_cons hj.evo (fun _ z => (List.not_mem_nil z).elim) k) fun jv H2 q => ?_
  obtain ⟨jv', e, q⟩ := rdOs_nil q
  cases e
  exact q
end
/-! ### data without cells; cells put in -/
mutual
def noCell : D → Bool
  | .cell _ => false
  | .obj _ _ _ => false
  | .tup ds => noCells ds
  | .lst ds => noCells ds
  | .tpl ds => noCells ds
  | .dK _ ds => noCells ds
  | .dT _ ds => noCells ds
  | .non => true
  | .bl _ => true
  | .int _ => true
  | .str _ => true
  | .scr _ => true
def noCells : List D → Bool
  | [] => true
  | d :: ds => noCell d && noCells ds
end
def cellD (cs : List D) (n : Nat) : Option D := match cs[n]? with
  | some d => if noCell d = true then some d else none
  | none => none
mutual
def sealD (cs : List D) : D → Option D
  | .cell n => cellD cs n
  | .obj _ _ _ => none
  | .tup ds => (sealDs cs ds).map .tup
  | .lst ds => (sealDs cs ds).map .lst
  | .tpl ds => (sealDs cs ds).map .tpl
  | .dK ks ds => (sealDs cs ds).map (.dK ks)
  | .dT ks ds => (sealDs cs ds).map (.dT ks)
  | .non => some .non
  | .bl b => some (.bl b)
  | .int i => some (.int i)
  | .str s => some (.str s)
  | .scr ns => some (.scr ns)
def sealDs (cs : List D) : List D → Option (List D)
  | [] => some []
  | d :: ds => match sealD cs d, sealDs cs ds with
    | some x, some xs => some (x :: xs)
    | _, _ => none
end
section
variable {mg : Str → Option Value} {N N' : AP mg} {H : Hp}
theorem nn0 (hN : ∀ a, N' a → N a) {a : Addr} (n : ¬ N a) : ¬ N' a := fun z => n (hN a z)
mutual
theorem Rep.nc (hN : ∀ a, N' a → N a) : ∀ (d : D) (v : V), noCell d = true → Rep N H d v → Rep N' H d v
  | .non, _, _, h => h
  | .bl _, _, _, h => h
  | .int _, _, _, h => h
  | .str _, _, _, h => h
  | .scr _, v, _, h => by obtain ⟨a, e, r, n⟩ := h; exact ⟨a, e, r, nn0 hN n⟩
  | .tup ds, v, c, h => by obtain ⟨a, vs, e, r, n, q⟩ := h; exact ⟨a, vs, e, r, nn0 hN n, Reps.nc hN ds vs c q⟩
  | .tpl ds, v, c, h => by obtain ⟨a, vs, e, r, n, q⟩ := h; exact ⟨a, vs, e, r, nn0 hN n, Reps.nc hN ds vs c q⟩
  | .lst ds, v, c, h => by obtain ⟨a, vs, e, r, n, q⟩ := h; exact ⟨a, vs, e, r, nn0 hN n, Reps.nc hN ds vs c q⟩
  | .dK ks ds, v, c, h => by obtain ⟨a, kvs, e, r, n, z, q⟩ := h; exact ⟨a, kvs, e, r, nn0 hN n, z, Reps.nc hN ds _ c q⟩
  | .dT ks ds, v, c, h => by obtain ⟨a, kvs, e, r, n, z, q⟩ := h; exact ⟨a, kvs, e, r, nn0 hN n, z, Reps.nc hN ds _ c q⟩
  | .cell _, _, c, _ => by cases c
  | .obj _ _ _, _, c, _ => by cases c
theorem Reps.nc (hN : ∀ a, N' a → N a) : ∀ (ds : List D) (vs : List V), noCells ds = true → Reps N H ds vs → Reps N' H ds vs
  | [], _, _, h => h
  | d :: ds, vs, c, h => by
    obtain ⟨v, r, e, p, q⟩ := h
    obtain ⟨c1, c2⟩ := Bool.and_eq_true_iff.mp (show (noCell d && noCells ds) = true from c)
    exact ⟨v, r, e, Rep.nc hN d v c1 p, Reps.nc hN ds r c2 q⟩
end
theorem Top.nc (hN : ∀ a, N' a → N a) {a : Addr} {d : D} (c : noCell d = true) (h : Top N H a d) : Top N' H a d := by
  cases d <;> first
    | exact h.elim
    | (obtain ⟨x, e, q⟩ := h; exact ⟨x, e, Reps.nc hN _ _ c q⟩)
    | (obtain ⟨x, e, z, q⟩ := h; exact ⟨x, e, z, Reps.nc hN _ _ c q⟩)
end
/-- our objects but the cells -/
def Un (W : AP mg) (t : Nat → Option Addr) (b : Bool) : AP mg := ⟨fun a => W a ∧ ∀ n, W.t n ≠ some a, t, b⟩
section
variable {mg : Str → Option Value} {W B : AP mg} {H : Hp} {cs : List D} {t : Nat → Option Addr} {b : Bool}
theorem un_sub : ∀ a, Eo (Un W t b) B a → Eo W B a := fun a z => Or.elim z (fun k => Or.inl k.1) Or.inr
theorem un_cell {n : Nat} {a : Addr} (hd : ∀ a, W a → B a → False) (q : HpOk W B H cs) (e : W.t n = some a) : ¬ Eo (Un W t b) B a := fun z => by
  obtain ⟨_, _, w, _⟩ := q.w e
  rcases z with z | z
  · exact z.2 n e
  · exact hd a w z
theorem cellD_some {n : Nat} {d : D} (h : cellD cs n = some d) : cs[n]? = some d ∧ noCell d = true := by
  unfold cellD at h
  split at h
  · split at h
    · cases h; exact ⟨by assumption, by assumption⟩
    · cases h
  · cases h
theorem notObj_nc {d : D} (h : noCell d = true) : notObj d = true := by cases d <;> first | rfl | cases h
mutual
theorem Rep.sealed (hd : ∀ a, W a → B a → False) (q : HpOk W B H cs) : ∀ (d d' : D) (v : V), sealD cs d = some d' → Rep (Eo W B) H d v → Rep (Eo (Un W t b) B) H d' v
  | .non, d', v, e, h => by cases e; exact h
  | .bl _, d', v, e, h => by cases e; exact h
  | .int _, d', v, e, h => by cases e; exact h
  | .str _, d', v, e, h => by cases e; exact h
  | .scr _, d', v, e, h => by cases e; obtain ⟨a, e, r, n⟩ := h; exact ⟨a, e, r, nn0 un_sub n⟩
  | .tup ds, d', v, e, h => by
    have e : (sealDs cs ds).map D.tup = some d' := e
    cases k : sealDs cs ds with
    | none => rw [k] at e; cases e
    | some xs => rw [k] at e; cases e; obtain ⟨a, vs, e, r, n, z⟩ := h; exact ⟨a, vs, e, r, nn0 un_sub n, Reps.sealed hd q ds xs vs k z⟩
  | .tpl ds, d', v, e, h => by
    have e : (sealDs cs ds).map D.tpl = some d' := e
    cases k : sealDs cs ds with
    | none => rw [k] at e; cases e
    | some xs => rw [k] at e; cases e; obtain ⟨a, vs, e, r, n, z⟩ := h; exact ⟨a, vs, e, r, nn0 un_sub n, Reps.sealed hd q ds xs vs k z⟩
  | .lst ds, d', v, e, h => by
    have e : (sealDs cs ds).map D.lst = some d' := e
    cases k : sealDs cs ds with
    | none => rw [k] at e; cases e
    | some xs => rw [k] at e; cases e; obtain ⟨a, vs, e, r, n, z⟩ := h; exact ⟨a, vs, e, r, nn0 un_sub n, Reps.sealed hd q ds xs vs k z⟩
  | .dK ks ds, d', v, e, h => by
    have e : (sealDs cs ds).map (D.dK ks) = some d' := e
    cases k : sealDs cs ds with
    | none => rw [k] at e; cases e
    | some xs => rw [k] at e; cases e; obtain ⟨a, vs, e, r, n, y, z⟩ := h; exact ⟨a, vs, e, r, nn0 un_sub n, y, Reps.sealed hd q ds xs _ k z⟩
  | .dT ks ds, d', v, e, h => by
    have e : (sealDs cs ds).map (D.dT ks) = some d' := e
    cases k : sealDs cs ds with
    | none => rw [k] at e; cases e
    | some xs => rw [k] at e; cases e; obtain ⟨a, vs, e, r, n, y, z⟩ := h; exact ⟨a, vs, e, r, nn0 un_sub n, y, Reps.sealed hd q ds xs _ k z⟩
  | .cell n, d', v, e, h => by
    obtain ⟨ed, nc⟩ := cellD_some (show cellD cs n = some d' from e)
    obtain ⟨a, ea, rfl⟩ := h
    obtain ⟨d2, e2, w, tp⟩ := q.w (show W.t n = some a from ea)
    rw [ed] at e2
    cases e2
    exact (Top.nc un_sub nc (tp.no (notObj_nc nc))).rep (un_cell hd q ea)
  | .obj _ _ _, _, _, e, _ => by cases e
theorem Reps.sealed (hd : ∀ a, W a → B a → False) (q : HpOk W B H cs) : ∀ (ds ds' : List D) (vs : List V), sealDs cs ds = some ds' → Reps (Eo W B) H ds vs → Reps (Eo (Un W t b) B) H ds' vs
  | [], ds', vs, e, h => by cases e; exact h
  | d :: ds, ds', vs, e, h => by
    obtain ⟨v, r, ev, p, z⟩ := h
    have e : (match sealD cs d, sealDs cs ds with
      | some x, some xs => some (x :: xs)
      | _, _ => none) = some ds' := e
    cases k1 : sealD cs d with
    | none => rw [k1] at e; cases e
    | some x =>
      cases k2 : sealDs cs ds with
      | none => rw [k1, k2] at e; cases e
      | some xs =>
        rw [k1, k2] at e
        cases e
        exact ⟨v, r, ev, Rep.sealed hd q d x v k1 p, Reps.sealed hd q ds xs r k2 z⟩
end
theorem Top.sealed (hd : ∀ a, W a → B a → False) (q : HpOk W B H cs) {a : Addr} {d d' : D} (e : sealD cs d = some d') (h : Top (Eo W B) H a d) : Top (Eo (Un W t b) B) H a d' := by
  cases d with
  | lst ds =>
    have e : (sealDs cs ds).map D.lst = some d' := e
    cases k : sealDs cs ds with
    | none => rw [k] at e; cases e
    | some xs => rw [k] at e; cases e; obtain ⟨vs, e, z⟩ := h; exact ⟨vs, e, Reps.sealed hd q ds xs vs k z⟩
  | dK ks ds =>
    have e : (sealDs cs ds).map (D.dK ks) = some d' := e
    cases k : sealDs cs ds with
    | none => rw [k] at e; cases e
    | some xs => rw [k] at e; cases e; obtain ⟨vs, e, y, z⟩ := h; exact ⟨vs, e, y, Reps.sealed hd q ds xs _ k z⟩
  | dT ks ds =>
    have e : (sealDs cs ds).map (D.dT ks) = some d' := e
    cases k : sealDs cs ds with
    | none => rw [k] at e; cases e
    | some xs => rw [k] at e; cases e; obtain ⟨vs, e, y, z⟩ := h; exact ⟨vs, e, y, Reps.sealed hd q ds xs _ k z⟩
  | _ => exact h.elim
end
def slotNC : Slot → Bool
  | .emp => true
  | .frz d => noCell d
  | .own d => noCell d
  | .bor d => noCell d
  | .lent d => noCell d
  | .hp _ => false
def excNC (e : Exc) : Bool := match e.fld with
  | some (_, d) => noCell d
  | none => true
def sealR (cs : List D) : R → Option R
  | .frz d => (sealD cs d).map .frz
  | .own d => (sealD cs d).map .own
/-- a def with cells of its own: none goes in, none comes out -/
def fnH (a n : Nat) (body : M Fl) : Fn := fun ps => if ps.length = a ∧ ps.all slotNC = true then
    (match runF n body (ps ++ [.hp []]) with
    | some (.ret r ps1) => (match ps1[a]? with
      | some (.hp cs) => if (ps1.take a).all slotNC = true then (sealR cs r).map fun r' => .ret r' (ps1.take a) else none
      | _ => none)
    | some (.exc e ps1) => if (ps1.take a).all slotNC = true ∧ excNC e = true then some (.exc e (ps1.take a)) else none
    | none => none) else none
section
variable {mg : Str → Option Value}
theorem St.hpIn {W B : AP mg} {H : Hp} {ps : List Slot} {vs : List V} (s : St W B (vs.map some) H ps) (nc : ps.all slotNC = true) : St ⟨W.p, fun _ => none, true⟩ B (exV true vs) H (ps ++ [.hp []]) := by
  have hv : vs.length = ps.length := by have := s.len; simpa using this
  have key : ∀ (i : Nat) (u : Slot), (ps ++ [Slot.hp []])[i]? = some u → (ps[i]? = some u) ∨ (i = ps.length ∧ u = .hp []) := fun i u e => by
    rcases exP_get (b := true) e with e | ⟨_, e1, e2⟩
    · exact .inl e
    · exact .inr ⟨e1, e2⟩
  have sv' : ∀ i, sv (exV true vs) i = sv (vs.map some) i := fun i => by
    have := (sv_start (b := true) (N := []) (vs := vs) (i := i) (.inr rfl)).symm
    rw [this]
    unfold sv L2.start
    rw [List.getD_eq_getElem?_getD, List.getD_eq_getElem?_getD]
    by_cases hi : i < vs.length
    · rw [List.getElem?_append_left (by simpa using hi)]
    · rw [List.getElem?_append_right (by simpa using hi), List.getElem?_eq_none (l := vs.map some) (by simpa using hi), List.getElem?_replicate]
      split <;> rfl
  have ncs : ∀ (i : Nat) (u : Slot), ps[i]? = some u → slotNC u = true := fun i u e => List.all_eq_true.mp nc u (List.mem_of_getElem? e)
  have hS : ∀ a, Eo ⟨W.p, fun _ => none, true⟩ B a → Eo W B a := fun a z => z
  refine ⟨by show (vs.map some ++ [none]).length = _; simp [hv], fun i u e => ?_, s.dom, s.dis, fun i j u v a hij p q w1 w2 x1 x2 => ?_, fun i j u cs n a p w x q e => (nomatch e), fun i j cs cs' p q => ?_⟩
  · rw [sv']
    rcases key i u e with e | ⟨_, rfl⟩
    · have q := s.slot i u e
      have c := ncs i u e
      cases u with
      | emp => trivial
      | frz d => obtain ⟨x, e1, r⟩ := q; exact ⟨x, e1, Rep.nc hS d x c r⟩
      | own d => obtain ⟨x, e1, w, r⟩ := q; exact ⟨x, e1, w, Top.nc hS c r⟩
      | lent d => obtain ⟨x, e1, w, r⟩ := q; exact ⟨x, e1, w, Top.nc hS c r⟩
      | bor d => obtain ⟨x, e1, w, r⟩ := q; exact ⟨x, e1, w, Top.nc hS c r⟩
      | hp _ => cases c
    · exact ⟨rfl, fun n d e => by simp at e, fun n a e => (nomatch e), fun n m a e => nomatch e⟩
  · rcases key i u p with p | ⟨_, rfl⟩
    · rcases key j v q with q | ⟨_, rfl⟩
      · exact s.apart i j u v a hij p q w1 w2 (by rw [← sv']; exact x1) (by rw [← sv']; exact x2)
      · cases w2
    · cases w1
  · have h1 : ∀ (i : Nat) (c : List D), (ps ++ [Slot.hp []])[i]? = some (Slot.hp c) → i = ps.length := fun i c e => by
      rcases key i _ e with e | ⟨e, _⟩
      · have := ncs i _ e; cases this
      · exact e
    rw [h1 i cs p, h1 j cs' q]
theorem St.hpOut {W B W0 : AP mg} {H : Hp} {ps : List Slot} {vs : List V} {a : Nat} {cs : List D} (s : St W B (exV true vs) H ps) (ha : vs.length = a) (eh : ps[a]? = some (Slot.hp cs)) (nc : (ps.take a).all slotNC = true) : St (Un W W0.t W0.h) B (vs.map some) H (ps.take a) := by
  have q0 : HpOk W B H cs := s.slot a _ eh
  have hlen : ps.length = a + 1 := by
    have := s.len
    have : (vs.map some ++ [none]).length = ps.length := this
    simp at this
    omega
  have key : ∀ (i : Nat) (u : Slot), (ps.take a)[i]? = some u → i < a ∧ ps[i]? = some u := fun i u e => by
    have hl := (List.getElem?_eq_some_iff.mp e).1
    rw [List.length_take] at hl
    rw [List.getElem?_take] at e
    split at e
    · exact ⟨by assumption, e⟩
    · cases e
  have sv' : ∀ i, i < a → sv (exV true vs) i = sv (vs.map some) i := fun i hi => by
    unfold sv
    show (vs.map some ++ [none]).getD i none = _
    rw [List.getD_eq_getElem?_getD, List.getD_eq_getElem?_getD, List.getElem?_append_left (by simp; omega)]
  have ncs : ∀ (i : Nat) (u : Slot), (ps.take a)[i]? = some u → slotNC u = true := fun i u e => List.all_eq_true.mp nc u (List.mem_of_getElem? e)
  have hS : ∀ x, Eo (Un W W0.t W0.h) B x → Eo W B x := un_sub
  have nw : ∀ (i : Nat) (u : Slot) (x : Addr), ps[i]? = some u → u.wr = true → sv (exV true vs) i = some (.ref x) → ∀ n, W.t n ≠ some x := fun i u x e w ev n en => s.hpa i a u cs n x e w ev eh en
  refine ⟨by simp; omega, fun i u e => ?_, fun x z => s.dom x (hS x z), fun x w z => s.dis x w.1 z, fun i j u v x hij p q w1 w2 x1 x2 => ?_, fun i j u c n x p w y q e => ?_, fun i j c c' p q => ?_⟩
  · obtain ⟨hi, e'⟩ := key i u e
    have q := s.slot i u e'
    have c := ncs i u e
    rw [sv' i hi] at q
    cases u with
    | emp => trivial
    | frz d => obtain ⟨x, e1, r⟩ := q; exact ⟨x, e1, Rep.nc hS d x c r⟩
    | own d => obtain ⟨x, e1, w, r⟩ := q; exact ⟨x, e1, ⟨w, nw i _ x e' rfl (by rw [sv' i hi]; exact e1)⟩, Top.nc hS c r⟩
    | lent d => obtain ⟨x, e1, w, r⟩ := q; exact ⟨x, e1, ⟨w, nw i _ x e' rfl (by rw [sv' i hi]; exact e1)⟩, Top.nc hS c r⟩
    | bor d => obtain ⟨x, e1, w, r⟩ := q; exact ⟨x, e1, w, Top.nc hS c r⟩
    | hp _ => cases c
  · obtain ⟨hi, p'⟩ := key i u p
    obtain ⟨hj, q'⟩ := key j v q
    exact s.apart i j u v x hij p' q' w1 w2 (by rw [sv' i hi]; exact x1) (by rw [sv' j hj]; exact x2)
  · have := ncs j _ q; cases this
  · have := ncs i _ p; cases this
theorem spH {a n : Nat} {fb : M Fl} {vs : List V} {H : Hp} {Q : VK} {E : XK} (h : spD mg (fnH a n fb) vs H Q E) : vs.length = a ∧ spX true mg (runF n fb) vs H Q E := by
  obtain ⟨W, B, ps, s, hh, no, m⟩ := h
  have hv : vs.length = ps.length := by have := s.len; simpa [exV] using this
  unfold fnH at m
  by_cases hc : ps.length = a ∧ ps.all slotNC = true
  · rw [if_pos hc] at m
    obtain ⟨hl, nc⟩ := hc
    refine ⟨by omega, _, B, ps ++ [.hp []], St.hpIn s nc, rfl, fun t ht => ?_, ?_⟩
    · rcases List.mem_append.mp ht with z | z
      · exact no t z
      · rcases List.mem_cons.mp z with z | z
        · rw [z]; rfl
        · exact (List.not_mem_nil z).elim
    · have lkT : ∀ {ps1 : List Slot}, Lk (ps ++ [.hp []]) ps1 → Lk ps (ps1.take a) := fun {ps1} lk => by
        have l1 := lk.len
        simp at l1
        refine ⟨by simp; omega, fun k d e => ?_, fun k d e => ?_, fun k u e => ?_⟩
        · have hk := (List.getElem?_eq_some_iff.mp e).1
          obtain ⟨d', e'⟩ := lk.lent k d (by rw [List.getElem?_append_left hk]; exact e)
          exact ⟨d', by rw [List.getElem?_take, if_pos (by omega)]; exact e'⟩
        · have hk := (List.getElem?_eq_some_iff.mp e).1
          obtain ⟨d', e'⟩ := lk.hp k d (by rw [List.getElem?_append_left hk]; exact e)
          exact ⟨d', by rw [List.getElem?_take, if_pos (by omega)]; exact e'⟩
        · rw [List.getElem?_take] at e
          split at e
          · rename_i hk
            have q := lk.same k u e
            rw [List.getElem?_append_left (by omega)] at q
            exact q
          · cases e
      have frT : ∀ {W' : AP mg} {H' : Hp}, Fr ⟨W.p, fun _ => none, true⟩ H W' H' → Fr W H (Un W' W.t W.h) H' := fun {W' H'} f => ⟨f.keep, fun x z => f.sub x z.1, fun _ _ e => e, fun _ => rfl, rfl⟩
      cases q : runF n fb (ps ++ [.hp []]) with
      | none => rw [q] at m; exact m
      | some y =>
        rw [q] at m
        cases y with
        | exc e ps1 =>
          have m : (match (if (ps1.take a).all slotNC = true ∧ excNC e = true then some (CRes.exc e (ps1.take a)) else none) with
            | none => False
            | some (.ret r ps') => ∀ (W' : AP mg) H' v, Fr W H W' H' → Lk ps ps' → VOk W' B (exV false vs) H' ps' v r → Q v H'
            | some (.exc e ps') => ∀ (W' : AP mg) H' c d, Fr W H W' H' → Lk ps ps' → St W' B (exV false vs) H' ps' → XRep mg (Eo W' B) H' e c d → E c d H') := m
          split at m
          · exact m.elim
          · rename_i r ps' em
            split at em <;> cases em
          · rename_i e2 ps2 em
            split at em
            · rename_i hz
              cases em
              refine fun W' H' c d f lk s' xr => ?_
              obtain ⟨cs, ec⟩ := lk.hp a [] (by rw [← hl]; simp)
              refine m _ H' c d (frT f) (lkT lk) (St.hpOut (W0 := W) s' (by omega) ec hz.1) ?_
              obtain ⟨C, e1, e2', k⟩ := xr
              refine ⟨C, e1, e2', fun x d ed => ?_⟩
              obtain ⟨b, fs, v, p1, p2, p3, p4, p5⟩ := k x d ed
              have hnc : noCell d = true := by have := hz.2; unfold excNC at this; rw [ed] at this; exact this
              exact ⟨b, fs, v, p1, fun z => p2 (un_sub b z), p3, p4, Rep.nc un_sub d v hnc p5⟩
            · cases em
        | ret r ps1 =>
          refine fun W' H' v f lk hv' => ?_
          obtain ⟨cs, ec⟩ := lk.hp a [] (by rw [← hl]; simp)
          have m : (match (match ps1[a]? with
            | some (.hp cs) => if (ps1.take a).all slotNC = true then (sealR cs r).map fun r' => CRes.ret r' (ps1.take a) else none
            | _ => none) with
            | none => False
            | some (.ret r ps') => ∀ (W' : AP mg) H' v, Fr W H W' H' → Lk ps ps' → VOk W' B (exV false vs) H' ps' v r → Q v H'
            | some (.exc e ps') => ∀ (W' : AP mg) H' c d, Fr W H W' H' → Lk ps ps' → St W' B (exV false vs) H' ps' → XRep mg (Eo W' B) H' e c d → E c d H') := m
          rw [ec] at m
          have m : (match (if (ps1.take a).all slotNC = true then (sealR cs r).map fun r' => CRes.ret r' (ps1.take a) else none) with
            | none => False
            | some (.ret r ps') => ∀ (W' : AP mg) H' v, Fr W H W' H' → Lk ps ps' → VOk W' B (exV false vs) H' ps' v r → Q v H'
            | some (.exc e ps') => ∀ (W' : AP mg) H' c d, Fr W H W' H' → Lk ps ps' → St W' B (exV false vs) H' ps' → XRep mg (Eo W' B) H' e c d → E c d H') := m
          by_cases hz : (ps1.take a).all slotNC = true
          · rw [if_pos hz] at m
            cases er : sealR cs r with
            | none => rw [er] at m; exact m.elim
            | some r' =>
              rw [er] at m
              have st := St.hpOut (W0 := W) hv'.st (by omega) ec hz
              have q0 : HpOk W' B H' cs := hv'.st.slot a _ ec
              refine m _ H' v (frT f) (lkT lk) ?_
              cases r with
              | frz d =>
                have er : (sealD cs d).map R.frz = some r' := er
                cases k : sealD cs d with
                | none => rw [k] at er; cases er
                | some x => rw [k] at er; cases er; exact ⟨st, Rep.sealed hv'.st.dis q0 d x v k hv'.2⟩
              | own d =>
                have er : (sealD cs d).map R.own = some r' := er
                cases k : sealD cs d with
                | none => rw [k] at er; cases er
                | some x =>
                  rw [k] at er
                  cases er
                  obtain ⟨b, eb, wb, sb, tb, hn⟩ := hv'
                  have key : ∀ (i : Nat) (u : Slot), (ps1.take a)[i]? = some u → i < a ∧ ps1[i]? = some u := fun i u e => by
                    rw [List.getElem?_take] at e
                    split at e
                    · exact ⟨by assumption, e⟩
                    · cases e
                  refine ⟨b, eb, ⟨wb, fun n => hn.ce a cs n ec⟩, st, Top.sealed sb.dis q0 k tb, fun i u e w ev => ?_, fun j c n e => ?_⟩
                  · obtain ⟨hi, e'⟩ := key i u e
                    refine hn.nm i u e' w ?_
                    have ev : sv (vs.map some) i = some (V.ref b) := ev
                    unfold sv at ev ⊢
                    show (vs.map some ++ [none]).getD i none = _
                    rw [List.getD_eq_getElem?_getD, List.getElem?_append_left (by simp; omega), ← List.getD_eq_getElem?_getD]
                    exact ev
                  · have := List.all_eq_true.mp hz _ (List.mem_of_getElem? e); cases this
          · rw [if_neg hz] at m
            exact m.elim
  · rw [if_neg hc] at m
    exact m.elim
end
section
variable {P : Program} {w : World} {K : PySem.W.Frag} {mg : Str → Option Value} {base : Heap} {N ps : List Str} {qual x : Str} {scope : Scope} {f : Addr} {fd : FuncData} {cdv : Value} {A : Around} {outer : List Env} {s : Shared} {H : Hp} {E : XK} {params : Arguments} {body : List Stmt}
theorem fnok_ofH {a n k : Nat} {fb : M Fl} (F : FunD K x qual params body scope [] [] f fd) (S : FnScope N ps scope) (hn : N.length = n) (ha : ps.length = a) (hb : a + 1 ≤ n)
    (h : ∀ (cdv : Value) (A : Around) (outer : List PySem.Env) (s : Shared) (H : Hp) (E : XK), Room k (A.deeper (envOfC qual scope s.heap.objs.size f cdv)) → DSs (cxF P w K mg base N qual scope f cdv A outer s H E) (wxF E) body fb) :
    FnOk P w K mg base (L2.CX P w) (k + 1) f fd ps (spD mg (fnH a n fb)) := by
  refine F.ok S (fun vs H Q E h => ha ▸ (spH h).1) fun cdv A outer s H vs Q E hr hsp => ?_
  obtain ⟨hl, hsp⟩ := spH hsp
  have hd := h cdv A outer s H E hr
  refine ⟨_, hd.pss, body_ok (X := cxF P w K mg base N qual scope f cdv A outer s H E) hn hd hsp ?_⟩
  simp
  omega
theorem calleeH_of {a n k : Nat} {fb : M Fl} (F : FunD K x qual params body scope [] [] f fd) (S : FnScope N ps scope) (hm : mg x = some (.ref f)) (hn : N.length = n) (ha : ps.length = a) (hb : Binds K fd ps []) (hz : a + 1 ≤ n)
    (h : ∀ (cdv : Value) (A : Around) (outer : List PySem.Env) (s : Shared) (H : Hp) (E : XK), Room k (A.deeper (envOfC qual scope s.heap.objs.size f cdv)) → DSs (cxF P w K mg base N qual scope f cdv A outer s H E) (wxF E) body fb) :
    Callee P w K mg base (k + 1) x (fnH a n fb) := ⟨f, fd, ps, fnok_ofH F S hn ha hz h, hm, F.kp, hb⟩
end
end Dz
/-! Dz 28: cells, reckoned with. -/
namespace Dz
open PySem PySem.Spec PyProof.Rows L2
/-- the cells there -/
def hN (o : Option Slot) (P : List D → Prop) : Prop := match o with
  | some (.hp cs) => P cs
  | _ => False
@[simp] theorem hN_some {cs : List D} {P : List D → Prop} : hN (some (.hp cs)) P ↔ P cs := Iff.rfl
@[simp] theorem hN_none {P : List D → Prop} : hN none P ↔ False := Iff.rfl
@[simp] theorem cont_hp {cs : List D} : (Slot.hp cs).cont = none := rfl
def nObj (d : D) : Option D := if notObj d = true then some d else none
@[simp] theorem notObj_lst {ds : List D} : notObj (.lst ds) = true := rfl
@[simp] theorem notObj_dK {ks : List Key} {ds : List D} : notObj (.dK ks ds) = true := rfl
@[simp] theorem notObj_dT {ks : List (List Key)} {ds : List D} : notObj (.dT ks ds) = true := rfl
@[simp] theorem nObj_lst {ds : List D} : nObj (.lst ds) = some (.lst ds) := rfl
@[simp] theorem nObj_dK {ks : List Key} {ds : List D} : nObj (.dK ks ds) = some (.dK ks ds) := rfl
@[simp] theorem nObj_dT {ks : List (List Key)} {ds : List D} : nObj (.dT ks ds) = some (.dT ks ds) := rfl
def isCel : R → Option Nat
  | .frz (.cell n) => some n
  | _ => none
@[simp] theorem isCel_cell {n : Nat} : isCel (.frz (.cell n)) = some n := rfl
section
variable {α β γ δ : Type} {ρ : Env}
theorem ok_bind2 {f : M α} {g : α → M β} {h : α → β → M γ} {Q : γ → Env → Prop} : Ok (mbind f fun a => mbind (g a) (h a)) ρ Q ↔ Ok f ρ fun a ρ1 => Ok (g a) ρ1 fun b ρ2 => Ok (h a b) ρ2 Q := by
  show Ok0 _ ρ Q ↔ Ok0 f ρ fun a ρ1 => Ok0 (g a) ρ1 fun b ρ2 => Ok0 (h a b) ρ2 Q
  simp only [ok0_bind]
theorem ok_bind3 {ε : Type} {f : M α} {g : α → M β} {h : α → β → M γ} {k : α → β → γ → M ε} {Q : ε → Env → Prop} : Ok (mbind f fun a => mbind (g a) fun b => mbind (h a b) (k a b)) ρ Q ↔ Ok f ρ fun a ρ1 => Ok (g a) ρ1 fun b ρ2 => Ok (h a b) ρ2 fun c ρ3 => Ok (k a b c) ρ3 Q := by
  show Ok0 _ ρ Q ↔ Ok0 f ρ fun a ρ1 => Ok0 (g a) ρ1 fun b ρ2 => Ok0 (h a b) ρ2 fun c ρ3 => Ok0 (k a b c) ρ3 Q
  simp only [ok0_bind]
end
section
variable {ρ : Env} {hi : Nat} {r : R}
theorem isCel_some {n : Nat} (e1 : isCel r = some n) : r = .frz (.cell n) := by
  unfold isCel at e1
  split at e1
  · cases e1; rfl
  · cases e1
theorem nObj_some {d d2 : D} (h : nObj d = some d2) : d2 = d ∧ notObj d = true := by
  unfold nObj at h
  split at h
  · cases h; exact ⟨rfl, by assumption⟩
  · cases h
@[simp ↓] theorem ok_getCe {ds : List D} {Q : List D → Env → Prop} : Ok (getCe hi r ds) ρ Q ↔ sN (isCel r) fun n => hN ρ[hi]? fun cs => sN cs[n]? fun d => sN (nObj d) fun d => Q (d :: ds) ρ := by
  constructor
  · rintro ⟨a, ρ', e, q⟩
    obtain ⟨n, cs, d, rfl, e2, e3, e4, no⟩ := getCe_some e
    cases e4
    rw [isCel_cell, sN_some, e2, hN_some, e3, sN_some]
    refine ⟨d, ?_, q⟩
    cases d <;> first | rfl | exact absurd rfl (no _ _ _)
  · rintro ⟨n, e1, q⟩
    have e1 := isCel_some e1
    subst e1
    cases h : ρ[hi]? with
    | none => rw [h] at q; exact q.elim
    | some s =>
      rw [h] at q
      cases s with
      | hp cs =>
        obtain ⟨d, ed, d2, en, q⟩ := q
        obtain ⟨rfl, hn⟩ := nObj_some en
        refine ⟨_, _, ?_, q⟩
        unfold getCe
        simp only [h, ed]
        cases d2 <;> first | rfl | cases hn
      | _ => exact q.elim
@[simp ↓] theorem ok_evs_dr {f : M R} {os : List Opd} {Q : List D → Env → Prop} : Ok (evs (.dr hi f :: os)) ρ Q ↔ Ok f ρ fun r ρ1 => Ok (evs os) ρ1 fun ds ρ2 => Ok (getCe hi r ds) ρ2 Q := by
  exact ok_bind2
@[simp ↓] theorem ok_alloc {Q : R → Env → Prop} : Ok (allocM hi r) ρ Q ↔ ∃ d, r = .own d ∧ hN ρ[hi]? fun cs => Q (.frz (.cell cs.length)) (ρ.set hi (.hp (cs ++ [d]))) := by
  unfold Ok Ok0
  constructor
  · rintro ⟨a, ρ', e, q⟩
    obtain ⟨d, cs, e1, e2, e3⟩ := allocM_some e
    cases e3
    exact ⟨d, e1, by rw [e2]; exact q⟩
  · rintro ⟨d, rfl, q⟩
    cases h : ρ[hi]? with
    | none => rw [h] at q; exact q.elim
    | some s =>
      rw [h] at q
      cases s with
      | hp cs => exact ⟨_, _, by unfold allocM; rw [h], q⟩
      | _ => exact q.elim
@[simp ↓] theorem ok_fCell {f : M R} {Q : R → Env → Prop} : Ok (fCell hi f) ρ Q ↔ Ok f ρ fun r ρ1 => Ok (allocM hi r) ρ1 Q := by
  unfold fCell
  simp only [ok_bind]
@[simp ↓] theorem ok_mutC {g : D → Option (D × D)} {Q : R → Env → Prop} : Ok (mutC hi r g) ρ Q ↔ sN (isCel r) fun n => hN ρ[hi]? fun cs => sN cs[n]? fun d => sN (g d) fun p => Q (.frz p.2) (ρ.set hi (.hp (cs.set n p.1))) := by
  unfold Ok Ok0
  constructor
  · rintro ⟨a, ρ', e, q⟩
    obtain ⟨n, cs, d, d', x, e1, e2, e3, e4, e5⟩ := mutC_some e
    cases e5
    rw [e1, isCel_cell, sN_some, e2, hN_some, e3, sN_some, e4, sN_some]
    exact q
  · rintro ⟨n, e1, q⟩
    have e1 := isCel_some e1
    subst e1
    cases h : ρ[hi]? with
    | none => rw [h] at q; exact q.elim
    | some s =>
      rw [h] at q
      cases s with
      | hp cs =>
        obtain ⟨d, ed, p, ep, q⟩ := q
        refine ⟨_, _, ?_, q⟩
        unfold mutC
        simp only [h, ed, ep]
      | _ => exact q.elim
@[simp ↓] theorem ok_needCe {k : D → Bool} {Q : Unit → Env → Prop} : Ok (needCe k hi r) ρ Q ↔ Ok (getCe hi r []) ρ fun ds ρ' => sN (ds.head?) fun d => k d = true ∧ Q () ρ' := by
  unfold needCe
  rw [ok_bind]
  constructor
  · exact fun h => h.mono fun ds ρ' h => by
      cases ds with
      | nil => obtain ⟨_, e, _⟩ := ok_opt.mp h; cases e
      | cons d ds =>
        obtain ⟨_, e, q⟩ := ok_opt.mp h
        have e : (if k d = true then some () else none) = some _ := e
        split at e
        · exact ⟨d, rfl, by assumption, q⟩
        · cases e
  · exact fun h => h.mono fun ds ρ' ⟨d, e, hk, q⟩ => by
      cases ds with
      | nil => cases e
      | cons d' ds =>
        cases e
        exact ok_opt.mpr ⟨(), if_pos hk, q⟩
@[simp ↓] theorem ok_fMutC {fr : M R} {fs : List (M R)} {g : List D → D → Option (D × D)} {Q : R → Env → Prop} : Ok (fMutC hi fr fs g) ρ Q ↔ Ok fr ρ fun r ρ1 => Ok (needCe isLs hi r) ρ1 fun _ ρ2 => Ok (evF fs) ρ2 fun ds ρ3 => Ok (mutC hi r (g ds)) ρ3 Q := by
  exact ok_bind3
@[simp ↓] theorem ok_fMutOC {fr : M R} {os : List Opd} {g : List D → D → Option (D × D)} {Q : R → Env → Prop} : Ok (fMutOC hi fr os g) ρ Q ↔ Ok fr ρ fun r ρ1 => Ok (needCe isLs hi r) ρ1 fun _ ρ2 => Ok (evs os) ρ2 fun ds ρ3 => Ok (mutC hi r (g ds)) ρ3 Q := by
  exact ok_bind3
@[simp ↓] theorem ok_sPutC {o : Opd} {fc fe : M R} {g : D → D → D → Option D} {Q : Fl → Env → Prop} : Ok (sPutC hi fc o fe g) ρ Q ↔ Ok fe ρ fun r ρ1 => Ok fc ρ1 fun c ρ2 => Ok (evs [o]) ρ2 fun ds ρ3 => Ok (mutC hi c (putD1 g r.d ds)) ρ3 fun _ ρ4 => Q .next ρ4 := by
  show Ok0 (mbind fe fun r => mbind fc fun c => mbind (evs [o]) fun ds => mbind (mutC hi c (putD1 g r.d ds)) fun _ => mret Fl.next) ρ Q ↔ Ok0 fe ρ fun r ρ1 => Ok0 fc ρ1 fun c ρ2 => Ok0 (evs [o]) ρ2 fun ds ρ3 => Ok0 (mutC hi c (putD1 g r.d ds)) ρ3 fun _ ρ4 => Q .next ρ4
  simp only [ok0_bind, ok0_ret]
@[simp ↓] theorem ok_evC_cel {f : M R} {cs : List CA} {Q : List Slot → Env → Prop} : Ok (evC (.cel hi f :: cs)) ρ Q ↔ Ok f ρ fun r ρ1 => Ok (evC cs) ρ1 fun ps ρ2 => Ok (getCe hi r []) ρ2 fun ds ρ3 => sN ds.head? fun d => Q (.bor d :: ps) ρ3 := by
  refine Iff.trans (ok_bind2 (f := f) (g := fun _ => evC cs) (h := fun r ps => getCel hi r ps)) ?_
  have key : ∀ {r : R} {ps : List Slot} {ρ : Env}, Ok (getCel hi r ps) ρ Q ↔ Ok (getCe hi r []) ρ fun ds ρ3 => sN ds.head? fun d => Q (.bor d :: ps) ρ3 := fun {r ps ρ} => by
    unfold getCel
    rw [ok_bind]
    constructor
    · exact fun h => h.mono fun ds ρ' h => by
        cases ds with
        | nil => obtain ⟨_, e, _⟩ := ok_opt.mp h; cases e
        | cons d ds => obtain ⟨_, e, q⟩ := ok_opt.mp h; cases e; exact ⟨d, rfl, q⟩
    · exact fun h => h.mono fun ds ρ' ⟨d, e, q⟩ => by
        cases ds with
        | nil => cases e
        | cons d' ds => cases e; exact ok_opt.mpr ⟨_, rfl, q⟩
  constructor
  · exact fun h => h.mono fun r ρ1 h => h.mono fun ps ρ2 h => key.mp h
  · exact fun h => h.mono fun r ρ1 h => h.mono fun ps ρ2 h => key.mpr h
@[simp] theorem head_cons {α : Type} {x : α} {xs : List α} : (x :: xs).head? = some x := rfl
@[simp] theorem putC_cel {f : M R} {cs : List CA} {s : Slot} {ps : List Slot} : putC (.cel hi f :: cs) (s :: ps) ρ = putC cs ps ρ := rfl
end
@[simp] theorem slotNC_frz {d : D} : slotNC (.frz d) = noCell d := rfl
@[simp] theorem slotNC_bor {d : D} : slotNC (.bor d) = noCell d := rfl
@[simp] theorem slotNC_lent {d : D} : slotNC (.lent d) = noCell d := rfl
@[simp] theorem noCell_int {i : Int} : noCell (.int i) = true := rfl
@[simp] theorem noCell_bl {i : Bool} : noCell (.bl i) = true := rfl
@[simp] theorem noCell_str {i : Str} : noCell (.str i) = true := rfl
@[simp] theorem noCell_non : noCell .non = true := rfl
@[simp] theorem noCell_scr {ns : List Int} : noCell (.scr ns) = true := rfl
@[simp] theorem noCell_lst {ds : List D} : noCell (.lst ds) = noCells ds := rfl
@[simp] theorem noCell_tup {ds : List D} : noCell (.tup ds) = noCells ds := rfl
@[simp] theorem noCell_dK {ks : List Key} {ds : List D} : noCell (.dK ks ds) = noCells ds := rfl
@[simp] theorem noCell_dT {ks : List (List Key)} {ds : List D} : noCell (.dT ks ds) = noCells ds := rfl
@[simp] theorem noCells_nil : noCells [] = true := rfl
@[simp] theorem noCells_cons {d : D} {ds : List D} : noCells (d :: ds) = (noCell d && noCells ds) := rfl
theorem noCells_all : ∀ {ds : List D}, noCells ds = true ↔ ∀ d ∈ ds, noCell d = true
  | [] => by simp
  | d :: ds => by simp [noCells_all (ds := ds)]
mutual
theorem seal_nc {cs : List D} : ∀ (d : D), noCell d = true → sealD cs d = some d
  | .non, _ => rfl
  | .bl _, _ => rfl
  | .int _, _ => rfl
  | .str _, _ => rfl
  | .scr _, _ => rfl
  | .tup ds, h => by show (sealDs cs ds).map D.tup = _; rw [seals_nc ds h]; rfl
  | .lst ds, h => by show (sealDs cs ds).map D.lst = _; rw [seals_nc ds h]; rfl
  | .tpl ds, h => by show (sealDs cs ds).map D.tpl = _; rw [seals_nc ds h]; rfl
  | .dK ks ds, h => by show (sealDs cs ds).map (D.dK ks) = _; rw [seals_nc ds h]; rfl
  | .dT ks ds, h => by show (sealDs cs ds).map (D.dT ks) = _; rw [seals_nc ds h]; rfl
  | .cell _, h => by cases h
  | .obj _ _ _, h => by cases h
theorem seals_nc {cs : List D} : ∀ (ds : List D), noCells ds = true → sealDs cs ds = some ds
  | [], _ => rfl
  | d :: ds, h => by
    obtain ⟨h1, h2⟩ := Bool.and_eq_true_iff.mp (show (noCell d && noCells ds) = true from h)
    show (match sealD cs d, sealDs cs ds with
      | some x, some xs => some (x :: xs)
      | _, _ => none) = _
    rw [seal_nc d h1, seals_nc ds h2]
end
theorem sealR_frz {cs : List D} {d : D} (h : noCell d = true) : sealR cs (.frz d) = some (.frz d) := by
  show (sealD cs d).map _ = _
  rw [seal_nc d h]
  rfl
theorem sealR_own {cs : List D} {d : D} (h : noCell d = true) : sealR cs (.own d) = some (.own d) := by
  show (sealD cs d).map _ = _
  rw [seal_nc d h]
  rfl
/-- a row of all cells -/
theorem seals_cells {cs : List D} (h : noCells cs = true) : ∀ (k n : Nat), k + n ≤ cs.length → sealDs cs ((List.range' k n).map D.cell) = some ((cs.drop k).take n)
  | k, 0, _ => by simp [sealDs]
  | k, n + 1, hk => by
    have hl : k < cs.length := by omega
    have e1 : cellD cs k = some cs[k] := by
      unfold cellD
      rw [List.getElem?_eq_getElem hl]
      exact if_pos (noCells_all.mp h _ (List.getElem_mem hl))
    rw [List.range'_succ, List.map_cons]
    show (match cellD cs k, sealDs cs ((List.range' (k + 1) n).map D.cell) with
      | some x, some xs => some (x :: xs)
      | _, _ => none) = _
    rw [e1, seals_cells h (k + 1) n (by omega), List.drop_eq_getElem_cons hl, List.take_succ_cons]
/-- a def with cells of its own -/
theorem cok_fnH {a n : Nat} {b : M Fl} {ps : List Slot} {Q : R → List Slot → Prop} (hl : ps.length = a) (hn : a + 1 ≤ n) (nc : ps.all slotNC = true) (h : Ok b (ps ++ .hp [] :: List.replicate (n - a - 1) .emp) fun fl ρ' => match fl with
    | .ret r => hN ρ'[a]? fun cs => (outPs ps ρ').all slotNC = true ∧ sN (sealR cs r) fun r' => Q r' (outPs ps ρ')
    | .next => hN ρ'[a]? fun cs => (outPs ps ρ').all slotNC = true ∧ Q (.frz .non) (outPs ps ρ')
    | _ => False) : COk (fnH a n b) ps Q := by
  obtain ⟨fl, ρ', e, q⟩ := h
  have e0 : (ps ++ [Slot.hp []]) ++ List.replicate (n - (ps ++ [Slot.hp []]).length) .emp = ps ++ .hp [] :: List.replicate (n - a - 1) .emp := by
    rw [List.append_assoc]
    simp [hl]
    omega
  have tk : ∀ {cs : List D}, ρ'[a]? = some (Slot.hp cs) → (outPs (ps ++ [Slot.hp []]) ρ')[a]? = some (Slot.hp cs) ∧ (outPs (ps ++ [Slot.hp []]) ρ').take a = outPs ps ρ' := fun {cs} ec => by
    have hl2 := (List.getElem?_eq_some_iff.mp ec).1
    constructor
    · unfold outPs
      rw [List.getElem?_zipWith, ec, List.getElem?_append_right (by omega), hl, Nat.sub_self]
      rfl
    · unfold outPs
      apply List.ext_getElem?
      intro i
      rw [List.getElem?_take]
      split
      · rename_i hi
        rw [List.getElem?_zipWith, List.getElem?_zipWith, List.getElem?_append_left (by omega)]
      · rename_i hi
        rw [List.getElem?_eq_none]
        rw [List.length_zipWith]
        omega
  unfold COk COk0 fnH
  rw [if_pos ⟨hl, nc⟩]
  unfold runF
  rw [e0, e]
  cases fl with
  | ret r =>
    have q : hN ρ'[a]? fun cs => (outPs ps ρ').all slotNC = true ∧ sN (sealR cs r) fun r' => Q r' (outPs ps ρ') := q
    cases ec : ρ'[a]? with
    | none => rw [ec] at q; exact q.elim
    | some s =>
      rw [ec] at q
      cases s with
      | hp cs =>
        obtain ⟨h1, r', er, q⟩ := q
        obtain ⟨t1, t2⟩ := tk ec
        refine ⟨r', outPs ps ρ', ?_, q⟩
        simp only [t1, t2, h1, er]
        rfl
      | _ => exact q.elim
  | next =>
    have q : hN ρ'[a]? fun cs => (outPs ps ρ').all slotNC = true ∧ Q (.frz .non) (outPs ps ρ') := q
    cases ec : ρ'[a]? with
    | none => rw [ec] at q; exact q.elim
    | some s =>
      rw [ec] at q
      cases s with
      | hp cs =>
        obtain ⟨h1, q⟩ := q
        obtain ⟨t1, t2⟩ := tk ec
        refine ⟨.frz .non, outPs ps ρ', ?_, q⟩
        simp only [t1, t2, h1]
        rfl
      | _ => exact q.elim
  | brk => exact q.elim
  | cont => exact q.elim
/-- a def that works on cells handed on to it -/
theorem cok_fnC {a n : Nat} {b : M Fl} {ps : List Slot} {Q : R → List Slot → Prop} (hl : ps.length = a + 1) (h : Ok b (ps ++ List.replicate (n - (a + 1)) .emp) fun fl ρ' => match fl with
    | .ret r => Q r (outPs ps ρ')
    | .next => Q (.frz .non) (outPs ps ρ')
    | _ => False) : COk (fnC a n b) ps Q := cok_fnA (a := a + 1) (n := n) (b := b) hl h
@[simp] theorem outP_hp {d d' : List D} : outP (.hp d) (.hp d') = .hp d' := rfl
section
variable {ρ : Env} {hi : Nat} {m : Fn} {cs : List CA}
@[simp ↓] theorem ok_fCallX {Q : R → Env → Prop} : Ok (fCallX true hi m cs) ρ Q ↔ Ok (evC cs) ρ fun ps ρ1 => hN ρ1[hi]? fun c => COk m (ps ++ [.hp c]) fun r ps' => Q r (putH true hi ps.length ps' (putC cs ps' ρ1)) := by
  unfold fCallX
  rw [ok_bind]
  have key : ∀ {ps : List Slot} {ρ1 : Env}, Ok (callX true hi m cs ps) ρ1 Q ↔ hN ρ1[hi]? fun c => COk m (ps ++ [.hp c]) fun r ps' => Q r (putH true hi ps.length ps' (putC cs ps' ρ1)) := fun {ps ρ1} => by
    unfold Ok Ok0 callX hpAt
    simp only [if_true]
    cases h : ρ1[hi]? with
    | none => simp
    | some s =>
      cases s with
      | hp c =>
        rw [hN_some]
        unfold COk COk0
        show (∃ a ρ', (match m (ps ++ [.hp c]) with
          | none => none
          | some (.ret r ps') => some (Res.ok r (putH true hi ps.length ps' (putC cs ps' ρ1)))
          | some (.exc e ps') => some (Res.err e (putH true hi ps.length ps' (putC cs ps' ρ1)))) = some (Res.ok a ρ') ∧ Q a ρ') ↔ _
        cases k : m (ps ++ [.hp c]) with
        | none => simp
        | some y =>
          cases y with
          | ret r ps' =>
            constructor
            · rintro ⟨_, _, e, q⟩; cases e; exact ⟨r, ps', rfl, q⟩
            · rintro ⟨_, _, e, q⟩; cases e; exact ⟨r, _, rfl, q⟩
          | exc e ps' =>
            constructor
            · rintro ⟨_, _, e, q⟩; cases e
            · rintro ⟨_, _, e, q⟩; cases e
      | _ => exact ⟨fun ⟨_, _, e, _⟩ => (nomatch e), False.elim⟩
  constructor
  · exact fun h => h.mono fun ps ρ1 h => key.mp h
  · exact fun h => h.mono fun ps ρ1 h => key.mpr h
@[simp] theorem putH_at {k : Nat} {ps' : List Slot} {c : List D} (e : ps'[k]? = some (.hp c)) : putH true hi k ps' ρ = ρ.set hi (.hp c) := by
  unfold putH
  rw [if_pos rfl, e]
end
end Dz
/-! Dz 29: words for the generator: cells. -/
namespace Dz
open PySem PySem.Spec PyProof.Rows L2
section
variable {X : Cx} {Wx : WX} {o e : Expr} {apos pos : Pos} {fr f : M R} {fs : List (M R)} {os : List Opd} {hi : Nat}
theorem do_dr (h : DE X Wx e f) : DO X Wx e (.dr hi f) := h
theorem isLsG_app : isLsG appD := fun ds d d' x h => by
  unfold appD at h
  split at h
  · rfl
  · cases h
theorem isLsG_ext : isLsG extD := fun ds d d' x h => by
  unfold extD at h
  split at h <;> first | rfl | cases h
theorem isLsG_pop : isLsG popD := fun ds d d' x h => by
  unfold popD at h
  split at h <;> first | rfl | cases h
theorem isLsG_popAt : isLsG popAtD := fun ds d d' x h => by
  unfold popAtD at h
  split at h <;> first | rfl | cases h
theorem de_appendC (ho : DE X Wx o fr) (ha : DF X Wx [e] fs) (hbase : attributeBase o "append" X.env (eval o X.env) = eval o X.env := by rfl)
    (hfew : ((backTo pos (starEach [e] X.env)).all (fun x => !x.1) && (backToKw pos (keywordEach [] X.env)).all (fun x => x.1.isSome)
      && decide ([e].length + ([] : List Keyword).length + (if ([] : List Keyword).isEmpty then 0 else 1) < 30)) = true := by rfl)
    (hline : (apos.endLine == pos.line) = true := by rfl) (hs : starEach [e] X.env = (false, eval e X.env) :: starEach [] X.env := by rfl) :
    DE X Wx (.Call (.Attribute o "append" apos) [e] [] pos) (fMutC hi fr fs appD) := de_mutC PySem.F.slot_list_append PySem.F.type_list_append mt_append isLsG_app vrm_append ho ha hbase hfew hline hs
theorem de_extendC (ho : DE X Wx o fr) (ha : DOs X Wx [e] os) (hbase : attributeBase o "extend" X.env (eval o X.env) = eval o X.env := by rfl)
    (hfew : ((backTo pos (starEach [e] X.env)).all (fun x => !x.1) && (backToKw pos (keywordEach [] X.env)).all (fun x => x.1.isSome)
      && decide ([e].length + ([] : List Keyword).length + (if ([] : List Keyword).isEmpty then 0 else 1) < 30)) = true := by rfl)
    (hline : (apos.endLine == pos.line) = true := by rfl) (hs : starEach [e] X.env = (false, eval e X.env) :: starEach [] X.env := by rfl) :
    DE X Wx (.Call (.Attribute o "extend" apos) [e] [] pos) (fMutOC hi fr os extD) := de_mutOC PySem.F.slot_list_extend PySem.F.type_list_extend mt_extend isLsG_ext vrm_extend ho ha hbase hfew hline hs
theorem de_popAtC (ho : DE X Wx o fr) (ha : DF X Wx [e] fs) (hbase : attributeBase o "pop" X.env (eval o X.env) = eval o X.env := by rfl)
    (hfew : ((backTo pos (starEach [e] X.env)).all (fun x => !x.1) && (backToKw pos (keywordEach [] X.env)).all (fun x => x.1.isSome)
      && decide ([e].length + ([] : List Keyword).length + (if ([] : List Keyword).isEmpty then 0 else 1) < 30)) = true := by rfl)
    (hline : (apos.endLine == pos.line) = true := by rfl) (hs : starEach [e] X.env = (false, eval e X.env) :: starEach [] X.env := by rfl) :
    DE X Wx (.Call (.Attribute o "pop" apos) [e] [] pos) (fMutC hi fr fs popAtD) := de_mutC PySem.F.slot_list_pop PySem.F.type_list_pop mt_popAt isLsG_popAt vrm_popAt ho ha hbase hfew hline hs
theorem de_popC (ho : DE X Wx o fr) (hbase : attributeBase o "pop" X.env (eval o X.env) = eval o X.env := by rfl) (hline : (apos.endLine == pos.line) = true := by rfl) :
    DE X Wx (.Call (.Attribute o "pop" apos) [] [] pos) (fMutC hi fr [] popD) := de_mutC0 PySem.F.slot_list_pop PySem.F.type_list_pop mt_pop isLsG_pop vrm_pop ho hbase hline
theorem noj_setL (j x d d' : D) (h : setLD j x d = some d') : notObj d = true := by
  unfold setLD at h
  split at h
  · rfl
  · cases h
theorem noj_putK (j x d d' : D) (h : putKD j x d = some d') : notObj d = true := by
  unfold putKD at h
  split at h <;> first | rfl | cases h
end
end Dz
/-! Dz 30: rows of numbers, sorted, each once. -/
namespace Dz
open PySem PySem.Spec PyProof.Rows L2
/-! ### the order of rows -/
def ltR : List Int → List Int → Bool
  | [], [] => false
  | [], _ :: _ => true
  | _ :: _, [] => false
  | x :: xs, y :: ys => if x = y then ltR xs ys else decide (x < y)
theorem ltR_irr : ∀ a : List Int, ltR a a = false
  | [] => rfl
  | x :: xs => by simp [ltR, ltR_irr xs]
theorem ltR_trans : ∀ {a b c : List Int}, ltR a b = true → ltR b c = true → ltR a c = true
  | [], b, [], h, k => by cases b with | nil => cases h | cons _ _ => cases k
  | [], _, _ :: _, _, _ => rfl
  | x :: xs, [], _, h, _ => by cases h
  | x :: xs, y :: ys, [], _, k => by cases k
  | x :: xs, y :: ys, z :: zs, h, k => by
    simp only [ltR] at h k ⊢
    by_cases e1 : x = y
    · subst e1
      by_cases e2 : x = z
      · subst e2; simp at h k ⊢; exact ltR_trans h k
      · simp [e2] at k ⊢; exact k
    · simp [e1] at h
      by_cases e2 : y = z
      · subst e2
        simp [e1]
        exact h
      · simp [e2] at k
        have : x ≠ z := by omega
        simp [this]
        omega
theorem ltR_tri : ∀ (a b : List Int), ltR a b = true ∨ a = b ∨ ltR b a = true
  | [], [] => .inr (.inl rfl)
  | [], _ :: _ => .inl rfl
  | _ :: _, [] => .inr (.inr rfl)
  | x :: xs, y :: ys => by
    simp only [ltR]
    by_cases e : x = y
    · subst e
      rcases ltR_tri xs ys with h | h | h
      · simp [h]
      · simp [h]
      · simp [h]
    · rcases Int.lt_trichotomy x y with h | h | h
      · simp [e, h]
      · exact absurd h e
      · have : ¬ y = x := fun z => e z.symm
        simp [e, this, h]
theorem ltR_asym {a b : List Int} (h : ltR a b = true) : ltR b a = false := by
  cases k : ltR b a with
  | false => rfl
  | true => have := ltR_trans h k; rw [ltR_irr] at this; cases this
theorem ltR_ne {a b : List Int} (h : ltR a b = true) : a ≠ b := fun z => by rw [z, ltR_irr] at h; cases h
/-- put in its place, if it is not there -/
def insR (x : List Int) : List (List Int) → List (List Int)
  | [] => [x]
  | y :: ys => if ltR x y = true then x :: y :: ys else if x = y then y :: ys else y :: insR x ys
/-- rising, each once -/
def sortR : List (List Int) → List (List Int)
  | [] => []
  | x :: xs => insR x (sortR xs)
def Rising (xs : List (List Int)) : Prop := xs.Pairwise fun a b => ltR a b = true
theorem mem_insR {x z : List Int} : ∀ {ys : List (List Int)}, z ∈ insR x ys ↔ z = x ∨ z ∈ ys
  | [] => by simp [insR]
  | y :: ys => by
    simp only [insR]
    split
    · simp
    · split
      · rename_i e; subst e; simp
      · simp [mem_insR (ys := ys)]
        constructor
        · rintro (h | h | h)
          · exact .inr (.inl h)
          · exact .inl h
          · exact .inr (.inr h)
        · rintro (h | h | h)
          · exact .inr (.inl h)
          · exact .inl h
          · exact .inr (.inr h)
theorem rising_insR {x : List Int} : ∀ {ys : List (List Int)}, Rising ys → Rising (insR x ys)
  | [], _ => by simp [insR, Rising]
  | y :: ys, h => by
    obtain ⟨h1, h2⟩ := List.pairwise_cons.mp h
    simp only [insR]
    split
    · rename_i hx
      exact List.pairwise_cons.mpr ⟨fun z hz => by
        rcases List.mem_cons.mp hz with e | hz
        · rw [e]; exact hx
        · exact ltR_trans hx (h1 z hz), h⟩
    · split
      · exact h
      · rename_i n1 n2
        have hy : ltR y x = true := (ltR_tri x y).resolve_left n1 |>.resolve_left n2
        exact List.pairwise_cons.mpr ⟨fun z hz => by
          rcases mem_insR.mp hz with e | hz
          · rw [e]; exact hy
          · exact h1 z hz, rising_insR h2⟩
theorem mem_sortR {z : List Int} : ∀ {xs : List (List Int)}, z ∈ sortR xs ↔ z ∈ xs
  | [] => Iff.rfl
  | x :: xs => by rw [sortR, mem_insR, mem_sortR (xs := xs), List.mem_cons]
theorem rising_sortR : ∀ xs : List (List Int), Rising (sortR xs)
  | [] => List.Pairwise.nil
  | x :: xs => rising_insR (rising_sortR xs)
theorem rising_uniq : ∀ {xs ys : List (List Int)}, Rising xs → Rising ys → (∀ z, z ∈ xs ↔ z ∈ ys) → xs = ys
  | [], [], _, _, _ => rfl
  | [], y :: ys, _, _, h => by have := (h y).mpr List.mem_cons_self; cases this
  | x :: xs, [], _, _, h => by have := (h x).mp List.mem_cons_self; cases this
  | x :: xs, y :: ys, hx, hy, h => by
    obtain ⟨x1, x2⟩ := List.pairwise_cons.mp hx
    obtain ⟨y1, y2⟩ := List.pairwise_cons.mp hy
    have e : x = y := by
      rcases List.mem_cons.mp ((h x).mp List.mem_cons_self) with e | k
      · exact e
      · rcases List.mem_cons.mp ((h y).mpr List.mem_cons_self) with e | k2
        · exact e.symm
        · have a1 := y1 x k
          have a2 := x1 y k2
          rw [ltR_asym a1] at a2
          cases a2
    subst e
    rw [rising_uniq x2 y2 fun z => ?_]
    constructor
    · intro hz
      rcases List.mem_cons.mp ((h z).mp (List.mem_cons_of_mem _ hz)) with e | k
      · have := x1 z hz; rw [e, ltR_irr] at this; cases this
      · exact k
    · intro hz
      rcases List.mem_cons.mp ((h z).mpr (List.mem_cons_of_mem _ hz)) with e | k
      · have := y1 z hz; rw [e, ltR_irr] at this; cases this
      · exact k
theorem sortR_of {xs ys : List (List Int)} (h : Rising ys) (hm : ∀ z, z ∈ ys ↔ z ∈ xs) : sortR xs = ys := rising_uniq (rising_sortR xs) h fun z => by rw [mem_sortR, hm]
theorem rising_nodup {xs : List (List Int)} (h : Rising xs) : xs.Nodup := h.imp fun k => ltR_ne k
theorem sortR_len_le : ∀ (xs : List (List Int)), (sortR xs).length ≤ xs.length := by
  have ins : ∀ (x : List Int) (ys : List (List Int)), (insR x ys).length ≤ ys.length + 1 := fun x ys => by
    induction ys with
    | nil => simp [insR]
    | cons y ys ih =>
      simp only [insR]
      split
      · simp
      · split
        · simp
        · simp; exact ih
  intro xs
  induction xs with
  | nil => simp [sortR]
  | cons x xs ih => simp only [sortR, List.length_cons]; have := ins x (sortR xs); omega
theorem ltR_code {B : Int} : ∀ {a b : List Int}, a.length = b.length → TS.Bd B a → TS.Bd B b → (ltR a b = true ↔ TS.code B a < TS.code B b)
  | [], [], _, _, _ => by simp [ltR]
  | [], _ :: _, h, _, _ => by simp at h
  | _ :: _, [], h, _, _ => by simp at h
  | x :: xs, y :: ys, h, h1, h2 => by
    have h0 : xs.length = ys.length := by simpa using h
    simp only [ltR]
    by_cases e : x = y
    · subst e
      rw [if_pos rfl, TS.code_same h0]
      exact ltR_code h0 h1.tail h2.tail
    · rw [if_neg e, decide_eq_true_iff]
      constructor
      · exact fun k => TS.code_lt h0 h1.tail h2.tail k
      · intro k
        rcases Int.lt_trichotomy x y with z | z | z
        · exact z
        · exact absurd z e
        · have := TS.code_lt h0.symm h2.tail h1.tail z
          omega
/-! ### rows on data -/
def rowD (ns : List Int) : D := .tup (ns.map D.int)
def unInt : D → Option Int
  | .int n => some n
  | _ => none
def unRow : D → Option (List Int)
  | .tup ds => ds.mapM unInt
  | _ => none
theorem unInts_ints : ∀ ns : List Int, (ns.map D.int).mapM unInt = some ns
  | [] => rfl
  | n :: ns => by rw [List.map_cons, List.mapM_cons, unInts_ints ns]; rfl
theorem unRow_row (ns : List Int) : unRow (rowD ns) = some ns := unInts_ints ns
theorem unRows_rows : ∀ rs : List (List Int), (rs.map rowD).mapM unRow = some rs
  | [] => rfl
  | r :: rs => by rw [List.map_cons, List.mapM_cons, unRow_row, unRows_rows rs]; rfl
theorem unInts_of : ∀ {ds : List D} {ns : List Int}, ds.mapM unInt = some ns → ds = ns.map D.int
  | [], _, h => by cases h; rfl
  | d :: ds, ns, h => by
    rw [List.mapM_cons] at h
    cases d with
    | int n =>
      cases q : ds.mapM unInt with
      | none => rw [q] at h; cases h
      | some ms => rw [q] at h; cases h; rw [unInts_of q]; rfl
    | _ => cases h
theorem unRows_of : ∀ {ds : List D} {rs : List (List Int)}, ds.mapM unRow = some rs → ds = rs.map rowD
  | [], _, h => by cases h; rfl
  | d :: ds, rs, h => by
    rw [List.mapM_cons] at h
    cases d with
    | tup xs =>
      cases p : xs.mapM unInt with
      | none => rw [show unRow (.tup xs) = xs.mapM unInt from rfl, p] at h; cases h
      | some ns =>
        rw [show unRow (.tup xs) = xs.mapM unInt from rfl, p] at h
        cases q : ds.mapM unRow with
        | none => rw [q] at h; cases h
        | some ms => rw [q] at h; cases h; rw [unRows_of q, unInts_of p]; rfl
    | _ => cases h
/-- the rows are few, of one length, of numbers not below zero -/
def rowsOk (rs : List (List Int)) : Prop := rs.length < 64 ∧ ∀ r ∈ rs, r.length = (rs.headD [0]).length ∧ r ≠ [] ∧ ∀ m ∈ r, 0 ≤ m
instance (rs : List (List Int)) : Decidable (rowsOk rs) := by unfold rowsOk; exact inferInstance
def srtSetD : D → Option R
  | .lst ds => match ds.mapM unRow with
    | some rs => if rowsOk rs then some (.own (.lst ((sortR rs).map rowD))) else none
    | none => none
  | _ => none
theorem srtSetD_rows {rs : List (List Int)} (h : rowsOk rs) : srtSetD (.lst (rs.map rowD)) = some (.own (.lst ((sortR rs).map rowD))) := by
  show (match (rs.map rowD).mapM unRow with
    | some rs => if rowsOk rs then some (R.own (.lst ((sortR rs).map rowD))) else none
    | none => none) = _
  rw [unRows_rows]
  exact if_pos h
theorem ints_rep {N : AP mg} {H : Hp} : ∀ {ns : List Int} {vs : List V}, Reps N H (ns.map D.int) vs → vs = ns.map V.int
  | [], _, h => by rw [show _ = [] from h]; rfl
  | n :: ns, _, h => by
    obtain ⟨v, vs, rfl, p, q⟩ := h
    rw [show v = V.int n from p, ints_rep q]; rfl
theorem row_sq {K : PySem.W.Frag} {N : AP mg} {H : Hp} {r : List Int} {v : V} (p : Rep N H (rowD r) v) : ∃ a, v = .ref a ∧ SqT K H a (r.map V.int) := by
  have pp : PRep N H (.tup (r.map D.int)) v := Or.inl p
  obtain ⟨a, ws, rfl, hp, _, rr⟩ := pp.tup
  have ew := ints_rep rr
  subst ew
  exact ⟨a, rfl, hp.sq⟩
theorem row_sq' {K : PySem.W.Frag} {N : AP mg} {H : Hp} {r : List Int} {a : Addr} (p : Rep N H (rowD r) (.ref a)) : SqT K H a (r.map V.int) := by
  obtain ⟨b, e, h⟩ := row_sq (K := K) p
  cases e
  exact h
theorem rows_rep {K : PySem.W.Frag} {N : AP mg} {H : Hp} : ∀ {rs : List (List Int)} {vs : List V}, Reps N H (rs.map rowD) vs →
    ∃ ks : List (Addr × List Int), vs = ks.map (fun p => V.ref p.1) ∧ ks.map (·.2) = rs ∧ ∀ p ∈ ks, SqT K H p.1 (p.2.map V.int) ∧ Rep N H (rowD p.2) (.ref p.1)
  | [], _, h => by rw [show _ = [] from h]; exact ⟨[], rfl, rfl, fun _ z => nomatch z⟩
  | r :: rs, _, h => by
    obtain ⟨v, vs, rfl, p, q⟩ := h
    obtain ⟨ks, rfl, e2, e3⟩ := rows_rep (K := K) q
    obtain ⟨a, rfl, hs⟩ := row_sq (K := K) p
    exact ⟨(a, r) :: ks, rfl, by rw [List.map_cons, e2], fun x hx => by
      rcases List.mem_cons.mp hx with z | z
      · rw [z]; exact ⟨hs, p⟩
      · exact e3 x z⟩
theorem reps_rows {N : AP mg} {H : Hp} : ∀ {ks : List (Addr × List Int)}, (∀ p ∈ ks, Rep N H (rowD p.2) (.ref p.1)) → Reps N H ((ks.map (·.2)).map rowD) (ks.map fun p => V.ref p.1)
  | [], _ => rfl
  | p :: ks, h => ⟨_, _, rfl, h p List.mem_cons_self, reps_rows fun q hq => h q (List.mem_cons_of_mem _ hq)⟩
theorem bd_of : ∀ (rs : List (List Int)), (∀ r ∈ rs, ∀ m ∈ r, 0 ≤ m) → ∃ B : Int, ∀ r ∈ rs, TS.Bd B r := by
  have one : ∀ ns : List Int, ∃ B : Int, 0 ≤ B ∧ ∀ m ∈ ns, m < B := fun ns => by
    induction ns with
    | nil => exact ⟨0, by omega, fun _ z => nomatch z⟩
    | cons n ns ih =>
      obtain ⟨B, h0, h⟩ := ih
      refine ⟨if n < B then B else n + 1, by split <;> omega, fun m hm => ?_⟩
      rcases List.mem_cons.mp hm with z | z
      · subst z; split <;> omega
      · have := h m z; split <;> omega
  intro rs
  induction rs with
  | nil => exact fun _ => ⟨0, fun _ z => nomatch z⟩
  | cons r rs ih =>
    intro h0
    obtain ⟨B, h⟩ := ih fun x hx => h0 x (List.mem_cons_of_mem _ hx)
    obtain ⟨C, c0, hc⟩ := one r
    refine ⟨if C < B then B else C, fun x hx m hm => ?_⟩
    rcases List.mem_cons.mp hx with z | z
    · subst z
      have := hc m hm
      have := h0 x List.mem_cons_self m hm
      split <;> omega
    · have := h x z m hm
      split <;> omega
def rSrtSet (K : PySem.W.Frag) (P : Program) (w : World) : V → Hp → VK → Prop := fun x H Q => rSetOfT K P w [x] H fun v H2 => rSortedT K P w [v] H2 Q
theorem vr_srtSet {K : PySem.W.Frag} {P : Program} {w : World} : VR1 (rSrtSet K P w) srtSetD := by
  intro mg W B σ H ρ v d res Q s r hg hq
  unfold srtSetD at hg
  split at hg
  · split at hg
    · rename_i rs hrs
      split at hg
      · rename_i hok
        cases hg
        have eds := unRows_of hrs
        subst eds
        obtain ⟨l, ws, rfl, hp, rr⟩ := r.lst
        obtain ⟨ks, rfl, e2, hks⟩ := rows_rep (K := K) rr
        obtain ⟨hn, hrow⟩ := hok
        obtain ⟨B', hB⟩ := bd_of rs fun r hr => (hrow r hr).2.2
        have mem : ∀ p ∈ ks, p.2 ∈ rs := fun p hp => by rw [← e2]; exact List.mem_map_of_mem hp
        refine ⟨l, ks, rfl, SqL.of hp, fun p hp => (hks p hp).1, by rw [← List.length_map (f := (·.2)), e2]; exact hn, fun a L ha hL1 hL2 => ?_⟩
        have f := Fr.new (W := W) (o := SetTO P w a L) ha
        refine ⟨a, L, max 1 (rs.headD [0]).length, B', rfl, by simp [upd], fun p hp => row_sq' ((hks p (hL1 p hp)).2.fr f), Nat.le_max_left _ _, fun p hp => ?_, fun L' p hperm hnd hlen hpw hpn => ?_⟩
        · have h1 := hrow p.2 (mem p (hL1 p hp))
          refine ⟨?_, hB p.2 (mem p (hL1 p hp))⟩
          rw [h1.1]
          have : (rs.headD [0]).length ≠ 0 := by rw [← h1.1]; exact fun z => h1.2.1 (List.length_eq_zero_iff.mp z)
          omega
        · have hm : ∀ z, z ∈ L'.map (·.2) ↔ z ∈ rs := fun z => by
            constructor
            · intro hz
              obtain ⟨q, hq, rfl⟩ := List.mem_map.mp hz
              exact mem q (hL1 q (hperm.mem_iff.mp hq))
            · intro hz
              rw [← e2] at hz
              obtain ⟨q, hq, rfl⟩ := List.mem_map.mp hz
              obtain ⟨y, hy, e⟩ := List.mem_map.mp (hL2 q hq)
              exact List.mem_map.mpr ⟨y, hperm.mem_iff.mpr hy, e⟩
          have hris : Rising (L'.map (·.2)) := by
            refine List.Pairwise.imp_of_mem (fun {x y} hx hy h => ?_) (List.Pairwise.and ((List.pairwise_map (f := fun q : Addr × List Int => q.2) (R := fun a b => TS.code B' a ≤ TS.code B' b)).mpr hpw) hnd)
            obtain ⟨hle, hne⟩ := h
            have h1 := hrow x ((hm x).mp hx)
            have h2 := hrow y ((hm y).mp hy)
            have hl : x.length = y.length := by rw [h1.1, h2.1]
            rcases ltR_tri x y with z | z | z
            · exact z
            · exact absurd z hne
            · have := (ltR_code hl.symm (hB y ((hm y).mp hy)) (hB x ((hm x).mp hx))).mp z
              omega
          have es := sortR_of hris hm
          rw [es] at hq
          have s1 : St W B σ (upd H a (SetTO P w a L)) ρ := s.new ha
          refine hq _ _ _ (f.trans (Fr.newW hpn)) (vok_lst s1 (reps_rows fun q hq => Rep.fr (hks q (hL1 q (hperm.mem_iff.mp hq))).2 f) hpn)
      · cases hg
    · cases hg
  · cases hg
section
variable {X : Cx} {Wx : WX} {e : Expr} {o1 : Opd} {p p2 pos pos2 : Pos}
theorem de_srtSet (hc : X.calm = true) (hu : X.A.units + 64 < cLine) (hg : Gl X "sorted") (hm : X.mg "sorted" = none) (hg2 : Gl X "set") (hm2 : X.mg "set" = none) (h1 : DO X Wx e o1)
    (hs1 : starEach [Expr.Call (.Name "set" p2) [e] [] pos2] X.env = (false, eval (Expr.Call (.Name "set" p2) [e] [] pos2) X.env) :: starEach [] X.env := by rfl)
    (hs : starEach [e] X.env = (false, eval e X.env) :: starEach [] X.env := by rfl) (hpl1 : (backTo pos2 (starEach [] X.env)).any (·.1) = false := by rfl) (hpl : (backTo pos (starEach [] X.env)).any (·.1) = false := by rfl) :
    DE X Wx (.Call (.Name "sorted" p) [.Call (.Name "set" p2) [e] [] pos2] [] pos) (f1 o1 srtSetD) :=
  ⟨pe_imp (pe_callB (cr_sortedT hc) hg hm boot_sorted (pa_cons (pe_callTy (cr_setOfT hc hu) hg2 hm2 (by decide +kernel) (pa_cons h1.pe pa_nil hs) (by decide) (by decide) hs hpl1) pa_nil hs1) (by decide) (by decide) hs1 hpl) fun _ _ _ q => rd1 vr_srtSet h1.evo q, evo_f1 h1.evo⟩
end
end Dz
/-! Dz 31: what may be compared; equal and the same; in a list. -/
namespace Dz
open PySem
/-- it may be compared, and lies no deeper than n -/
def okN (n : Nat) (d : D) : Prop := (py d).canLay0 = true ∧ (py d).depth ≤ n
theorem okN.d {n : Nat} {d : D} (h : okN n d) (hn : n ≤ 64 := by omega) : okD d = true := by
  show ((py d).canLay0 && decide ((py d).depth ≤ 64)) = true
  rw [h.1, Bool.true_and, decide_eq_true_eq]
  exact Nat.le_trans h.2 hn
theorem okN.mono {n m : Nat} {d : D} (h : okN n d) (hn : n ≤ m) : okN m d := ⟨h.1, Nat.le_trans h.2 hn⟩
theorem okN_int {n : Nat} {i : Int} : okN n (.int i) := ⟨rfl, Nat.zero_le _⟩
theorem okN_bl {n : Nat} {i : Bool} : okN n (.bl i) := ⟨rfl, Nat.zero_le _⟩
theorem okN_non {n : Nat} : okN n .non := ⟨rfl, Nat.zero_le _⟩
theorem okN_str {n : Nat} {x : Str} (h : PyData.strOk x = true) : okN n (.str x) := ⟨h, Nat.zero_le _⟩
theorem lay_all : ∀ {ds : List D}, (∀ d ∈ ds, (py d).canLay0 = true) → PyData.canLayAll0 (pys ds) = true
  | [], _ => rfl
  | d :: ds, h => by
    show ((py d).canLay0 && PyData.canLayAll0 (pys ds)) = true
    rw [h d List.mem_cons_self, lay_all fun e he => h e (List.mem_cons_of_mem _ he)]; rfl
theorem depth_all {n : Nat} : ∀ {ds : List D}, (∀ d ∈ ds, (py d).depth ≤ n) → PyData.depthAll (pys ds) ≤ n
  | [], _ => Nat.zero_le _
  | d :: ds, h => Nat.max_le.mpr ⟨h d List.mem_cons_self, depth_all fun e he => h e (List.mem_cons_of_mem _ he)⟩
theorem okN_tup {n : Nat} {ds : List D} (h : ∀ d ∈ ds, okN n d) : okN (n + 1) (.tup ds) := ⟨lay_all fun d hd => (h d hd).1, Nat.succ_le_succ (depth_all fun d hd => (h d hd).2)⟩
theorem okN_lst {n : Nat} {ds : List D} (h : ∀ d ∈ ds, okN n d) : okN (n + 1) (.lst ds) := ⟨lay_all fun d hd => (h d hd).1, Nat.succ_le_succ (depth_all fun d hd => (h d hd).2)⟩
theorem okL_of {n : Nat} {ds : List D} (h : ∀ d ∈ ds, okN n d) : okL ds = true := lay_all fun d hd => (h d hd).1
theorem okN_map {α : Type} {f : α → D} {n : Nat} {l : List α} (h : ∀ a ∈ l, okN n (f a)) : ∀ d ∈ l.map f, okN n d := fun d hd => by
  obtain ⟨a, ha, rfl⟩ := List.mem_map.mp hd
  exact h a ha
/-! ### the same -/
mutual
def plD : D → Bool
  | .non => true
  | .int _ => true
  | .str _ => true
  | .tup xs => plDs xs
  | .lst xs => plDs xs
  | _ => false
def plDs : List D → Bool
  | [] => true
  | x :: xs => plD x && plDs xs
end
mutual
theorem eqv_iff : ∀ (a b : D), plD a = true → plD b = true → (PyData.eqv (py a) (py b) = true ↔ a = b)
  | .non, b, _, hb => by
    cases b with
    | non => exact ⟨fun _ => rfl, fun _ => rfl⟩
    | int _ | str _ | tup _ | lst _ => exact ⟨fun h => (nomatch h), fun h => (nomatch h)⟩
    | _ => cases hb
  | .int i, b, _, hb => by
    cases b with
    | int j => exact ⟨fun h => congrArg D.int (beq_iff_eq.mp h), fun h => by cases h; exact beq_self_eq_true i⟩
    | non | str _ | tup _ | lst _ => exact ⟨fun h => (nomatch h), fun h => (nomatch h)⟩
    | _ => cases hb
  | .str i, b, _, hb => by
    cases b with
    | str j => exact ⟨fun h => congrArg D.str (beq_iff_eq.mp h), fun h => by cases h; exact beq_self_eq_true i⟩
    | non | int _ | tup _ | lst _ => exact ⟨fun h => (nomatch h), fun h => (nomatch h)⟩
    | _ => cases hb
  | .tup xs, b, ha, hb => by
    cases b with
    | tup ys => exact ⟨fun h => congrArg D.tup ((eqvs_iff xs ys ha hb).mp h), fun h => by cases h; exact (eqvs_iff xs xs ha hb).mpr rfl⟩
    | non | int _ | str _ | lst _ => exact ⟨fun h => (nomatch h), fun h => (nomatch h)⟩
    | _ => cases hb
  | .lst xs, b, ha, hb => by
    cases b with
    | lst ys => exact ⟨fun h => congrArg D.lst ((eqvs_iff xs ys ha hb).mp h), fun h => by cases h; exact (eqvs_iff xs xs ha hb).mpr rfl⟩
    | non | int _ | str _ | tup _ => exact ⟨fun h => (nomatch h), fun h => (nomatch h)⟩
    | _ => cases hb
theorem eqvs_iff : ∀ (xs ys : List D), plDs xs = true → plDs ys = true → (PyData.eqvAll (pys xs) (pys ys) = true ↔ xs = ys)
  | [], [], _, _ => ⟨fun _ => rfl, fun _ => rfl⟩
  | [], _ :: _, _, _ => ⟨fun h => (nomatch h), fun h => (nomatch h)⟩
  | _ :: _, [], _, _ => ⟨fun h => (nomatch h), fun h => (nomatch h)⟩
  | x :: xs, y :: ys, ha, hb => by
    have ha' : (plD x && plDs xs) = true := ha
    have hb' : (plD y && plDs ys) = true := hb
    rw [Bool.and_eq_true] at ha' hb'
    show (PyData.eqv (py x) (py y) && PyData.eqvAll (pys xs) (pys ys)) = true ↔ _
    rw [Bool.and_eq_true, eqv_iff x y ha'.1 hb'.1, eqvs_iff xs ys ha'.2 hb'.2, List.cons.injEq]
end
theorem eqB_iff {a b : D} (ha : plD a = true) (hb : plD b = true) : eqB a b = true ↔ a = b := eqv_iff a b ha hb
theorem plDs_all : ∀ {ds : List D}, plDs ds = true ↔ ∀ d ∈ ds, plD d = true
  | [] => by simp [plDs]
  | d :: ds => by simp [plDs, plDs_all (ds := ds)]
/-- a plain way of standing for things: told apart as the things are -/
structure Told {α : Type} (f : α → D) : Prop where
  pl : ∀ a, plD (f a) = true
  inj : ∀ a b, f a = f b → a = b
theorem Told.eqB {α : Type} [DecidableEq α] {f : α → D} (h : Told f) (a b : α) : eqB (f a) (f b) = decide (a = b) := by
  by_cases e : a = b
  · subst e; simp [(eqB_iff (h.pl a) (h.pl a)).mpr rfl]
  · rw [decide_eq_false e]
    cases q : Dz.eqB (f a) (f b) with
    | false => rfl
    | true => exact absurd (h.inj a b ((eqB_iff (h.pl a) (h.pl b)).mp q)) e
theorem told_str : Told D.str := ⟨fun _ => rfl, fun _ _ h => by cases h; rfl⟩
theorem told_int : Told D.int := ⟨fun _ => rfl, fun _ _ h => by cases h; rfl⟩
theorem map_inj {α β : Type} {f : α → β} (h : ∀ a b, f a = f b → a = b) : ∀ {xs ys : List α}, xs.map f = ys.map f → xs = ys
  | [], [], _ => rfl
  | [], _ :: _, e => by cases e
  | _ :: _, [], e => by cases e
  | x :: xs, y :: ys, e => by
    rw [List.map_cons, List.map_cons, List.cons.injEq] at e
    rw [h _ _ e.1, map_inj h e.2]
theorem Told.tup {α : Type} {f : α → D} (h : Told f) : Told fun xs : List α => D.tup (xs.map f) := ⟨fun xs => plDs_all.mpr fun d hd => by
  obtain ⟨a, _, rfl⟩ := List.mem_map.mp hd
  exact h.pl a, fun a b e => map_inj h.inj (D.tup.inj e)⟩
theorem Told.lst {α : Type} {f : α → D} (h : Told f) : Told fun xs : List α => D.lst (xs.map f) := ⟨fun xs => plDs_all.mpr fun d hd => by
  obtain ⟨a, _, rfl⟩ := List.mem_map.mp hd
  exact h.pl a, fun a b e => map_inj h.inj (D.lst.inj e)⟩
theorem told_row : Told rowD := told_int.tup
theorem Told.two {α β : Type} {f : α → D} {g : β → D} (h : Told f) (k : Told g) : Told fun p : α × β => D.tup [f p.1, g p.2] := ⟨fun p => by simp [plD, plDs, h.pl, k.pl], fun a b e => by
  have := D.tup.inj e
  simp at this
  exact Prod.ext (h.inj _ _ this.1) (k.inj _ _ this.2)⟩
section
variable {α : Type} [DecidableEq α] {f : α → D} {x : α} {l : List α} {n : Nat}
theorem any_eqB (h : Told f) : ((l.map f).any fun z => eqB z (f x)) = decide (x ∈ l) := by
  induction l with
  | nil => simp
  | cons y l ih =>
    rw [List.map_cons, List.any_cons, ih, h.eqB]
    by_cases e : y = x
    · subst e; simp
    · have : ¬ x = y := fun z => e z.symm
      simp [e, this]
theorem inB_lst {d : D} {ds : List D} (h1 : okD d = true) (h2 : okD (.lst ds) = true) : inB d (.lst ds) = some (ds.any fun z => eqB z d) := by
  have : (if okD d = true ∧ okD (.lst ds) = true then some (ds.any fun z => eqB z d) else none) = some (ds.any fun z => eqB z d) := if_pos ⟨h1, h2⟩
  cases d <;> exact this
theorem inB_tup {d : D} {ds : List D} (h1 : okD d = true) (h2 : okD (.tup ds) = true) : inB d (.tup ds) = some (ds.any fun z => eqB z d) := by
  have : (if okD d = true ∧ okD (.tup ds) = true then some (ds.any fun z => eqB z d) else none) = some (ds.any fun z => eqB z d) := if_pos ⟨h1, h2⟩
  cases d <;> exact this
theorem inD_lst (h : Told f) (hx : okN n (f x)) (hl : ∀ a ∈ l, okN n (f a)) (hn : n ≤ 63 := by omega) : inD (f x) (.lst (l.map f)) = some (.frz (.bl (decide (x ∈ l)))) := by
  rw [inD, inB_lst (hx.d (by omega)) ((okN_lst (okN_map hl)).d (by omega)), any_eqB h]; rfl
theorem inD_tup (h : Told f) (hx : okN n (f x)) (hl : ∀ a ∈ l, okN n (f a)) (hn : n ≤ 63 := by omega) : inD (f x) (.tup (l.map f)) = some (.frz (.bl (decide (x ∈ l)))) := by
  rw [inD, inB_tup (hx.d (by omega)) ((okN_tup (okN_map hl)).d (by omega)), any_eqB h]; rfl
theorem ninD_lst (h : Told f) (hx : okN n (f x)) (hl : ∀ a ∈ l, okN n (f a)) (hn : n ≤ 63 := by omega) : ninD (f x) (.lst (l.map f)) = some (.frz (.bl (!decide (x ∈ l)))) := by
  rw [ninD, inB_lst (hx.d (by omega)) ((okN_lst (okN_map hl)).d (by omega)), any_eqB h]; rfl
theorem ninD_tup (h : Told f) (hx : okN n (f x)) (hl : ∀ a ∈ l, okN n (f a)) (hn : n ≤ 63 := by omega) : ninD (f x) (.tup (l.map f)) = some (.frz (.bl (!decide (x ∈ l)))) := by
  rw [ninD, inB_tup (hx.d (by omega)) ((okN_tup (okN_map hl)).d (by omega)), any_eqB h]; rfl
theorem findD_told (h : Told f) : findD (l.map f) (f x) = l.findIdx? fun z => decide (z = x) := by
  unfold findD
  induction l with
  | nil => rfl
  | cons y l ih => simp only [List.map_cons, List.findIdx?_cons, h.eqB, ih]
/-- where it stands first -/
theorem find_mem (h : Told f) (hm : x ∈ l) : ∃ j, findD (l.map f) (f x) = some j ∧ l[j]? = some x ∧ j < l.length := by
  rw [findD_told h]
  cases q : l.findIdx? (fun z => decide (z = x)) with
  | none =>
    have := List.findIdx?_eq_none_iff.mp q x hm
    simp at this
  | some j =>
    obtain ⟨hl, h1, h2⟩ := List.findIdx?_eq_some_iff_getElem.mp q
    exact ⟨j, rfl, by rw [List.getElem?_eq_getElem hl, of_decide_eq_true h1], hl⟩
theorem map_eraseIdx' {β : Type} {g : α → β} : ∀ (l : List α) (j : Nat), (l.map g).eraseIdx j = (l.eraseIdx j).map g
  | [], _ => rfl
  | _ :: _, 0 => rfl
  | a :: l, j + 1 => by rw [List.map_cons, List.eraseIdx_cons_succ, List.eraseIdx_cons_succ, List.map_cons, map_eraseIdx' l j]
theorem idxL_ok (h : Told f) (hx : okN n (f x)) (hl : ∀ a ∈ l, okN n (f a)) (hm : x ∈ l) (hn : n ≤ 64 := by omega) : ∃ j : Nat, idxLD [f x] (.lst (l.map f)) = some (.frz (.int j)) ∧ l[j]? = some x ∧ j < l.length := by
  obtain ⟨j, e, g⟩ := find_mem h hm
  refine ⟨j, ?_, g⟩
  show (if okL (l.map f) = true ∧ okD (f x) = true then (findD (l.map f) (f x)).map fun j => R.frz (.int (j : Nat)) else none) = _
  rw [if_pos ⟨okL_of (okN_map hl), hx.d hn⟩, e]; rfl
theorem idxT_ok (h : Told f) (hx : okN n (f x)) (hl : ∀ a ∈ l, okN n (f a)) (hm : x ∈ l) (hn : n ≤ 64 := by omega) : ∃ j : Nat, idxTD [f x] (.tup (l.map f)) = some (.frz (.int j)) ∧ l[j]? = some x ∧ j < l.length := by
  obtain ⟨j, e, g⟩ := find_mem h hm
  refine ⟨j, ?_, g⟩
  show (if okL (l.map f) = true ∧ okD (f x) = true then (findD (l.map f) (f x)).map fun j => R.frz (.int (j : Nat)) else none) = _
  rw [if_pos ⟨okL_of (okN_map hl), hx.d hn⟩, e]; rfl
theorem rem_ok (h : Told f) (hx : okN n (f x)) (hl : ∀ a ∈ l, okN n (f a)) (hm : x ∈ l) (hn : n ≤ 64 := by omega) : ∃ j : Nat, remD [f x] (.lst (l.map f)) = some (.lst ((l.eraseIdx j).map f), .non) ∧ l[j]? = some x ∧ j < l.length := by
  obtain ⟨j, e, g⟩ := find_mem h hm
  refine ⟨j, ?_, g⟩
  show (if okL (l.map f) = true ∧ okD (f x) = true then (findD (l.map f) (f x)).map fun j => (D.lst ((l.map f).eraseIdx j), D.non) else none) = _
  rw [if_pos ⟨okL_of (okN_map hl), hx.d hn⟩, e, ← map_eraseIdx']; rfl
end
theorem atI_mem {α : Type} {xs : List α} {i : Int} (h0 : 0 ≤ i) (h1 : i < xs.length) : ∃ x, L2.atI xs i = some x ∧ x ∈ xs ∧ xs[i.toNat]? = some x := by
  obtain ⟨k, rfl⟩ : ∃ k : Nat, i = k := ⟨i.toNat, by omega⟩
  have hk : k < xs.length := by omega
  refine ⟨xs[k], ?_, List.getElem_mem hk, List.getElem?_eq_getElem hk⟩
  rw [L2.atI, L2.ixN, if_pos h0, if_pos h1]
  exact List.getElem?_eq_getElem hk
theorem rangeL_cons {lo : Int} {n : Nat} : rangeL lo (n + 1) = .int lo :: rangeL (lo + 1) n := by
  unfold rangeL
  rw [List.range_succ_eq_map, List.map_cons, List.map_map]
  rw [show lo + ((0 : Nat) : Int) = lo by omega]
  refine congrArg (List.cons _) (List.map_congr_left fun i _ => ?_)
  show D.int (lo + ((i + 1 : Nat) : Int)) = D.int (lo + 1 + (i : Nat))
  rw [show lo + ((i + 1 : Nat) : Int) = lo + 1 + (i : Nat) by omega]
theorem rangeL_zero {lo : Int} : rangeL lo 0 = [] := rfl
theorem rangeL_inv {lo : Int} {n : Nat} {d : D} {ds : List D} (h : d :: ds = rangeL lo n) : d = .int lo ∧ ∃ m, n = m + 1 ∧ ds = rangeL (lo + 1) m := by
  cases n with
  | zero => cases h
  | succ m =>
    rw [rangeL_cons] at h
    cases h
    exact ⟨rfl, m, rfl, rfl⟩
end Dz
/-! Dz 32: a text once or not at all; the signs of a text into names. -/
namespace Dz
open PySem PySem.Spec PyProof.Rows L2
/-! ### text times a number not above one -/
theorem op_mulS {X : Cx} : OpR X (binaryOp .Mult) (fun x y H Q => ∃ z k, x = V.str z ∧ y = V.int k ∧ -(2 ^ 63) ≤ k ∧ k ≤ 1 ∧ Q (.str (if k < 1 then Str.empty else z)) H) := by
  intro pins s σ H x y v u Q I rx ry h
  obtain ⟨z, k, rfl, rfl, h0, h1, q⟩ := h
  obtain ⟨t, rfl⟩ := rx
  obtain ⟨t', rfl⟩ := ry
  by_cases c : k < 1
  · rw [if_pos c] at q
    exact PySem.P.mul_str_none c (by omega) ⟨.str Str.empty, H, I.tok _, ⟨_, rfl⟩, q⟩
  · rw [if_neg c] at q
    have hk : k = 1 := by omega
    subst hk
    refine PySem.P.mul_str (by decide) (fun _ z => ?_) (fun _ z => ?_) ?_
    · exact nomatch z
    · exact nomatch z
    · rw [if_neg c, if_pos (by rfl)]
      exact ⟨.str z, H, I, ⟨_, rfl⟩, q⟩
def mulSD : D → D → Option R
  | .str x, .int k => if -(2 ^ 63) ≤ k ∧ k ≤ 1 then some (.frz (.str (if k < 1 then Str.empty else x))) else none
  | _, _ => none
theorem vr_mulS : VR2 (fun x y H Q => ∃ z k, x = V.str z ∧ y = V.int k ∧ -(2 ^ 63) ≤ k ∧ k ≤ 1 ∧ Q (.str (if k < 1 then Str.empty else z)) H) mulSD := by
  intro mg W B σ H ρ x y a b res Q s hx hy hg hq
  unfold mulSD at hg
  split at hg
  · split at hg
    · rename_i hz
      cases hg
      exact ⟨_, _, hx.str, hy.int, hz.1, hz.2, hq W H _ Fr.refl ⟨s, rfl⟩⟩
    · cases hg
  · cases hg
theorem de_mulS {X : Cx} {Wx : WX} {a b : Expr} {o1 o2 : Opd} {pos : Pos} (h1 : DO X Wx a o1) (h2 : DO X Wx b o2) : DE X Wx (.BinOp a .Mult b pos) (f2 o1 o2 mulSD) := de_bin op_mulS vr_mulS h1 h2
/-! ### the signs of a text -/
section
variable {prog : Program} {w : World} {A : Around} {E : Value → Shared → Prop} {s : Shared}
def SgAt (x : Str) (i : Nat) (vs : List Value) : Prop := ∀ j v, vs[j]? = some v → SignAt x (i + j) v
theorem draw_walk {it : Addr} {x : Str} {St : Nat → Heap → Prop} (W : Walks prog w A it [it] [it] x.cps.size (SignAt x) St) : ∀ (n i : Nat) (s : Shared) (Q : List Value → Shared → Prop), St i s.heap → i + n ≤ x.cps.size →
    (∀ vs h' tk, SgAt x i vs → vs.length = n → St (i + n) h' → (∀ b o, b ≠ it → s.heap.get? b = some o → h'.get? b = some o) → Q vs { s with heap := h', toks := tk }) → wpAny (model prog w) A (draw (.ref it) n) Q E s
  | 0, i, s, Q, hs, _, hQ => by
    show wpAny _ _ (pure []) Q E s
    exact wpAny_pure (hQ [] s.heap s.toks (fun j v e => nomatch e) rfl hs fun _ _ _ e => e)
  | n + 1, i, s, Q, hs, hle, hQ => by
    show wpAny _ _ (pyNext (.ref it) >>= _) Q E s
    refine wpAny_bind (W.item i s _ _ (by omega) hs fun v h1 tk1 hv st1 k1 => ?_)
    refine wpAny_bind (wpAny_holding (draw_walk W n (i + 1) { s with heap := h1, toks := tk1 } _ st1 (by omega) fun vs h2 tk2 hvs hl st2 k2 => wpAny_pure ?_))
    refine hQ (v :: vs) h2 tk2 (fun j u e => ?_) (by rw [List.length_cons, hl]) (by rw [show i + (n + 1) = i + 1 + n by omega]; exact st2) fun b o hb e => k2 b o hb (k1 b o (by simpa using hb) e)
    cases j with
    | zero => cases e; exact hv
    | succ j =>
      have := hvs j u e
      rw [show i + (j + 1) = i + 1 + j by omega]
      exact this
theorem items_walk {x : Str} {t : Tok} {Q : List Value → Shared → Prop} (hh : A.handled = none)
    (hQ : ∀ vs h' tk, SgAt x 0 vs → vs.length = x.cps.size → (∀ b o, s.heap.get? b = some o → h'.get? b = some o) → Q vs { s with heap := h', toks := tk }) : wpAny (model prog w) A (unpackItems (.str x t) x.cps.size none) Q E s := by
  unfold unpackItems
  refine wpAny_bind ?_
  unfold notIterableAtAll
  refine wpAny_bind (wpAny_specialOf (typeIs_str s x t) F.slot_str_iter.lookup ?_)
  refine wpAny_pure ?_
  simp only [Bool.false_eq_true, if_false]
  have go : ∀ (ty : String), (ty = "str_ascii_iterator" ∨ ty = "str_iterator") → wpAny (model prog w) A (do
      let items ← holding [Value.ref s.heap.objs.size] (draw (.ref s.heap.objs.size) x.cps.size)
      if items.length < x.cps.size then
        rule "unpack.too-few"; raiseError "ValueError" s!"not enough values to unpack (expected {x.cps.size}, got {items.length})"
      if (← holding items (pyNext (.ref s.heap.objs.size))).isSome then
        rule "unpack.too-many"; raiseError "ValueError" s!"too many values to unpack (expected {x.cps.size})"
      return items) Q E { s with heap := s.heap.push { cls := .type ty, data := .fields #[.str x t, .int 0 0] } } := by
    intro ty hty
    have W : Walks prog w A s.heap.objs.size [s.heap.objs.size] [s.heap.objs.size] x.cps.size (SignAt x) (fun i h => h.IsStrIter s.heap.objs.size ty x t i) := by
      rcases hty with e | e
      · rw [e]; exact Walks.strAscii hh _ x t
      · rw [e]; exact Walks.strWide hh _ x t
    refine wpAny_bind (wpAny_holding (draw_walk W x.cps.size 0 _ _ ⟨_, Heap.get?_push_size _ rfl, rfl, rfl⟩ (by omega) fun vs h1 tk1 hvs hl st1 k1 => ?_))
    rw [if_neg (by omega)]
    refine wpAny_bind (wpAny_holding (W.done _ _ _ (by rw [Nat.zero_add] at st1; exact st1) fun h2 tk2 k2 => ?_))
    simp only [Option.isSome_none, Bool.false_eq_true, if_false]
    refine wpAny_pure (hQ vs h2 tk2 hvs hl fun b o e => ?_)
    have hb : b ≠ s.heap.objs.size := Nat.ne_of_lt (Heap.lt_size e)
    exact k2 b o (by simpa using hb) (k1 b o hb (Heap.get?_push_of_some _ e))
  cases ha : x.cps.all (· < 128)
  · exact wpAny_bind (wpAny_holding (wpAny_pyIter_wide ha (go _ (.inr rfl))))
  · exact wpAny_bind (wpAny_holding (wpAny_pyIter_ascii ha (go _ (.inl rfl))))
end
theorem vals_sg : ∀ (cs : List Nat) (us : List Value), cs.length = us.length → (∀ (j : Nat) (u : Value), us[j]? = some u → ∃ (c : Nat) (t : Tok), cs[j]? = some c ∧ u = Value.str ⟨#[c]⟩ t) → Vals (cs.map fun c => V.str ⟨#[c]⟩) us
  | [], [], _, _ => .nil
  | [], _ :: _, hl, _ => by cases hl
  | _ :: _, [], hl, _ => by cases hl
  | c :: cs, u :: us, hl, h => by
    have h0 := h 0 u rfl
    obtain ⟨c', t, e, eu⟩ := h0
    have ec : c = c' := Option.some.inj e
    subst ec
    subst eu
    exact .cons ⟨t, rfl⟩ (vals_sg cs us (by simpa using hl) fun j v e => h (j + 1) v e)
theorem vals_signs {x : Str} {vs : List Value} (h : SgAt x 0 vs) (hl : vs.length = x.cps.size) : Vals (x.cps.toList.map fun c => V.str ⟨#[c]⟩) vs := by
  refine vals_sg _ _ (by rw [hl]; simp) fun j u e => ?_
  obtain ⟨c, t, e1, e2⟩ := h j u e
  exact ⟨c, t, by rw [Nat.zero_add] at e1; simpa using e1, e2⟩
def gStr (n : Nat) (t : TGs) : TG := fun v σ H Q => ∃ x, v = .str x ∧ x.cps.size = n ∧ t (x.cps.toList.map fun c => V.str ⟨#[c]⟩) σ H Q
theorem pg_str {X : Cx} {es : List Expr} {k : Nat} {t : TGs} {n : Nat} {pos : Pos} (hc : X.calm = true) (h : PGs X es t)
    (hn : (assignEach es X.env).length = n := by rfl) (hst : (assignEach es X.env).findIdx? (·.1) = none := by rfl) : PG X (.Tuple es k pos) (gStr n t) := by
  refine ⟨fun pins s σ H v u Q I r hw => ?_⟩
  obtain ⟨x, e1, hl, hw⟩ := hw
  subst e1
  obtain ⟨tk, rfl⟩ := r
  rw [PyProof.Rows.assign_Tuple]
  refine wpAny_bind (wpAny_standAt ?_)
  unfold unpack
  rw [hn, hst, ← hl]
  refine wpAny_bind (wpAny_holding (items_walk (I.ok.hd hc) fun vs h' tk' hvs hl' kp => ?_))
  have I1 : Inv X pins σ H { s with heap := h', toks := tk' } := I.kept kp
  exact h.run pins _ σ H _ _ Q I1 (vals_signs hvs hl') hw
def strTup : D → Option D
  | .str x => some (.tup (strsOf x))
  | _ => none
def sUnpS (ts : List Tg) (fe : M R) : M Fl := mbind fe fun r => mbind (mopt (strTup r.d)) fun d => mbind (setTg (.tp ts) d) fun _ => mret .next
theorem reps_signs {N : AP mg} {H : Hp} (x : Str) : Reps N H (strsOf x) (x.cps.toList.map fun c => V.str ⟨#[c]⟩) := by
  unfold strsOf
  induction x.cps.toList with
  | nil => rfl
  | cons c cs ih => exact ⟨_, _, rfl, rfl, ih⟩
theorem ds_unpS {X : Cx} {Wx : WX} {es : List Expr} {ts : List Tg} {k : Nat} {pt pos : Pos} {e : Expr} {fe : M R} (hc : X.calm = true) (hg : DGs X es ts) (he : DE X Wx e fe) (hn : (assignEach es X.env).length = ts.length := by rfl) (hst : (assignEach es X.env).findIdx? (·.1) = none := by rfl)
    (hs : swapsWithSole [Expr.Tuple es k pt] e pos.line X.env = pure false := by rfl) (hw : swappedStores [Expr.Tuple es k pt] e X.env = pure none := by rfl)
    (h1 : (assignEach [Expr.Tuple es k pt] X.env).map (·.2) = [assign (Expr.Tuple es k pt) X.env] := by rfl) : DS X Wx (.Assign [Expr.Tuple es k pt] e pos) (sUnpS ts fe) := by
  refine ⟨ps_imp (ps_asg he.pe (pg_str (n := ts.length) hc hg.pgs hn hst) hs hw h1) fun D σ H ⟨W, B, ρ, s, a⟩ => ⟨W, B, ρ, s, (a.bindE fun r => evo_bind (evo_opt _) fun d => evo_unp).mono fun W1 H1 r ρ1 _ _ a1 v hv => ?_⟩, evo_bind he.evo fun r => evo_bind (evo_opt _) fun d => evo_unp⟩
  obtain ⟨W0, hW, s0, r0⟩ := hv.any
  generalize r.d = d at a1 r0
  unfold mbind mopt at a1
  cases d with
  | str x =>
    have ev : v = V.str x := r0
    subst ev
    have a1 : AfterS X.mg Wx W1 B σ H1 (mbind (setTg (.tp ts) (.tup (strsOf x))) (fun _ => mret Fl.next) ρ1) _ := a1
    unfold mbind at a1
    cases q : setTg (.tp ts) (.tup (strsOf x)) ρ1 with
    | none => rw [q] at a1; exact a1.elim
    | some y =>
      obtain ⟨ρ2, q2, ex⟩ := setTg_case q
      rw [q, ex] at a1
      have q3 : setTgs ts (strsOf x) ρ1 = some (.ok () ρ2) := q2
      obtain ⟨hl, g⟩ := setTgs_ok (K := X.K) ts (strsOf x) q3 s0 (reps_signs x) fun σ' s' k => a1 W0 σ' H1 (.less hW) k s'
      refine ⟨x, rfl, ?_, g⟩
      rw [← hl]; simp
  | _ => exact a1.elim
end Dz
/-! Dz 33: laws of methods that only look. -/
namespace Dz
open PySem
section
variable {ρ : Env} {k : D → Bool} {i hi : Nat} {f : M R} {os : List Opd} {fs : List (M R)} {g : List D → D → Option R}
@[simp ↓] theorem ok_needK {Q : Unit → Env → Prop} : Ok (needK k i) ρ Q ↔ sN (contAt ρ i) fun d => k d = true ∧ Q () ρ := by
  unfold Ok Ok0 needK
  cases h : contAt ρ i with
  | none => simp
  | some d =>
    rw [sN_some]
    by_cases hk : k d = true
    · simp only [hk, if_true, true_and]
      exact ⟨fun ⟨_, _, e, q⟩ => by cases e; exact q, fun q => ⟨(), ρ, rfl, q⟩⟩
    · simp [hk]
@[simp ↓] theorem ok_fMeth_sl {Q : R → Env → Prop} : Ok (fMeth k (.sl i) os g) ρ Q ↔ Ok (needK k i) ρ fun _ ρ1 => Ok (evs os) ρ1 fun ds ρ2 => sN (contAt ρ2 i) fun d => sN (g ds d) fun r => Q r ρ2 := by
  show Ok (mbind (mbind (needK k i) fun _ => mbind (evs os) fun ds => getSl i ds) fun ds => mopt (gA g ds)) ρ Q ↔ _
  rw [ok_bind, ok_bind]
  constructor
  · exact fun h => h.mono fun _ ρ1 h => (ok_bind.mp h).mono fun ds ρ2 h => by
      obtain ⟨a, ρ', e, q⟩ := h
      unfold getSl at e
      cases hc : contAt ρ2 i with
      | none => rw [hc] at e; cases e
      | some d =>
        rw [hc] at e
        cases e
        obtain ⟨r, er, q⟩ := ok_opt.mp q
        exact ⟨d, rfl, r, er, q⟩
  · exact fun h => h.mono fun _ ρ1 h => ok_bind.mpr (h.mono fun ds ρ2 h => by
      obtain ⟨d, ed, r, er, q⟩ := h
      exact ⟨d :: ds, ρ2, by unfold getSl; rw [ed], ok_opt.mpr ⟨r, er, q⟩⟩)
@[simp ↓] theorem ok_fMeth_ev {Q : R → Env → Prop} : Ok (fMeth k (.ev f) os g) ρ Q ↔ Ok f ρ fun r0 ρ1 => k r0.d = true ∧ Ok (evs os) ρ1 fun ds ρ2 => sN (g ds r0.d) fun r => Q r ρ2 := by
  show Ok (mbind (mbind f fun r => mbind (mopt (if k r.d = true then some () else none)) fun _ => mbind (evs os) fun ds => mret (r.d :: ds)) fun ds => mopt (gA g ds)) ρ Q ↔ _
  rw [ok_bind, ok_bind]
  constructor
  · exact fun h => h.mono fun r ρ1 h => by
      obtain ⟨u, eu, h⟩ := ok_opt.mp (ok_bind.mp h)
      by_cases hk : k r.d = true
      · exact ⟨hk, (ok_bind.mp h).mono fun ds ρ2 h => ok_opt.mp (ok_ret.mp h)⟩
      · rw [if_neg hk] at eu; cases eu
  · exact fun h => h.mono fun r ρ1 h => ok_bind.mpr (ok_opt.mpr ⟨(), if_pos h.1, ok_bind.mpr (h.2.mono fun ds ρ2 h => ok_ret.mpr (ok_opt.mpr h))⟩)
@[simp] theorem isSq_lst {ds : List D} : isSq (.lst ds) = true := rfl
@[simp] theorem isTu_tup {ds : List D} : isTu (.tup ds) = true := rfl
@[simp ↓] theorem ok_fTru {o : Opd} {Q : Bool → Env → Prop} : Ok (fTru o) ρ Q ↔ Ok (evs [o]) ρ fun ds ρ' => sN (tru1 ds) fun b => Q b ρ' := by
  unfold fTru
  rw [ok_bind]
  exact ⟨fun h => h.mono fun ds ρ' h => ok_opt.mp h, fun h => h.mono fun ds ρ' h => ok_opt.mpr h⟩
@[simp] theorem tru1_bl {b : Bool} : tru1 [.bl b] = some b := rfl
@[simp] theorem tru1_int {i : Int} : tru1 [.int i] = some (i != 0) := rfl
@[simp] theorem tru1_lst {xs : List D} : tru1 [.lst xs] = some (!xs.isEmpty) := rfl
@[simp] theorem tru1_tup {xs : List D} : tru1 [.tup xs] = some (!xs.isEmpty) := rfl
end
end Dz
/-! Dz 35: zip and enumerate over lists and tuples alike. -/
namespace Dz
open PySem PySem.Spec PyProof.Rows L2
/-- a list (false) or a tuple (true) -/
def SqK (t : Bool) (K : PySem.W.Frag) (H : Hp) (a : Addr) (xs : List V) : Prop := match t with
  | true => SqT K H a xs
  | false => SqL K H a xs
def KIt (t : Bool) (h : Heap) (it a : Addr) (i : Nat) : Prop := match t with
  | true => h.IsTupleIter it a i
  | false => h.IsListIter it a i
def itObj (t : Bool) (a : Addr) : Obj := match t with
  | true => { cls := .type "tuple_iterator", data := .fields #[.ref a, .int 0 0] }
  | false => { cls := .type "list_iterator", data := .fields #[.ref a, .int 0 0] }
section
variable {X : Cx} {pins : List (Addr × Obj)} {σ : L2.St} {H : Hp} {s : Shared} {t : Bool} {a it : Addr} {xs ys : List V} {i : Nat}
theorem SqK.inj (I : Inv X pins σ H s) (h : SqK t X.K H a xs) (k : SqK t X.K H a ys) : xs = ys := by
  cases t with
  | true => exact I.tuple_inj h k
  | false => exact I.list_inj h k
theorem KIt.cell {h : Heap} (x : KIt t h it a i) : ∃ o, h.get? it = some o ∧ ∀ v, o.data ≠ .cell v := by
  cases t with
  | true => obtain ⟨o, e, _, d⟩ := x; exact ⟨o, e, fun v q => by rw [d] at q; cases q⟩
  | false => obtain ⟨o, e, _, d⟩ := x; exact ⟨o, e, fun v q => by rw [d] at q; cases q⟩
theorem KIt.at {h h' : Heap} (x : KIt t h it a i) (k : ∀ o, h.get? it = some o → h'.get? it = some o) : KIt t h' it a i := by
  cases t with
  | true => exact Heap.IsTupleIter.at x k
  | false => exact Heap.IsListIter.at x k
theorem KIt.of {h : Heap} (e : h.get? it = some (itObj t a)) : KIt t h it a 0 := by
  cases t with
  | true => exact ⟨_, e, rfl, rfl⟩
  | false => exact ⟨_, e, rfl, rfl⟩
theorem SqK.begins (I : Inv X pins σ H s) (h : SqK t X.K H a xs) : ∃ HB, Begins (.ref a) (itObj t a) HB ∧ HB s.heap ∧ a < s.heap.objs.size := by
  cases t with
  | true =>
    obtain ⟨its, r, p, z⟩ := I.tuple h
    obtain ⟨o, ho, _⟩ := id p
    exact ⟨_, begins_tuple a its.toArray, p, Heap.lt_size ho⟩
  | false =>
    obtain ⟨its, r, p, z⟩ := I.list h
    exact ⟨_, begins_list a its.toArray, p.isList, p.lt⟩
theorem SqK.draws (I : Inv X pins σ H s) (h : SqK t X.K H a xs) (x : KIt t s.heap it a i) (hne : a ≠ it) : ∃ (its : List Value) (S : Nat → Heap → Prop), Vals xs its ∧ (∀ A : Around, A.handled = none → Draws X.prog X.w A it [it, a] its.length (fun i v => its[i]? = some v) S) ∧ S i s.heap ∧ ∀ j h', S j h' → KIt t h' it a j := by
  cases t with
  | true =>
    obtain ⟨its, r, p, z⟩ := I.tuple h
    refine ⟨its, fun j h => h.IsTupleIter it a j ∧ h.IsTuple a its.toArray, r, fun A hh => ?_, ⟨x, p⟩, fun j h' q => q.1⟩
    have := Draws.tuple (prog := X.prog) (w := X.w) hh it a hne its.toArray
    simpa using this
  | false =>
    obtain ⟨its, r, p, z⟩ := I.list h
    refine ⟨its, fun j h => h.IsListIter it a j ∧ h.IsList a its.toArray, r, fun A hh => ?_, ⟨x, p.isList⟩, fun j h' q => q.1⟩
    have := Draws.list (prog := X.prog) (w := X.w) hh it a hne its.toArray
    simpa using this
end
theorem vals_at {xs : List V} {its : List Value} {i : Nat} {x : V} {u : Value} (r : Vals xs its) (h1 : xs[i]? = some x) (h2 : its[i]? = some u) : RelV x u := by
  obtain ⟨u', e, q⟩ := r.get h1
  rw [h2] at e
  cases e
  exact q
/-- the two as they stand at each turn, the items in new pairs, N turns -/
def ItzA (K : PySem.W.Frag) (k1 k2 : Bool) (a b : Addr) (N : Nat) : It :=
  ⟨fun i H => i < N ∧ ∃ (xs ys : List V) (x y : V), SqK k1 K H a xs ∧ SqK k2 K H b ys ∧ xs[i]? = some x ∧ ys[i]? = some y,
    fun i H v H' => ∃ T x y, v = .ref T ∧ H T = none ∧ H' = upd H T (.tup [x, y]) ∧ (∀ xs, SqK k1 K H a xs → xs[i]? = some x) ∧ ∀ ys, SqK k2 K H b ys → ys[i]? = some y,
    fun i H => N ≤ i ∧ ∃ xs ys : List V, SqK k1 K H a xs ∧ SqK k2 K H b ys ∧ min xs.length ys.length = N⟩
theorem turn_zipA {P : Program} {w : World} {K : PySem.W.Frag} {elts : List Expr} {kk : Nat} {tpos : Pos} {k1 k2 : Bool} {a b z TI TO i1 i2 : Addr} {N : Nat} (D : ZipSep2 z TI TO i1 i2 [i1, a] [i2, b]) :
    Turn P w K (.Tuple elts kk tpos) (ItzA K k1 k2 a b N) [z, TI, TO, i1, i2] z (fun i h => IsZip h z TI TO .none ∧ IsPair h TI (.ref i1) (.ref i2) ∧ (∃ x y, IsPair h TO x y) ∧ KIt k1 h i1 a i ∧ KIt k2 h i2 b i ∧ a ≠ i1 ∧ b ≠ i2 ∧ i ≤ N) where
  mem := by simp
  obj := fun i h st c hc => by
    obtain ⟨hz, hTI, ⟨x, y, hTO⟩, h1, h2, _⟩ := st
    have e' : c = z ∨ c = TI ∨ c = TO ∨ c = i1 ∨ c = i2 := by simpa using hc
    rcases e' with q | q | q | q | q
    · rw [q]; exact ⟨_, hz, fun v q => nomatch q⟩
    · rw [q]; exact ⟨_, hTI, fun v q => nomatch q⟩
    · rw [q]; exact ⟨_, hTO, fun v q => nomatch q⟩
    · rw [q]; exact h1.cell
    · rw [q]; exact h2.cell
  keep := fun i h h' st k => by
    obtain ⟨hz, hTI, ⟨x, y, hTO⟩, h1, h2, r⟩ := st
    exact ⟨k z (by simp) _ hz, k TI (by simp) _ hTI, ⟨x, y, k TO (by simp) _ hTO⟩, h1.at fun o q => k i1 (by simp) o q, h2.at fun o q => k i2 (by simp) o q, r⟩
  item := by
    intro X hP hw hK hc i pins s σ H E I hf st hg
    subst hP hw hK
    obtain ⟨hz, hTI, ⟨x0, y0, hTO⟩, h1, h2, ne1, ne2, hle⟩ := st
    obtain ⟨hlt, xs, ys, x, y, hqx, hqy, hx, hy⟩ := hg
    obtain ⟨its, S1, rv, D1, st1, back1⟩ := hqx.draws I h1 ne1
    obtain ⟨its2, S2, rv2, D2, st2, back2⟩ := hqy.draws I h2 ne2
    have l1 : i < its.length := by rw [← rv.length]; exact (List.getElem?_eq_some_iff.mp hx).1
    have l2 : i < its2.length := by rw [← rv2.length]; exact (List.getElem?_eq_some_iff.mp hy).1
    have hzl : z < s.heap.objs.size := Heap.lt_size hz
    refine wpAny_pyNext_zipD2_item D (D1 X.A.in1 (I.ok.hd hc)) (D2 X.A.in1 (I.ok.hd hc)) hz hTI hTO st1 st2 l1 l2 fun u u2 h' tk hu hu2 z' TO' s1' s2' hT hsz hk => ?_
    have ru := vals_at rv hx hu
    have ru2 := vals_at rv2 hy hu2
    refine ⟨_, rfl, wpAny_letOwnedTupleGo_zip (s := { s with heap := h', toks := tk }) z' fun h'' z'' sb => ?_⟩
    have hT2 : h''.get? s.heap.objs.size = some { cls := .type "tuple", data := .seq #[u, u2] } := (sb.2 _ (Nat.ne_of_gt hzl)).trans hT
    have new : ObjOk X.prog X.w (upd H s.heap.objs.size (.tup [x, y])) h'' s.heap.objs.size (.tup [x, y]) :=
      ⟨by show 2 ≤ sizeLine; decide, [u, u2], .cons ru (.cons ru2 .nil), ⟨_, hT2, rfl, _, rfl⟩⟩
    have I1 : Inv X pins σ (upd H s.heap.objs.size (.tup [x, y])) { s with heap := h'', toks := tk } :=
      I.turnedNew (t' := tk) (ch := [z, TI, TO, i1, i2]) (fun c o hb q => (sb.2 c (fun q' => hb (by simp [q']))).trans (hk c o (fun q' => hb (by simp [q'])) (fun q' => hb (by simp [q'])) (fun q' => hb (by simp [q'])) (fun q' => hb (by simp [q'])) q)) hf (Nat.le_refl _) new
    refine ⟨.ref s.heap.objs.size, _, I1, rfl, ⟨_, x, y, rfl, I.hok.fresh (Nat.le_refl _), rfl, fun l hl => by rw [SqK.inj I hl hqx]; exact hx, fun l hl => by rw [SqK.inj I hl hqy]; exact hy⟩, ⟨z'', ?_, ⟨u, u2, ?_⟩, ?_, ?_, ne1, ne2, hlt⟩, fun c hcm => ?_⟩
    · exact (sb.2 _ D.TIz).trans (hk _ _ D.TIz D.TITO D.TIi1 D.TIi2 hTI)
    · exact (sb.2 _ D.TOz).trans TO'
    · exact (back1 _ _ s1').at fun o q => (sb.2 _ (Ne.symm D.zi1)).trans q
    · exact (back2 _ _ s2').at fun o q => (sb.2 _ (Ne.symm D.zi2)).trans q
    · have hlt : c < s.heap.objs.size := by
        have e' : c = z ∨ c = TI ∨ c = TO ∨ c = i1 ∨ c = i2 := by simpa using hcm
        rcases e' with q | q | q | q | q
        · rw [q]; exact hzl
        · rw [q]; exact Heap.lt_size hTI
        · rw [q]; exact Heap.lt_size hTO
        · rw [q]; obtain ⟨_, e1, _⟩ := h1.cell; exact Heap.lt_size e1
        · rw [q]; obtain ⟨_, e2, _⟩ := h2.cell; exact Heap.lt_size e2
      rw [upd_ne (Nat.ne_of_lt hlt)]
      exact (hf c hcm).1
  done := by
    intro X hP hw hK hc i pins s σ H E I hf st hg
    subst hP hw hK
    obtain ⟨hz, hTI, ⟨x0, y0, hTO⟩, h1, h2, ne1, ne2, hle⟩ := st
    obtain ⟨hge, xs, ys, hqx, hqy, hmin⟩ := hg
    obtain ⟨its, S1, rv, D1, st1, back1⟩ := hqx.draws I h1 ne1
    obtain ⟨its2, S2, rv2, D2, st2, back2⟩ := hqy.draws I h2 ne2
    have l1 := rv.length
    have l2 := rv2.length
    exact wpAny_pyNext_zipD2_end D (D1 X.A.in1 (I.ok.hd hc)) (D2 X.A.in1 (I.ok.hd hc)) hz hTI hTO st1 st2 (by omega) (by omega) (by omega) fun h' tk hk => ⟨rfl, I.turnedL (t' := tk) (ch := [z, TI, TO, i1, i2]) (fun c o hb q =>
      hk c o (fun q' => hb (by simp [q'])) (fun q' => hb (by simp [q'])) (fun q' => hb (by simp [q'])) (fun q' => hb (by simp [q'])) q) hf⟩
  self := fun A i s Q E st h => wpAny_pyIter_zip st.1 h
def iZipAA (K : PySem.W.Frag) (ta : TA) : TI := fun σ H R => ta σ H fun vs H1 => ∃ a b xs ys k1 k2, vs = [.ref a, .ref b] ∧ SqK k1 K H1 a xs ∧ SqK k2 K H1 b ys ∧ R (ItzA K k1 k2 a b (min xs.length ys.length)) H1
theorem pi_zipAA {X : Cx} {e e2 : Expr} {ta : TA} {p pos tpos : Pos} {elts : List Expr} {kk : Nat} (hg : Gl X "zip") (hm : X.mg "zip" = none) (ha : PA X [e, e2] ta)
    (hs : starEach [e, e2] X.env = (false, eval e X.env) :: starEach [e2] X.env := by rfl) (hpl : (backTo pos (starEach [e2] X.env)).any (·.1) = false := by rfl) :
    PI X (.Tuple elts kk tpos) (.Call (.Name "zip" p) [e, e2] [] pos) (iZipAA X.K ta) := by
  refine ⟨fun pins s σ H R I h => ?_⟩
  refine Call_ (ld_blt I hg hm PyProof.Rows.boot_zip (PyProof.Rows.callWith_type1 (thn (ha.run pos pins s σ H _ I h) fun us s1 ⟨vs, H1, I1, r1, q1⟩ => ?_) hs hpl))
  obtain ⟨a, b, xs, ys, k1, k2, ex, hqx, hqy, q⟩ := q1
  subst ex
  obtain ⟨u1, u2, rfl, r1, r2⟩ := vals2 r1
  cases r1
  cases r2
  obtain ⟨B1, b1, g1, la⟩ := hqx.begins I1
  obtain ⟨B2, b2, g2, lb⟩ := hqy.begins I1
  refine zip_begins2 b1 b2 g1 g2 fun h' hz hTI hTO e1 e2 hsz hk => wpAny_pyIter_zip hz ?_
  have I2 : Inv X pins σ H1 { s1 with heap := h' } := I1.kept (t' := s1.toks) hk
  have hsep := zip_sep2 (N := s1.heap.objs.size) (fp1 := [a]) (fp2 := [b]) (fun c hc => by rw [List.mem_singleton.mp hc]; exact la) (fun c hc => by rw [List.mem_singleton.mp hc]; exact lb)
  refine ⟨s1.heap.objs.size + 4, [s1.heap.objs.size + 4, s1.heap.objs.size + 2, s1.heap.objs.size + 3, s1.heap.objs.size, s1.heap.objs.size + 1], _, _, H1, rfl, I2, turn_zipA hsep, ⟨hz, hTI, ⟨_, _, hTO⟩, KIt.of e1, KIt.of e2, Nat.ne_of_lt la, Nat.ne_of_lt (Nat.lt_succ_of_lt lb), Nat.zero_le _⟩, fun c hcm => ?_, q⟩
  have e' : c = s1.heap.objs.size + 4 ∨ c = s1.heap.objs.size + 2 ∨ c = s1.heap.objs.size + 3 ∨ c = s1.heap.objs.size ∨ c = s1.heap.objs.size + 1 := by simpa using hcm
  have hle : s1.heap.objs.size ≤ c := by
    rcases e' with z | z | z | z | z
    · rw [z]; exact Nat.le_add_right _ _
    · rw [z]; exact Nat.le_add_right _ _
    · rw [z]; exact Nat.le_add_right _ _
    · rw [z]; exact Nat.le_refl _
    · rw [z]; exact Nat.le_add_right _ _
  exact I1.fpOk hle (I1.hok.fresh hle)
/-! ### enumerate -/
set_option maxHeartbeats 1000000 in
theorem meets_enumerate_newB1 {v : Value} {o : Obj} {H : Heap → Prop} (B : Begins v o H) :
    Meets (Builtin.«enumerate.__new__» ⟨[.type "enumerate", v], []⟩) (fun _ R s => H s.heap ∧
      R (.ok (.ret (.ref (s.heap.push o).objs.size))) { s with heap := (s.heap.push o).push { cls := .type "enumerate", data := .fields #[.none, .bool false, .ref s.heap.objs.size, rawInt 0, .none, .none] } }) :=
  .of_wp fun prog w A R s h => by
    obtain ⟨hp, g, d, tk, os⟩ := s; obtain ⟨h1, h⟩ := h
    have hsub := sub_enumerate
    have q1 : ∀ {A' : Around} {E : Value → Shared → Prop} {Q : Value → Shared → Prop}, Q (.ref hp.objs.size) ⟨hp.push o, g, d, tk, os⟩ → wpAny (model prog w) A' (pyIter v) Q E ⟨hp, g, d, tk, os⟩ :=
      fun q => B.iter prog w _ _ ⟨hp, g, d, tk, os⟩ _ h1 q
    wp_walk using q1
    refine wpAny_stack_any fun st => wpAny_pure ?_
    split
    · rename_i c _ _ _ _ _
      cases (c == Value.type "enumerate")
      · wp_walk using q1
        exact ⟨_, rfl, h⟩
      · wp_walk using q1
        exact ⟨_, rfl, h⟩
    · wp_walk using q1
      exact ⟨_, rfl, h⟩
section
variable {prog : Program} {w : World} {A : Around} {E : Value → Shared → Prop} {s : Shared}
theorem enum_begins1 {v : Value} {o : Obj} {H : Heap → Prop} {Q : Value → Shared → Prop} (B : Begins v o H) (h1 : H s.heap)
    (h : ∀ h', IsEnum h' (s.heap.objs.size + 1) s.heap.objs.size 0 .none → h'.get? s.heap.objs.size = some o → h'.objs.size = s.heap.objs.size + 2 →
      (∀ b o, s.heap.get? b = some o → h'.get? b = some o) → Q (.ref (s.heap.objs.size + 1)) { s with heap := h' }) :
    wpAny (model prog w) A (call (.type "enumerate") [v]) Q E s := by
  refine callType_new F.called_enumerate (by decide) (F.typeCall_enumerate_1 _) (F.newCall_enumerate_1 _) (fun obj => F.args_object_init_2 obj _) F.entry_enumerate_new
    (meets_enumerate_newB1 B) ⟨h1, ?_⟩
  have hz : (s.heap.push o).objs.size = s.heap.objs.size + 1 := Heap.size_push ..
  show _ ∧ _
  rw [hz]
  have he : IsEnum ((s.heap.push o).push { cls := .type "enumerate", data := .fields #[.none, .bool false, .ref s.heap.objs.size, rawInt 0, .none, .none] }) (s.heap.objs.size + 1) s.heap.objs.size 0 .none := by
    have := Heap.get?_push_size (s.heap.push o) (o := { cls := .type "enumerate", data := .fields #[.none, .bool false, .ref s.heap.objs.size, rawInt 0, .none, .none] }) rfl
    rw [hz] at this; exact this
  exact ⟨⟨_, he, rfl⟩, h _ he (Heap.get?_push_of_some _ (Heap.get?_push_size _ B.free)) (by rw [Heap.size_push, hz]) fun b o x => Heap.get?_push_of_some _ (Heap.get?_push_of_some _ x)⟩
end
def IteA (K : PySem.W.Frag) (t : Bool) (a : Addr) (N : Nat) : It :=
  ⟨fun i H => i < N ∧ ∃ (xs : List V) (x : V), SqK t K H a xs ∧ xs[i]? = some x, fun i H v H' => ∃ T x, v = .ref T ∧ H T = none ∧ H' = upd H T (.tup [.int (i : Nat), x]) ∧ ∀ xs, SqK t K H a xs → xs[i]? = some x, fun i H => N ≤ i ∧ ∃ xs : List V, SqK t K H a xs ∧ xs.length = N⟩
theorem turn_enumA {P : Program} {w : World} {K : PySem.W.Frag} {elts : List Expr} {kk : Nat} {tpos : Pos} {t : Bool} {N : Nat} (a e it : Addr) :
    Turn P w K (.Tuple elts kk tpos) (IteA K t a N) [e, it] e (fun i h => (∃ old, IsEnum h e it ((i : Nat) : Int) old) ∧ KIt t h it a i ∧ e ≠ it ∧ a ≠ it ∧ a ≠ e ∧ i ≤ N) where
  mem := by simp
  obj := fun i h st b hb => by
    obtain ⟨⟨old, he⟩, hi, _⟩ := st
    have e' : b = e ∨ b = it := by simpa using hb
    rcases e' with z | z
    · rw [z]; exact ⟨_, he, fun v q => nomatch q⟩
    · rw [z]; exact hi.cell
  keep := fun i h h' st k => let ⟨⟨old, he⟩, hi, r⟩ := st; ⟨⟨old, k e (by simp) _ he⟩, hi.at fun o q => k it (by simp) o q, r⟩
  item := by
    intro X hP hw hK hc i pins s σ H E I hf st hg
    subst hP hw hK
    obtain ⟨⟨old, he⟩, hit, hne, ne1, ne2, hle⟩ := st
    obtain ⟨hlt, xs, x, hq, hx⟩ := hg
    obtain ⟨its, S, rv, D, st, back⟩ := hq.draws I hit ne1
    have l1 : i < its.length := by rw [← rv.length]; exact (List.getElem?_eq_some_iff.mp hx).1
    have hel : e < s.heap.objs.size := Heap.lt_size he
    have hil : it < s.heap.objs.size := by obtain ⟨_, q, _⟩ := hit.cell; exact Heap.lt_size q
    refine wpAny_pyNext_enum_itemD (D X.A.in1 (I.ok.hd hc)) he st l1 hne (by simp [hne, Ne.symm ne2]) fun u h' tk hu ho st' hT hsz hk => ?_
    have ru := vals_at rv hx hu
    refine ⟨_, rfl, wpAny_letOwnedTupleGo_enum (s := { s with heap := h', toks := tk + 1 }) ho fun h'' he' sb => ?_⟩
    have hT2 : h''.get? s.heap.objs.size = some { cls := .type "tuple", data := .seq #[.int i tk, u] } := (sb.2 _ (Nat.ne_of_gt hel)).trans hT
    have new : ObjOk X.prog X.w (upd H s.heap.objs.size (.tup [.int (i : Nat), x])) h'' s.heap.objs.size (.tup [.int (i : Nat), x]) :=
      ⟨by show 2 ≤ sizeLine; decide, [.int i tk, u], .cons ⟨_, rfl⟩ (.cons ru .nil), ⟨_, hT2, rfl, _, rfl⟩⟩
    have I1 : Inv X pins σ (upd H s.heap.objs.size (.tup [.int (i : Nat), x])) { s with heap := h'', toks := tk + 1 } :=
      I.turnedNew (ch := [e, it]) (fun b ob hb q => (sb.2 b (fun z => hb (by simp [z]))).trans (hk b ob (fun z => hb (by simp [z])) (fun z => hb (by simp [z])) q)) hf (Nat.le_refl _) new
    refine ⟨.ref s.heap.objs.size, _, I1, rfl, ⟨_, x, rfl, I.hok.fresh (Nat.le_refl _), rfl, fun ys hy => by rw [SqK.inj I hy hq]; exact hx⟩, ⟨⟨u, ?_⟩, (back _ _ st').at fun o q => (sb.2 it (Ne.symm hne)).trans q, hne, ne1, ne2, hlt⟩, fun b hb => ?_⟩
    · have e1 : ((i + 1 : Nat) : Int) = (i : Int) + 1 := by omega
      rw [e1]; exact he'
    · have hb' : b < s.heap.objs.size := by
        have e' : b = e ∨ b = it := by simpa using hb
        rcases e' with z | z
        · rw [z]; exact hel
        · rw [z]; exact hil
      rw [upd_ne (Nat.ne_of_lt hb')]
      exact (hf b hb).1
  done := by
    intro X hP hw hK hc i pins s σ H E I hf st hg
    subst hP hw hK
    obtain ⟨⟨old, he⟩, hit, hne, ne1, ne2, hle⟩ := st
    obtain ⟨hge, xs, hq, hl⟩ := hg
    obtain ⟨its, S, rv, D, st, back⟩ := hq.draws I hit ne1
    obtain ⟨f0, f1, f2, f3, f4, f5⟩ := hf it (by simp)
    have l1 := rv.length
    have hi : i = its.length := by omega
    rw [hi] at st
    exact wpAny_pyNext_enum_endD (D X.A.in1 (I.ok.hd hc)) he st fun h' eb => ⟨rfl, I.turned (t' := s.toks) (fun b o hb q => eb b o hb q) f0 f1 f3 f4 f5⟩
  self := fun A i s Q E st h => let ⟨⟨_, he⟩, _⟩ := st; wpAny_pyIter_enum he h
def iEnumA (K : PySem.W.Frag) (ta : TA) : TI := fun σ H R => ta σ H fun vs H1 => ∃ a xs t, vs = [.ref a] ∧ SqK t K H1 a xs ∧ R (IteA K t a xs.length) H1
theorem pi_enumA {X : Cx} {e : Expr} {ta : TA} {p pos tpos : Pos} {elts : List Expr} {kk : Nat} (hg : Gl X "enumerate") (hm : X.mg "enumerate" = none) (ha : PA X [e] ta) (hs : starEach [e] X.env = [(false, eval e X.env)] := by rfl) :
    PI X (.Tuple elts kk tpos) (.Call (.Name "enumerate" p) [e] [] pos) (iEnumA X.K ta) := by
  refine ⟨fun pins s σ H R I h => ?_⟩
  refine Call_ (ld_blt I hg hm boot_enumerate (PyProof.Rows.callWith_type1 (thn (ha.run pos pins s σ H _ I h) fun us s1 ⟨vs, H1, I1, r1, q1⟩ => ?_) hs rfl))
  obtain ⟨a, xs, t, ex, hq, q⟩ := q1
  subst ex
  obtain ⟨u, rfl, r⟩ := vals1 r1
  cases r
  obtain ⟨B, b, g, la⟩ := hq.begins I1
  refine enum_begins1 b g fun h' he e1 hsz hk => wpAny_pyIter_enum he ?_
  have I2 : Inv X pins σ H1 { s1 with heap := h' } := I1.kept (t' := s1.toks) hk
  refine ⟨s1.heap.objs.size + 1, [s1.heap.objs.size + 1, s1.heap.objs.size], _, _, H1, rfl, I2, turn_enumA a (s1.heap.objs.size + 1) s1.heap.objs.size, ⟨⟨.none, he⟩, KIt.of e1, Nat.succ_ne_self _, Nat.ne_of_lt la, Nat.ne_of_lt (Nat.lt_succ_of_lt la), Nat.zero_le _⟩, fun b hb => ?_, q⟩
  have e' : b = s1.heap.objs.size + 1 ∨ b = s1.heap.objs.size := by simpa using hb
  have hle : s1.heap.objs.size ≤ b := by
    rcases e' with z | z
    · rw [z]; exact Nat.le_add_right _ _
    · rw [z]; exact Nat.le_refl _
  exact I1.fpOk hle (I1.hok.fresh hle)
/-! ### on data -/
def knd : D → Option (Bool × List D)
  | .lst xs => some (false, xs)
  | .tup xs => some (true, xs)
  | _ => none
theorem WRep.knd {K : PySem.W.Frag} {W B : AP mg} {H : Hp} {d : D} {ds : List D} {t : Bool} {v : V} (h : WRep W B H d v) (e : knd d = some (t, ds)) : ∃ a vs, v = .ref a ∧ Reps (Eo W B) H ds vs ∧ SqK t K H a vs ∧ ∀ W' H', Fr W H W' H' → SqK t K H' a vs := by
  cases d with
  | lst xs =>
    cases e
    obtain ⟨a, vs, e, n, p, r⟩ := h.lst
    exact ⟨a, vs, e, r, SqL.of p, fun W' H' f => SqL.of (f.keep a _ p n)⟩
  | tup xs =>
    cases e
    obtain ⟨a, vs, e, n, p, r⟩ := h.tup
    exact ⟨a, vs, e, r, p.sq, fun W' H' f => (p.keep f.keep n).sq⟩
  | _ => cases e
def zipA : List D → Option (List D)
  | [a, b] => match knd a, knd b with
    | some (_, xs), some (_, ys) => some (zipL xs ys)
    | _, _ => none
  | _ => none
def enumA : List D → Option (List D)
  | [a] => match knd a with
    | some (_, xs) => some (enumFrom 0 xs)
    | none => none
  | _ => none
section
variable {X : Cx} {Wx : WX} {e e2 : Expr} {p pos tpos : Pos} {elts : List Expr} {kk : Nat} {ws : List Wk}
theorem di_zipA (hg : Gl X "zip") (hm : X.mg "zip" = none) (ha : DWs X Wx [e, e2] ws)
    (hs : starEach [e, e2] X.env = (false, eval e X.env) :: starEach [e2] X.env := by rfl) (hpl : (backTo pos (starEach [e2] X.env)).any (·.1) = false := by rfl) :
    DI X Wx (.Tuple elts kk tpos) (.Call (.Name "zip" p) [e, e2] [] pos) (fWalk zipA ws) := by
  refine ⟨pi_imp (pi_zipAA hg hm ha.pa hs hpl) fun σ H R ⟨W, B, ρ, s, a⟩ => ⟨W, B, ρ, s, (After.bind a).mono fun W1 H1 ds ρ1 _ _ a1 vs s1 rs => ?_⟩, evo_walk ha.evo⟩
  obtain ⟨items, k, a2⟩ := a1.opt
  have a2 := a2 W1 H1 .refl
  unfold zipA at k
  split at k
  · rename_i da db
    split at k
    · rename_i t1 xs t2 ys q1 q2
      cases k
      obtain ⟨v, r, rfl, p1, v2, r2, rfl, p2, rfl⟩ := rs
      obtain ⟨a, vs, rfl, ra, sa, ka⟩ := p1.knd (K := X.K) q1
      obtain ⟨b, us, rfl, rb, sb, kb⟩ := p2.knd (K := X.K) q2
      refine ⟨a, b, vs, us, _, _, rfl, sa, sb, a2 _ W1 .rfl' s1 fun W' H' i f dom => ?_⟩
      have ha' := ka W' H' f
      have hb' := kb W' H' f
      refine ⟨fun hi => ⟨?_, vs, us, ha', hb', rfl⟩, fun d hd => ?_⟩
      · rw [zipL_len] at hi
        rw [ra.length, rb.length]
        exact hi
      · have hlt : i < (zipL xs ys).length := (List.getElem?_eq_some_iff.mp hd).1
        obtain ⟨dx, dy, e1, e2, rfl⟩ := zipL_get hd
        obtain ⟨x, hx, rx⟩ := ra.get e1
        obtain ⟨y, hy, ry⟩ := rb.get e2
        refine ⟨⟨by rw [ra.length, rb.length]; rw [zipL_len] at hlt; exact hlt, vs, us, x, y, ha', hb', hx, hy⟩, fun v H'' yl => ?_⟩
        obtain ⟨T, x', y', rfl, hT, eH, k1, k2⟩ := yl
        have z1 := k1 vs ha'
        have z2 := k2 us hb'
        rw [hx] at z1
        rw [hy] at z2
        cases z1
        cases z2
        exact ⟨.inr ⟨T, _, hT, eH⟩, eH ▸ rep_tpl2 hT dom (rx.fr f) (ry.fr f)⟩
    · cases k
  · cases k
theorem di_enumA (hg : Gl X "enumerate") (hm : X.mg "enumerate" = none) (ha : DWs X Wx [e] ws) (hs : starEach [e] X.env = [(false, eval e X.env)] := by rfl) :
    DI X Wx (.Tuple elts kk tpos) (.Call (.Name "enumerate" p) [e] [] pos) (fWalk enumA ws) := by
  refine ⟨pi_imp (pi_enumA hg hm ha.pa hs) fun σ H R ⟨W, B, ρ, s, a⟩ => ⟨W, B, ρ, s, (After.bind a).mono fun W1 H1 ds ρ1 _ _ a1 vs s1 rs => ?_⟩, evo_walk ha.evo⟩
  obtain ⟨items, k, a2⟩ := a1.opt
  have a2 := a2 W1 H1 .refl
  unfold enumA at k
  split at k
  · rename_i da
    split at k
    · rename_i t1 xs q1
      cases k
      obtain ⟨v, r, rfl, p1, rfl⟩ := rs
      obtain ⟨a, vs, rfl, ra, sa, ka⟩ := p1.knd (K := X.K) q1
      refine ⟨a, vs, _, rfl, sa, a2 _ W1 .rfl' s1 fun W' H' i f dom => ?_⟩
      have ha' := ka W' H' f
      refine ⟨fun hi => ⟨?_, vs, ha', rfl⟩, fun d hd => ?_⟩
      · rw [enum_len] at hi
        rw [ra.length]
        exact hi
      · have hlt : i < (enumFrom 0 xs).length := (List.getElem?_eq_some_iff.mp hd).1
        obtain ⟨dx, e1, rfl⟩ := enum_get hd
        obtain ⟨x, hx, rx⟩ := ra.get e1
        refine ⟨⟨by rw [ra.length]; rw [enum_len] at hlt; exact hlt, vs, x, ha', hx⟩, fun v H'' yl => ?_⟩
        obtain ⟨T, x', rfl, hT, eH, k1⟩ := yl
        have z1 := k1 vs ha'
        rw [hx] at z1
        cases z1
        refine ⟨.inr ⟨T, _, hT, eH⟩, eH ▸ rep_tpl2 hT dom ?_ (rx.fr f)⟩
        rw [Nat.zero_add]
        rfl
    · cases k
  · cases k
end
end Dz
namespace Fs
open PySem PySem.Spec PyProof.Rows L2 Dz
/-! columns_of(question): 0 question, 1 found, 2 name, 3 columns, 4 column -/
noncomputable def b_columns_of : M Fl :=
    sSeq (sAsg 1 (fLst []))
    (sSeq (sFor (.tp [.nm 2, .nm 3]) (fSrcB seqD 0)
    (sExpr (fMutO 1 [.ev (fLc (.nm 4) [4] (fSrcB seqD 3) (fB (f2 (.sl 4) (.sl 1) ninD)) (fName 4))] extD)))
    (sRet (fL [.sl 1] tupleD)))
noncomputable def m_columns_of : Fn := fnA 1 5 b_columns_of
/-! powered(number, power): 0 number, 1 power, 2 found, 3 turn -/
noncomputable def b_powered : M Fl :=
    sSeq (sAsg 2 (fC (.int 1)))
    (sSeq (sFor (.nm 3) (fRng rng1 [.sl 1])
    (sAsg 2 (f2 (.sl 2) (.sl 0) mulD)))
    (sRet (fMove 2)))
noncomputable def m_powered : Fn := fnA 2 4 b_powered
/-! _law_box(_law_script, _law_k): 0 _law_script, 1 _law_k, 2 _law_cell, 3 _law_seed -/
noncomputable def b__law_box : M Fl :=
    sSeq (sAsg 2 (f2 (.ev (f2 (.ev (fC (.int 7919))) (.sl 1) mulD)) (.ev (fC (.int 11))) addD))
    (sSeq (fIf (fB (f2 (.sl 1) (.ev (fL [.sl 0] lenD)) ltD))
    (sAsg 2 (f2 (.sl 0) (.sl 1) getD1))
    (fIf (fB (f2 (.ev (fL [.sl 0] lenD)) (.ev (fC (.int 0))) gtD))
    (sAsg 2 (f2 (.sl 2) (.ev (f2 (.ev (f2 (.ev (f2 (.sl 0) (.ev (f2 (.sl 1) (.ev (fL [.sl 0] lenD)) modD)) getD1)) (.ev (fC (.int 2147483629))) modD)) (.ev (fC (.int 69623))) mulD)) addD))
    (mret .next)))
    (sSeq (sAsg 3 (f2 (.ev (f2 (.ev (f2 (.ev (f2 (.ev (f2 (.sl 2) (.ev (fC (.int 2147483629))) modD)) (.ev (fC (.int 48271))) mulD)) (.ev (f2 (.ev (fC (.int 40692))) (.sl 1) mulD)) addD)) (.ev (fC (.int 2147483629))) modD)) (.ev (fC (.int 1))) addD))
    (sRet (fLst [f2 (.sl 2) (.ev (fL [.ev (f2 (.sl 2) (.ev (f2 (.ev (fC (.int 10))) (.ev (fC (.int 18))) powD)) geD)] intD)) mulD, fName 3]))))
noncomputable def m__law_box : Fn := fnA 2 4 b__law_box
/-! _law_take(_law_box_here, _law_many): 0 _law_box_here, 1 _law_many, 2 _law_one, 3 _law_digit -/
noncomputable def b__law_take : M Fl :=
    sSeq (fIf (fB (f2 (.ev (f2 (.sl 0) (.ev (fC (.int 0))) getD1)) (.ev (fC (.int 0))) gtD))
    (sSeq (sAsg 3 (f2 (.ev (f2 (.sl 0) (.ev (fC (.int 0))) getD1)) (.sl 1) modD))
    (sSeq (sPut 0 (.ev (fC (.int 0))) (f2 (.ev (f2 (.sl 0) (.ev (fC (.int 0))) getD1)) (.sl 1) fdivD) setLD)
    (sRet (fMove 3))))
    (mret .next))
    (sSeq (sAsg 2 (f2 (.ev (f2 (.ev (f2 (.sl 0) (.ev (fC (.int 1))) getD1)) (.ev (fC (.int 69623))) mulD)) (.ev (fC (.int 2147483647))) modD))
    (sSeq (sPut 0 (.ev (fC (.int 1))) (f2 (.ev (f2 (.ev (f2 (.ev (f2 (.sl 2) (.ev (fC (.int 48271))) mulD)) (.ev (fC (.int 30103))) addD)) (.ev (fC (.int 2147483629))) modD)) (.ev (fC (.int 1))) addD) setLD)
    (sRet (f2 (.ev (f2 (.ev (f2 (.ev (f2 (.sl 2) (.ev (fC (.int 2147483647))) mulD)) (.ev (f2 (.sl 0) (.ev (fC (.int 1))) getD1)) addD)) (.ev (fC (.int 8191))) fdivD)) (.sl 1) modD))))
noncomputable def m__law_take : Fn := fnA 2 4 b__law_take
/-! _law_columns(_law_question_here): 0 _law_question_here, 1 _law_found, 2 _law_kt, 3 _law_own, 4 _law_column -/
noncomputable def b__law_columns : M Fl :=
    sSeq (sAsg 1 (fLst []))
    (sSeq (sFor (.tp [.nm 2, .nm 3]) (fSrcB seqD 0)
    (sExpr (fMutO 1 [.ev (fLc (.nm 4) [4] (fSrcB seqD 3) (fB (f2 (.sl 4) (.sl 1) ninD)) (fName 4))] extD)))
    (sRet (fMove 1)))
noncomputable def m__law_columns : Fn := fnA 1 5 b__law_columns
/-! _law_power(_law_number, _law_times): 0 _law_number, 1 _law_times, 2 _law_found, 3 _law_k -/
noncomputable def b__law_power : M Fl :=
    sSeq (sAsg 2 (fC (.int 1)))
    (sSeq (sFor (.nm 3) (fRng rng1 [.sl 1])
    (sAsg 2 (f2 (.sl 2) (.sl 0) mulD)))
    (sRet (fMove 2)))
noncomputable def m__law_power : Fn := fnA 2 4 b__law_power
/-! _law_product(_law_house_here, _law_numbers): 0 _law_house_here, 1 _law_numbers, 2 _law_found, 3 _law_rows, 4 _law_number, 5 _law_k -/
noncomputable def b__law_product : M Fl :=
    sSeq (sAsg 2 (fC (.int 1)))
    (sSeq (sFor (.tp [.nm 3, .nm 4]) (fWalk zipA [.sl 0, .sl 1])
    (sFor (.nm 5) (fRng rng1 [.sl 4])
    (sAsg 2 (f2 (.sl 2) (.ev (fL [.sl 3] lenD)) mulD))))
    (sRet (fMove 2)))
noncomputable def m__law_product : Fn := fnA 2 6 b__law_product
/-! _law_whole(_law_found): 0 _law_found -/
noncomputable def b__law_whole : M Fl :=
    sRet (fAndV (f1 (.sl 0) (isiD .int)) (fNotV (f1 (.sl 0) (isiD .bl))))
noncomputable def m__law_whole : Fn := fnA 1 1 b__law_whole
/-! _law_truth(_law_found, _law_due): 0 _law_found, 1 _law_due -/
noncomputable def b__law_truth : M Fl :=
    sRet (fAndV (f1 (.sl 0) (isiD .bl)) (f2 (.sl 0) (.sl 1) eqD))
noncomputable def m__law_truth : Fn := fnA 2 2 b__law_truth
/-! root(number, power): 0 number, 1 power, 2 high, 3 low, 4 middle -/
noncomputable def b_root : M Fl :=
    sSeq (sAsg 2 (fC (.int 1)))
    (sSeq (sWhile (fB (f2 (.ev (fCall m_powered [.bor 2, .bor 1])) (.sl 0) leD))
    (sAsg 2 (f2 (.sl 2) (.ev (fC (.int 2))) mulD)))
    (sSeq (sAsg 3 (f2 (.sl 2) (.ev (fC (.int 2))) fdivD))
    (sSeq (sWhile (fB (f2 (.ev (f2 (.sl 2) (.sl 3) subD)) (.ev (fC (.int 1))) gtD))
    (sSeq (sAsg 4 (f2 (.ev (f2 (.sl 3) (.sl 2) addD)) (.ev (fC (.int 2))) fdivD))
    (fIf (fB (f2 (.ev (fCall m_powered [.bor 4, .bor 1])) (.sl 0) leD))
    (sAsg 3 (fName 4))
    (sAsg 2 (fName 4)))))
    (sRet (fMove 3)))))
noncomputable def m_root : Fn := fnA 2 5 b_root
/-! _law_order(_law_box_here, _law_things): 0 _law_box_here, 1 _law_things, 2 _law_left, 3 _law_found -/
noncomputable def b__law_order : M Fl :=
    sSeq (sAsg 2 (fL [.sl 1] listD))
    (sSeq (sAsg 3 (fLst []))
    (sSeq (sWhile (fB (f2 (.ev (fL [.sl 2] lenD)) (.ev (fC (.int 0))) gtD))
    (sExpr (fMut 3 [fMut 2 [fCall m__law_take [.lent 0, .val (fL [.sl 2] lenD)]] popAtD] appD)))
    (sRet (fMove 3))))
noncomputable def m__law_order : Fn := fnA 2 4 b__law_order
/-! _law_names(_law_box_here, _law_many): 0 _law_box_here, 1 _law_many, 2 _law_letters, 3 _law_stem, 4 _law_at, 5 _law_first, 6 _law_form, 7 _law_found, 8 _law_k, 9 _law_own, 10 _law_word, 11 _law_some, 12 _law_x, 13 _law_y, 14 _law_z -/
noncomputable def b__law_names : M Fl :=
    sSeq (sAsg 2 (fC (.str ("abcdefghijklmnopqrstuvwxyz" : Str))))
    (sSeq (sAsg 3 (fJoin (fC (.str ("" : Str))) (.ev (fLc (.nm 8) [8] (fRng rng1 [.ev (fCall m__law_take [.lent 0, .val (fC (.int 5))])]) (mret true) (f2 (.sl 2) (.ev (fCall m__law_take [.lent 0, .val (fC (.int 26))])) getD1)))))
    (sSeq (sAsg 4 (fCall m__law_take [.lent 0, .val (f2 (.ev (fL [.sl 3] lenD)) (.ev (fC (.int 1))) addD)]))
    (sSeq (sAsg 5 (fCall m__law_take [.lent 0, .val (fC (.int 26))]))
    (sSeq (sAsg 6 (fCall m__law_take [.lent 0, .val (fC (.int 4))]))
    (sSeq (fIf (fB (f2 (.sl 6) (.ev (fC (.int 2))) eqD))
    (sSeq (sUnpS [.nm 12, .nm 13, .nm 14] (fSlice (.ev (fSlice (.sl 2) (.op (fCall m__law_take [.lent 0, .val (fC (.int 24))])) (.no))) (.no) (.op (fC (.int 3)))))
    (sSeq (sAsg 11 (fLst [fName 12, f2 (.sl 12) (.sl 13) addD, fName 13, f2 (.sl 13) (.sl 14) addD]))
    (sRet (fSlice (.ev (f2 (.sl 11) (.ev (fLst [fName 14, f2 (.sl 12) (.sl 14) addD, f2 (.ev (f2 (.sl 12) (.sl 13) addD)) (.sl 14) addD, f2 (.sl 14) (.sl 13) addD])) addD)) (.no) (.op (fName 1))))))
    (mret .next))
    (sSeq (sAsg 7 (fLst []))
    (sSeq (sFor (.nm 8) (fRng rng1 [.sl 1])
    (sSeq (sAsg 10 (f2 (.ev (f2 (.ev (fSlice (.sl 3) (.no) (.op (fName 4)))) (.ev (f2 (.sl 2) (.ev (f2 (.ev (f2 (.sl 5) (.ev (f2 (.ev (fC (.int 5))) (.sl 8) mulD)) addD)) (.ev (fC (.int 26))) modD)) getD1)) addD)) (.ev (fSlice (.sl 3) (.op (fName 4)) (.no))) addD))
    (sExpr (fMut 7 [f2 (.sl 10) (.ev (f2 (.ev (fC (.str ("z" : Str)))) (.ev (fL [.ev (fAndV (f2 (.sl 6) (.ev (fC (.int 1))) eqD) (f2 (.ev (f2 (.sl 8) (.ev (fC (.int 2))) modD)) (.ev (fC (.int 1))) eqD))] intD)) mulSD)) addD] appD))))
    (sSeq (sAsg 9 (fLst [fC (.str ("table" : Str)), fC (.str ("tree" : Str)), fC (.str ("none" : Str)), fC (.str ("answer" : Str)), fC (.str ("levels" : Str)), fC (.str ("looks" : Str))]))
    (sSeq (sAsg 9 (f2 (.sl 9) (.ev (fLst [fC (.str ("at" : Str)), fC (.str ("count" : Str)), fC (.str ("ears" : Str)), fC (.str ("cover" : Str)), fC (.str ("place" : Str))])) addD))
    (sSeq (sAsg 10 (f2 (.sl 9) (.ev (fCall m__law_take [.lent 0, .val (fC (.int 11))])) getD1))
    (sSeq (fIf (fAnd (fB (f2 (.ev (fCall m__law_take [.lent 0, .val (fC (.int 4))])) (.ev (fC (.int 0))) eqD)) (fB (f2 (.sl 10) (.sl 7) ninD)))
    (sPut 7 (.ev (fCall m__law_take [.lent 0, .bor 1])) (fName 10) setLD)
    (mret .next))
    (sRet (fMove 7)))))))))))))
noncomputable def m__law_names : Fn := fnA 2 15 b__law_names
/-! _law_value(_law_box_here, _law_span): 0 _law_box_here, 1 _law_span, 2 _law_value_here -/
noncomputable def b__law_value : M Fl :=
    sSeq (sAsg 2 (fCall m__law_take [.lent 0, .bor 1]))
    (sSeq (fIf (fB (f2 (.sl 1) (.ev (fC (.int 12))) eqD))
    (sRet (f2 (.ev (fLst [fC (.int 0), fC (.int 1), fC (.int 2), fC (.int 10), fC (.int 11), fC (.int 12), fC (.int 21), fC (.int 101), fC (.int 111), fC (.int 112), fC (.int 121), fC (.int 211)])) (.sl 2) getD1))
    (mret .next))
    (sRet (fMove 2)))
noncomputable def m__law_value : Fn := fnA 2 3 b__law_value
/-! _law_cover(_law_box_here, _law_question_here): 0 _law_box_here, 1 _law_question_here, 2 _law_parts, 3 _law_numbers, 4 _law_column, 5 _law_some, 6 _law_lack, 7 _law_table, 8 _law_at, 9 _law_k, 10 _law_kt, 11 _law_own -/
noncomputable def b__law_cover : M Fl :=
    sSeq (sAsg 2 (f2 (.ev (fC (.int 1))) (.ev (fCall m__law_take [.lent 0, .val (fC (.int 6))])) addD))
    (sSeq (sAsg 3 (fLc (.nm 7) [7] (fSrcB seqD 1) (mret true) (fCall m__law_take [.lent 0, .val (f2 (.sl 2) (.ev (fC (.int 1))) addD)])))
    (sSeq (sFor (.nm 4) (fSrc seqD (fCall m__law_columns [.bor 1]))
    (sSeq (sAsg 5 (fLc (.tp [.nm 9, .tp [.nm 10, .nm 11]]) [9, 10, 11] (fWalk enumA [.sl 1]) (fB (f2 (.sl 4) (.sl 11) inD)) (fName 9)))
    (sSeq (sAsg 6 (f2 (.sl 2) (.ev (fL [.ev (fLc (.nm 9) [9] (fSrc seqD (fName 5)) (mret true) (f2 (.sl 3) (.sl 9) getD1))] sumD)) subD))
    (fIf (fB (f2 (.sl 6) (.ev (fC (.int 0))) gtD))
    (sSeq (sAsg 8 (f2 (.sl 5) (.ev (fCall m__law_take [.lent 0, .val (fL [.sl 5] lenD)])) getD1))
    (sPut 3 (.sl 8) (f2 (.ev (f2 (.sl 3) (.sl 8) getD1)) (.sl 6) addD) setLD))
    (mret .next)))))
    (sRet (fTup [fName 2, fL [.sl 3] tupleD]))))
noncomputable def m__law_cover : Fn := fnA 2 12 b__law_cover
/-! _law_some_columns(_law_box_here, _law_names_here, _law_many): 0 _law_box_here, 1 _law_names_here, 2 _law_many -/
noncomputable def b__law_some_columns : M Fl :=
    sRet (fL [.ev (fSlice (.ev (fCall m__law_order [.lent 0, .bor 1])) (.no) (.op (fName 2)))] tupleD)
noncomputable def m__law_some_columns : Fn := fnA 3 3 b__law_some_columns
/-! _law_house(_law_box_here, _law_question_here, _law_ceiling): 0 _law_box_here, 1 _law_question_here, 2 _law_ceiling, 3 _law_columns_here, 4 _law_span, 5 _law_planted, 6 _law_even, 7 _law_room, 8 _law_is_even, 9 _law_found, 10 _law_kt, 11 _law_own, 12 _law_limit, 13 _law_rows, 14 _law_k, 15 _law_column, 16 _law_row -/
noncomputable def b__law_house : M Fl :=
    sSeq (sAsg 3 (fCall m__law_columns [.bor 1]))
    (sSeq (sAsg 4 (f2 (.ev (fLst [fC (.int 2), fC (.int 3), fC (.int 5), fC (.int 12), fC (.int 1000)])) (.ev (fCall m__law_take [.lent 0, .val (fC (.int 5))])) getD1))
    (sSeq (sAsg 5 (fLc (.nm 14) [14] (fRng rng1 [.ev (fCall m__law_take [.lent 0, .val (fC (.int 6))])]) (mret true) (fLc (.nm 15) [15] (fSrc seqD (fName 3)) (mret true) (fCall m__law_value [.lent 0, .bor 4]))))
    (sSeq (sAsg 6 (f2 (.ev (f2 (.ev (fLst [fLst [fC (.int 40), fC (.int 40), fC (.int 14), fC (.int 7), fC (.int 4), fC (.int 3)], fLst [fC (.int 40), fC (.int 17), fC (.int 6), fC (.int 4), fC (.int 3), fC (.int 2)]])) (.ev (fL [.ev (f2 (.sl 2) (.ev (fC (.int 2000))) ltD)] intD)) getD1)) (.ev (f2 (.ev (fL [.sl 1] lenD)) (.ev (fC (.int 1))) subD)) getD1))
    (sSeq (sAsg 7 (fName 2))
    (sSeq (sAsg 8 (fAndV (f2 (.sl 2) (.ev (fC (.int 0))) gtD) (f2 (.ev (fCall m__law_take [.lent 0, .val (fC (.int 2))])) (.ev (fC (.int 0))) eqD)))
    (sSeq (sAsg 9 (fLst []))
    (sSeq (sFor (.tp [.nm 10, .nm 11]) (fSrcB seqD 1)
    (sSeq (sAsg 12 (fC (.int 40)))
    (sSeq (fIf (fB (f2 (.sl 2) (.ev (fC (.int 0))) gtD))
    (sAsg 12 (fL [.ev (fC (.int 40)), .sl 7] minD))
    (mret .next))
    (sSeq (fIf (fTru (.sl 8))
    (sAsg 12 (fL [.sl 12, .sl 6] minD))
    (mret .next))
    (sSeq (sAsg 13 (fLc (.nm 16) [16] (fSrc seqD (fName 5)) (mret true) (fL [.ev (fLc (.nm 15) [15] (fSrcB seqD 11) (mret true) (f2 (.sl 16) (.ev (fMeth isSq (.sl 3) [.sl 15] idxLD)) getD1))] tupleD)))
    (sSeq (fIf (fB (f2 (.ev (fCall m__law_take [.lent 0, .val (fC (.int 6))])) (.ev (fC (.int 0))) eqD))
    (sAsg 13 (fLst []))
    (mret .next))
    (sSeq (sFor (.nm 14) (fRng rng1 [.ev (fCall m__law_take [.lent 0, .val (f2 (.ev (fLst [f2 (.sl 12) (.ev (fC (.int 1))) addD, f2 (.ev (fL [.sl 12, .ev (fC (.int 5))] minD)) (.ev (fC (.int 1))) addD])) (.ev (fCall m__law_take [.lent 0, .val (fC (.int 2))])) getD1)])])
    (sExpr (fMut 13 [fL [.ev (fLc (.nm 15) [15] (fSrcB seqD 11) (mret true) (fCall m__law_value [.lent 0, .bor 4]))] tupleD] appD)))
    (sSeq (sAsg 13 (fSlice (.ev (f1 (.sl 13) srtSetD)) (.no) (.op (fName 12))))
    (sSeq (sExpr (fMut 9 [fL [.sl 13] tupleD] appD))
    (sAsg 7 (f2 (.sl 7) (.ev (fL [.ev (fC (.int 1)), .ev (fL [.sl 13] lenD)] maxD)) fdivD)))))))))))
    (sRet (fL [.sl 9] tupleD)))))))))
noncomputable def m__law_house : Fn := fnA 3 17 b__law_house
/-! _law_great_cover(_law_box_here, _law_question_here): 0 _law_box_here, 1 _law_question_here, 2 _law_times, 3 _law_more, 4 _law_parts, 5 _law_numbers, 6 _law_number, 7 _law_one -/
noncomputable def b__law_great_cover : M Fl :=
    sSeq (sUnp (.tp [.nm 4, .nm 5]) (fCall m__law_cover [.lent 0, .bor 1]))
    (sSeq (sAsg 2 (f2 (.ev (fC (.int 1))) (.ev (fCall m__law_take [.lent 0, .val (f2 (.ev (fLst [fC (.int 1), fC (.int 10)])) (.ev (fCall m__law_take [.lent 0, .val (fC (.int 2))])) getD1)])) addD))
    (sSeq (sAsg 3 (fLc (.nm 6) [6] (fSrc seqD (fName 5)) (mret true) (fCall m__law_take [.lent 0, .val (f2 (.ev (fLst [fC (.int 1), fC (.int 3)])) (.ev (fCall m__law_take [.lent 0, .val (fC (.int 2))])) getD1)])))
    (sRet (fTup [f2 (.sl 4) (.sl 2) mulD, fL [.ev (fLc (.tp [.nm 6, .nm 7]) [6, 7] (fWalk zipA [.ev (fName 5), .ev (fName 3)]) (mret true) (fL [.ev (fC (.int 60)), .ev (f2 (.ev (f2 (.sl 6) (.sl 2) mulD)) (.sl 7) addD)] minD))] tupleD]))))
noncomputable def m__law_great_cover : Fn := fnA 2 8 b__law_great_cover
/-! _law_any_tables(_law_box_here, _law_names_here): 0 _law_box_here, 1 _law_names_here, 2 _law_pool, 3 _law_found, 4 _law_k -/
noncomputable def b__law_any_tables : M Fl :=
    sSeq (sAsg 2 (fSlice (.sl 1) (.no) (.op (f2 (.ev (fC (.int 1))) (.ev (fCall m__law_take [.lent 0, .val (fC (.int 6))])) addD))))
    (sSeq (sAsg 3 (fLst []))
    (sSeq (sFor (.nm 4) (fRng rng1 [.ev (f2 (.ev (fC (.int 1))) (.ev (fCall m__law_take [.lent 0, .val (fC (.int 6))])) addD)])
    (sExpr (fMut 3 [fCall m__law_some_columns [.lent 0, .bor 2, .val (f2 (.ev (fC (.int 1))) (.ev (fCall m__law_take [.lent 0, .val (fL [.ev (fC (.int 4)), .ev (fL [.sl 2] lenD)] minD)])) addD)]] appD)))
    (sRet (fMove 3))))
noncomputable def m__law_any_tables : Fn := fnA 2 5 b__law_any_tables
/-! _law_ear_tables(_law_box_here, _law_names_here): 0 _law_box_here, 1 _law_names_here, 2 _law_left, 3 _law_found, 4 _law_k, 5 _law_own, 6 _law_j, 7 _law_one -/
noncomputable def b__law_ear_tables : M Fl :=
    sSeq (sAsg 2 (fL [.ev (fSlice (.sl 1) (.no) (.op (fC (.int 6))))] listD))
    (sSeq (sAsg 3 (fLst []))
    (sSeq (sFor (.nm 4) (fRng rng1 [.ev (f2 (.ev (fC (.int 1))) (.ev (fCall m__law_take [.lent 0, .val (fC (.int 6))])) addD)])
    (sSeq (sAsg 5 (fLst []))
    (sSeq (fIf (fB (f2 (.sl 4) (.ev (fC (.int 0))) gtD))
    (sSeq (sAsg 7 (f2 (.sl 3) (.ev (fCall m__law_take [.lent 0, .bor 4])) getD1))
    (sAsg 5 (fL [.ev (fCall m__law_some_columns [.lent 0, .bor 7, .val (fCall m__law_take [.lent 0, .val (f2 (.ev (fL [.ev (fC (.int 3)), .ev (fL [.sl 7] lenD)] minD)) (.ev (fC (.int 1))) addD)])])] listD)))
    (mret .next))
    (sSeq (sFor (.nm 6) (fRng rng1 [.ev (fCall m__law_take [.lent 0, .val (f2 (.ev (fC (.int 5))) (.ev (fL [.sl 5] lenD)) subD)])])
    (fIf (fB (f2 (.ev (fL [.sl 2] lenD)) (.ev (fC (.int 0))) gtD))
    (sExpr (fMut 5 [fMut 2 [] popD] appD))
    (mret .next)))
    (sSeq (fIf (fB (f2 (.ev (fL [.sl 5] lenD)) (.ev (fC (.int 0))) eqD))
    (sAsg 5 (fIf (fB (f2 (.sl 4) (.ev (fC (.int 0))) eqD)) (fLst [f2 (.sl 1) (.ev (fC (.int 0))) getD1]) (fLst [f2 (.ev (f2 (.sl 3) (.ev (fC (.int 0))) getD1)) (.ev (fC (.int 0))) getD1])))
    (mret .next))
    (sSeq (fIf (fAnd (fB (f2 (.ev (f2 (.sl 1) (.ev (fC (.int 0))) getD1)) (.sl 5) inD)) (fB (f2 (.ev (f2 (.sl 1) (.ev (fC (.int 0))) getD1)) (.sl 2) inD)))
    (sExpr (fMutO 2 [.ev (f2 (.sl 1) (.ev (fC (.int 0))) getD1)] remD))
    (mret .next))
    (sExpr (fMut 3 [fL [.ev (fCall m__law_order [.lent 0, .bor 5])] tupleD] appD))))))))
    (sRet (fMove 3))))
noncomputable def m__law_ear_tables : Fn := fnA 2 8 b__law_ear_tables
/-! _law_ring_tables(_law_box_here, _law_names_here): 0 _law_box_here, 1 _law_names_here, 2 #hp, 3 _law_many, 4 _law_ring, 5 _law_sets, 6 _law_one, 7 _law_own, 8 _law_k, 9 _law_column -/
noncomputable def b__law_ring_tables : M Fl :=
    sSeq (sAsg 3 (f2 (.ev (fC (.int 3))) (.ev (fCall m__law_take [.lent 0, .val (fC (.int 4))])) addD))
    (sSeq (sAsg 4 (fSlice (.sl 1) (.no) (.op (fName 3))))
    (sSeq (sAsg 5 (fLc (.nm 8) [8] (fRng rng1 [.sl 3]) (mret true) (fCell 2 (fLst [f2 (.sl 4) (.sl 8) getD1, f2 (.sl 4) (.ev (f2 (.ev (f2 (.sl 8) (.ev (fC (.int 1))) addD)) (.sl 3) modD)) getD1]))))
    (sSeq (fIf (fAnd (fB (f2 (.sl 3) (.ev (fC (.int 6))) ltD)) (fB (f2 (.ev (fCall m__law_take [.lent 0, .val (fC (.int 2))])) (.ev (fC (.int 0))) eqD)))
    (sAsg 5 (fLc (.nm 6) [6] (fSrc seqD (fName 4)) (mret true) (fCell 2 (fLc (.nm 9) [9] (fSrc seqD (fName 4)) (fB (f2 (.sl 9) (.sl 6) neD)) (fName 9)))))
    (mret .next))
    (sSeq (fIf (fAnd (fB (f2 (.sl 3) (.ev (fC (.int 6))) ltD)) (fB (f2 (.ev (fCall m__law_take [.lent 0, .val (fC (.int 2))])) (.ev (fC (.int 0))) eqD)))
    (sSeq (sAsg 6 (f2 (.sl 5) (.ev (fCall m__law_take [.lent 0, .bor 3])) getD1))
    (sExpr (fMut 5 [fCell 2 (fL [.ev (fCall m__law_some_columns [.lent 0, .cel 2 (fName 6), .val (f2 (.ev (fC (.int 1))) (.ev (fCall m__law_take [.lent 0, .val (fC (.int 2))])) addD)])] listD)] appD)))
    (mret .next))
    (sSeq (fIf (fAnd (fB (f2 (.sl 3) (.ev (fC (.int 6))) ltD)) (fAnd (fB (f2 (.ev (fL [.dr 2 (f2 (.sl 5) (.ev (fC (.int 0))) getD1)] lenD)) (.ev (fC (.int 4))) ltD)) (fB (f2 (.ev (fCall m__law_take [.lent 0, .val (fC (.int 2))])) (.ev (fC (.int 0))) eqD))))
    (sFor (.nm 7) (fSrc seqD (fSlice (.sl 5) (.no) (.op (f2 (.ev (fC (.int 1))) (.ev (fCall m__law_take [.lent 0, .val (fC (.int 2))])) addD))))
    (sExpr (fMutC 2 (fName 7) [f2 (.sl 1) (.sl 3) getD1] appD)))
    (mret .next))
    (sRet (fLc (.nm 7) [7] (fSrc seqD (fCall m__law_order [.lent 0, .bor 5])) (mret true) (fL [.ev (fCall m__law_order [.lent 0, .cel 2 (fName 7)])] tupleD))))))))
noncomputable def m__law_ring_tables : Fn := fnH 2 10 b__law_ring_tables
/-! _law_question(_law_box_here, _law_kind): 0 _law_box_here, 1 _law_kind, 2 _law_way, 3 _law_columns_here, 4 _law_tables, 5 _law_sets -/
noncomputable def b__law_question : M Fl :=
    sSeq (sPar [.nm 3, .nm 4] [fCall m__law_names [.lent 0, .val (fC (.int 6))], fCall m__law_names [.lent 0, .val (fC (.int 6))]])
    (sSeq (fIf (fB (f2 (.ev (fCall m__law_take [.lent 0, .val (fC (.int 4))])) (.ev (fC (.int 0))) eqD))
    (sAsg 4 (fCall m__law_order [.lent 0, .bor 3]))
    (mret .next))
    (sSeq (sAsg 2 (fName 1))
    (sSeq (fIf (fB (f2 (.sl 1) (.ev (fC (.int 3))) eqD))
    (sAsg 2 (fCall m__law_take [.lent 0, .val (fC (.int 3))]))
    (mret .next))
    (sSeq (fIf (fB (f2 (.sl 2) (.ev (fC (.int 0))) eqD))
    (sAsg 5 (fCall m__law_any_tables [.lent 0, .bor 3]))
    (fIf (fB (f2 (.sl 2) (.ev (fC (.int 1))) eqD))
    (sAsg 5 (fCall m__law_ear_tables [.lent 0, .bor 3]))
    (sAsg 5 (fCall m__law_ring_tables [.lent 0, .bor 3]))))
    (sRet (fL [.sl 4, .sl 5] zipTD))))))
noncomputable def m__law_question : Fn := fnA 2 6 b__law_question
/-! sizes_multiplied(house, numbers): 0 house, 1 numbers, 2 found, 3 rows, 4 number -/
noncomputable def b_sizes_multiplied : M Fl :=
    sSeq (sAsg 2 (fC (.int 1)))
    (sSeq (sFor (.tp [.nm 3, .nm 4]) (fWalk zipA [.sl 0, .sl 1])
    (sAsg 2 (f2 (.sl 2) (.ev (fCall m_powered [.val (fL [.sl 3] lenD), .bor 4])) mulD)))
    (sRet (fMove 2)))
noncomputable def m_sizes_multiplied : Fn := fnA 2 5 b_sizes_multiplied
/-! _law_edge(_law_number, _law_power_here): 0 _law_number, 1 _law_power_here, 2 _law_step, 3 _law_found -/
noncomputable def b__law_edge : M Fl :=
    sSeq (sAsg 2 (fC (.int 1)))
    (sSeq (sWhile (fB (f2 (.ev (fCall m__law_power [.val (f2 (.ev (fC (.int 2))) (.sl 2) mulD), .bor 1])) (.sl 0) leD))
    (sAsg 2 (f2 (.ev (fC (.int 2))) (.sl 2) mulD)))
    (sSeq (sAsg 3 (fC (.int 0)))
    (sSeq (sWhile (fB (f2 (.sl 2) (.ev (fC (.int 0))) gtD))
    (sSeq (fIf (fB (f2 (.ev (fCall m__law_power [.val (f2 (.sl 3) (.sl 2) addD), .bor 1])) (.sl 0) leD))
    (sAsg 3 (f2 (.sl 3) (.sl 2) addD))
    (mret .next))
    (sAsg 2 (f2 (.sl 2) (.ev (fC (.int 2))) fdivD))))
    (sRet (fMove 3)))))
noncomputable def m__law_edge : Fn := fnA 2 4 b__law_edge
end Fs
/-! plain texts 1: the box, what is taken, the order. -/
namespace Dz
open PySem Fs
abbrev bx (a s : Int) : Slot := .lent (.lst [.int a, .int s])
theorem take_ok {a s k : Int} (hk : 0 < k) (hk2 : k < 18446744073709551616) {Q : R → List Slot → Prop} (h : ∀ d a' s', 0 ≤ d → d < k → Q (.frz (.int d)) [bx a' s', .frz (.int k)]) : COk m__law_take [bx a s, .frz (.int k)] Q := by
  apply cok_fnA rfl
  have h0 := Int.emod_nonneg a (by omega : k ≠ 0)
  have h1 := Int.emod_lt_of_pos a hk
  by_cases ha : 0 < a <;> simp [b__law_take, atI0, atI1, L2.ixN, and_assoc, mulOk_r, cdivW, hk, hk2, ha]
  · exact h _ _ _ h0 h1
  · exact h _ _ _ (Int.emod_nonneg _ (by omega)) (Int.emod_lt_of_pos _ hk)
theorem box_ok {ns : List Int} {k : Int} (hk : 0 ≤ k) {Q : R → List Slot → Prop} (h : ∀ a s, Q (.own (.lst [.int a, .int s])) [.frz (.scr ns), .frz (.int k)]) : COk m__law_box [.frz (.scr ns), .frz (.int k)] Q := by
  apply cok_fnA rfl
  by_cases h1 : k < ns.length
  · obtain ⟨x, hx⟩ := atI_lt hk h1
    simp [b__law_box, and_assoc, mulOk_r, mulOk_l, mulOk_ite, h1, hx, h]
  · by_cases h3 : 0 < ns.length
    · have h4 : (0 : Int) < ns.length := by omega
      obtain ⟨x, hx⟩ := atI_lt (xs := ns) (Int.emod_nonneg k (by omega : (ns.length : Int) ≠ 0)) (Int.emod_lt_of_pos k h4)
      simp [b__law_box, and_assoc, mulOk_r, mulOk_l, mulOk_ite, h1, h3, hx, h]
    · simp [b__law_box, and_assoc, mulOk_r, mulOk_l, mulOk_ite, h1, h3, h]
theorem eraseIdx_perm {α : Type} : ∀ {xs : List α} {k : Nat} (h : k < xs.length), (xs[k] :: xs.eraseIdx k).Perm xs
  | x :: xs, 0, _ => .refl _
  | x :: xs, k + 1, h => (List.Perm.swap _ _ _).trans ((eraseIdx_perm (xs := xs) (by simpa using h)).cons x)
theorem popAt_ok {left : List D} {d : Int} (d0 : 0 ≤ d) (d1 : d < left.length) (hl : left.length < 1000000) : ∃ x left', popAtD [.int d] (.lst left) = some (.lst left', x) ∧ (x :: left').Perm left ∧ left'.length + 1 = left.length := by
  obtain ⟨k, rfl⟩ : ∃ k : Nat, d = k := ⟨d.toNat, by omega⟩
  have hk : k < left.length := by omega
  have hs : seqIndex? (k : Int) left.length = some k := (L2.ixN_seq (by rw [L2.ixN, if_pos (by omega), if_pos (by omega)]; rfl)).1
  refine ⟨left[k], left.eraseIdx k, ?_, eraseIdx_perm hk, by rw [List.length_eraseIdx_of_lt hk]; omega⟩
  simp only [popAtD, hs, List.getElem?_eq_getElem hk]
  rw [if_pos (by omega)]
theorem cut_take {xs : List D} {n : Int} (h : 0 ≤ n) : cutD xs none (some n) = xs.take n.toNat := by
  obtain ⟨k, rfl⟩ : ∃ k : Nat, n = k := ⟨n.toNat, by omega⟩
  unfold cutD
  rw [HT.sIx_nat, HT.sIx_none, List.drop_zero, Nat.sub_zero, Int.toNat_natCast, List.take_eq_take_iff]
  omega
theorem cut_drop {xs : List D} {n : Int} (h : 0 ≤ n) : cutD xs (some n) none = xs.drop n.toNat := by
  obtain ⟨k, rfl⟩ : ∃ k : Nat, n = k := ⟨n.toNat, by omega⟩
  unfold cutD
  rw [HT.sIx_nat, HT.sIx_none, Int.toNat_natCast]
  by_cases c : k ≤ xs.length
  · rw [Nat.min_eq_left c, List.take_of_length_le (by rw [List.length_drop]; omega)]
  · rw [Nat.min_eq_right (by omega), List.drop_of_length_le (by omega), List.drop_of_length_le (by omega), List.take_nil]
@[simp] theorem extD_at {ys xs : List D} : extD [.lst ys] (.lst xs) = if xs.length + ys.length ≤ sizeLine then some (.lst (xs ++ ys), .non) else none := rfl
@[simp] theorem listD_lst {ds : List D} : listD [.lst ds] = some (.own (.lst ds)) := rfl
@[simp] theorem listD_tup {ds : List D} : listD [.tup ds] = some (.own (.lst ds)) := rfl
@[simp] theorem tupleD_lst {ds : List D} : tupleD [.lst ds] = some (.frz (.tup ds)) := rfl
@[simp] theorem tupleD_tup {ds : List D} : tupleD [.tup ds] = some (.frz (.tup ds)) := rfl
theorem order_ok {ds : List D} {th : Slot} (hth : th = .bor (.lst ds) ∨ th = .frz (.tup ds) ∨ th = .frz (.lst ds)) (hl : ds.length < 1000000) {a s : Int} {Q : R → List Slot → Prop} (h : ∀ ds' a' s', ds'.Perm ds → Q (.own (.lst ds')) [bx a' s', th]) : COk m__law_order [bx a s, th] Q := by
  have main : ∀ (a s : Int) (ρ : Env), ρ = [bx a s, th, .own (.lst ds), .own (.lst [])] → Ok (sWhile (fB (f2 (.ev (fL [.sl 2] lenD)) (.ev (fC (.int 0))) gtD))
    (sExpr (fMut 3 [fMut 2 [fCall m__law_take [.lent 0, .val (fL [.sl 2] lenD)]] popAtD] appD))) ρ fun fl ρ' => fl = .next ∧ ∃ (a s : Int) (found : List D), found.Perm ds ∧ ρ' = [bx a s, th, .own (.lst []), .own (.lst found)] := by
    intro a s ρ e
    refine ok_while (I := fun n ρ => ∃ (a s : Int) (left found : List D), (left ++ found).Perm ds ∧ n = left.length ∧ ρ = [bx a s, th, .own (.lst left), .own (.lst found)]) (fun n ρ hI => ?_) ds.length ρ ⟨a, s, ds, [], by simp, rfl, e⟩
    obtain ⟨a, s, left, found, hp, rfl, rfl⟩ := hI
    have hle := hp.length_eq
    simp only [List.length_append] at hle
    simp
    by_cases c : 0 < left.length
    · simp [c]
      refine take_ok (by omega) (by omega) fun d a' s' d0 d1 => ?_
      obtain ⟨x, left', e1, e2, e3⟩ := popAt_ok d0 d1 (by omega)
      simp [e1, show found.length < 16777216 by omega]
      refine ⟨left'.length, by omega, _, _, left', _, ?_, rfl, ⟨rfl, rfl⟩, rfl, rfl⟩
      refine List.Perm.trans ?_ hp
      refine List.Perm.trans ?_ (e2.append_right found)
      rw [List.cons_append, ← List.append_assoc]
      exact List.perm_append_singleton x _
    · have hz : left = [] := List.length_eq_zero_iff.mp (by omega)
      subst hz
      simp
      simpa using hp
  apply cok_fnA rfl
  unfold b__law_order
  rcases hth with rfl | rfl | rfl
  · simp
    refine (main a s _ rfl).mono fun fl ρ' => ?_
    rintro ⟨rfl, a', s', found, hp, rfl⟩
    simp
    exact h _ _ _ hp
  · simp
    refine (main a s _ rfl).mono fun fl ρ' => ?_
    rintro ⟨rfl, a', s', found, hp, rfl⟩
    simp
    exact h _ _ _ hp
  · simp
    refine (main a s _ rfl).mono fun fl ρ' => ?_
    rintro ⟨rfl, a', s', found, hp, rfl⟩
    simp
    exact h _ _ _ hp
theorem some_ok {ds : List D} {th : Slot} (hth : th = .bor (.lst ds) ∨ th = .frz (.tup ds) ∨ th = .frz (.lst ds)) (hl : ds.length < 1000000) {a s n : Int} (hn : 0 ≤ n) {Q : R → List Slot → Prop}
    (h : ∀ cs rest a' s', (cs ++ rest).Perm ds → cs.length = min n.toNat ds.length → Q (.frz (.tup cs)) [bx a' s', th, .frz (.int n)]) : COk m__law_some_columns [bx a s, th, .frz (.int n)] Q := by
  apply cok_fnA rfl
  unfold b__law_some_columns
  rcases hth with rfl | rfl | rfl
  · simp
    refine order_ok (.inl rfl) hl fun ds' a' s' hp => ?_
    simp [cut_take hn]
    refine h _ (ds'.drop n.toNat) _ _ (by rw [List.take_append_drop]; exact hp) (by rw [List.length_take, hp.length_eq])
  · simp
    refine order_ok (.inr (.inl rfl)) hl fun ds' a' s' hp => ?_
    simp [cut_take hn]
    refine h _ (ds'.drop n.toNat) _ _ (by rw [List.take_append_drop]; exact hp) (by rw [List.length_take, hp.length_eq])
  · simp
    refine order_ok (.inr (.inr rfl)) hl fun ds' a' s' hp => ?_
    simp [cut_take hn]
    refine h _ (ds'.drop n.toNat) _ _ (by rw [List.take_append_drop]; exact hp) (by rw [List.length_take, hp.length_eq])
end Dz
/-! plain texts 2: the tables' columns, drawn three ways. -/
namespace Dz
open PySem Fs
def unS : D → Str
  | .str x => x
  | _ => ""
abbrev dS (xs : List Str) : List D := xs.map D.str
theorem perm_inv {α β : Type} {f : α → β} {g : β → α} (hg : ∀ x, g (f x) = x) {ds : List β} {ns : List α} (h : ds.Perm (ns.map f)) : ∃ ns' : List α, ds = ns'.map f ∧ ns'.Perm ns := by
  refine ⟨ds.map g, ?_, ?_⟩
  · rw [List.map_map]
    refine (List.map_id ds).symm.trans (List.map_congr_left fun d hd => ?_)
    obtain ⟨x, _, rfl⟩ := List.mem_map.mp (h.mem_iff.mp hd)
    show f x = f (g (f x))
    rw [hg]
  · have := h.map g
    rw [List.map_map, show (g ∘ f) = id from funext hg, List.map_id] at this
    exact this
theorem perm_dS {ds : List D} {ns : List Str} (h : ds.Perm (dS ns)) : ∃ ns', ds = dS ns' ∧ ns'.Perm ns := perm_inv (g := unS) (fun _ => rfl) h
theorem perm_dS2 {cs rest : List D} {ns : List Str} (h : (cs ++ rest).Perm (dS ns)) : ∃ xs ys, cs = dS xs ∧ rest = dS ys ∧ (xs ++ ys).Perm ns := by
  obtain ⟨ns', e, p⟩ := perm_dS h
  refine ⟨ns'.take cs.length, ns'.drop cs.length, ?_, ?_, by rw [List.take_append_drop]; exact p⟩
  · rw [dS, List.map_take, ← dS, ← e]; simp
  · rw [dS, List.map_drop, ← dS, ← e]; simp
/-- one table's columns, out of the names -/
structure SetOk (ns t : List Str) : Prop where
  ne : t ≠ []
  nd : t.Nodup
  sub : ∀ c ∈ t, c ∈ ns
def dT (t : List Str) : D := .tup (dS t)
structure SetsOk (ns : List Str) (ts : List (List Str)) : Prop where
  ne : ts ≠ []
  le : ts.length ≤ 6
  ok : ∀ t ∈ ts, SetOk ns t
theorem any_ok {ns : List Str} (hl : ns.length = 6) (nd : ns.Nodup) {th : Slot} (hth : th = .frz (.lst (dS ns))) {a s : Int} {Q : R → List Slot → Prop} (h : ∀ ts a' s', SetsOk ns ts → Q (.own (.lst (ts.map dT))) [bx a' s', th]) :
    COk m__law_any_tables [bx a s, th] Q := by
  apply cok_fnA rfl
  unfold b__law_any_tables
  subst hth
  simp
  refine take_ok (by omega) (by omega) fun d a s d0 d1 => ?_
  simp [cut_take (show 0 ≤ 1 + d by omega)]
  refine take_ok (by omega) (by omega) fun e a s e0 e1 => ?_
  simp [rng1_at (n := 1 + e) (by omega) (by omega)]
  have hP : (ns.take (1 + d).toNat).length = (1 + d).toNat := by rw [List.length_take, hl]; omega
  have hsub : ∀ c ∈ ns.take (1 + d).toNat, c ∈ ns := fun c hc => List.mem_of_mem_take hc
  have hnd : (ns.take (1 + d).toNat).Nodup := nd.sublist (List.take_sublist _ _)
  rw [show cutD (dS ns) none (some (1 + d)) = dS (ns.take (1 + d).toNat) from (cut_take (by omega)).trans List.map_take.symm]
  generalize ns.take (1 + d).toNat = P at hP hsub hnd
  refine ok_forL (I := fun todo ρ => ∃ (a s : Int) (ts : List (List Str)) (s4 : Slot), nl s4 ∧ ts.length + todo.length = (1 + e).toNat ∧ (∀ t ∈ ts, SetOk ns t) ∧ ρ = [bx a s, .frz (.lst (dS ns)), .own (.lst (dS P)), .own (.lst (ts.map dT)), s4]) (fun x todo ρ hI => ?_) (fun ρ hI => ?_) _ _ ⟨a, s, [], .emp, .inl rfl, by simp [rangeL_len], (fun _ z => nomatch z), rfl⟩
  · obtain ⟨a, s, ts, s4, n4, hlen, hok, rfl⟩ := hI
    simp only [List.length_cons] at hlen
    rw [ok_setTg_nm]
    refine ok_set rfl n4 ?_
    simp [hP]
    refine take_ok (by split <;> omega) (by split <;> omega) fun f a s f0 f1 => ?_
    simp
    refine some_ok (.inl rfl) (by simp [hP]; omega) (by omega) fun cs rest a s hp hc => ?_
    simp [show ts.length < 16777216 by omega]
    obtain ⟨xs, ys, rfl, rfl, hp2⟩ := perm_dS2 hp
    simp [hP] at hc
    have hx : (xs ++ ys).Nodup := hp2.nodup_iff.mpr hnd
    refine ⟨a, s, ts ++ [xs], .frz x, .inr (.inl ⟨x, rfl⟩), by simp; omega, fun t ht => ?_, ⟨rfl, rfl⟩, by simp [dT], rfl⟩
    rcases List.mem_append.mp ht with z | z
    · exact hok t z
    · rw [List.mem_singleton.mp z]
      refine ⟨fun z => ?_, (List.nodup_append.mp hx).1, fun c hc => hsub c (hp2.mem_iff.mp (List.mem_append_left _ hc))⟩
      rw [z] at hc
      simp at hc
      omega
  · obtain ⟨a, s, ts, s4, n4, hlen, hok, rfl⟩ := hI
    simp at hlen
    simp
    exact h _ _ _ ⟨fun z => by rw [z] at hlen; simp at hlen; omega, by omega, hok⟩
end Dz
/-! plain texts 3: tables that have ears. -/
namespace Dz
open PySem Fs
/-- the names may be compared -/
abbrev Txs (ns : List Str) : Prop := ∀ c ∈ ns, PyData.strOk c = true
theorem okN_txs {ns : List Str} {n : Nat} (h : Txs ns) : ∀ c ∈ ns, okN n (.str c) := fun c hc => okN_str (h c hc)
theorem ok_seq_n {f g : M Fl} {ρ : Env} {Q : Fl → Env → Prop} (P : Env → Prop) (h1 : Ok f ρ fun fl ρ' => fl = .next ∧ P ρ') (h2 : ∀ ρ', P ρ' → Ok g ρ' Q) : Ok (sSeq f g) ρ Q := by
  rw [ok_seq]
  refine Ok.mono h1 ?_
  rintro fl ρ' ⟨rfl, h⟩
  exact h2 _ h
theorem popD_ok {l : List Str} (h : 0 < l.length) : ∃ x l', popD [] (.lst (dS l)) = some (.lst (dS l'), .str x) ∧ l = l' ++ [x] := by
  have hne : l ≠ [] := fun z => by rw [z] at h; simp at h
  refine ⟨l.getLast hne, l.dropLast, ?_, (List.dropLast_concat_getLast hne).symm⟩
  have e : (dS l)[(dS l).length - 1]? = some (.str (l.getLast hne)) := by
    rw [dS, List.getElem?_map, List.length_map, ← List.getLast?_eq_getElem?, List.getLast?_eq_some_getLast hne]; rfl
  show (match (dS l)[(dS l).length - 1]? with
    | some v => some (D.lst (dS l).dropLast, v)
    | none => none) = _
  rw [e]
  exact congrArg (fun z => some (D.lst z, D.str (l.getLast hne))) List.map_dropLast.symm
theorem nodup_len {α : Type} [DecidableEq α] : ∀ {xs ys : List α}, xs.Nodup → (∀ x ∈ xs, x ∈ ys) → xs.length ≤ ys.length
  | [], _, _, _ => Nat.zero_le _
  | x :: xs, ys, h, k => by
    have hx := k x List.mem_cons_self
    obtain ⟨n1, n2⟩ := List.nodup_cons.mp h
    have hp := List.perm_cons_erase hx
    have := nodup_len (xs := xs) (ys := ys.erase x) n2 fun y hy => by
      rcases List.mem_cons.mp (hp.mem_iff.mp (k y (List.mem_cons_of_mem _ hy))) with z | z
      · rw [z] at hy; exact absurd hy n1
      · exact z
    rw [hp.length_eq, List.length_cons, List.length_cons]
    omega
theorem ear_ok {ns : List Str} (hl : ns.length = 6) (nd : ns.Nodup) (tx : Txs ns) {th : Slot} (hth : th = .frz (.lst (dS ns))) {a s : Int} {Q : R → List Slot → Prop} (h : ∀ ts a' s', SetsOk ns ts → Q (.own (.lst (ts.map dT))) [bx a' s', th]) :
    COk m__law_ear_tables [bx a s, th] Q := by
  apply cok_fnA rfl
  unfold b__law_ear_tables
  subst hth
  obtain ⟨n0, nr, rfl⟩ : ∃ n0 nr, ns = n0 :: nr := by
    cases ns with
    | nil => simp at hl
    | cons x xs => exact ⟨x, xs, rfl⟩
  generalize hns : n0 :: nr = ns at *
  simp
  refine take_ok (by omega) (by omega) fun e a s e0 e1 => ?_
  have hcut : cutD (dS ns) none (some 6) = dS ns := by rw [cut_take (by omega)]; exact List.take_of_length_le (by simp [hl])
  have hat0 : L2.atI (dS ns) 0 = some (.str n0) := by rw [← hns]; exact atI0
  simp [rng1_at (n := 1 + e) (by omega) (by omega), hcut]
  refine ok_forL (I := fun todo ρ => ∃ (a s : Int) (left : List Str) (ts : List (List Str)) (n : Nat) (s4 s5 s6 s7 : Slot), nl s4 ∧ nl s5 ∧ nl s6 ∧ nl s7 ∧ todo = rangeL ts.length n ∧ ts.length + n = (1 + e).toNat ∧ (∀ t ∈ ts, SetOk ns t ∧ ∀ c ∈ t, c ∉ left) ∧ left.Nodup ∧ (∀ c ∈ left, c ∈ ns) ∧
    ρ = [bx a s, .frz (.lst (dS ns)), .own (.lst (dS left)), .own (.lst (ts.map dT)), s4, s5, s6, s7]) (fun x todo ρ hI => ?_) (fun ρ hI => ?_) _ _ ⟨a, s, ns, [], (1 + e).toNat, .emp, .emp, .emp, .emp, .inl rfl, .inl rfl, .inl rfl, .inl rfl, rfl, by simp, (fun _ z => nomatch z), nd, fun _ z => z, rfl⟩
  · obtain ⟨a, s, left, ts, n, s4, s5, s6, s7, n4, n5, n6, n7, htodo, hn, hts, hld, hls, rfl⟩ := hI
    obtain ⟨rfl, m, rfl, rfl⟩ := rangeL_inv htodo
    rw [ok_setTg_nm]
    refine ok_set rfl n4 ?_
    refine ok_seq_n (fun ρ' => ρ' = [bx a s, .frz (.lst (dS ns)), .own (.lst (dS left)), .own (.lst (ts.map dT)), .frz (.int ts.length), .own (.lst []), s6, s7]) (by simp [wN_nl n5]) ?_
    rintro ρ' rfl
    rw [ok_seq]
    refine Ok.mono (Q := fun fl ρ' => fl = .next ∧ ∃ (a s : Int) (own : List Str) (s7 : Slot), nl s7 ∧ own.length ≤ 3 ∧ own.Nodup ∧ (∀ c ∈ own, c ∈ ns ∧ c ∉ left) ∧ ρ' = [bx a s, .frz (.lst (dS ns)), .own (.lst (dS left)), .own (.lst (ts.map dT)), .frz (.int ts.length), .own (.lst (dS own)), s6, s7]) ?_ ?_
    · by_cases c : 0 < ts.length
      · simp [c]
        refine take_ok (by omega) (by omega) fun f a s f0 f1 => ?_
        obtain ⟨x, hx, hm, _⟩ := atI_mem (xs := ts.map dT) (i := f) f0 (by simpa using f1)
        obtain ⟨t, ht, rfl⟩ := List.mem_map.mp hm
        simp [hx, wN_nl n7, dT]
        refine take_ok (by split <;> omega) (by split <;> omega) fun g a s g0 g1 => ?_
        simp
        refine some_ok (.inr (.inl rfl)) (by
          have h2 := nodup_len (hts t ht).1.nd (hts t ht).1.sub
          rw [List.length_map]; omega) g0 fun cs rest a s hp hc => ?_
        obtain ⟨xs, ys, rfl, rfl, hp2⟩ := perm_dS2 hp
        simp at hc
        have hnd : (xs ++ ys).Nodup := hp2.nodup_iff.mpr (hts t ht).1.nd
        have hin : ∀ c ∈ xs, c ∈ t := fun c hc => hp2.mem_iff.mp (List.mem_append_left _ hc)
        simp
        exact ⟨a, s, xs, _, .inr (.inl ⟨_, rfl⟩), by split at g1 <;> omega, (List.nodup_append.mp hnd).1, fun c hc => ⟨(hts t ht).1.sub c (hin c hc), (hts t ht).2 c (hin c hc)⟩, ⟨rfl, rfl⟩, rfl, rfl⟩
      · simp [c]
        exact ⟨a, s, [], s7, n7, by simp, List.nodup_nil, (fun _ z => nomatch z), ⟨rfl, rfl⟩, rfl, rfl⟩
    rintro fl ρ' ⟨rfl, a, s, own, s7, n7, ol, ond, oin, rfl⟩
    simp only
    rw [ok_seq]
    refine Ok.mono (Q := fun fl ρ' => fl = .next ∧ ∃ (a s : Int) (left' own : List Str) (s6 s7 : Slot), nl s6 ∧ nl s7 ∧ own.length ≤ 4 ∧ own.Nodup ∧ left'.Nodup ∧ (∀ c ∈ left', c ∈ left) ∧ (∀ c ∈ own, c ∈ ns ∧ c ∉ left') ∧ ρ' = [bx a s, .frz (.lst (dS ns)), .own (.lst (dS left')), .own (.lst (ts.map dT)), .frz (.int ts.length), .own (.lst (dS own)), s6, s7]) ?_ ?_
    · simp
      refine take_ok (by omega) (by omega) fun f a s f0 f1 => ?_
      simp [rng1_at (n := f) (by omega) (by omega)]
      refine ok_forL (I := fun todo ρ => ∃ (a s : Int) (left' own : List Str) (s6 s7 : Slot), nl s6 ∧ nl s7 ∧ own.length + todo.length ≤ 4 ∧ own.Nodup ∧ left'.Nodup ∧ (∀ c ∈ left', c ∈ left) ∧ (∀ c ∈ own, c ∈ ns ∧ c ∉ left') ∧ ρ = [bx a s, .frz (.lst (dS ns)), .own (.lst (dS left')), .own (.lst (ts.map dT)), .frz (.int ts.length), .own (.lst (dS own)), s6, s7]) (fun x todo ρ hI => ?_) (fun ρ hI => ?_) _ _ ⟨a, s, left, own, s6, s7, n6, n7, by simp [rangeL_len]; omega, ond, hld, fun _ z => z, oin, rfl⟩
      · obtain ⟨a, s, left', own, s6, s7, n6, n7, ol, ond, hld', hls', oin, rfl⟩ := hI
        simp only [List.length_cons] at ol
        rw [ok_setTg_nm]
        refine ok_set rfl n6 ?_
        by_cases c : 0 < left'.length
        · obtain ⟨x, l', e1, e2⟩ := popD_ok c
          rw [e2] at hld'
          have hnd := List.nodup_append.mp hld'
          have hls2 : ∀ c, c ∈ l' ++ [x] → c ∈ left := by rw [← e2]; exact hls'
          have oin2 : ∀ c ∈ own, c ∈ ns ∧ c ∉ l' ++ [x] := by rw [← e2]; exact oin
          simp [c, e1, show own.length < 16777216 by omega]
          refine ⟨a, s, l', own ++ [x], _, .inr (.inl ⟨_, rfl⟩), s7, n7, by simp; omega, ?_, hnd.1, fun c hc => hls2 c (List.mem_append_left _ hc), ?_, ⟨rfl, rfl⟩, rfl, by simp, rfl, rfl⟩
          · rw [List.nodup_append]
            exact ⟨ond, by simp, fun y hy z hz e => (oin2 y hy).2 (by rw [e]; exact List.mem_append_right _ hz)⟩
          · intro c hc
            rcases List.mem_append.mp hc with z | z
            · exact ⟨(oin2 c z).1, fun w => (oin2 c z).2 (List.mem_append_left _ w)⟩
            · rw [List.mem_singleton.mp z]
              exact ⟨hls _ (hls2 _ (List.mem_append_right _ (List.mem_singleton.mpr rfl))), fun w => hnd.2.2 x w x (List.mem_singleton.mpr rfl) rfl⟩
        · have hz : left' = [] := List.length_eq_zero_iff.mp (by omega)
          subst hz
          simp
          exact ⟨a, s, [], own, _, .inr (.inl ⟨_, rfl⟩), s7, n7, by omega, ond, List.nodup_nil, (fun _ z => nomatch z), (fun c hc => ⟨(oin c hc).1, fun w => nomatch w⟩), ⟨rfl, rfl⟩, rfl, rfl, rfl, rfl⟩
      · obtain ⟨a, s, left', own, s6, s7, n6, n7, ol, ond, hld', hls', oin, rfl⟩ := hI
        simp at ol
        exact ⟨rfl, a, s, left', own, s6, s7, n6, n7, ol, ond, hld', hls', oin, rfl⟩
    rintro fl ρ' ⟨rfl, a, s, left', own, s6, s7, n6, n7, ol, ond, hld', hls', oin, rfl⟩
    simp only
    rw [ok_seq]
    refine Ok.mono (Q := fun fl ρ' => fl = .next ∧ ∃ (own : List Str), own ≠ [] ∧ own.length ≤ 4 ∧ own.Nodup ∧ (∀ c ∈ own, c ∈ ns ∧ (c ∈ left' → c = n0)) ∧ ρ' = [bx a s, .frz (.lst (dS ns)), .own (.lst (dS left')), .own (.lst (ts.map dT)), .frz (.int ts.length), .own (.lst (dS own)), s6, s7]) ?_ ?_
    · by_cases c : own = []
      · subst c
        by_cases c2 : ts.length = 0
        · simp [c2, hat0]
          exact ⟨[n0], by simp, by simp, by simp, fun c hc => by rw [List.mem_singleton.mp hc]; exact ⟨by rw [← hns]; exact List.mem_cons_self, fun _ => rfl⟩, rfl⟩
        · obtain ⟨t, tr, rfl⟩ : ∃ t tr, ts = t :: tr := by
            cases ts with
            | nil => simp at c2
            | cons x xs => exact ⟨x, xs, rfl⟩
          obtain ⟨c, cr, rfl⟩ : ∃ c cr, t = c :: cr := by
            cases t with
            | nil => exact absurd rfl (hts [] List.mem_cons_self).1.ne
            | cons x xs => exact ⟨x, xs, rfl⟩
          have hc := hts (c :: cr) List.mem_cons_self
          have c2' : ¬ ((tr.length : Int) + 1 = 0) := by omega
          simp [c2', dT, atI0]
          exact ⟨[c], by simp, by simp, by simp, fun d hd => by rw [List.mem_singleton.mp hd]; exact ⟨hc.1.sub c List.mem_cons_self, fun z => absurd (hls' c z) (hc.2 c List.mem_cons_self)⟩, rfl⟩
      · have c3 : ¬ own.length = 0 := fun z => c (List.length_eq_zero_iff.mp z)
        simp [c3]
        exact ⟨own, c, ol, ond, fun d hd => ⟨(oin d hd).1, fun z => absurd z (oin d hd).2⟩, rfl⟩
    rintro fl ρ' ⟨rfl, own, one, ol, ond, oin, rfl⟩
    simp only
    have txo : Txs own := fun c hc => tx c (oin c hc).1
    have txl : Txs left' := fun c hc => tx c (hls c (hls' c hc))
    have i1 : inD (.str n0) (.lst (dS own)) = some (.frz (.bl (decide (n0 ∈ own)))) := inD_lst (n := 0) told_str (okN_txs tx n0 (by rw [← hns]; exact List.mem_cons_self)) (okN_txs txo)
    have i2 : inD (.str n0) (.lst (dS left')) = some (.frz (.bl (decide (n0 ∈ left')))) := inD_lst (n := 0) told_str (okN_txs tx n0 (by rw [← hns]; exact List.mem_cons_self)) (okN_txs txl)
    rw [ok_seq]
    refine Ok.mono (Q := fun fl ρ' => fl = .next ∧ ∃ (left'' : List Str), left''.Nodup ∧ (∀ c ∈ left'', c ∈ left') ∧ (∀ c ∈ own, c ∉ left'') ∧ ρ' = [bx a s, .frz (.lst (dS ns)), .own (.lst (dS left'')), .own (.lst (ts.map dT)), .frz (.int ts.length), .own (.lst (dS own)), s6, s7]) ?_ ?_
    · by_cases c : n0 ∈ own ∧ n0 ∈ left'
      · obtain ⟨j, r1, r2, r3⟩ := rem_ok (n := 0) told_str (okN_txs txl n0 c.2) (okN_txs txl) c.2
        simp [hat0, i1, i2, c.1, c.2, r1]
        have hp : (n0 :: left'.eraseIdx j).Perm left' := by
          have := eraseIdx_perm r3
          rw [List.getElem?_eq_getElem r3] at r2
          rw [Option.some.inj r2] at this
          exact this
        have hnd := List.nodup_cons.mp (hp.nodup_iff.mpr hld')
        exact ⟨left'.eraseIdx j, hnd.2, fun c hc => hp.mem_iff.mp (List.mem_cons_of_mem _ hc), fun c hc w => hnd.1 (by rw [← (oin c hc).2 (hp.mem_iff.mp (List.mem_cons_of_mem _ w))]; exact w), rfl⟩
      · have : ¬ (n0 ∈ own ∧ n0 ∈ left') := c
        have hd : ∀ c ∈ own, c ∉ left' := fun d hd w => c ⟨by rw [← (oin d hd).2 w]; exact hd, by rw [← (oin d hd).2 w]; exact w⟩
        by_cases c1 : n0 ∈ own
        · have c2 : n0 ∉ left' := fun z => c ⟨c1, z⟩
          simp [hat0, i1, i2, c1, c2]
          exact ⟨left', hld', fun _ z => z, hd, rfl⟩
        · simp [hat0, i1, i2, c1]
          exact ⟨left', hld', fun _ z => z, hd, rfl⟩
    rintro fl ρ' ⟨rfl, left'', ld2, ls2, od, rfl⟩
    simp
    refine order_ok (.inl rfl) (by simp; omega) fun ds' a s hp => ?_
    obtain ⟨xs, rfl, hp2⟩ := perm_dS hp
    simp [show ts.length < 16777216 by omega]
    refine ⟨a, s, left'', ts ++ [xs], m, _, .inr (.inl ⟨_, rfl⟩), _, .inr (.inr ⟨_, rfl⟩), s6, n6, s7, n7, by simp, by simp; omega, fun t ht => ?_, ld2, fun c hc => hls c (hls' c (ls2 c hc)), ⟨rfl, rfl⟩, rfl, by simp [dT], rfl, rfl, rfl, rfl⟩
    rcases List.mem_append.mp ht with z | z
    · exact ⟨(hts t z).1, fun c hc w => (hts t z).2 c hc (hls' c (ls2 c w))⟩
    · rw [List.mem_singleton.mp z]
      exact ⟨⟨fun w => one (by rw [w] at hp2; exact hp2.symm.eq_nil), hp2.nodup_iff.mpr ond, fun c hc => (oin c (hp2.mem_iff.mp hc)).1⟩, fun c hc => od c (hp2.mem_iff.mp hc)⟩
  · obtain ⟨a, s, left, ts, n, s4, s5, s6, s7, n4, n5, n6, n7, htodo, hn, hts, hld, hls, rfl⟩ := hI
    cases n with
    | succ n => rw [rangeL_cons] at htodo; cases htodo
    | zero =>
      simp
      exact h _ _ _ ⟨fun z => by rw [z] at hn; simp at hn; omega, by omega, fun t ht => (hts t ht).1⟩
end Dz
/-! plain texts 4: tables that stand in a ring. -/
namespace Dz
open PySem Fs
def dL (t : List Str) : D := .lst (dS t)
/-- a cell's columns -/
structure CeOk (R c : List Str) : Prop where
  ne : c ≠ []
  nd : c.Nodup
  sub : ∀ x ∈ c, x ∈ R
theorem atI_map {α β : Type} {f : α → β} {xs : List α} {i : Int} (h0 : 0 ≤ i) (h1 : i < xs.length) : ∃ x, L2.atI (xs.map f) i = some (f x) ∧ xs[i.toNat]? = some x ∧ x ∈ xs := by
  obtain ⟨y, e, _, g⟩ := atI_mem (xs := xs.map f) h0 (by simpa using h1)
  rw [List.getElem?_map] at g
  cases q : xs[i.toNat]? with
  | none => rw [q] at g; cases g
  | some x => rw [q] at g; cases g; exact ⟨x, e, rfl, List.mem_of_getElem? q⟩
theorem nodup_ne {α : Type} {xs : List α} {i j : Nat} {x y : α} (nd : xs.Nodup) (h1 : xs[i]? = some x) (h2 : xs[j]? = some y) (h : i ≠ j) : x ≠ y := fun e => h (by
  subst e
  exact (List.getElem?_inj (List.getElem?_eq_some_iff.mp h1).1 nd).mp (h1.trans h2.symm))
theorem next_mod {k m : Int} (h0 : 0 ≤ k) (h1 : k < m) (hm : 2 ≤ m) : 0 ≤ (k + 1) % m ∧ (k + 1) % m < m ∧ (k + 1) % m ≠ k := by
  refine ⟨Int.emod_nonneg _ (by omega), Int.emod_lt_of_pos _ (by omega), ?_⟩
  by_cases c : k + 1 < m
  · rw [Int.emod_eq_of_lt (by omega) c]; omega
  · rw [show k + 1 = m by omega, Int.emod_self]; omega
abbrev rgEnv (a s : Int) (ns : List Str) (cells : List (List Str)) (m : Int) (s4 : Slot) (idx : List Nat) (s6 s7 s8 s9 : Slot) : Env :=
  [bx a s, .frz (.lst (dS ns)), .hp (cells.map dL),   .frz (.int m), s4, .own (.lst (idx.map D.cell)), s6, s7, s8, s9]
structure RgI (R : List Str) (cells : List (List Str)) (idx : List Nat) : Prop where
  ce : ∀ c ∈ cells, CeOk R c
  nd : idx.Nodup
  lt : ∀ i ∈ idx, i < cells.length
theorem ring1 {ns R : List Str} {m : Int} (h2 : 2 ≤ m) (h6 : m ≤ 6) (hR : R.length = m) (nd : R.Nodup) {a s : Int} :
    Ok (sAsg 5 (fLc (.nm 8) [8] (fRng rng1 [.sl 3]) (mret true) (fCell 2 (fLst [f2 (.sl 4) (.sl 8) getD1, f2 (.sl 4) (.ev (f2 (.ev (f2 (.sl 8) (.ev (fC (.int 1))) addD)) (.sl 3) modD)) getD1]))))
      [bx a s, .frz (.lst (dS ns)), .hp [], .frz (.int m), .own (.lst (dS R)), .emp, .emp, .emp, .emp, .emp]
      fun fl ρ' => fl = .next ∧ ∃ cells idx, RgI R cells idx ∧ idx.length = m.toNat ∧ ρ' = rgEnv a s ns cells m (.own (.lst (dS R))) idx .emp .emp .emp .emp := by
  rw [ok_sAsg]
  apply ok_fLc
  simp [rng1_at (n := m) (by omega) (by omega), wipeOk, calmSl, wipeE]
  refine ok_lcL (I := fun todo acc ρ => ∃ (cells : List (List Str)) (n : Nat), todo = rangeL cells.length n ∧ cells.length + n = m.toNat ∧ (∀ c ∈ cells, CeOk R c) ∧ acc = (List.range' 0 cells.length).map D.cell ∧ ρ = [bx a s, .frz (.lst (dS ns)), .hp (cells.map dL), .frz (.int m), .own (.lst (dS R)), .emp, .emp, .emp, .emp, .emp]) (fun d todo acc ρ hI => ?_) (fun acc ρ hI => ?_) _ _ _ ⟨[], m.toNat, rfl, by simp, (fun _ z => nomatch z), rfl, rfl⟩
  · obtain ⟨cells, n, htodo, hn, hce, rfl, rfl⟩ := hI
    obtain ⟨rfl, n, rfl, rfl⟩ := rangeL_inv htodo
    obtain ⟨q0, q1, q2⟩ := next_mod (k := cells.length) (m := m) (by omega) (by omega) h2
    obtain ⟨x, e1, g1, m1⟩ := atI_map (f := D.str) (xs := R) (i := cells.length) (by omega) (by omega)
    obtain ⟨y, e2, g2, m2⟩ := atI_map (f := D.str) (xs := R) (i := ((cells.length : Int) + 1) % m) q0 (by omega)
    have hxy : x ≠ y := nodup_ne nd g1 g2 (by omega)
    simp [e1, e2, show 0 < m by omega, show cells.length < 16777216 by omega, wipeE]
    refine ⟨cells ++ [[x, y]], n, by simp, by simp; omega, fun c hc => ?_, ?_, by simp [dL]⟩
    · rcases List.mem_append.mp hc with z | z
      · exact hce c z
      · rw [List.mem_singleton.mp z]
        exact ⟨by simp, by simp [hxy], fun w hw => by simp at hw; rcases hw with rfl | rfl <;> assumption⟩
    · rw [List.length_append, List.length_singleton, List.range'_1_concat, List.map_append]; simp
  · obtain ⟨cells, n, htodo, hn, hce, rfl, rfl⟩ := hI
    cases n with
    | succ n => rw [rangeL_cons] at htodo; cases htodo
    | zero =>
      simp [backE]
      exact ⟨cells, List.range' 0 cells.length, ⟨hce, List.nodup_range', fun i hi => by simpa using (List.mem_range'_1.mp hi).2⟩, by simp; omega, rfl, rfl⟩
@[simp] theorem nObj_dL {c : List Str} : nObj (dL c) = some (dL c) := rfl
theorem ring2 {ns R : List Str} {m : Int} (h3 : 3 ≤ m) (h6 : m ≤ 6) (hR : R.length = m) (nd : R.Nodup) (tx : Txs R) {a s : Int} {cells0 : List (List Str)} {idx0 : List Nat} (G : RgI R cells0 idx0) (hi : idx0.length = m.toNat) :
    Ok (fIf (fAnd (fB (f2 (.sl 3) (.ev (fC (.int 6))) ltD)) (fB (f2 (.ev (fCall m__law_take [.lent 0, .val (fC (.int 2))])) (.ev (fC (.int 0))) eqD)))
    (sAsg 5 (fLc (.nm 6) [6] (fSrc seqD (fName 4)) (mret true) (fCell 2 (fLc (.nm 9) [9] (fSrc seqD (fName 4)) (fB (f2 (.sl 9) (.sl 6) neD)) (fName 9)))))
    (mret .next)) (rgEnv a s ns cells0 m (.own (.lst (dS R))) idx0 .emp .emp .emp .emp)
      fun fl ρ' => fl = .next ∧ ∃ a s cells idx s4, RgI R cells idx ∧ idx.length = m.toNat ∧ ρ' = rgEnv a s ns cells m s4 idx .emp .emp .emp .emp := by
  by_cases c1 : m < 6
  · simp [c1]
    refine take_ok (by omega) (by omega) fun d a s d0 d1 => ?_
    by_cases c2 : d = 0
    · simp [c2]
      apply ok_fLc
      simp [wipeOk, calmSl, wipeE]
      refine ok_lcL (I := fun todo acc ρ => ∃ (cells : List (List Str)) (xs : List Str) (n : Nat), todo = dS xs ∧ (∀ x ∈ xs, x ∈ R) ∧ n + xs.length = m.toNat ∧ cells.length = cells0.length + n ∧ (∀ c ∈ cells, CeOk R c) ∧ acc = (List.range' cells0.length n).map D.cell ∧ ρ = [bx a s, .frz (.lst (dS ns)), .hp (cells.map dL), .frz (.int m), .frz (.lst (dS R)), .own (.lst (idx0.map D.cell)), .emp, .emp, .emp, .emp]) (fun d todo acc ρ hI => ?_) (fun acc ρ hI => ?_) _ _ _ ⟨cells0, R, 0, rfl, fun _ z => z, by omega, rfl, G.ce, rfl, rfl⟩
      · obtain ⟨cells, xs, n, htodo, hsub, hn, hlen, hce, rfl, rfl⟩ := hI
        obtain ⟨x, xs, rfl⟩ : ∃ y ys, xs = y :: ys := by
          cases xs with
          | nil => cases htodo
          | cons y ys => exact ⟨y, ys, rfl⟩
        cases htodo
        simp only [List.length_cons] at hn
        have hx := hsub x List.mem_cons_self
        simp
        apply ok_fLc
        simp [wipeOk, calmSl, wipeE]
        refine ok_lcMap (c := fun d => !decide (unS d = x)) (e := fun d => d) (fun d hd => ?_) (by simp; omega) ?_
        · obtain ⟨y, hy, rfl⟩ := List.mem_map.mp hd
          have e : neD (.str y) (.str x) = some (.frz (.bl (!decide (y = x)))) := by
            rw [neD, if_pos ⟨(okN_txs (n := 0) tx y hy).d, (okN_txs (n := 0) tx x hx).d⟩, told_str.eqB]
          simp [e]
          by_cases q : y = x
          · simp [q, wipeE, unS]
          · simp [q, wipeE, unS]
        · simp [show n < 16777216 by omega, backE]
          refine ⟨cells ++ [R.filter fun y => !decide (y = x)], xs, rfl, fun y hy => hsub y (List.mem_cons_of_mem _ hy), n + 1, by omega, by simp; omega, fun c hc => ?_, ?_, ?_⟩
          · rcases List.mem_append.mp hc with z | z
            · exact hce c z
            · rw [List.mem_singleton.mp z]
              refine ⟨fun z => ?_, nd.sublist List.filter_sublist, fun y hy => (List.mem_filter.mp hy).1⟩
              have hall : ∀ y ∈ R, y = x := fun y hy => by simpa using List.filter_eq_nil_iff.mp z y hy
              have := nodup_len nd (ys := [x]) fun y hy => List.mem_singleton.mpr (hall y hy)
              simp at this
              omega
          · rw [List.range'_1_concat, List.map_append, hlen]; rfl
          · simp [dL, dS, List.filter_map, Function.comp_def, unS]
            congr
      · obtain ⟨cells, xs, n, htodo, hsub, hn, hlen, hce, rfl, rfl⟩ := hI
        have hx : xs = [] := by
          cases xs with
          | nil => rfl
          | cons y ys => cases htodo
        subst hx
        simp [backE]
        exact ⟨a, s, cells, List.range' cells0.length n, ⟨hce, List.nodup_range', fun i hi => by have := (List.mem_range'_1.mp hi).2; omega⟩, by simp at hn ⊢; omega, ⟨rfl, rfl⟩, rfl, rfl⟩
    · simp [c2]
      exact ⟨_, _, cells0, idx0, G, hi, ⟨rfl, rfl⟩, rfl, rfl⟩
  · simp [c1]
    exact ⟨_, _, cells0, idx0, G, hi, ⟨rfl, rfl⟩, rfl, rfl⟩
theorem cell_at {cells : List (List Str)} {i : Nat} (h : i < cells.length) : ∃ c, (cells.map dL)[i]? = some (dL c) ∧ c ∈ cells ∧ cells[i]? = some c := ⟨cells[i], by rw [List.getElem?_map, List.getElem?_eq_getElem h]; rfl, List.getElem_mem h, List.getElem?_eq_getElem h⟩
theorem ring3 {ns R : List Str} {m : Int} (h3 : 3 ≤ m) (h6 : m ≤ 6) (hR : R.length = m) (nd : R.Nodup) (tx : Txs R) {a s : Int} {cells0 : List (List Str)} {idx0 : List Nat} (G : RgI R cells0 idx0) (hi : idx0.length = m.toNat) {s4 : Slot} :
    Ok (fIf (fAnd (fB (f2 (.sl 3) (.ev (fC (.int 6))) ltD)) (fB (f2 (.ev (fCall m__law_take [.lent 0, .val (fC (.int 2))])) (.ev (fC (.int 0))) eqD)))
    (sSeq (sAsg 6 (f2 (.sl 5) (.ev (fCall m__law_take [.lent 0, .bor 3])) getD1))
    (sExpr (fMut 5 [fCell 2 (fL [.ev (fCall m__law_some_columns [.lent 0, .cel 2 (fName 6), .val (f2 (.ev (fC (.int 1))) (.ev (fCall m__law_take [.lent 0, .val (fC (.int 2))])) addD)])] listD)] appD)))
    (mret .next)) (rgEnv a s ns cells0 m s4 idx0 .emp .emp .emp .emp)
      fun fl ρ' => fl = .next ∧ ∃ a s cells idx s6, nl s6 ∧ RgI R cells idx ∧ 1 ≤ idx.length ∧ idx.length ≤ 6 ∧ ρ' = rgEnv a s ns cells m s4 idx s6 .emp .emp .emp := by
  by_cases c1 : m < 6
  · simp [c1]
    refine take_ok (by omega) (by omega) fun d a s d0 d1 => ?_
    by_cases c2 : d = 0
    · simp [c2]
      refine take_ok (by omega) (by omega) fun e a s e0 e1 => ?_
      obtain ⟨i, ei, _, mi⟩ := atI_map (f := D.cell) (xs := idx0) (i := e) e0 (by omega)
      obtain ⟨c, ec, mc, ec'⟩ := cell_at (G.lt i mi)
      have hc := G.ce c mc
      have hcl := nodup_len hc.nd hc.sub
      simp [ei]
      refine take_ok (by omega) (by omega) fun f a s f0 f1 => ?_
      simp
      simp [ec']
      refine some_ok (.inl rfl) (by rw [List.length_map]; omega) (by omega) fun cs rest a s hp hcs => ?_
      obtain ⟨xs, ys, rfl, rfl, hp2⟩ := perm_dS2 hp
      rw [List.length_map, List.length_map] at hcs
      have hnd : (xs ++ ys).Nodup := hp2.nodup_iff.mpr hc.nd
      have hce := List.length_pos_iff.mpr hc.ne
      simp [show idx0.length < 16777216 by omega]
      refine ⟨a, s, cells0 ++ [xs], idx0 ++ [cells0.length], _, .inr (.inl ⟨_, rfl⟩), ⟨fun t ht => ?_, ?_, fun k hk => ?_⟩, by simp, by simp; omega, ⟨rfl, rfl⟩, by simp [dL], by simp, rfl⟩
      · rcases List.mem_append.mp ht with z | z
        · exact G.ce t z
        · rw [List.mem_singleton.mp z]
          exact ⟨fun w => by rw [w] at hcs; simp at hcs; omega, (List.nodup_append.mp hnd).1, fun y hy => hc.sub y (hp2.mem_iff.mp (List.mem_append_left _ hy))⟩
      · rw [List.nodup_append]
        exact ⟨G.nd, by simp, fun y hy z hz e => by have := G.lt y hy; rw [List.mem_singleton.mp hz] at e; omega⟩
      · rw [List.length_append, List.length_singleton]
        rcases List.mem_append.mp hk with z | z
        · have := G.lt k z; omega
        · rw [List.mem_singleton.mp z]; omega
    · simp [c2]
      exact ⟨_, _, cells0, idx0, .emp, .inl rfl, G, by omega, by omega, ⟨rfl, rfl⟩, rfl, rfl, rfl⟩
  · simp [c1]
    exact ⟨_, _, cells0, idx0, .emp, .inl rfl, G, by omega, by omega, ⟨rfl, rfl⟩, rfl, rfl, rfl⟩
theorem CeOk.up {R ns c : List Str} (h : CeOk R c) (hs : ∀ x ∈ R, x ∈ ns) : CeOk ns c := ⟨h.ne, h.nd, fun x hx => hs x (h.sub x hx)⟩
theorem set_dL {cells : List (List Str)} {k : Nat} {c : List Str} {y : Str} (h : cells[k]? = some c) : (cells.map dL).set k (.lst (dS c ++ [.str y])) = (cells.set k (c ++ [y])).map dL := by
  rw [List.map_set]; simp [dL]
@[simp] theorem isLs_dL {c : List Str} : isLs (dL c) = true := rfl
def emfr (s : Slot) : Prop := s = .emp ∨ ∃ d, s = .frz d
theorem emfr.nl {s : Slot} (h : emfr s) : nl s := by rcases h with rfl | ⟨d, rfl⟩ <;> simp
theorem emfr_frz {d : D} : emfr (.frz d) := .inr ⟨d, rfl⟩
theorem emfr_emp : emfr .emp := .inl rfl
theorem ring4 {ns R : List Str} {m : Int} (hl : ns.length = 6) (nds : ns.Nodup) (h3 : 3 ≤ m) (h6 : m ≤ 6) (hR : R = ns.take m.toNat) {a s : Int} {cells0 : List (List Str)} {idx : List Nat} (G : RgI R cells0 idx) (h1 : 1 ≤ idx.length) (hi : idx.length ≤ 6) {s4 s6 : Slot} (n6 : nl s6) :
    Ok (fIf (fAnd (fB (f2 (.sl 3) (.ev (fC (.int 6))) ltD)) (fAnd (fB (f2 (.ev (fL [.dr 2 (f2 (.sl 5) (.ev (fC (.int 0))) getD1)] lenD)) (.ev (fC (.int 4))) ltD)) (fB (f2 (.ev (fCall m__law_take [.lent 0, .val (fC (.int 2))])) (.ev (fC (.int 0))) eqD))))
    (sFor (.nm 7) (fSrc seqD (fSlice (.sl 5) (.no) (.op (f2 (.ev (fC (.int 1))) (.ev (fCall m__law_take [.lent 0, .val (fC (.int 2))])) addD))))
    (sExpr (fMutC 2 (fName 7) [f2 (.sl 1) (.sl 3) getD1] appD)))
    (mret .next)) (rgEnv a s ns cells0 m s4 idx s6 .emp .emp .emp)
      fun fl ρ' => fl = .next ∧ ∃ a s cells s7, emfr s7 ∧ RgI ns cells idx ∧ ρ' = rgEnv a s ns cells m s4 idx s6 s7 .emp .emp := by
  have hsub : ∀ x ∈ R, x ∈ ns := fun x hx => by rw [hR] at hx; exact List.mem_of_mem_take hx
  have G0 : RgI ns cells0 idx := ⟨fun c hc => (G.ce c hc).up hsub, G.nd, G.lt⟩
  by_cases c1 : m < 6
  · obtain ⟨i, ei, _, mi⟩ := atI_map (f := D.cell) (xs := idx) (i := 0) (by omega) (by omega)
    obtain ⟨c, _, mc, ec⟩ := cell_at (G.lt i mi)
    simp [c1, ei, ec]
    have hlen : lenD [dL c] = some (.frz (.int c.length)) := by rw [show lenD [dL c] = lenD [.lst (dS c)] from rfl, lenD_lst, List.length_map]
    simp [hlen]
    by_cases c2 : (c.length : Int) < 4
    · simp [c2]
      refine take_ok (by omega) (by omega) fun d a s d0 d1 => ?_
      by_cases c3 : d = 0
      · simp [c3]
        refine take_ok (by omega) (by omega) fun e a s e0 e1 => ?_
        obtain ⟨y, ey, gy, my⟩ := atI_map (f := D.str) (xs := ns) (i := m) (by omega) (by omega)
        have hy : y ∉ R := fun z => by
          rw [hR] at z
          obtain ⟨j, hj, q⟩ := List.mem_take_iff_getElem.mp z
          exact nodup_ne nds (List.getElem?_eq_getElem (by omega : j < ns.length)) gy (by omega) q
        simp
        rw [show cutD (idx.map D.cell) none (some (1 + e)) = (idx.take (1 + e).toNat).map D.cell from (cut_take (by omega)).trans List.map_take.symm]
        refine ok_forL (I := fun todo ρ => ∃ (a s : Int) (cells : List (List Str)) (ks : List Nat) (s7 : Slot), emfr s7 ∧ RgI ns cells idx ∧ todo = ks.map D.cell ∧ ks.Nodup ∧ (∀ k ∈ ks, k < cells.length ∧ ∀ c, cells[k]? = some c → CeOk R c) ∧ ρ = rgEnv a s ns cells m s4 idx s6 s7 .emp .emp) (fun d todo ρ hI => ?_) (fun ρ hI => ?_) _ _ ⟨a, s, cells0, idx.take (1 + e).toNat, .emp, emfr_emp, G0, rfl, G.nd.sublist (List.take_sublist _ _), fun k hk => ⟨G.lt k (List.mem_of_mem_take hk), fun c hc => G.ce c (List.mem_of_getElem? hc)⟩, rfl⟩
        · obtain ⟨a, s, cells, ks, s7, n7, G, htodo, knd, hks, rfl⟩ := hI
          obtain ⟨k, ks, rfl⟩ : ∃ k ks', ks = k :: ks' := by
            cases ks with
            | nil => cases htodo
            | cons k ks' => exact ⟨k, ks', rfl⟩
          cases htodo
          obtain ⟨knn, knd⟩ := List.nodup_cons.mp knd
          obtain ⟨c, _, mc, ec⟩ := cell_at (hks k List.mem_cons_self).1
          have hc := (hks k List.mem_cons_self).2 c ec
          have hcl := nodup_len (G.ce c mc).nd (G.ce c mc).sub
          rw [ok_setTg_nm]
          refine ok_set (s := s7) rfl n7.nl ?_
          have happ : appD [D.str y] (dL c) = some (.lst (dS c ++ [.str y]), .non) := by
            show (if (dS c).length < sizeLine then _ else none) = _
            rw [if_pos (by rw [List.length_map, sizeLine_val]; omega)]
          simp [ec, ey, happ]
          refine ⟨a, s, cells.set k (c ++ [y]), ks, _, emfr_frz, ⟨fun t ht => ?_, G.nd, fun j hj => by rw [List.length_set]; exact G.lt j hj⟩, rfl, knd, fun j hj => ?_, ⟨rfl, rfl⟩, ?_, rfl⟩
          · rcases List.mem_or_eq_of_mem_set ht with z | z
            · exact G.ce t z
            · rw [z]
              refine ⟨by simp, ?_, fun x hx => ?_⟩
              · rw [List.nodup_append]
                exact ⟨hc.nd, by simp, fun u hu v hv e => hy (by rw [← List.mem_singleton.mp hv, ← e]; exact hc.sub u hu)⟩
              · rcases List.mem_append.mp hx with w | w
                · exact (G.ce c mc).sub x w
                · rw [List.mem_singleton.mp w]; exact my
          · rw [List.length_set]
            refine ⟨(hks j (List.mem_cons_of_mem _ hj)).1, fun c' hc' => ?_⟩
            rw [List.getElem?_set_ne (fun z => knn (by rw [z]; exact hj))] at hc'
            exact (hks j (List.mem_cons_of_mem _ hj)).2 c' hc'
          · exact set_dL ec
        · obtain ⟨a, s, cells, ks, s7, n7, G, htodo, knd, hks, rfl⟩ := hI
          exact ⟨rfl, a, s, cells, s7, n7, G, rfl⟩
      · simp [c3]
        exact ⟨_, _, cells0, _, emfr_emp, G0, ⟨rfl, rfl⟩, rfl, rfl⟩
    · simp [c2]
      exact ⟨_, _, cells0, _, emfr_emp, G0, ⟨rfl, rfl⟩, rfl, rfl⟩
  · simp [c1]
    exact ⟨_, _, cells0, _, emfr_emp, G0, ⟨rfl, rfl⟩, rfl, rfl⟩
theorem noCells_dS (ns : List Str) : noCells (dS ns) = true := noCells_all.mpr fun d hd => by
  obtain ⟨x, _, rfl⟩ := List.mem_map.mp hd
  rfl
theorem ring_ok {ns : List Str} (hl : ns.length = 6) (nd : ns.Nodup) (tx : Txs ns) {th : Slot} (hth : th = .frz (.lst (dS ns))) {a s : Int} {Q : R → List Slot → Prop} (h : ∀ ts a' s', SetsOk ns ts → Q (.own (.lst (ts.map dT))) [bx a' s', th]) :
    COk m__law_ring_tables [bx a s, th] Q := by
  subst hth
  apply cok_fnH (a := 2) (n := 10) rfl (by omega) (by simp [noCells_dS])
  unfold b__law_ring_tables
  refine ok_seq_n (fun ρ' => ∃ (a s m : Int), 3 ≤ m ∧ m ≤ 6 ∧ ρ' = [bx a s, .frz (.lst (dS ns)), .hp [], .frz (.int m), .emp, .emp, .emp, .emp, .emp, .emp]) ?_ ?_
  · simp
    refine take_ok (by omega) (by omega) fun d a s d0 d1 => ?_
    simp
    exact ⟨a, s, 3 + d, by omega, by omega, ⟨rfl, rfl⟩, rfl⟩
  rintro ρ' ⟨a, s, m, h3, h6, rfl⟩
  have hR : ((ns.take m.toNat).length : Int) = m := by rw [List.length_take, hl]; omega
  have ndR : (ns.take m.toNat).Nodup := nd.sublist (List.take_sublist _ _)
  have txR : Txs (ns.take m.toNat) := fun c hc => tx c (List.mem_of_mem_take hc)
  refine ok_seq_n (fun ρ' => ρ' = [bx a s, .frz (.lst (dS ns)), .hp [], .frz (.int m), .own (.lst (dS (ns.take m.toNat))), .emp, .emp, .emp, .emp, .emp]) ?_ ?_
  · simp
    exact cut_take (by omega)
  rintro ρ' rfl
  refine ok_seq_n _ (ring1 (by omega) h6 hR ndR) ?_
  rintro ρ' ⟨cells, idx, G, hi, rfl⟩
  refine ok_seq_n _ (ring2 h3 h6 hR ndR txR G hi) ?_
  rintro ρ' ⟨a, s, cells, idx, s4, G, hi, rfl⟩
  refine ok_seq_n _ (ring3 h3 h6 hR ndR txR G hi) ?_
  rintro ρ' ⟨a, s, cells, idx, s6, n6, G, hi1, hi2, rfl⟩
  refine ok_seq_n _ (ring4 hl nd h3 h6 rfl G hi1 hi2 n6) ?_
  rintro ρ' ⟨a, s, cells, s7, n7, G, rfl⟩
  simp
  apply ok_fLc
  simp
  refine order_ok (.inl rfl) (by simp; omega) fun ds' a s hp => ?_
  obtain ⟨idx', rfl, hp2⟩ := perm_inv (f := D.cell) (g := fun d => match d with | .cell n => n | _ => 0) (fun _ => rfl) hp
  have hw : wipeOk [bx a s, .frz (.lst (dS ns)), .hp (cells.map dL), .frz (.int m), s4, .own (.lst (idx.map D.cell)), s6, s7, .emp, .emp] [7] = true := by
    rcases n7 with rfl | ⟨d, rfl⟩ <;> simp [wipeOk, calmSl]
  simp [hw]
  simp [wipeE]
  refine ok_lcL (I := fun todo acc ρ => ∃ (a s : Int) (ks : List Nat) (ts : List (List Str)), todo = ks.map D.cell ∧ ts.length + ks.length = idx.length ∧ (∀ k ∈ ks, k < cells.length) ∧ (∀ t ∈ ts, SetOk ns t) ∧ acc = ts.map dT ∧ ρ = [bx a s, .frz (.lst (dS ns)), .hp (cells.map dL), .frz (.int m), s4, .own (.lst (idx.map D.cell)), s6, .emp, .emp, .emp]) (fun d todo acc ρ hI => ?_) (fun acc ρ hI => ?_) _ _ _ ⟨a, s, idx', [], rfl, by simp [hp2.length_eq], fun k hk => G.lt k (hp2.mem_iff.mp hk), (fun _ z => nomatch z), rfl, rfl⟩
  · obtain ⟨a, s, ks, ts, htodo, hlen, hks, hts, rfl, rfl⟩ := hI
    obtain ⟨k, ks, rfl⟩ : ∃ k ks', ks = k :: ks' := by
      cases ks with
      | nil => cases htodo
      | cons k ks' => exact ⟨k, ks', rfl⟩
    cases htodo
    simp only [List.length_cons] at hlen
    obtain ⟨c, _, mc, ec⟩ := cell_at (hks k List.mem_cons_self)
    have hc := G.ce c mc
    have hcl := nodup_len hc.nd hc.sub
    simp [ec]
    refine order_ok (.inl rfl) (by rw [List.length_map]; omega) fun ds' a s hp => ?_
    obtain ⟨xs, rfl, hp3⟩ := perm_dS hp
    simp [show ts.length < 16777216 by omega, wipeE]
    refine ⟨a, s, ks, rfl, ts ++ [xs], by simp; omega, fun j hj => hks j (List.mem_cons_of_mem _ hj), fun t ht => ?_, by simp [dT], rfl, rfl⟩
    rcases List.mem_append.mp ht with z | z
    · exact hts t z
    · rw [List.mem_singleton.mp z]
      exact ⟨fun w => hc.ne (by rw [w] at hp3; exact hp3.symm.eq_nil), hp3.nodup_iff.mpr hc.nd, fun x hx => hc.sub x (hp3.mem_iff.mp hx)⟩
  · obtain ⟨a, s, ks, ts, htodo, hlen, hks, hts, rfl, rfl⟩ := hI
    cases ks with
    | cons k ks => cases htodo
    | nil =>
      simp at hlen
      have hnc : noCells (ts.map dT) = true := noCells_all.mpr fun d hd => by
        obtain ⟨x, _, rfl⟩ := List.mem_map.mp hd
        exact noCells_dS x
      have hsr : sealR (cells.map dL) (.own (.lst (ts.map dT))) = some (.own (.lst (ts.map dT))) := sealR_own hnc
      simp [backE, hsr, noCells_dS]
      exact h _ _ _ ⟨fun z => by rw [z] at hlen; simp at hlen; omega, by omega, hts⟩
end Dz
/-! plain texts 5: the names. -/
namespace Dz
open PySem Fs
@[simp ↓] theorem ok_sUnpS {ρ : Env} {ts : List Tg} {fe : M R} {Q : Fl → Env → Prop} : Ok (sUnpS ts fe) ρ Q ↔ Ok fe ρ fun r ρ1 => sN (strTup r.d) fun d => Ok (setTg (.tp ts) d) ρ1 fun _ ρ2 => Q .next ρ2 := by
  unfold sUnpS
  rw [ok_bind]
  constructor
  · intro h
    refine h.mono fun r ρ1 h => ?_
    rw [ok_bind] at h
    obtain ⟨d, e, h⟩ := ok_opt.mp h
    rw [ok_bind] at h
    exact ⟨d, e, h.mono fun _ ρ2 h => ok_ret.mp h⟩
  · intro h
    refine h.mono fun r ρ1 h => ?_
    obtain ⟨d, e, h⟩ := h
    rw [ok_bind]
    refine ok_opt.mpr ⟨d, e, ?_⟩
    refine ok_bind.mpr ?_
    exact h.mono fun _ ρ2 h => ok_ret.mpr h
@[simp] theorem mulSD_at {x : Str} {k : Int} (h0 : 0 ≤ k) (h1 : k ≤ 1) : mulSD (.str x) (.int k) = some (.frz (.str (if k < 1 then Str.empty else x))) := if_pos ⟨by omega, h1⟩
def tls (x : Str) : List Nat := x.cps.toList
def Low (x : Str) : Prop := ∀ c ∈ tls x, 97 ≤ c ∧ c ≤ 122
structure Wd (x : Str) : Prop where
  low : Low x
  pos : 1 ≤ x.length
  le : x.length ≤ 9
theorem Wd.ok {x : Str} (h : Wd x) : PyData.strOk x = true := by
  unfold PyData.strOk
  rw [← Array.all_toList, List.all_eq_true]
  intro c hc
  have := h.low c hc
  exact decide_eq_true (by omega)
structure NamesOk (ns : List Str) : Prop where
  len : ns.length = 6
  nd : ns.Nodup
  wd : ∀ c ∈ ns, Wd c
theorem NamesOk.tx {ns : List Str} (h : NamesOk ns) : Txs ns := fun c hc => (h.wd c hc).ok
theorem tls_append (x y : Str) : tls (x ++ y) = tls x ++ tls y := by
  show (x.cps ++ y.cps).toList = _
  rw [Array.toList_append]; rfl
theorem tls_len (x : Str) : x.length = (tls x).length := by simp [tls, Str.length]
theorem tls_ext {x y : Str} (h : tls x = tls y) : x = y := Str.ext' (Array.toList_inj.mp h)
theorem Low.app {x y : Str} (h : Low x) (k : Low y) : Low (x ++ y) := fun c hc => by
  rw [tls_append] at hc
  exact (List.mem_append.mp hc).elim (h c) (k c)
theorem low_one {c : Nat} (h0 : 97 ≤ c) (h1 : c ≤ 122) : Low ⟨#[c]⟩ := fun d hd => by
  have : d = c := List.mem_singleton.mp hd
  omega
theorem low_empty : Low Str.empty := fun d hd => nomatch hd
theorem low_nil : Low (Str.ofString "") := fun c hc => by
  have : tls (Str.ofString "") = [] := by decide +kernel
  rw [this] at hc
  cases hc
theorem low_join : ∀ {ys : List Str}, (∀ y ∈ ys, Low y) → Low (Txt.join (Str.ofString "") ys) := by
  intro ys h
  rw [_root_.TL.join_eq]
  induction ys with
  | nil => exact low_empty
  | cons x r ih =>
    cases r with
    | nil => exact h x List.mem_cons_self
    | cons z r => exact ((h x List.mem_cons_self).app low_nil).app (ih fun y hy => h y (List.mem_cons_of_mem _ hy))
theorem strs_low : ∀ {acc : List D}, (∀ d ∈ acc, ∃ c, d = D.str ⟨#[c]⟩ ∧ 97 ≤ c ∧ c ≤ 122) → ∃ ys : List Str, strsD acc = some ys ∧ ys.length = acc.length ∧ (∀ y ∈ ys, y.length = 1) ∧ ∀ y ∈ ys, Low y
  | [], _ => ⟨[], rfl, rfl, fun _ z => (List.not_mem_nil z).elim, fun _ z => (List.not_mem_nil z).elim⟩
  | d :: acc, h => by
    obtain ⟨c, rfl, c0, c1⟩ := h d List.mem_cons_self
    obtain ⟨ys, e, l, k, m⟩ := strs_low fun x z => h x (List.mem_cons_of_mem _ z)
    refine ⟨⟨#[c]⟩ :: ys, ?_, by simp [l], fun y z => ?_, fun y z => ?_⟩
    · show (strsD acc).map _ = _
      rw [e]; rfl
    · rcases List.mem_cons.mp z with rfl | z
      · rfl
      · exact k y z
    · rcases List.mem_cons.mp z with rfl | z
      · exact low_one c0 c1
      · exact m y z
theorem letter_at {i : Int} (h0 : 0 ≤ i) (h1 : i < 26) : L2.atI ("abcdefghijklmnopqrstuvwxyz" : Str).cps.toList i = some (97 + i.toNat) := by
  obtain ⟨k, rfl⟩ : ∃ k : Nat, i = k := ⟨i.toNat, by omega⟩
  have hk : k < 26 := by omega
  have key : ∀ k : _root_.Fin 26, L2.atI ("abcdefghijklmnopqrstuvwxyz" : Str).cps.toList (k.val : Int) = some (97 + k.val) := by decide +kernel
  exact key ⟨k, hk⟩
theorem letters_len : ("abcdefghijklmnopqrstuvwxyz" : Str).length = 26 := by decide +kernel
theorem letter_get {i : Int} (h0 : 0 ≤ i) (h1 : i < 26) : getD1 (.str ("abcdefghijklmnopqrstuvwxyz" : Str)) (.int i) = some (.frz (.str ⟨#[97 + i.toNat]⟩)) := by
  rw [getD1_str, letters_len, letter_at h0 h1]; rfl
theorem three_cut {d : Int} (h0 : 0 ≤ d) (h1 : d < 24) : L2.cutS (L2.cutS ("abcdefghijklmnopqrstuvwxyz" : Str) (some d) none) none (some 3) = ⟨#[97 + d.toNat, 98 + d.toNat, 99 + d.toNat]⟩ := by
  obtain ⟨k, rfl⟩ : ∃ k : Nat, d = k := ⟨d.toNat, by omega⟩
  have hk : k < 24 := by omega
  have key : ∀ k : _root_.Fin 24, L2.cutS (L2.cutS ("abcdefghijklmnopqrstuvwxyz" : Str) (some (k.val : Int)) none) none (some 3) = ⟨#[97 + k.val, 98 + k.val, 99 + k.val]⟩ := by decide +kernel
  exact key ⟨k, hk⟩
def six (d : Nat) : List Str := [⟨#[97 + d]⟩, ⟨#[97 + d, 98 + d]⟩, ⟨#[98 + d]⟩, ⟨#[98 + d, 99 + d]⟩, ⟨#[99 + d]⟩, ⟨#[97 + d, 99 + d]⟩]
theorem six_ok {d : Nat} (h : d < 24) : NamesOk (six d) := by
  have key : ∀ k : _root_.Fin 24, (six k.val).Nodup := by decide +kernel
  refine ⟨rfl, key ⟨d, h⟩, fun c hc => ?_⟩
  simp only [six, List.mem_cons, List.not_mem_nil, or_false] at hc
  rcases hc with rfl | rfl | rfl | rfl | rfl | rfl
  all_goals exact ⟨fun e he => by simp [tls] at he; omega, by simp [Str.length], by simp [Str.length]⟩
/-- the k-th word -/
def wl (T : List Nat) (a first fm : Nat) (k : Nat) : List Nat := T.take a ++ (97 + (first + 5 * k) % 26) :: T.drop a ++ (if fm = 1 ∧ k % 2 = 1 then [122] else [])
def wd (T : List Nat) (a first fm : Nat) (k : Nat) : Str := ⟨(wl T a first fm k).toArray⟩
theorem tls_wd (T : List Nat) (a first fm k : Nat) : tls (wd T a first fm k) = wl T a first fm k := rfl
theorem wl_inj {T : List Nat} {a first fm i j : Nat} (hi : i < 6) (hj : j < 6) (h : wl T a first fm i = wl T a first fm j) : i = j := by
  have hl := congrArg List.length h
  have hd : (97 + (first + 5 * i) % 26) :: (T.drop a ++ (if fm = 1 ∧ i % 2 = 1 then [122] else [])) = (97 + (first + 5 * j) % 26) :: (T.drop a ++ (if fm = 1 ∧ j % 2 = 1 then [122] else [])) := by
    unfold wl at h
    rw [List.append_assoc, List.append_assoc] at h
    exact List.append_cancel_left h
  have := (List.cons.inj hd).1
  omega
theorem wd_ok {T : List Nat} {a first fm : Nat} (hT : ∀ c ∈ T, 97 ≤ c ∧ c ≤ 122) (hl : T.length ≤ 4) (k : Nat) : Wd (wd T a first fm k) := by
  have hlen : (wd T a first fm k).length = (wl T a first fm k).length := by rw [tls_len]; rfl
  have hlen2 : (wl T a first fm k).length = T.length + 1 + (if fm = 1 ∧ k % 2 = 1 then [122] else ([] : List Nat)).length := by
    unfold wl
    rw [List.length_append, List.length_append, List.length_cons, List.length_take, List.length_drop]
    omega
  have h3 : (if fm = 1 ∧ k % 2 = 1 then [122] else ([] : List Nat)).length ≤ 1 := by split <;> simp
  refine ⟨fun c hc => ?_, by omega, by omega⟩
  rw [tls_wd] at hc
  unfold wl at hc
  rcases List.mem_append.mp hc with z | z
  · rcases List.mem_append.mp z with z | z
    · exact hT c (List.mem_of_mem_take z)
    · rcases List.mem_cons.mp z with z | z
      · omega
      · exact hT c (List.mem_of_mem_drop z)
  · split at z
    · have := List.mem_singleton.mp z; omega
    · cases z
theorem words_ok {T : List Nat} {a first fm : Nat} (hT : ∀ c ∈ T, 97 ≤ c ∧ c ≤ 122) (hl : T.length ≤ 4) : NamesOk ((List.range 6).map (wd T a first fm)) := by
  refine ⟨rfl, ?_, fun c hc => ?_⟩
  · rw [List.nodup_iff_pairwise_ne, List.pairwise_map]
    refine List.Pairwise.imp_of_mem (fun {x y} hx hy h e => h (wl_inj (List.mem_range.mp hx) (List.mem_range.mp hy) (congrArg tls e))) List.nodup_range
  · obtain ⟨k, _, rfl⟩ := List.mem_map.mp hc
    exact wd_ok hT hl k
theorem set_perm {α : Type} : ∀ {l : List α} {j : Nat} (h : j < l.length) (x : α), (l.set j x).Perm (x :: l.eraseIdx j)
  | y :: l, 0, _, x => .refl _
  | y :: l, j + 1, h, x => ((set_perm (l := l) (by simpa using h) x).cons y).trans (List.Perm.swap _ _ _)
theorem NamesOk.set {ns : List Str} (h : NamesOk ns) {j : Nat} {x : Str} (hx : x ∉ ns) (hw : Wd x) : NamesOk (ns.set j x) := by
  refine ⟨by rw [List.length_set]; exact h.len, ?_, fun c hc => ?_⟩
  · by_cases c : j < ns.length
    · have hp := set_perm c x
      rw [hp.nodup_iff, List.nodup_cons]
      exact ⟨fun z => hx (List.mem_of_mem_eraseIdx z), h.nd.sublist (List.eraseIdx_sublist ..)⟩
    · rw [List.set_eq_of_length_le (by omega)]; exact h.nd
  · rcases List.mem_or_eq_of_mem_set hc with z | z
    · exact h.wd c z
    · rw [z]; exact hw
def elevenS : List Str := ["table", "tree", "none", "answer", "levels", "looks", "at", "count", "ears", "cover", "place"]
theorem eleven_wd : ∀ x ∈ elevenS, Wd x := by
  have key : elevenS.all (fun x => decide ((tls x).all (fun c => decide (97 ≤ c) && decide (c ≤ 122)) = true) && decide (1 ≤ x.length) && decide (x.length ≤ 9)) = true := by decide +kernel
  intro x hx
  have := List.all_eq_true.mp key x hx
  simp only [Bool.and_eq_true, decide_eq_true_eq] at this
  refine ⟨fun c hc => ?_, this.1.2, this.2⟩
  have := List.all_eq_true.mp this.1.1 c hc
  simpa using this
theorem tls_cut1 {T : Str} {n : Int} (h : 0 ≤ n) : tls (L2.cutS T none (some n)) = (tls T).take n.toNat := by
  obtain ⟨k, rfl⟩ : ∃ k : Nat, n = k := ⟨n.toNat, by omega⟩
  show List.take (HT.sIx T.length T.length (some (k : Int)) - HT.sIx T.length 0 none) (List.drop (HT.sIx T.length 0 none) (tls T)) = _
  rw [HT.sIx_nat, HT.sIx_none, List.drop_zero, Nat.sub_zero, Int.toNat_natCast, List.take_eq_take_iff, tls_len]
  omega
theorem tls_cut2 {T : Str} {n : Int} (h : 0 ≤ n) : tls (L2.cutS T (some n) none) = (tls T).drop n.toNat := by
  obtain ⟨k, rfl⟩ : ∃ k : Nat, n = k := ⟨n.toNat, by omega⟩
  show List.take (HT.sIx T.length T.length none - HT.sIx T.length 0 (some (k : Int))) (List.drop (HT.sIx T.length 0 (some (k : Int))) (tls T)) = _
  rw [HT.sIx_nat, HT.sIx_none, Int.toNat_natCast, tls_len]
  by_cases c : k ≤ (tls T).length
  · rw [Nat.min_eq_left c, List.take_of_length_le (by rw [List.length_drop]; omega)]
  · rw [Nat.min_eq_right (by omega), List.drop_of_length_le (by omega), List.drop_of_length_le (by omega), List.take_nil]
theorem wd_eq {T : Str} {at_ first fm : Int} {k : Nat} (h0 : 0 ≤ at_) (h1 : 0 ≤ first) (h2 : 0 ≤ fm) :
    L2.cutS T none (some at_) ++ ⟨#[97 + ((first + 5 * (k : Int)) % 26).toNat]⟩ ++ L2.cutS T (some at_) none ++ (if fm = 1 ∧ (k : Int) % 2 = 1 then ("z" : Str) else Str.empty) = wd (tls T) at_.toNat first.toNat fm.toNat k := by
  refine tls_ext ?_
  rw [tls_append, tls_append, tls_append, tls_cut1 h0, tls_cut2 h0, tls_wd]
  unfold wl
  have e : ((first + 5 * (k : Int)) % 26).toNat = (first.toNat + 5 * k) % 26 := by omega
  rw [e, show tls ⟨#[97 + (first.toNat + 5 * k) % 26]⟩ = [97 + (first.toNat + 5 * k) % 26] from rfl]
  have e2 : tls (if fm = 1 ∧ (k : Int) % 2 = 1 then ("z" : Str) else Str.empty) = (if fm.toNat = 1 ∧ k % 2 = 1 then [122] else []) := by
    by_cases c : fm = 1 ∧ (k : Int) % 2 = 1
    · rw [if_pos c, if_pos ⟨by omega, by omega⟩]; decide +kernel
    · rw [if_neg c, if_neg (fun z => c ⟨by omega, by omega⟩)]; rfl
  rw [e2]
  simp
theorem NamesOk.okN {ns : List Str} (h : NamesOk ns) {n : Nat} : ∀ c ∈ ns, okN n (.str c) := okN_txs h.tx
def NmI (a s : Int) (T : Str) (at_ first fm : Int) (W : Nat → Str) (todo : List D) (ρ : Env) : Prop := ∃ (k n : Nat) (s8 s10 : Slot), nl s8 ∧ nl s10 ∧ todo = rangeL k n ∧ k + n = 6 ∧ ρ = [bx a s, .frz (.int 6), .frz (.str ("abcdefghijklmnopqrstuvwxyz" : Str)), .frz (.str T), .frz (.int at_), .frz (.int first), .frz (.int fm), .own (.lst (dS ((List.range k).map W))), s8, .emp, s10, .emp, .emp, .emp, .emp]
theorem names_ok {a s : Int} {Q : R → List Slot → Prop} (h : ∀ ns a' s', NamesOk ns → Q (.own (.lst (dS ns))) [bx a' s', .frz (.int 6)]) : COk m__law_names [bx a s, .frz (.int 6)] Q := by
  apply cok_fnA rfl
  unfold b__law_names
  -- letters, stem
  refine ok_seq_n (fun ρ' => ρ' = [bx a s, .frz (.int 6), .frz (.str ("abcdefghijklmnopqrstuvwxyz" : Str)), .emp, .emp, .emp, .emp, .emp, .emp, .emp, .emp, .emp, .emp, .emp, .emp]) (by simp) ?_
  rintro ρ' rfl
  refine ok_seq_n (fun ρ' => ∃ (a s : Int) (T : Str), Low T ∧ T.length ≤ 4 ∧ ρ' = [bx a s, .frz (.int 6), .frz (.str ("abcdefghijklmnopqrstuvwxyz" : Str)), .frz (.str T), .emp, .emp, .emp, .emp, .emp, .emp, .emp, .emp, .emp, .emp, .emp]) ?_ ?_
  · rw [ok_sAsg]
    simp
    apply ok_fLc
    simp
    refine take_ok (by omega) (by omega) fun d a s d0 d1 => ?_
    simp [rng1_at (n := d) (by omega) (by omega), wipeOk, calmSl, wipeE]
    refine ok_lcL (I := fun todo acc ρ => ∃ (a s : Int), acc.length + todo.length ≤ 4 ∧ (∀ d ∈ acc, ∃ c, d = D.str ⟨#[c]⟩ ∧ 97 ≤ c ∧ c ≤ 122) ∧ ρ = [bx a s, .frz (.int 6), .frz (.str ("abcdefghijklmnopqrstuvwxyz" : Str)), .emp, .emp, .emp, .emp, .emp, .emp, .emp, .emp, .emp, .emp, .emp, .emp]) (fun x todo acc ρ hI => ?_) (fun acc ρ hI => ?_) _ _ _ ⟨a, s, by simp [rangeL_len]; omega, (fun _ z => nomatch z), rfl⟩
    · obtain ⟨a, s, hl, hacc, rfl⟩ := hI
      simp only [List.length_cons] at hl
      simp
      refine take_ok (by omega) (by omega) fun e a s e0 e1 => ?_
      have hg := letter_get e0 e1
      simp [hg, -getD1_str, show acc.length < 16777216 by omega, wipeE]
      refine ⟨by omega, fun d hd => ?_⟩
      rcases hd with z | z
      · exact hacc d z
      · exact ⟨_, z, by omega, by omega⟩
    · obtain ⟨a, s, hl, hacc, rfl⟩ := hI
      simp at hl
      obtain ⟨ys, e1, e2, e3, e4⟩ := strs_low hacc
      have hj := join0_len ys
      rw [sum_ones e3] at hj
      have ej : joinX (Str.ofString "") (.lst acc) = some (.frz (.str (Txt.join (Str.ofString "") ys))) := by
        simp only [joinX, e1]
        rw [if_pos]
        rw [sum_ones e3, show (Str.ofString "").length = 0 from rfl]
        omega
      simp [backE, ej]
      exact ⟨a, s, _, low_join e4, by omega, ⟨rfl, rfl⟩, rfl⟩
  rintro ρ' ⟨a, s, T, hT, hTl, rfl⟩
  refine ok_seq_n (fun ρ' => ∃ (a s at_ : Int), 0 ≤ at_ ∧ at_ ≤ T.length ∧ ρ' = [bx a s, .frz (.int 6), .frz (.str ("abcdefghijklmnopqrstuvwxyz" : Str)), .frz (.str T), .frz (.int at_), .emp, .emp, .emp, .emp, .emp, .emp, .emp, .emp, .emp, .emp]) ?_ ?_
  · simp [show T.length ≤ 16777216 by omega]
    refine take_ok (by omega) (by omega) fun d a s d0 d1 => ?_
    simp
    exact ⟨a, s, d, d0, by omega, ⟨rfl, rfl⟩, rfl⟩
  rintro ρ' ⟨a, s, at_, at0, at1, rfl⟩
  refine ok_seq_n (fun ρ' => ∃ (a s first : Int), 0 ≤ first ∧ first < 26 ∧ ρ' = [bx a s, .frz (.int 6), .frz (.str ("abcdefghijklmnopqrstuvwxyz" : Str)), .frz (.str T), .frz (.int at_), .frz (.int first), .emp, .emp, .emp, .emp, .emp, .emp, .emp, .emp, .emp]) ?_ ?_
  · simp
    refine take_ok (by omega) (by omega) fun d a s d0 d1 => ?_
    simp
    exact ⟨a, s, d, d0, d1, ⟨rfl, rfl⟩, rfl⟩
  rintro ρ' ⟨a, s, first, f0, f1, rfl⟩
  refine ok_seq_n (fun ρ' => ∃ (a s fm : Int), 0 ≤ fm ∧ fm < 4 ∧ ρ' = [bx a s, .frz (.int 6), .frz (.str ("abcdefghijklmnopqrstuvwxyz" : Str)), .frz (.str T), .frz (.int at_), .frz (.int first), .frz (.int fm), .emp, .emp, .emp, .emp, .emp, .emp, .emp, .emp]) ?_ ?_
  · simp
    refine take_ok (by omega) (by omega) fun d a s d0 d1 => ?_
    simp
    exact ⟨a, s, d, d0, d1, ⟨rfl, rfl⟩, rfl⟩
  rintro ρ' ⟨a, s, fm, fm0, fm1, rfl⟩
  by_cases c2 : fm = 2
  · rw [ok_seq]
    simp [c2, letters_len]
    refine take_ok (by omega) (by omega) fun d a s d0 d1 => ?_
    have hz : (L2.cutS ("abcdefghijklmnopqrstuvwxyz" : Str) (some d) none).length ≤ 16777216 := by
      have : (L2.cutS ("abcdefghijklmnopqrstuvwxyz" : Str) (some d) none).length ≤ ("abcdefghijklmnopqrstuvwxyz" : Str).length := by
        rw [tls_len, tls_len]
        show (List.take _ (List.drop _ _)).length ≤ _
        rw [List.length_take, List.length_drop]
        show _ ≤ (tls _).length
        unfold tls
        omega
      rw [letters_len] at this
      omega
    simp [letters_len, hz, three_cut d0 d1, strTup, strsOf, Str.length_append, show ∀ n : Nat, (⟨#[n]⟩ : Str).length = 1 from fun _ => rfl]
    rw [cut_take (by omega)]
    exact h (six d.toNat) a s (six_ok (by omega))
  refine ok_seq_n (fun ρ' => ρ' = [bx a s, .frz (.int 6), .frz (.str ("abcdefghijklmnopqrstuvwxyz" : Str)), .frz (.str T), .frz (.int at_), .frz (.int first), .frz (.int fm), .emp, .emp, .emp, .emp, .emp, .emp, .emp, .emp]) (by simp [c2]) ?_
  rintro ρ' rfl
  refine ok_seq_n (fun ρ' => ρ' = [bx a s, .frz (.int 6), .frz (.str ("abcdefghijklmnopqrstuvwxyz" : Str)), .frz (.str T), .frz (.int at_), .frz (.int first), .frz (.int fm), .own (.lst []), .emp, .emp, .emp, .emp, .emp, .emp, .emp]) (by simp) ?_
  rintro ρ' rfl
  have hT' : ∀ c ∈ tls T, 97 ≤ c ∧ c ≤ 122 := hT
  have hTl' : (tls T).length ≤ 4 := by rw [← tls_len]; exact hTl
  generalize hW : wd (tls T) at_.toNat first.toNat fm.toNat = W
  have hWk : ∀ k, Wd (W k) := fun k => by rw [← hW]; exact wd_ok hT' hTl' k
  refine ok_seq_n (fun ρ' => ∃ (s8 s10 : Slot), nl s8 ∧ nl s10 ∧ ρ' = [bx a s, .frz (.int 6), .frz (.str ("abcdefghijklmnopqrstuvwxyz" : Str)), .frz (.str T), .frz (.int at_), .frz (.int first), .frz (.int fm), .own (.lst (dS ((List.range 6).map W))), s8, .emp, s10, .emp, .emp, .emp, .emp]) ?_ ?_
  · simp [rng1_at (n := 6) (by omega) (by omega)]
    refine ok_forL (I := NmI a s T at_ first fm W) (fun x todo ρ hI => ?_) (fun ρ hI => ?_) _ _ ⟨0, 6, .emp, .emp, .inl rfl, .inl rfl, rfl, rfl, rfl⟩
    · obtain ⟨k, n, s8, s10, n8, n10, htodo, hk, rfl⟩ := hI
      obtain ⟨rfl, n, rfl, rfl⟩ := rangeL_inv htodo
      rw [ok_setTg_nm]
      refine ok_set rfl n8 ?_
      have hl1 : (L2.cutS T none (some at_)).length ≤ 4 := by
        rw [tls_len]
        show (List.take _ (List.drop _ (tls T))).length ≤ _
        rw [List.length_take, List.length_drop]
        omega
      have hl2 : (L2.cutS T (some at_) none).length ≤ 4 := by
        rw [tls_len]
        show (List.take _ (List.drop _ (tls T))).length ≤ _
        rw [List.length_take, List.length_drop]
        omega
      have hg := letter_get (i := (first + 5 * k) % 26) (Int.emod_nonneg _ (by omega)) (Int.emod_lt_of_pos _ (by omega))
      have hone : ∀ n : Nat, (⟨#[n]⟩ : Str).length = 1 := fun _ => rfl
      have hz1 : ("z" : Str).length = 1 := rfl
      have he := wd_eq (T := T) (at_ := at_) (first := first) (fm := fm) (k := k) at0 f0 fm0
      rw [hW] at he
      simp [wN_nl n10, show T.length ≤ 16777216 by omega, mulOk_l, hg, -getD1_str, hone, Str.length_append, show (L2.cutS T none (some at_)).length + 1 ≤ 16777216 by omega, show (L2.cutS T none (some at_)).length + 1 + (L2.cutS T (some at_) none).length ≤ 16777216 by omega]
      have hzz : ∀ c : Prop, [Decidable c] → (if c then ("z" : Str) else Str.empty).length ≤ 1 := fun c _ => by split <;> decide
      have key : ∀ b : Bool, b = decide (fm = 1 ∧ (k : Int) % 2 = 1) → (if b = true then (1 : Int) else 0) < 1 ∧ ¬ (fm = 1 ∧ (k : Int) % 2 = 1) ∨ ¬ (if b = true then (1 : Int) else 0) < 1 ∧ (fm = 1 ∧ (k : Int) % 2 = 1) := fun b hb => by
        subst hb
        by_cases c : fm = 1 ∧ (k : Int) % 2 = 1
        · exact .inr ⟨by simp [c], c⟩
        · exact .inl ⟨by simp [c], c⟩
      by_cases c1 : fm = 1
      · by_cases c3 : (k : Int) % 2 = 1
        · rw [if_pos ⟨c1, c3⟩] at he
          simp [c1, c3, hz1, hone, Str.length_append, show (L2.cutS T none (some at_)).length + 1 + (L2.cutS T (some at_) none).length + 1 ≤ 16777216 by omega, show k < 16777216 by omega]
          refine ⟨by omega, k + 1, n, .frz (.int k), .frz (.str (L2.cutS T none (some at_) ++ ⟨#[97 + ((first + 5 * (k : Int)) % 26).toNat]⟩ ++ L2.cutS T (some at_) none)), nl_frz, nl_frz, by simp, by omega, ?_⟩
          simp [List.range_succ, he]
        · rw [if_neg (fun z => c3 z.2)] at he
          simp [c1, c3, hz1, hone, Str.length_append, show (Str.empty).length = 0 from rfl, show (L2.cutS T none (some at_)).length + 1 + (L2.cutS T (some at_) none).length ≤ 16777216 by omega, show k < 16777216 by omega]
          refine ⟨by omega, k + 1, n, .frz (.int k), .frz (.str (L2.cutS T none (some at_) ++ ⟨#[97 + ((first + 5 * (k : Int)) % 26).toNat]⟩ ++ L2.cutS T (some at_) none)), nl_frz, nl_frz, by simp, by omega, ?_⟩
          simp [List.range_succ, he]
      · rw [if_neg (fun z => c1 z.1)] at he
        simp [c1, hz1, hone, Str.length_append, show (Str.empty).length = 0 from rfl, show (L2.cutS T none (some at_)).length + 1 + (L2.cutS T (some at_) none).length ≤ 16777216 by omega, show k < 16777216 by omega]
        refine ⟨by omega, k + 1, n, .frz (.int k), .frz (.str (L2.cutS T none (some at_) ++ ⟨#[97 + ((first + 5 * (k : Int)) % 26).toNat]⟩ ++ L2.cutS T (some at_) none)), nl_frz, nl_frz, by simp, by omega, ?_⟩
        simp [List.range_succ, he]
    · obtain ⟨k, n, s8, s10, n8, n10, htodo, hk, rfl⟩ := hI
      cases n with
      | succ n => rw [rangeL_cons] at htodo; cases htodo
      | zero =>
        have : k = 6 := by omega
        subst this
        exact ⟨rfl, s8, s10, n8, n10, rfl⟩
  rintro ρ' ⟨s8, s10, n8, n10, rfl⟩
  have hns : NamesOk ((List.range 6).map W) := by rw [← hW]; exact words_ok hT' hTl'
  generalize (List.range 6).map W = ns at hns
  refine ok_seq_n (fun ρ' => ρ' = [bx a s, .frz (.int 6), .frz (.str ("abcdefghijklmnopqrstuvwxyz" : Str)), .frz (.str T), .frz (.int at_), .frz (.int first), .frz (.int fm), .own (.lst (dS ns)), s8, .own (.lst (dS (elevenS.take 6))), s10, .emp, .emp, .emp, .emp]) (by simp; rfl) ?_
  rintro ρ' rfl
  refine ok_seq_n (fun ρ' => ρ' = [bx a s, .frz (.int 6), .frz (.str ("abcdefghijklmnopqrstuvwxyz" : Str)), .frz (.str T), .frz (.int at_), .frz (.int first), .frz (.int fm), .own (.lst (dS ns)), s8, .own (.lst (dS elevenS)), s10, .emp, .emp, .emp, .emp]) (by simp [elevenS]) ?_
  rintro ρ' rfl
  refine ok_seq_n (fun ρ' => ∃ (a s : Int) (x : Str), Wd x ∧ ρ' = [bx a s, .frz (.int 6), .frz (.str ("abcdefghijklmnopqrstuvwxyz" : Str)), .frz (.str T), .frz (.int at_), .frz (.int first), .frz (.int fm), .own (.lst (dS ns)), s8, .own (.lst (dS elevenS)), .frz (.str x), .emp, .emp, .emp, .emp]) ?_ ?_
  · simp
    refine take_ok (by omega) (by omega) fun d a s d0 d1 => ?_
    obtain ⟨x, ex, _, mx⟩ := atI_map (f := D.str) (xs := elevenS) (i := d) d0 (by simpa [elevenS] using d1)
    simp [ex, wN_nl n10]
    exact eleven_wd x mx
  rintro ρ' ⟨a, s, x, hx, rfl⟩
  refine ok_seq_n (fun ρ' => ∃ (a s : Int) (ns : List Str), NamesOk ns ∧ ρ' = [bx a s, .frz (.int 6), .frz (.str ("abcdefghijklmnopqrstuvwxyz" : Str)), .frz (.str T), .frz (.int at_), .frz (.int first), .frz (.int fm), .own (.lst (dS ns)), s8, .own (.lst (dS elevenS)), .frz (.str x), .emp, .emp, .emp, .emp]) ?_ ?_
  · have hin : ninD (.str x) (.lst (dS ns)) = some (.frz (.bl (!decide (x ∈ ns)))) := ninD_lst (n := 0) told_str (okN_str hx.ok) hns.okN
    simp
    refine take_ok (by omega) (by omega) fun d a s d0 d1 => ?_
    by_cases c : d = 0
    · by_cases c2 : x ∈ ns
      · simp [c, hin, c2]
        exact ⟨a, s, ns, hns, ⟨rfl, rfl⟩, rfl⟩
      · simp [c, hin, c2]
        refine take_ok (by omega) (by omega) fun j a s j0 j1 => ?_
        have hl := hns.len
        have hix : L2.ixN (dS ns).length j = some j.toNat := by
          rw [List.length_map, L2.ixN, if_pos j0, if_pos (by omega)]
        simp at hix
        simp [hix]
        exact ⟨a, s, ns.set j.toNat x, hns.set c2 hx, ⟨rfl, rfl⟩, List.map_set.symm⟩
    · simp [c]
      exact ⟨a, s, ns, hns, ⟨rfl, rfl⟩, rfl⟩
  rintro ρ' ⟨a, s, ns, hns, rfl⟩
  simp
  exact h ns a s hns
end Dz
/-! plain texts 6: the question, its columns. -/
namespace Dz
open PySem Fs
abbrev Qu := List (Str × List Str)
def encT (t : Str × List Str) : D := .tup [.str t.1, dT t.2]
def encQ (q : Qu) : D := .tup (q.map encT)
structure QuOk (q : Qu) : Prop where
  ne : q ≠ []
  le : q.length ≤ 6
  nd : (q.map (·.1)).Nodup
  wd : ∀ t ∈ q, Wd t.1
  cols : ∃ ns, NamesOk ns ∧ ∀ t ∈ q, SetOk ns t.2
theorem told_dT : Told dT := told_str.tup
theorem told_encT : Told encT := told_str.two told_dT
theorem QuOk.tx {q : Qu} (h : QuOk q) : ∀ t ∈ q, Txs t.2 := fun t ht c hc => by
  obtain ⟨ns, hn, hs⟩ := h.cols
  exact (hn.wd c ((hs t ht).sub c hc)).ok
theorem QuOk.set {q : Qu} (h : QuOk q) : ∀ t ∈ q, t.2 ≠ [] ∧ t.2.Nodup ∧ t.2.length ≤ 6 := fun t ht => by
  obtain ⟨ns, hn, hs⟩ := h.cols
  have := nodup_len (hs t ht).nd (hs t ht).sub
  exact ⟨(hs t ht).ne, (hs t ht).nd, by rw [hn.len] at this; exact this⟩
/-! ### its columns, each once -/
def colsF (acc : List Str) (t : Str × List Str) : List Str := acc ++ t.2.filter fun c => !decide (c ∈ acc)
def colsL (q : Qu) : List Str := q.foldl colsF []
theorem colsL_snoc (q : Qu) (t : Str × List Str) : colsL (q ++ [t]) = colsF (colsL q) t := by simp [colsL]
theorem snoc_ind {α : Type} {P : List α → Prop} (h0 : P []) (h1 : ∀ l a, P l → P (l ++ [a])) : ∀ l, P l := by
  have : ∀ l : List α, P l.reverse := fun l => by
    induction l with
    | nil => exact h0
    | cons a l ih => rw [List.reverse_cons]; exact h1 _ _ ih
  intro l
  rw [← List.reverse_reverse l]
  exact this _
theorem mem_colsL {c : Str} : ∀ q : Qu, c ∈ colsL q ↔ ∃ t ∈ q, c ∈ t.2 := by
  apply snoc_ind
  · simp [colsL]
  · intro q t ih
    rw [colsL_snoc, colsF, List.mem_append, ih, List.mem_filter]
    constructor
    · rintro (⟨u, hu, hc⟩ | ⟨hc, _⟩)
      · exact ⟨u, List.mem_append_left _ hu, hc⟩
      · exact ⟨t, by simp, hc⟩
    · rintro ⟨u, hu, hc⟩
      rcases List.mem_append.mp hu with z | z
      · exact .inl ⟨u, z, hc⟩
      · rw [List.mem_singleton.mp z] at hc
        by_cases k : c ∈ colsL q
        · exact .inl (ih.mp k)
        · exact .inr ⟨hc, by simp [k]⟩
theorem nodup_colsL : ∀ q : Qu, (∀ t ∈ q, t.2.Nodup) → (colsL q).Nodup := by
  apply snoc_ind
  · intro _; exact List.nodup_nil
  · intro q t ih h
    rw [colsL_snoc, colsF, List.nodup_append]
    refine ⟨ih fun u hu => h u (List.mem_append_left _ hu), (h t (by simp)).sublist List.filter_sublist, fun x hx y hy e => ?_⟩
    have := (List.mem_filter.mp hy).2
    rw [← e] at this
    simp [hx] at this
theorem QuOk.colsLen {q q' : Qu} (h : QuOk q) (hs : ∀ t ∈ q', t ∈ q) : (colsL q').length ≤ 6 := by
  obtain ⟨ns, hn, hc⟩ := h.cols
  have := nodup_len (nodup_colsL q' fun t ht => (h.set t (hs t ht)).2.1) (ys := ns) fun c hx => by
    obtain ⟨t, ht, hx⟩ := (mem_colsL q').mp hx
    exact (hc t (hs t ht)).sub c hx
  rw [hn.len] at this
  exact this
theorem QuOk.colsTx {q : Qu} (h : QuOk q) : Txs (colsL q) := fun c hc => by
  obtain ⟨t, ht, hc⟩ := (mem_colsL q).mp hc
  exact h.tx t ht c hc
theorem cols_loop {q : Qu} (h : QuOk q) : Ok (sFor (.tp [.nm 2, .nm 3]) (fSrcB seqD 0)
    (sExpr (fMutO 1 [.ev (fLc (.nm 4) [4] (fSrcB seqD 3) (fB (f2 (.sl 4) (.sl 1) ninD)) (fName 4))] extD))) [.frz (encQ q), .own (.lst []), .emp, .emp, .emp]
    fun fl ρ' => fl = .next ∧ ∃ s2 s3, ρ' = [.frz (encQ q), .own (.lst (dS (colsL q))), s2, s3, .emp] := by
  simp
  refine ⟨q.map encT, rfl, ?_⟩
  refine ok_forL (I := fun todo ρ => ∃ (q1 q2 : Qu) (s2 s3 : Slot), nl s2 ∧ nl s3 ∧ q = q1 ++ q2 ∧ todo = q2.map encT ∧ ρ = [.frz (encQ q), .own (.lst (dS (colsL q1))), s2, s3, .emp]) (fun x todo ρ hI => ?_) (fun ρ hI => ?_) _ _ ⟨[], q, .emp, .emp, .inl rfl, .inl rfl, rfl, rfl, rfl⟩
  · obtain ⟨q1, q2, s2, s3, n2, n3, hq, htodo, rfl⟩ := hI
    obtain ⟨t, q2, rfl⟩ : ∃ t q2', q2 = t :: q2' := by
      cases q2 with
      | nil => cases htodo
      | cons t q2' => exact ⟨t, q2', rfl⟩
    cases htodo
    have ht : t ∈ q := by rw [hq]; simp
    have hsub : ∀ u ∈ q1, u ∈ q := fun u hu => by rw [hq]; exact List.mem_append_left _ hu
    have hcl := h.colsLen hsub
    have htl := (h.set t ht).2.2
    have htx : Txs (colsL q1) := fun c hc => by
      obtain ⟨u, hu, hc⟩ := (mem_colsL q1).mp hc
      exact h.tx u (hsub u hu) c hc
    simp [encT, wN_nl n2, wN_nl n3]
    apply ok_fLc
    simp [dT, wipeOk, calmSl, wipeE]
    refine ok_lcMap (c := fun d => !decide (unS d ∈ colsL q1)) (e := fun d => d) (fun d hd => ?_) (by simp; omega) ?_
    · obtain ⟨c, hc, rfl⟩ := List.mem_map.mp hd
      have e : ninD (.str c) (.lst (dS (colsL q1))) = some (.frz (.bl (!decide (c ∈ colsL q1)))) := ninD_lst (n := 0) told_str (okN_txs (h.tx t ht) c hc) (okN_txs htx)
      by_cases k : c ∈ colsL q1
      · simp [e, k, unS, wipeE]
      · simp [e, k, unS, wipeE]
    · have hlen : ((t.2.map D.str).filter fun d => !decide (unS d ∈ colsL q1)).length ≤ 6 := Nat.le_trans (List.length_filter_le _ _) (by rw [List.length_map]; exact htl)
      simp [backE, show (colsL q1).length + ((t.2.map D.str).filter fun d => !decide (unS d ∈ colsL q1)).length ≤ 16777216 by omega]
      refine ⟨q1 ++ [t], q2, _, nl_frz, _, nl_frz, by rw [hq]; simp, rfl, ?_, rfl, rfl⟩
      rw [colsL_snoc]
      simp [colsF, List.filter_map, Function.comp_def, unS]
      congr
  · obtain ⟨q1, q2, s2, s3, n2, n3, hq, htodo, rfl⟩ := hI
    cases q2 with
    | cons _ _ => cases htodo
    | nil =>
      rw [List.append_nil] at hq
      subst hq
      exact ⟨rfl, s2, s3, rfl⟩
theorem columns_ok {q : Qu} (h : QuOk q) {Q : R → List Slot → Prop} (hq : Q (.own (.lst (dS (colsL q)))) [.frz (encQ q)]) : COk m__law_columns [.frz (encQ q)] Q := by
  apply cok_fnA rfl
  unfold b__law_columns
  refine ok_seq_n (fun ρ' => ρ' = [.frz (encQ q), .own (.lst []), .emp, .emp, .emp]) (by simp) ?_
  rintro ρ' rfl
  refine ok_seq_n _ (cols_loop h) ?_
  rintro ρ' ⟨s2, s3, rfl⟩
  simp
  exact hq
theorem columns_of_ok {q : Qu} (h : QuOk q) {Q : R → List Slot → Prop} (hq : Q (.frz (dT (colsL q))) [.frz (encQ q)]) : COk m_columns_of [.frz (encQ q)] Q := by
  apply cok_fnA rfl
  unfold b_columns_of
  refine ok_seq_n (fun ρ' => ρ' = [.frz (encQ q), .own (.lst []), .emp, .emp, .emp]) (by simp) ?_
  rintro ρ' rfl
  refine ok_seq_n _ (cols_loop h) ?_
  rintro ρ' ⟨s2, s3, rfl⟩
  simp
  exact hq
/-! ### the question -/
@[simp] theorem zipTD_lst {xs ys : List D} : zipTD [.lst xs, .lst ys] = some (.frz (.tup (zipRow xs ys))) := rfl
theorem zip_enc (ts : List Str) (ss : List (List Str)) : zipRow (dS ts) (ss.map dT) = (ts.zip ss).map encT := by
  unfold zipRow
  rw [dS, List.zip_map, List.map_map]; rfl
theorem zip_fst {α β : Type} : ∀ (xs : List α) (ys : List β), ys.length ≤ xs.length → (xs.zip ys).map (·.1) = xs.take ys.length
  | [], [], _ => rfl
  | _ :: _, [], _ => rfl
  | [], _ :: _, h => by simp at h
  | x :: xs, y :: ys, h => by
    rw [List.zip_cons_cons, List.map_cons, List.length_cons, List.take_succ_cons, zip_fst xs ys (by simpa using h)]
@[simp ↓] theorem ok_sPar {ρ : Env} {ts : List Tg} {fs : List (M R)} {Q : Fl → Env → Prop} : Ok (sPar ts fs) ρ Q ↔ Ok (evF fs) ρ fun ds ρ1 => Ok (setTgs ts ds) ρ1 fun _ ρ2 => Q .next ρ2 := by
  unfold sPar
  rw [ok_bind]
  constructor
  · exact fun h => h.mono fun r ρ1 h => (ok_bind.mp h).mono fun _ ρ2 h => ok_ret.mp h
  · exact fun h => h.mono fun r ρ1 h => ok_bind.mpr (h.mono fun _ ρ2 h => ok_ret.mpr h)
def S4 (s4 : Slot) (tn : List Str) : Prop := s4.cont = some (.lst (dS tn))
theorem zip_ok {tn cn : List Str} {ss : List (List Str)} (ht : NamesOk tn) (hc : NamesOk cn) (hs : SetsOk cn ss) : QuOk (tn.zip ss) := by
  have h1 : (tn.zip ss).length = ss.length := by rw [List.length_zip, ht.len]; have := hs.le; omega
  refine ⟨fun z => hs.ne (List.length_eq_zero_iff.mp (by rw [← h1, z]; rfl)), by rw [h1]; exact hs.le, ?_, fun t h => ht.wd _ (List.of_mem_zip h).1, cn, hc, fun t h => hs.ok _ (List.of_mem_zip h).2⟩
  rw [show (tn.zip ss).map (·.1) = tn.take ss.length from zip_fst _ _ (by rw [ht.len]; exact hs.le)]
  exact ht.nd.sublist (List.take_sublist _ _)
theorem question_ok {a s kind : Int} (k0 : 0 ≤ kind) (k3 : kind ≤ 3) {Q : R → List Slot → Prop} (h : ∀ q a' s', QuOk q → Q (.frz (encQ q)) [bx a' s', .frz (.int kind)]) : COk m__law_question [bx a s, .frz (.int kind)] Q := by
  apply cok_fnA rfl
  unfold b__law_question
  refine ok_seq_n (fun ρ' => ∃ (a s : Int) (cn tn : List Str), NamesOk cn ∧ NamesOk tn ∧ ρ' = [bx a s, .frz (.int kind), .emp, .frz (.lst (dS cn)), .frz (.lst (dS tn)), .emp]) ?_ ?_
  · simp
    refine names_ok fun cn a s hcn => ?_
    simp
    refine names_ok fun tn a s htn => ?_
    simp
    exact ⟨a, s, cn, hcn, tn, htn, ⟨rfl, rfl⟩, rfl, rfl⟩
  rintro ρ' ⟨a, s, cn, tn, hcn, htn, rfl⟩
  refine ok_seq_n (fun ρ' => ∃ (a s : Int) (tn : List Str) (s4 : Slot), NamesOk tn ∧ S4 s4 tn ∧ ρ' = [bx a s, .frz (.int kind), .emp, .frz (.lst (dS cn)), s4, .emp]) ?_ ?_
  · simp
    refine take_ok (by omega) (by omega) fun d a s d0 d1 => ?_
    by_cases c : d = 0
    · simp [c]
      refine order_ok (.inr (.inr rfl)) (by simp [hcn.len]) fun ds' a s hp => ?_
      obtain ⟨xs, rfl, hp2⟩ := perm_dS hp
      simp
      exact ⟨a, s, xs, ⟨hp2.length_eq.trans hcn.len, hp2.nodup_iff.mpr hcn.nd, fun c hc => hcn.wd c (hp2.mem_iff.mp hc)⟩, rfl, ⟨rfl, rfl⟩⟩
    · simp [c]
      exact ⟨a, s, tn, htn, rfl, ⟨rfl, rfl⟩⟩
  rintro ρ' ⟨a, s, tn, s4, htn, e4, rfl⟩
  refine ok_seq_n (fun ρ' => ρ' = [bx a s, .frz (.int kind), .frz (.int kind), .frz (.lst (dS cn)), s4, .emp]) (by simp) ?_
  rintro ρ' rfl
  refine ok_seq_n (fun ρ' => ∃ (a s way : Int), ρ' = [bx a s, .frz (.int kind), .frz (.int way), .frz (.lst (dS cn)), s4, .emp]) ?_ ?_
  · by_cases c : kind = 3
    · simp [c]
      refine take_ok (by omega) (by omega) fun d a s d0 d1 => ?_
      simp
    · simp [c]
  rintro ρ' ⟨a, s, way, rfl⟩
  refine ok_seq_n (fun ρ' => ∃ (a s : Int) (ss : List (List Str)), SetsOk cn ss ∧ ρ' = [bx a s, .frz (.int kind), .frz (.int way), .frz (.lst (dS cn)), s4, .own (.lst (ss.map dT))]) ?_ ?_
  · by_cases c0 : way = 0
    · simp [c0]
      refine any_ok hcn.len hcn.nd rfl fun ts a s hts => ?_
      simp
      exact ⟨a, s, ts, hts, ⟨rfl, rfl⟩, rfl⟩
    · by_cases c1 : way = 1
      · simp [c1]
        refine ear_ok hcn.len hcn.nd hcn.tx rfl fun ts a s hts => ?_
        simp
        exact ⟨a, s, ts, hts, ⟨rfl, rfl⟩, rfl⟩
      · simp [c0, c1]
        refine ring_ok hcn.len hcn.nd hcn.tx rfl fun ts a s hts => ?_
        simp
        exact ⟨a, s, ts, hts, ⟨rfl, rfl⟩, rfl⟩
  rintro ρ' ⟨a, s, ss, hss, rfl⟩
  have e4 : s4.cont = some (.lst (dS tn)) := e4
  simp [e4]
  rw [zip_enc]
  exact h _ a s (zip_ok htn hcn hss)
end Dz
/-! plain texts 7: the house. -/
namespace Dz
open PySem Fs
theorem value_ok {a s span : Int} (h0 : 0 < span) (h1 : span ≤ 1000) {Q : R → List Slot → Prop} (h : ∀ v a' s', 0 ≤ v → v < 1000 → Q (.frz (.int v)) [bx a' s', .frz (.int span)]) : COk m__law_value [bx a s, .frz (.int span)] Q := by
  apply cok_fnA rfl
  unfold b__law_value
  refine ok_seq_n (fun ρ' => ∃ (a s v : Int), 0 ≤ v ∧ v < span ∧ ρ' = [bx a s, .frz (.int span), .frz (.int v)]) ?_ ?_
  · simp
    refine take_ok h0 (by omega) fun d a s d0 d1 => ?_
    simp
    exact ⟨a, s, d, d0, d1, ⟨rfl, rfl⟩, rfl⟩
  rintro ρ' ⟨a, s, v, v0, v1, rfl⟩
  by_cases c : span = 12
  · obtain ⟨x, ex, _, mx⟩ := atI_map (f := D.int) (xs := [0, 1, 2, 10, 11, 12, 21, 101, 111, 112, 121, 211]) (i := v) v0 (by simpa [c] using v1)
    have ex : L2.atI [D.int 0, D.int 1, D.int 2, D.int 10, D.int 11, D.int 12, D.int 21, D.int 101, D.int 111, D.int 112, D.int 121, D.int 211] v = some (D.int x) := ex
    simp [c, ex]
    simp at mx
    rw [← c]
    exact h x a s (by omega) (by omega)
  · simp [c]
    exact h v a s v0 (by omega)
def encR (rows : List (List Int)) : D := .tup (rows.map rowD)
def encH (h : List (List (List Int))) : D := .tup (h.map encR)
/-- one table's rows -/
structure RowsOk (n : Nat) (rows : List (List Int)) : Prop where
  rise : Rising rows
  le : rows.length ≤ 40
  row : ∀ r ∈ rows, r.length = n ∧ ∀ m ∈ r, 0 ≤ m ∧ m < 1000
def prodM : List (List (List Int)) → Nat
  | [] => 1
  | r :: h => max 1 r.length * prodM h
structure HouseOk (q : Qu) (h : List (List (List Int))) : Prop where
  len : h.length = q.length
  rows : ∀ (i : Nat) (t : Str × List Str) (r : List (List Int)), q[i]? = some t → h[i]? = some r → RowsOk t.2.length r
theorem vals_core {a s span : Int} (p0 : 0 < span) (p1 : span ≤ 1000) {x1 x2 x3 x5 x6 x7 x8 x9 x10 x11 x12 x13 x14 x16 : Slot} {ds : List D} (hl : ds.length < 1000) {Q : List D → Env → Prop}
    (h : ∀ (vs : List Int) (a' s' : Int), vs.length = ds.length → (∀ v ∈ vs, 0 ≤ v ∧ v < 1000) → Q (vs.map D.int) [bx a' s', x1, x2, x3, .frz (.int span), x5, x6, x7, x8, x9, x10, x11, x12, x13, x14, .emp, x16]) :
    Ok (lcL (.nm 15) [15] (mret true) (fCall m__law_value [.lent 0, .bor 4]) ds []) [bx a s, x1, x2, x3, .frz (.int span), x5, x6, x7, x8, x9, x10, x11, x12, x13, x14, .emp, x16] Q := by
  refine ok_lcL (I := fun todo acc ρ => ∃ (a s : Int) (vs : List Int), vs.length + todo.length = ds.length ∧ acc = vs.map D.int ∧ (∀ v ∈ vs, 0 ≤ v ∧ v < 1000) ∧ ρ = [bx a s, x1, x2, x3, .frz (.int span), x5, x6, x7, x8, x9, x10, x11, x12, x13, x14, .emp, x16]) (fun x todo acc ρ hI => ?_) (fun acc ρ hI => ?_) _ _ _ ⟨a, s, [], by simp, rfl, (fun _ z => nomatch z), rfl⟩
  · obtain ⟨a, s, vs, hlen, rfl, hv, rfl⟩ := hI
    simp only [List.length_cons] at hlen
    simp
    refine value_ok p0 p1 fun v a s v0 v1 => ?_
    simp [show vs.length < 16777216 by omega, wipeE]
    refine ⟨a, s, vs ++ [v], by simp; omega, by simp, fun w hw => ?_, rfl, rfl⟩
    rcases List.mem_append.mp hw with z | z
    · exact hv w z
    · rw [List.mem_singleton.mp z]; exact ⟨v0, v1⟩
  · obtain ⟨a, s, vs, hlen, rfl, hv, rfl⟩ := hI
    exact h vs a s (by simpa using hlen) hv
def OF (s : Slot) (d : D) : Prop := s = .own d ∨ s = .frz d
def dRow (r : List Int) : D := .lst (r.map .int)
def HsI (q : Qu) (ceil span even : Int) (ev : Bool) (cols : List Str) (P : List (List Int)) (todo : List D) (ρ : Env) : Prop :=
  ∃ (a s : Int) (hs : List (List (List Int))) (room : Int) (q1 q2 : Qu) (s3 s5 s10 s11 s12 s13 s14 : Slot), OF s3 (.lst (dS cols)) ∧ OF s5 (.lst (P.map dRow)) ∧ nl s10 ∧ nl s11 ∧ nl s12 ∧ nl s13 ∧ nl s14 ∧ q = q1 ++ q2 ∧ todo = q2.map encT ∧ HouseOk q1 hs ∧
    (0 < ceil → 1 ≤ room ∧ (prodM hs : Int) * room ≤ ceil) ∧ 0 ≤ room ∧ room < 1000000000 ∧
    ρ = [bx a s, .frz (encQ q), .frz (.int ceil), s3, .frz (.int span), s5, .frz (.int even), .frz (.int room), .frz (.bl ev), .own (.lst (hs.map encR)), s10, s11, s12, s13, s14, .emp, .emp]
/-- the planted rows, cut to a table -/
theorem plant_ok {a s span : Int} {q : Qu} {cols : List Str} {P : List (List Int)} {t : Str × List Str} (htx : Txs cols) (hsub : ∀ c ∈ t.2, c ∈ cols) (hP : ∀ r ∈ P, r.length = cols.length ∧ ∀ m ∈ r, 0 ≤ m ∧ m < 1000) (hPl : P.length ≤ 5) (ht6 : t.2.length ≤ 6)
    {x2 s3 s5 x6 x7 x8 x9 x10 x12 x13 x14 : Slot} (h3 : OF s3 (.lst (dS cols))) (h5 : OF s5 (.lst (P.map dRow))) :
    Ok (fLc (.nm 16) [16] (fSrc seqD (fName 5)) (mret true) (fL [.ev (fLc (.nm 15) [15] (fSrcB seqD 11) (mret true) (f2 (.sl 16) (.ev (fMeth isSq (.sl 3) [.sl 15] idxLD)) getD1))] tupleD))
      [bx a s, .frz (encQ q), x2, s3, .frz (.int span), s5, x6, x7, x8, x9, x10, .frz (dT t.2), x12, x13, x14, .emp, .emp]
      fun r ρ' => ∃ (rs : List (List Int)), rs.length ≤ 5 ∧ (∀ r ∈ rs, r.length = t.2.length ∧ ∀ m ∈ r, 0 ≤ m ∧ m < 1000) ∧ r = .own (.lst (rs.map rowD)) ∧ ρ' = [bx a s, .frz (encQ q), x2, s3, .frz (.int span), .frz (.lst (P.map dRow)), x6, x7, x8, x9, x10, .frz (dT t.2), x12, x13, x14, .emp, .emp] := by
  apply ok_fLc
  have main : Ok (lcL (.nm 16) [16] (mret true) (fL [.ev (fLc (.nm 15) [15] (fSrcB seqD 11) (mret true) (f2 (.sl 16) (.ev (fMeth isSq (.sl 3) [.sl 15] idxLD)) getD1))] tupleD) (P.map dRow) [])
      [bx a s, .frz (encQ q), x2, s3, .frz (.int span), .frz (.lst (P.map dRow)), x6, x7, x8, x9, x10, .frz (dT t.2), x12, x13, x14, .emp, .emp] fun acc ρ' => ∃ (rs : List (List Int)), rs.length ≤ 5 ∧ (∀ r ∈ rs, r.length = t.2.length ∧ ∀ m ∈ r, 0 ≤ m ∧ m < 1000) ∧ acc = rs.map rowD ∧ ρ' = [bx a s, .frz (encQ q), x2, s3, .frz (.int span), .frz (.lst (P.map dRow)), x6, x7, x8, x9, x10, .frz (dT t.2), x12, x13, x14, .emp, .emp] := by
    refine ok_lcL (I := fun todo acc ρ => ∃ (P2 : List (List Int)) (rs : List (List Int)), todo = P2.map dRow ∧ (∀ r ∈ P2, r ∈ P) ∧ rs.length + P2.length ≤ 5 ∧ (∀ r ∈ rs, r.length = t.2.length ∧ ∀ m ∈ r, 0 ≤ m ∧ m < 1000) ∧ acc = rs.map rowD ∧ ρ = [bx a s, .frz (encQ q), x2, s3, .frz (.int span), .frz (.lst (P.map dRow)), x6, x7, x8, x9, x10, .frz (dT t.2), x12, x13, x14, .emp, .emp]) (fun x todo acc ρ hI => ?_) (fun acc ρ hI => ?_) _ _ _ ⟨P, [], rfl, fun _ z => z, by simpa using hPl, (fun _ z => nomatch z), rfl, rfl⟩
    · obtain ⟨P2, rs, htodo, hP2, hlen, hrs, rfl, rfl⟩ := hI
      obtain ⟨r, P2, rfl⟩ : ∃ r P', P2 = r :: P' := by
        cases P2 with
        | nil => cases htodo
        | cons r P' => exact ⟨r, P', rfl⟩
      cases htodo
      simp only [List.length_cons] at hlen
      have hr := hP r (hP2 r List.mem_cons_self)
      simp
      apply ok_fLc
      simp [dT, wipeOk, calmSl, wipeE]
      refine ok_lcL (I := fun todo acc ρ => ∃ (cs : List Str) (ws : List Int), todo = dS cs ∧ (∀ c ∈ cs, c ∈ t.2) ∧ ws.length + cs.length = t.2.length ∧ (∀ m ∈ ws, 0 ≤ m ∧ m < 1000) ∧ acc = ws.map D.int ∧ ρ = [bx a s, .frz (encQ q), x2, s3, .frz (.int span), .frz (.lst (P.map dRow)), x6, x7, x8, x9, x10, .frz (dT t.2), x12, x13, x14, .emp, .frz (dRow r)]) (fun x todo acc ρ hI => ?_) (fun acc ρ hI => ?_) _ _ _ ⟨t.2, [], rfl, fun _ z => z, by simp, (fun _ z => nomatch z), rfl, rfl⟩
      · obtain ⟨cs, ws, htodo, hcs, hl2, hws, rfl, rfl⟩ := hI
        obtain ⟨c, cs, rfl⟩ : ∃ c cs', cs = c :: cs' := by
          cases cs with
          | nil => cases htodo
          | cons c cs' => exact ⟨c, cs', rfl⟩
        cases htodo
        simp only [List.length_cons] at hl2
        have hc := hsub c (hcs c List.mem_cons_self)
        obtain ⟨j, ej, _, hj⟩ := idxL_ok (n := 0) told_str (okN_txs htx c hc) (okN_txs htx) hc
        obtain ⟨v, ev, _, mv⟩ := atI_map (f := D.int) (xs := r) (i := (j : Int)) (by omega) (by omega)
        have h3c : s3.cont = some (.lst (dS cols)) := by rcases h3 with rfl | rfl <;> rfl
        have hdr : getD1 (dRow r) (.int (j : Int)) = some (.frz (.int v)) := by rw [dRow, getD1_lst, ev]; rfl
        simp [h3c, ej, hdr, show ws.length < 16777216 by omega, wipeE]
        refine ⟨cs, rfl, fun y hy => hcs y (List.mem_cons_of_mem _ hy), ws ++ [v], by simp; omega, fun m hm => ?_, by simp⟩
        rcases List.mem_append.mp hm with z | z
        · exact hws m z
        · rw [List.mem_singleton.mp z]; exact hr.2 v mv
      · obtain ⟨cs, ws, htodo, hcs, hl2, hws, rfl, rfl⟩ := hI
        cases cs with
        | cons _ _ => cases htodo
        | nil =>
          simp at hl2
          simp [backE, show rs.length < 16777216 by omega]
          refine ⟨P2, rfl, fun y hy => hP2 y (List.mem_cons_of_mem _ hy), rs ++ [ws], by simp; omega, fun y hy => ?_, by simp [rowD, dT]⟩
          rcases List.mem_append.mp hy with z | z
          · exact hrs y z
          · rw [List.mem_singleton.mp z]; exact ⟨hl2, hws⟩
    · obtain ⟨P2, rs, htodo, hP2, hlen, hrs, rfl, rfl⟩ := hI
      exact ⟨rs, by omega, hrs, rfl, rfl⟩
  rcases h5 with rfl | rfl
  · simp [wipeOk, calmSl, wipeE]
    refine main.mono fun acc ρ' => ?_
    rintro ⟨rs, h1, h2, rfl, rfl⟩
    exact ⟨rs, h1, h2, rfl, rfl⟩
  · simp [wipeOk, calmSl, wipeE]
    refine main.mono fun acc ρ' => ?_
    rintro ⟨rs, h1, h2, rfl, rfl⟩
    exact ⟨rs, h1, h2, rfl, rfl⟩
theorem prodM_snoc (r : List (List Int)) : ∀ hs, prodM (hs ++ [r]) = prodM hs * max 1 r.length
  | [] => by simp [prodM]
  | x :: hs => by
    show max 1 x.length * prodM (hs ++ [r]) = max 1 x.length * prodM hs * max 1 r.length
    rw [prodM_snoc r hs, Nat.mul_assoc]
theorem HouseOk.snoc {q : Qu} {hs : List (List (List Int))} {t : Str × List Str} {r : List (List Int)} (h : HouseOk q hs) (hr : RowsOk t.2.length r) : HouseOk (q ++ [t]) (hs ++ [r]) := by
  refine ⟨by rw [List.length_append, List.length_append, h.len]; rfl, fun i u x eu ex => ?_⟩
  by_cases c : i < q.length
  · rw [List.getElem?_append_left c] at eu
    rw [List.getElem?_append_left (by rw [h.len]; exact c)] at ex
    exact h.rows i u x eu ex
  · rw [List.getElem?_append_right (by omega)] at eu
    rw [List.getElem?_append_right (by rw [h.len]; omega), h.len] at ex
    cases hz : i - q.length with
    | zero =>
      rw [hz] at eu ex
      cases eu
      cases ex
      exact hr
    | succ n => rw [hz] at eu; cases eu
theorem room_le {p room n ceil : Int} (h : p * room ≤ ceil) (hp : 0 ≤ p) (hn : 1 ≤ n) : p * n * (room / n) ≤ ceil := by
  have h1 : n * (room / n) ≤ room := by
    have := Int.mul_ediv_add_emod room n
    have := Int.emod_nonneg room (show n ≠ 0 by omega)
    omega
  have h2 : p * (n * (room / n)) ≤ p * room := Int.mul_le_mul_of_nonneg_left h1 hp
  rw [Int.mul_assoc]
  omega
theorem house_ok {a s ceil : Int} {q : Qu} (hQ : QuOk q) (c0 : 0 ≤ ceil) (c1 : ceil < 1000000000) {Q : R → List Slot → Prop} (h : ∀ hs a' s', HouseOk q hs → (0 < ceil → (prodM hs : Int) ≤ ceil) → Q (.frz (encH hs)) [bx a' s', .frz (encQ q), .frz (.int ceil)]) :
    COk m__law_house [bx a s, .frz (encQ q), .frz (.int ceil)] Q := by
  apply cok_fnA rfl
  unfold b__law_house
  have hcl := hQ.colsLen (q' := q) fun _ z => z
  generalize hcols : colsL q = cols at hcl
  refine ok_seq_n (fun ρ' => ρ' = [bx a s, .frz (encQ q), .frz (.int ceil), .own (.lst (dS cols)), .emp, .emp, .emp, .emp, .emp, .emp, .emp, .emp, .emp, .emp, .emp, .emp, .emp]) ?_ ?_
  · simp
    refine columns_ok hQ ?_
    simp [hcols]
  rintro ρ' rfl
  refine ok_seq_n (fun ρ' => ∃ (a s span : Int), 0 < span ∧ span ≤ 1000 ∧ ρ' = [bx a s, .frz (encQ q), .frz (.int ceil), .own (.lst (dS cols)), .frz (.int span), .emp, .emp, .emp, .emp, .emp, .emp, .emp, .emp, .emp, .emp, .emp, .emp]) ?_ ?_
  · simp
    refine take_ok (by omega) (by omega) fun d a s d0 d1 => ?_
    obtain ⟨x, ex, _, mx⟩ := atI_map (f := D.int) (xs := [2, 3, 5, 12, 1000]) (i := d) d0 (by simpa using d1)
    have ex : L2.atI [D.int 2, D.int 3, D.int 5, D.int 12, D.int 1000] d = some (D.int x) := ex
    simp [ex]
    simp at mx
    exact ⟨a, s, x, by omega, by omega, ⟨rfl, rfl⟩, rfl⟩
  rintro ρ' ⟨a, s, span, p0, p1, rfl⟩
  refine ok_seq_n (fun ρ' => ∃ (a s : Int) (P : List (List Int)) (s3 : Slot), OF s3 (.lst (dS cols)) ∧ P.length ≤ 5 ∧ (∀ r ∈ P, r.length = cols.length ∧ ∀ m ∈ r, 0 ≤ m ∧ m < 1000) ∧ ρ' = [bx a s, .frz (encQ q), .frz (.int ceil), s3, .frz (.int span), .own (.lst (P.map dRow)), .emp, .emp, .emp, .emp, .emp, .emp, .emp, .emp, .emp, .emp, .emp]) ?_ ?_
  · rw [ok_sAsg]
    apply ok_fLc
    simp
    refine take_ok (by omega) (by omega) fun d a s d0 d1 => ?_
    simp [rng1_at (n := d) (by omega) (by omega), wipeOk, calmSl, wipeE]
    refine ok_lcL (I := fun todo acc ρ => ∃ (a s : Int) (P : List (List Int)) (s3 : Slot), OF s3 (.lst (dS cols)) ∧ P.length + todo.length ≤ 5 ∧ acc = P.map dRow ∧ (∀ r ∈ P, r.length = cols.length ∧ ∀ m ∈ r, 0 ≤ m ∧ m < 1000) ∧ ρ = [bx a s, .frz (encQ q), .frz (.int ceil), s3, .frz (.int span), .emp, .emp, .emp, .emp, .emp, .emp, .emp, .emp, .emp, .emp, .emp, .emp]) (fun x todo acc ρ hI => ?_) (fun acc ρ hI => ?_) _ _ _ ⟨a, s, [], _, .inl rfl, by simp [rangeL_len]; omega, rfl, (fun _ z => nomatch z), rfl⟩
    · obtain ⟨a, s, P, s3, h3, hlen, rfl, hP, rfl⟩ := hI
      simp only [List.length_cons] at hlen
      have go : ∀ x14 : D, Ok (fLc (.nm 15) [15] (fSrc seqD (fName 3)) (mret true) (fCall m__law_value [.lent 0, .bor 4])) [bx a s, .frz (encQ q), .frz (.int ceil), s3, .frz (.int span), .emp, .emp, .emp, .emp, .emp, .emp, .emp, .emp, .emp, .frz x14, .emp, .emp]
          fun r ρ' => ∃ (a s : Int) (vs : List Int), vs.length = cols.length ∧ (∀ v ∈ vs, 0 ≤ v ∧ v < 1000) ∧ r = .own (dRow vs) ∧ ρ' = [bx a s, .frz (encQ q), .frz (.int ceil), .frz (.lst (dS cols)), .frz (.int span), .emp, .emp, .emp, .emp, .emp, .emp, .emp, .emp, .emp, .frz x14, .emp, .emp] := by
        intro x14
        apply ok_fLc
        rcases h3 with rfl | rfl
        · simp [wipeOk, calmSl, wipeE]
          refine vals_core p0 p1 (by simp; omega) fun vs a s hl hv => ?_
          exact ⟨a, s, vs, by simpa using hl, hv, rfl, rfl⟩
        · simp [wipeOk, calmSl, wipeE]
          refine vals_core p0 p1 (by simp; omega) fun vs a s hl hv => ?_
          exact ⟨a, s, vs, by simpa using hl, hv, rfl, rfl⟩
      rw [ok_setTg_nm]
      refine ok_set rfl (.inl rfl) ?_
      simp
      refine (go x).mono fun r ρ' => ?_
      rintro ⟨a, s, vs, hl, hv, rfl, rfl⟩
      simp [show P.length < 16777216 by omega, wipeE]
      refine ⟨a, s, P ++ [vs], _, .inr rfl, by simp; omega, by simp, fun r hr => ?_, ⟨rfl, rfl⟩, rfl⟩
      rcases List.mem_append.mp hr with z | z
      · exact hP r z
      · rw [List.mem_singleton.mp z]; exact ⟨hl, hv⟩
    · obtain ⟨a, s, P, s3, h3, hlen, rfl, hP, rfl⟩ := hI
      simp at hlen
      simp [backE]
      exact ⟨a, s, P, s3, h3, hlen, hP, ⟨rfl, rfl⟩, rfl, rfl⟩
  rintro ρ' ⟨a, s, P, s3, h3, hPl, hP, rfl⟩
  have hq1 : 1 ≤ q.length := List.length_pos_iff.mpr hQ.ne
  have hq6 := hQ.le
  refine ok_seq_n (fun ρ' => ∃ (even : Int), 2 ≤ even ∧ ρ' = [bx a s, .frz (encQ q), .frz (.int ceil), s3, .frz (.int span), .own (.lst (P.map dRow)), .frz (.int even), .emp, .emp, .emp, .emp, .emp, .emp, .emp, .emp, .emp, .emp]) ?_ ?_
  · obtain ⟨x, ex, _, mx⟩ := atI_map (f := D.int) (xs := [40, 40, 14, 7, 4, 3]) (i := (q.length : Int) - 1) (by omega) (by simp; omega)
    obtain ⟨y, ey, _, my⟩ := atI_map (f := D.int) (xs := [40, 17, 6, 4, 3, 2]) (i := (q.length : Int) - 1) (by omega) (by simp; omega)
    have ex : L2.atI [D.int 40, D.int 40, D.int 14, D.int 7, D.int 4, D.int 3] ((q.length : Int) - 1) = some (D.int x) := ex
    have ey : L2.atI [D.int 40, D.int 17, D.int 6, D.int 4, D.int 3, D.int 2] ((q.length : Int) - 1) = some (D.int y) := ey
    simp at mx my
    have hlenQ : lenD [encQ q] = some (.frz (.int q.length)) := by rw [encQ, lenD_tup, List.length_map]
    by_cases c : ceil < 2000
    · simp [c, atI1, hlenQ, ey]
      omega
    · simp [c, atI0, hlenQ, ex]
      omega
  rintro ρ' ⟨even, hev, rfl⟩
  refine ok_seq_n (fun ρ' => ρ' = [bx a s, .frz (encQ q), .frz (.int ceil), s3, .frz (.int span), .own (.lst (P.map dRow)), .frz (.int even), .frz (.int ceil), .emp, .emp, .emp, .emp, .emp, .emp, .emp, .emp, .emp]) (by simp) ?_
  rintro ρ' rfl
  refine ok_seq_n (fun ρ' => ∃ (a s : Int) (ev : Bool), (ev = true → 0 < ceil) ∧ ρ' = [bx a s, .frz (encQ q), .frz (.int ceil), s3, .frz (.int span), .own (.lst (P.map dRow)), .frz (.int even), .frz (.int ceil), .frz (.bl ev), .emp, .emp, .emp, .emp, .emp, .emp, .emp, .emp]) ?_ ?_
  · by_cases c : 0 < ceil
    · simp [c]
      refine take_ok (by omega) (by omega) fun d a s d0 d1 => ?_
      simp
      refine ⟨a, s, ?_⟩
      by_cases e : d = 0 <;> simp [e, c]
    · simp [c]
  rintro ρ' ⟨a, s, ev, hevc, rfl⟩
  refine ok_seq_n (fun ρ' => ρ' = [bx a s, .frz (encQ q), .frz (.int ceil), s3, .frz (.int span), .own (.lst (P.map dRow)), .frz (.int even), .frz (.int ceil), .frz (.bl ev), .own (.lst []), .emp, .emp, .emp, .emp, .emp, .emp, .emp]) (by simp) ?_
  rintro ρ' rfl
  rw [ok_seq]
  refine Ok.mono (Q := fun fl ρ' => fl = .next ∧ ∃ (a s : Int) (hs : List (List (List Int))) (s3 s5 s7 s10 s11 s12 s13 s14 : Slot), HouseOk q hs ∧ (0 < ceil → (prodM hs : Int) ≤ ceil) ∧ ρ' = [bx a s, .frz (encQ q), .frz (.int ceil), s3, .frz (.int span), s5, .frz (.int even), s7, .frz (.bl ev), .own (.lst (hs.map encR)), s10, s11, s12, s13, s14, .emp, .emp]) ?_ ?_
  · simp
    refine ⟨q.map encT, rfl, ?_⟩
    refine ok_forL (I := HsI q ceil span even ev cols P) (fun x todo ρ hI => ?_) (fun ρ hI => ?_) _ _ ⟨a, s, [], ceil, [], q, s3, .own (.lst (P.map dRow)), .emp, .emp, .emp, .emp, .emp, h3, .inl rfl, .inl rfl, .inl rfl, .inl rfl, .inl rfl, .inl rfl, rfl, rfl, ⟨rfl, fun i t r e => by simp at e⟩, fun c => ⟨by omega, by simp [prodM]⟩, c0, by omega, rfl⟩
    · obtain ⟨a, s, hs, room, q1, q2, s3, s5, s10, s11, s12, s13, s14, h3, h5, n10, n11, n12, n13, n14, hq, htodo, hH, hroom, r0, r1, rfl⟩ := hI
      obtain ⟨t, q2, rfl⟩ : ∃ t q2', q2 = t :: q2' := by
        cases q2 with
        | nil => cases htodo
        | cons t q2' => exact ⟨t, q2', rfl⟩
      cases htodo
      have ht : t ∈ q := by rw [hq]; simp
      have hts := hQ.set t ht
      have hcolt : ∀ c ∈ t.2, c ∈ cols := fun c hc => by rw [← hcols]; exact (mem_colsL q).mpr ⟨t, ht, hc⟩
      have htxc : Txs cols := by rw [← hcols]; exact hQ.colsTx
      refine Ok.mono (Q := fun _ ρ' => ρ' = [bx a s, .frz (encQ q), .frz (.int ceil), s3, .frz (.int span), s5, .frz (.int even), .frz (.int room), .frz (.bl ev), .own (.lst (hs.map encR)), .frz (.str t.1), .frz (dT t.2), s12, s13, s14, .emp, .emp]) (by simp [encT, wN_nl n10, wN_nl n11]) ?_
      rintro _ ρ' rfl
      refine ok_seq_n (fun ρ' => ρ' = [bx a s, .frz (encQ q), .frz (.int ceil), s3, .frz (.int span), s5, .frz (.int even), .frz (.int room), .frz (.bl ev), .own (.lst (hs.map encR)), .frz (.str t.1), .frz (dT t.2), .frz (.int 40), s13, s14, .emp, .emp]) (by simp [wN_nl n12]) ?_
      rintro ρ' rfl
      refine ok_seq_n (fun ρ' => ∃ L : Int, 1 ≤ L ∧ L ≤ 40 ∧ (0 < ceil → L ≤ room) ∧ ρ' = [bx a s, .frz (encQ q), .frz (.int ceil), s3, .frz (.int span), s5, .frz (.int even), .frz (.int room), .frz (.bl ev), .own (.lst (hs.map encR)), .frz (.str t.1), .frz (dT t.2), .frz (.int L), s13, s14, .emp, .emp]) ?_ ?_
      · by_cases c : 0 < ceil
        · have := hroom c
          by_cases c3 : room < 40
          · simp [c, c3]
            exact ⟨room, by omega, by omega, Int.le_refl _, rfl⟩
          · simp [c, c3]
            exact ⟨40, by omega, by omega, by omega, rfl⟩
        · simp [c]
      rintro ρ' ⟨L, L0, L1, hLr, rfl⟩
      refine ok_seq_n (fun ρ' => ∃ L : Int, 1 ≤ L ∧ L ≤ 40 ∧ (0 < ceil → L ≤ room) ∧ ρ' = [bx a s, .frz (encQ q), .frz (.int ceil), s3, .frz (.int span), s5, .frz (.int even), .frz (.int room), .frz (.bl ev), .own (.lst (hs.map encR)), .frz (.str t.1), .frz (dT t.2), .frz (.int L), s13, s14, .emp, .emp]) ?_ ?_
      · cases ev
        · simp
          exact ⟨L, L0, L1, hLr, rfl⟩
        · by_cases c3 : even < L
          · simp [c3]
            exact ⟨even, by omega, by omega, fun c => by have := hLr c; omega, rfl⟩
          · simp [c3]
            exact ⟨L, L0, L1, hLr, rfl⟩
      rintro ρ' ⟨L, L0, L1, hLr, rfl⟩
      refine ok_seq_n (fun ρ' => ∃ (rs : List (List Int)) (s5 : Slot), OF s5 (.lst (P.map dRow)) ∧ rs.length ≤ 5 ∧ (∀ r ∈ rs, r.length = t.2.length ∧ ∀ m ∈ r, 0 ≤ m ∧ m < 1000) ∧ ρ' = [bx a s, .frz (encQ q), .frz (.int ceil), s3, .frz (.int span), s5, .frz (.int even), .frz (.int room), .frz (.bl ev), .own (.lst (hs.map encR)), .frz (.str t.1), .frz (dT t.2), .frz (.int L), .own (.lst (rs.map rowD)), s14, .emp, .emp]) ?_ ?_
      · rw [ok_sAsg]
        refine (plant_ok htxc hcolt hP hPl hts.2.2 h3 h5).mono fun r ρ' => ?_
        rintro ⟨rs, e1, e2, rfl, rfl⟩
        refine ok_set rfl n13 ?_
        exact ⟨rfl, rs, _, .inr rfl, e1, e2, rfl⟩
      rintro ρ' ⟨rs, s5, h5, e1, e2, rfl⟩
      refine ok_seq_n (fun ρ' => ∃ (a s : Int) (rs : List (List Int)), rs.length ≤ 5 ∧ (∀ r ∈ rs, r.length = t.2.length ∧ ∀ m ∈ r, 0 ≤ m ∧ m < 1000) ∧ ρ' = [bx a s, .frz (encQ q), .frz (.int ceil), s3, .frz (.int span), s5, .frz (.int even), .frz (.int room), .frz (.bl ev), .own (.lst (hs.map encR)), .frz (.str t.1), .frz (dT t.2), .frz (.int L), .own (.lst (rs.map rowD)), s14, .emp, .emp]) ?_ ?_
      · simp
        refine take_ok (by omega) (by omega) fun d a s d0 d1 => ?_
        by_cases c : d = 0
        · simp [c]
          exact ⟨a, s, [], by simp, (fun _ z => nomatch z), ⟨rfl, rfl⟩, rfl⟩
        · simp [c]
          exact ⟨a, s, rs, e1, e2, ⟨rfl, rfl⟩, rfl⟩
      rintro ρ' ⟨a, s, rs, e1, e2, rfl⟩
      refine ok_seq_n (fun ρ' => ∃ (a s : Int) (rs : List (List Int)) (s14 : Slot), nl s14 ∧ rs.length ≤ 45 ∧ (∀ r ∈ rs, r.length = t.2.length ∧ ∀ m ∈ r, 0 ≤ m ∧ m < 1000) ∧ ρ' = [bx a s, .frz (encQ q), .frz (.int ceil), s3, .frz (.int span), s5, .frz (.int even), .frz (.int room), .frz (.bl ev), .own (.lst (hs.map encR)), .frz (.str t.1), .frz (dT t.2), .frz (.int L), .own (.lst (rs.map rowD)), s14, .emp, .emp]) ?_ ?_
      · simp
        refine take_ok (by omega) (by omega) fun d a s d0 d1 => ?_
        obtain ⟨lim, el, _, ml⟩ := atI_map (f := D.int) (xs := [L + 1, (if (5 : Int) < L then 5 else L) + 1]) (i := d) d0 (by simpa using d1)
        have el : L2.atI [D.int (L + 1), D.int ((if (5 : Int) < L then 5 else L) + 1)] d = some (D.int lim) := el
        have hlim : 0 < lim ∧ lim ≤ 41 := by
          simp at ml
          rcases ml with z | z
          · omega
          · rw [z]; split <;> omega
        simp [el]
        refine take_ok (by omega) (by omega) fun n a s n0 n1 => ?_
        simp [rng1_at (n := n) (by omega) (by omega)]
        refine ok_forL (I := fun todo ρ => ∃ (a s : Int) (rs : List (List Int)) (s14 : Slot), nl s14 ∧ rs.length + todo.length ≤ 45 ∧ (∀ r ∈ rs, r.length = t.2.length ∧ ∀ m ∈ r, 0 ≤ m ∧ m < 1000) ∧ ρ = [bx a s, .frz (encQ q), .frz (.int ceil), s3, .frz (.int span), s5, .frz (.int even), .frz (.int room), .frz (.bl ev), .own (.lst (hs.map encR)), .frz (.str t.1), .frz (dT t.2), .frz (.int L), .own (.lst (rs.map rowD)), s14, .emp, .emp]) (fun x todo ρ hI => ?_) (fun ρ hI => ?_) _ _ ⟨a, s, rs, s14, n14, by simp [rangeL_len]; omega, e2, rfl⟩
        · obtain ⟨a, s, rs, s14, n14, hlen, e2, rfl⟩ := hI
          simp only [List.length_cons] at hlen
          rw [ok_setTg_nm]
          refine ok_set rfl n14 ?_
          simp
          apply ok_fLc
          simp [dT, wipeOk, calmSl, wipeE]
          refine vals_core p0 p1 (by simp; omega) fun vs a s hl hv => ?_
          simp [backE, show rs.length < 16777216 by omega]
          refine ⟨a, s, rs ++ [vs], _, nl_frz, by simp; omega, fun r hr => ?_, ⟨rfl, rfl⟩, by simp [rowD], rfl⟩
          rcases List.mem_append.mp hr with z | z
          · exact e2 r z
          · rw [List.mem_singleton.mp z]; exact ⟨by simpa using hl, hv⟩
        · obtain ⟨a, s, rs, s14, n14, hlen, e2, rfl⟩ := hI
          exact ⟨rfl, a, s, rs, s14, n14, by simpa using hlen, e2, rfl⟩
      rintro ρ' ⟨a, s, rs, s14, n14, e1, e2, rfl⟩
      have hrk : rowsOk rs := by
        refine ⟨by omega, fun r hr => ⟨?_, fun z => ?_, fun m hm => ((e2 r hr).2 m hm).1⟩⟩
        · cases rs with
          | nil => cases hr
          | cons x xs => rw [(e2 r hr).1, List.headD_cons, (e2 x List.mem_cons_self).1]
        · have := (e2 r hr).1
          rw [z] at this
          exact hts.1 (List.length_eq_zero_iff.mp this.symm)
      have hro : RowsOk t.2.length ((sortR rs).take L.toNat) := ⟨(rising_sortR rs).sublist (List.take_sublist _ _), by rw [List.length_take]; omega, fun r hr => e2 r (mem_sortR.mp (List.mem_of_mem_take hr))⟩
      have hlen3 : ((sortR rs).take L.toNat).length ≤ L.toNat := by rw [List.length_take]; omega
      have hhl : hs.length < 16777216 := by
        have h1 := hH.len
        have h2 : q1.length ≤ q.length := by rw [hq]; simp
        omega
      generalize hrows : (sortR rs).take L.toNat = rows at hro hlen3
      refine ok_seq_n (fun ρ' => ρ' = [bx a s, .frz (encQ q), .frz (.int ceil), s3, .frz (.int span), s5, .frz (.int even), .frz (.int room), .frz (.bl ev), .own (.lst (hs.map encR)), .frz (.str t.1), .frz (dT t.2), .frz (.int L), .own (.lst (rows.map rowD)), s14, .emp, .emp]) ?_ ?_
      · simp [srtSetD_rows hrk, cut_take (show 0 ≤ L by omega)]
        rw [← hrows, List.map_take]
      rintro ρ' rfl
      refine ok_seq_n (fun ρ' => ρ' = [bx a s, .frz (encQ q), .frz (.int ceil), s3, .frz (.int span), s5, .frz (.int even), .frz (.int room), .frz (.bl ev), .own (.lst ((hs ++ [rows]).map encR)), .frz (.str t.1), .frz (dT t.2), .frz (.int L), .own (.lst (rows.map rowD)), s14, .emp, .emp]) (by simp [hhl, encR]) ?_
      rintro ρ' rfl
      have hmx : (if (rows.length : Int) > 1 then (rows.length : Int) else 1) = ((max 1 rows.length : Nat) : Int) := by split <;> omega
      have hq0 : 0 ≤ room / ((max 1 rows.length : Nat) : Int) := Int.ediv_nonneg r0 (by omega)
      have hq1' : room / ((max 1 rows.length : Nat) : Int) ≤ room := Int.ediv_le_self _ r0
      have hcd : L2.CDivW room ((max 1 rows.length : Nat) : Int) := cdivW (by omega) (by omega)
      refine Ok.mono (Q := fun fl ρ' => fl = .next ∧ ρ' = [bx a s, .frz (encQ q), .frz (.int ceil), s3, .frz (.int span), s5, .frz (.int even), .frz (.int (room / ((max 1 rows.length : Nat) : Int))), .frz (.bl ev), .own (.lst ((hs ++ [rows]).map encR)), .frz (.str t.1), .frz (dT t.2), .frz (.int L), .own (.lst (rows.map rowD)), s14, .emp, .emp]) ?_ ?_
      · simp
        have e1 : (if (1 : Int) < (rows.length : Int) then (rows.length : Int) else 1) = ((max 1 rows.length : Nat) : Int) := by split <;> omega
        rw [e1]
        exact ⟨hcd, rfl⟩
      rintro fl ρ' ⟨rfl, rfl⟩
      refine ⟨a, s, hs ++ [rows], _, q1 ++ [t], q2, s3, s5, _, _, _, _, s14, h3, h5, nl_frz, nl_frz, nl_frz, nl_own, n14, by rw [hq]; simp, rfl, hH.snoc hro, fun c => ?_, hq0, by omega, rfl⟩
      obtain ⟨w1, w2⟩ := hroom c
      have hLr' := hLr c
      refine ⟨?_, ?_⟩
      · have hle : ((max 1 rows.length : Nat) : Int) ≤ room := by omega
        exact (Int.le_ediv_iff_mul_le (by omega)).mpr (by omega)
      · rw [prodM_snoc]
        have := room_le (p := (prodM hs : Int)) (room := room) (n := ((max 1 rows.length : Nat) : Int)) w2 (by omega) (by omega)
        rw [Int.natCast_mul]
        exact this
    · obtain ⟨a, s, hs, room, q1, q2, s3, s5, s10, s11, s12, s13, s14, h3, h5, n10, n11, n12, n13, n14, hq, htodo, hH, hroom, r0, r1, rfl⟩ := hI
      cases q2 with
      | cons _ _ => cases htodo
      | nil =>
        rw [List.append_nil] at hq
        subst hq
        refine ⟨rfl, a, s, hs, _, _, _, _, _, _, _, _, hH, fun c => ?_, rfl⟩
        obtain ⟨w1, w2⟩ := hroom c
        have : (prodM hs : Int) * 1 ≤ prodM hs * room := Int.mul_le_mul_of_nonneg_left w1 (by omega)
        omega
  rintro fl ρ' ⟨rfl, a, s, hs, s3, s5, s7, s10, s11, s12, s13, s14, hH, hp, rfl⟩
  simp
  exact h hs a s hH hp
end Dz
/-! Dz 34: laws of walks and comprehensions. -/
namespace Dz
open PySem
section
variable {ρ : Env} {ws : List Wk} {i : Nat} {f : M R} {g : List D → Option (List D)}
@[simp ↓] theorem ok_fWalk {Q : List D → Env → Prop} : Ok (fWalk g ws) ρ Q ↔ Ok (evW ws) ρ fun ds ρ' => sN (g ds) fun xs => Q xs ρ' := by
  unfold fWalk
  rw [ok_bind]
  exact ⟨fun h => h.mono fun ds ρ' h => ok_opt.mp h, fun h => h.mono fun ds ρ' h => ok_opt.mpr h⟩
@[simp ↓] theorem ok_evW_nil {Q : List D → Env → Prop} : Ok (evW []) ρ Q ↔ Q [] ρ := ok_ret
@[simp ↓] theorem ok_evW_ev {Q : List D → Env → Prop} : Ok (evW (.ev f :: ws)) ρ Q ↔ Ok f ρ fun r ρ1 => Ok (evW ws) ρ1 fun ds ρ2 => Q (r.d :: ds) ρ2 := by
  show Ok (mbind f fun r => mbind (evW ws) fun ds => mret (r.d :: ds)) ρ Q ↔ _
  rw [ok_bind]
  constructor
  · exact fun h => h.mono fun r ρ1 h => (ok_bind.mp h).mono fun ds ρ2 h => ok_ret.mp h
  · exact fun h => h.mono fun r ρ1 h => ok_bind.mpr (h.mono fun ds ρ2 h => ok_ret.mpr h)
@[simp ↓] theorem ok_evW_sl {Q : List D → Env → Prop} : Ok (evW (.sl i :: ws)) ρ Q ↔ sN (heldAt ρ i) fun d => Ok (evW ws) ρ fun ds ρ2 => Q (d :: ds) ρ2 := by
  show Ok (mbind (getH i) fun d => mbind (evW ws) fun ds => mret (d :: ds)) ρ Q ↔ _
  rw [ok_bind]
  constructor
  · rintro ⟨a, ρ', e, q⟩
    unfold getH at e
    cases h : heldAt ρ i with
    | none => rw [h] at e; cases e
    | some d =>
      rw [h] at e
      cases e
      exact ⟨_, rfl, (ok_bind.mp q).mono fun ds ρ2 h => ok_ret.mp h⟩
  · rintro ⟨d, e, q⟩
    exact ⟨d, ρ, by unfold getH; rw [e], ok_bind.mpr (q.mono fun ds ρ2 h => ok_ret.mpr h)⟩
end
@[simp] theorem heldAt_frz {d : D} {ρ : Env} : heldAt (.frz d :: ρ) 0 = some d := rfl
@[simp] theorem heldAt_bor {d : D} {ρ : Env} : heldAt (.bor d :: ρ) 0 = some d := rfl
@[simp] theorem heldAt_succ {s : Slot} {ρ : Env} {i : Nat} : heldAt (s :: ρ) (i + 1) = heldAt ρ i := by unfold heldAt; rw [List.getElem?_cons_succ]
/-- a comprehension over things that stand for data -/
theorem ok_lcG {α : Type} {t : Tg} {is : List Nat} {cond : M Bool} {elt : M R} {xs : List α} {f : α → D} {ρw : Env} {c : α → Bool} {e : α → D} {Q : List D → Env → Prop}
    (h : ∀ a ∈ xs, Ok (setTg t (f a)) ρw fun _ ρ1 => Ok cond ρ1 fun k ρ2 => k = c a ∧ if k = true then Ok elt ρ2 fun r ρ3 => r.d = e a ∧ wipeE ρ3 is = ρw else wipeE ρ2 is = ρw)
    (hz : xs.length ≤ sizeLine) (hQ : Q ((xs.filter c).map e) ρw) : Ok (lcL t is cond elt (xs.map f) []) ρw Q := by
  refine ok_lcL (I := fun todo acc ρ => ρ = ρw ∧ ∃ done rest, xs = done ++ rest ∧ todo = rest.map f ∧ acc = (done.filter c).map e) (fun d todo acc ρ hI => ?_) (fun acc ρ hI => ?_) _ _ _ ⟨rfl, [], xs, rfl, rfl, rfl⟩
  · obtain ⟨rfl, done, rest, hd, htodo, rfl⟩ := hI
    cases rest with
    | nil => cases htodo
    | cons a rest =>
      cases htodo
      refine (h a (by rw [hd]; simp)).mono fun _ ρ1 h1 => h1.mono fun k ρ2 ⟨hk, h2⟩ => ?_
      cases k with
      | true =>
        refine Ok.mono (show Ok elt ρ2 _ from h2) fun r ρ3 ⟨er, ew⟩ => ⟨?_, ?_⟩
        · rw [List.length_map]
          have h1 := List.length_filter_le c done
          have h2 : done.length < xs.length := by rw [hd]; simp
          omega
        · exact ⟨ew, done ++ [a], rest, by rw [hd]; simp, rfl, by rw [List.filter_append, List.map_append, List.filter_cons_of_pos hk.symm, er]; rfl⟩
      | false => exact ⟨h2, done ++ [a], rest, by rw [hd]; simp, rfl, by rw [List.filter_append, List.map_append, List.filter_cons_of_neg (by rw [← hk]; simp)]; simp⟩
  · obtain ⟨rfl, done, rest, hd, htodo, rfl⟩ := hI
    cases rest with
    | cons _ _ => cases htodo
    | nil =>
      rw [List.append_nil] at hd
      subst hd
      exact hQ
/-- a loop over things that stand for data: what is done and what is left -/
theorem ok_forG {α : Type} {t : Tg} {body : M Fl} {xs : List α} {f : α → D} {I : List α → Env → Prop} {Q : Fl → Env → Prop}
    (step : ∀ done a rest ρ, xs = done ++ a :: rest → I done ρ → Ok (setTg t (f a)) ρ fun _ ρ1 => Ok body ρ1 fun fl ρ2 => match fl with
      | .next => I (done ++ [a]) ρ2
      | .cont => I (done ++ [a]) ρ2
      | .brk => Q .next ρ2
      | .ret r => Q (.ret r) ρ2) (fin : ∀ ρ, I xs ρ → Q .next ρ) {ρ : Env} (h0 : I [] ρ) : Ok (forL t body (xs.map f)) ρ Q := by
  refine ok_forL (I := fun todo ρ => ∃ done rest, xs = done ++ rest ∧ todo = rest.map f ∧ I done ρ) (fun d todo ρ hI => ?_) (fun ρ hI => ?_) _ _ ⟨[], xs, rfl, rfl, h0⟩
  · obtain ⟨done, rest, hd, htodo, hi⟩ := hI
    cases rest with
    | nil => cases htodo
    | cons a rest =>
      cases htodo
      refine (step done a rest ρ hd hi).mono fun _ ρ1 h1 => h1.mono fun fl ρ2 h2 => ?_
      have e : xs = (done ++ [a]) ++ rest := by rw [hd]; simp
      cases fl with
      | next => exact ⟨_, rest, e, rfl, h2⟩
      | cont => exact ⟨_, rest, e, rfl, h2⟩
      | brk => exact h2
      | ret r => exact h2
  · obtain ⟨done, rest, hd, htodo, hi⟩ := hI
    cases rest with
    | cons _ _ => cases htodo
    | nil =>
      rw [List.append_nil] at hd
      subst hd
      exact fin ρ hi
@[simp] theorem zipA_tt {xs ys : List D} : zipA [.tup xs, .tup ys] = some (zipL xs ys) := rfl
@[simp] theorem zipA_ll {xs ys : List D} : zipA [.lst xs, .lst ys] = some (zipL xs ys) := rfl
@[simp] theorem zipA_tl {xs ys : List D} : zipA [.tup xs, .lst ys] = some (zipL xs ys) := rfl
@[simp] theorem zipA_lt {xs ys : List D} : zipA [.lst xs, .tup ys] = some (zipL xs ys) := rfl
@[simp] theorem enumA_t {xs : List D} : enumA [.tup xs] = some (enumFrom 0 xs) := rfl
@[simp] theorem enumA_l {xs : List D} : enumA [.lst xs] = some (enumFrom 0 xs) := rfl
def enumP {α : Type} (n : Nat) : List α → List (Nat × α)
  | [] => []
  | x :: xs => (n, x) :: enumP (n + 1) xs
theorem enum_map {α : Type} {f : α → D} : ∀ (n : Nat) (xs : List α), enumFrom n (xs.map f) = (enumP n xs).map fun p => .tpl [.int (p.1 : Nat), f p.2]
  | _, [] => rfl
  | n, x :: xs => by rw [List.map_cons, enumFrom, enum_map (n + 1) xs]; rfl
theorem enumP_mem {α : Type} {k : Nat} {x : α} : ∀ {n : Nat} {xs : List α}, (k, x) ∈ enumP n xs → n ≤ k ∧ xs[k - n]? = some x
  | n, [], h => by cases h
  | n, y :: xs, h => by
    rcases List.mem_cons.mp h with e | h
    · cases e; exact ⟨Nat.le_refl _, by rw [Nat.sub_self]; rfl⟩
    · obtain ⟨h1, h2⟩ := enumP_mem h
      refine ⟨by omega, ?_⟩
      rw [show k - n = (k - (n + 1)) + 1 by omega, List.getElem?_cons_succ]
      exact h2
theorem enumP_of {α : Type} {x : α} : ∀ {n k : Nat} {xs : List α}, xs[k]? = some x → (n + k, x) ∈ enumP n xs
  | n, k, [], h => by cases h
  | n, 0, y :: xs, h => by cases h; exact List.mem_cons_self
  | n, k + 1, y :: xs, h => by
    have := enumP_of (n := n + 1) (k := k) (xs := xs) h
    rw [show n + 1 + k = n + (k + 1) by omega] at this
    exact List.mem_cons_of_mem _ this
theorem enumP_len {α : Type} : ∀ {n : Nat} {xs : List α}, (enumP n xs).length = xs.length
  | _, [] => rfl
  | n, x :: xs => by rw [enumP, List.length_cons, List.length_cons, enumP_len]
theorem zipL_map {α β : Type} {f : α → D} {g : β → D} (xs : List α) (ys : List β) : zipL (xs.map f) (ys.map g) = (xs.zip ys).map fun p => .tpl [f p.1, g p.2] := by
  unfold zipL
  rw [List.zip_map, List.map_map]; rfl
@[simp] theorem sumD_ints {ns : List Int} : sumD [.lst (ns.map .int)] = some (.frz (.int ns.sum)) := by
  show (intsD (ns.map D.int)).map _ = _
  rw [intsD_map]; rfl
end Dz
/-! plain texts 8: covers. -/
namespace Dz
open PySem Fs
/-- what the numbers of the tables that hold c come to -/
def covSum : Qu → List Int → Str → Int
  | t :: q, n :: ns, c => (if c ∈ t.2 then n else 0) + covSum q ns c
  | _, _, _ => 0
theorem cov_filter (c : Str) : ∀ (q : Qu) (ns : List Int), ((((q.zip ns).filter fun p => decide (c ∈ p.1.2)).map (·.2))).sum = covSum q ns c
  | [], _ => by simp [covSum]
  | _ :: _, [] => by simp [covSum]
  | t :: q, n :: ns => by
    rw [List.zip_cons_cons]
    by_cases h : c ∈ t.2
    · rw [List.filter_cons_of_pos (by simpa using h), List.map_cons, List.sum_cons, cov_filter c q ns, covSum, if_pos h]
    · rw [List.filter_cons_of_neg (by simpa using h), cov_filter c q ns, covSum, if_neg h, Int.zero_add]
theorem cov_enum (c : Str) (f : Nat → Int) : ∀ (q : Qu) (ns : List Int) (n : Nat), ns.length = q.length → (∀ i x, ns[i]? = some x → f (n + i) = x) → (((enumP n q).filter fun p => decide (c ∈ p.2.2)).map fun p => f p.1).sum = covSum q ns c
  | [], _, _, _, _ => by simp [covSum, enumP]
  | _ :: _, [], _, h, _ => by simp at h
  | t :: q, m :: ns, n, h, hf => by
    have h0 := hf 0 m rfl
    have ih := cov_enum c f q ns (n + 1) (by simpa using h) fun i x e => by
      have := hf (i + 1) x e
      rw [show n + 1 + i = n + (i + 1) by omega]
      exact this
    rw [enumP]
    by_cases hc : c ∈ t.2
    · rw [List.filter_cons_of_pos (by simpa using hc), List.map_cons, List.sum_cons, ih, covSum, if_pos hc]
      show f n + _ = _
      rw [show f n = m from h0]
    · rw [List.filter_cons_of_neg (by simpa using hc), ih, covSum, if_neg hc, Int.zero_add]
theorem covSum_set (c : Str) (d : Int) : ∀ (q : Qu) (ns : List Int) (k : Nat) (t : Str × List Str) (x : Int), q[k]? = some t → ns[k]? = some x → covSum q (ns.set k (x + d)) c = covSum q ns c + (if c ∈ t.2 then d else 0)
  | t :: q, n :: ns, 0, u, x, e1, e2 => by
    cases e1
    cases e2
    show (if c ∈ t.2 then n + d else 0) + covSum q ns c = (if c ∈ t.2 then n else 0) + covSum q ns c + _
    split <;> omega
  | t :: q, n :: ns, k + 1, u, x, e1, e2 => by
    have := covSum_set c d q ns k u x e1 e2
    show (if c ∈ t.2 then n else 0) + covSum q (ns.set k (x + d)) c = (if c ∈ t.2 then n else 0) + covSum q ns c + _
    omega
  | [], _, _, _, _, e1, _ => by simp at e1
  | _ :: _, [], _, _, _, _, e2 => by simp at e2
theorem covSum_nn (c : Str) : ∀ (q : Qu) (ns : List Int), (∀ n ∈ ns, 0 ≤ n) → 0 ≤ covSum q ns c
  | [], _, _ => by simp [covSum]
  | _ :: _, [], _ => by simp [covSum]
  | t :: q, n :: ns, h => by
    have h1 := covSum_nn c q ns fun x hx => h x (List.mem_cons_of_mem _ hx)
    have h2 := h n List.mem_cons_self
    show 0 ≤ (if c ∈ t.2 then n else 0) + covSum q ns c
    split <;> omega
theorem covSum_le (c : Str) : ∀ (q : Qu) (ns : List Int) (k : Nat) (t : Str × List Str) (x : Int), (∀ n ∈ ns, 0 ≤ n) → q[k]? = some t → ns[k]? = some x → c ∈ t.2 → x ≤ covSum q ns c
  | t :: q, n :: ns, 0, u, x, h, e1, e2, hc => by
    cases e1
    cases e2
    have h1 := covSum_nn c q ns fun x hx => h x (List.mem_cons_of_mem _ hx)
    show n ≤ (if c ∈ t.2 then n else 0) + covSum q ns c
    rw [if_pos hc]
    omega
  | t :: q, n :: ns, k + 1, u, x, h, e1, e2, hc => by
    have h1 := covSum_le c q ns k u x (fun x hx => h x (List.mem_cons_of_mem _ hx)) e1 e2 hc
    have h2 := h n List.mem_cons_self
    show x ≤ (if c ∈ t.2 then n else 0) + covSum q ns c
    split <;> omega
  | [], _, _, _, _, _, e1, _, _ => by simp at e1
  | _ :: _, [], _, _, _, _, _, e2, _ => by simp at e2
structure CovOk (q : Qu) (p : Int) (ns : List Int) (b : Int) : Prop where
  p1 : 1 ≤ p
  pb : p ≤ b
  len : ns.length = q.length
  num : ∀ n ∈ ns, 0 ≤ n ∧ n ≤ b
  cov : ∀ c ∈ colsL q, p ≤ covSum q ns c
def encC (p : Int) (ns : List Int) : D := .tup [.int p, .tup (ns.map .int)]
theorem inD_dT {c : Str} {cs : List Str} (h1 : PyData.strOk c = true) (h2 : Txs cs) : inD (.str c) (dT cs) = some (.frz (.bl (decide (c ∈ cs)))) := inD_tup (n := 0) told_str (okN_str h1) (okN_txs h2)
theorem cover_ok {a s : Int} {q : Qu} (hQ : QuOk q) {Q : R → List Slot → Prop} (h : ∀ p ns a' s', CovOk q p ns 6 → Q (.frz (encC p ns)) [bx a' s', .frz (encQ q)]) : COk m__law_cover [bx a s, .frz (encQ q)] Q := by
  apply cok_fnA rfl
  unfold b__law_cover
  refine ok_seq_n (fun ρ' => ∃ (a s p : Int), 1 ≤ p ∧ p ≤ 6 ∧ ρ' = [bx a s, .frz (encQ q), .frz (.int p), .emp, .emp, .emp, .emp, .emp, .emp, .emp, .emp, .emp]) ?_ ?_
  · simp
    refine take_ok (by omega) (by omega) fun d a s d0 d1 => ?_
    simp
    exact ⟨a, s, 1 + d, by omega, by omega, ⟨rfl, rfl⟩, rfl⟩
  rintro ρ' ⟨a, s, p, p1, p6, rfl⟩
  refine ok_seq_n (fun ρ' => ∃ (a s : Int) (ns : List Int), ns.length = q.length ∧ (∀ n ∈ ns, 0 ≤ n ∧ n ≤ p) ∧ ρ' = [bx a s, .frz (encQ q), .frz (.int p), .own (.lst (ns.map .int)), .emp, .emp, .emp, .emp, .emp, .emp, .emp, .emp]) ?_ ?_
  · rw [ok_sAsg]
    apply ok_fLc
    simp [wipeOk, calmSl, wipeE]
    refine ⟨q.map encT, rfl, ?_⟩
    have hq6 := hQ.le
    refine ok_lcL (I := fun todo acc ρ => ∃ (a s : Int) (ns : List Int), ns.length + todo.length = q.length ∧ (∀ n ∈ ns, 0 ≤ n ∧ n ≤ p) ∧ acc = ns.map D.int ∧ ρ = [bx a s, .frz (encQ q), .frz (.int p), .emp, .emp, .emp, .emp, .emp, .emp, .emp, .emp, .emp]) (fun x todo acc ρ hI => ?_) (fun acc ρ hI => ?_) _ _ _ ⟨a, s, [], by simp, (fun _ z => nomatch z), rfl, rfl⟩
    · obtain ⟨a, s, ns, hl, hns, rfl, rfl⟩ := hI
      simp only [List.length_cons] at hl
      simp
      refine take_ok (by omega) (by omega) fun d a s d0 d1 => ?_
      simp [show ns.length < 16777216 by omega, wipeE]
      refine ⟨a, s, ns ++ [d], by simp; omega, fun n hn => ?_, by simp, rfl, rfl⟩
      rcases List.mem_append.mp hn with z | z
      · exact hns n z
      · rw [List.mem_singleton.mp z]; omega
    · obtain ⟨a, s, ns, hl, hns, rfl, rfl⟩ := hI
      simp at hl
      simp [backE]
      exact ⟨a, s, ns, hl, hns, ⟨rfl, rfl⟩, rfl⟩
  rintro ρ' ⟨a, s, ns, hnl, hns, rfl⟩
  have hq6 := hQ.le
  refine ok_seq_n (fun ρ' => ∃ (a s : Int) (ns : List Int) (s4 s5 s6 s8 : Slot), CovOk q p ns p ∧ ρ' = [bx a s, .frz (encQ q), .frz (.int p), .own (.lst (ns.map .int)), s4, s5, s6, .emp, s8, .emp, .emp, .emp]) ?_ ?_
  · simp
    refine columns_ok hQ ?_
    simp
    refine ok_forG (f := D.str) (I := fun done ρ => ∃ (a s : Int) (ns : List Int) (s4 s5 s6 s8 : Slot), nl s4 ∧ nl s5 ∧ nl s6 ∧ nl s8 ∧ ns.length = q.length ∧ (∀ n ∈ ns, 0 ≤ n ∧ n ≤ p) ∧ (∀ c ∈ done, p ≤ covSum q ns c) ∧ ρ = [bx a s, .frz (encQ q), .frz (.int p), .own (.lst (ns.map .int)), s4, s5, s6, .emp, s8, .emp, .emp, .emp]) (fun done c rest ρ hd hI => ?_) (fun ρ hI => ?_) ⟨a, s, ns, .emp, .emp, .emp, .emp, .inl rfl, .inl rfl, .inl rfl, .inl rfl, hnl, hns, (fun _ z => nomatch z), rfl⟩
    · obtain ⟨a, s, ns, s4, s5, s6, s8, n4, n5, n6, n8, hnl, hns, hdone, rfl⟩ := hI
      have hcm : c ∈ colsL q := by rw [hd]; simp
      have hcx := hQ.colsTx c hcm
      rw [ok_setTg_nm]
      refine ok_set rfl n4 ?_
      generalize hS : ((enumP 0 q).filter fun p => decide (c ∈ p.2.2)) = S
      have hSm : ∀ x ∈ S, ∃ t, q[x.1]? = some t ∧ c ∈ t.2 ∧ x.1 < q.length := fun x hx => by
        rw [← hS] at hx
        obtain ⟨h1, h2⟩ := List.mem_filter.mp hx
        obtain ⟨k, t⟩ := x
        have := (enumP_mem h1).2
        rw [Nat.sub_zero] at this
        exact ⟨t, this, by simpa using h2, (List.getElem?_eq_some_iff.mp this).1⟩
      have hSne : 0 < S.length := by
        obtain ⟨t, ht, hc⟩ := (mem_colsL q).mp hcm
        obtain ⟨k, hk, e⟩ := List.mem_iff_getElem.mp ht
        have : (k, t) ∈ S := by
          rw [← hS]
          refine List.mem_filter.mpr ⟨?_, by simpa using hc⟩
          have := enumP_of (n := 0) (k := k) (xs := q) (x := t) (by rw [List.getElem?_eq_getElem hk, e])
          rwa [Nat.zero_add] at this
        exact List.length_pos_of_mem this
      have hSl : S.length ≤ 6 := by
        rw [← hS]
        exact Nat.le_trans (List.length_filter_le _ _) (by rw [enumP_len]; exact hq6)
      have hsum : (S.map fun p => ns[p.1]?.getD 0).sum = covSum q ns c := by
        rw [← hS]
        exact cov_enum c (fun k => ns[k]?.getD 0) q ns 0 hnl fun i x e => by rw [Nat.zero_add, e]; rfl
      refine ok_seq_n (fun ρ' => ρ' = [bx a s, .frz (encQ q), .frz (.int p), .own (.lst (ns.map .int)), .frz (.str c), .own (.lst (S.map fun x => .int (x.1 : Nat))), s6, .emp, s8, .emp, .emp, .emp]) ?_ ?_
      · rw [ok_sAsg]
        apply ok_fLc
        simp [encQ, wipeOk, calmSl, wipeE]
        rw [enum_map]
        refine ok_lcG (c := fun x => decide (c ∈ x.2.2)) (e := fun x => .int (x.1 : Nat)) (fun x hx => ?_) (by rw [enumP_len, sizeLine_val]; omega) ?_
        · obtain ⟨k, t⟩ := x
          have ht : t ∈ q := by
            have := (enumP_mem hx).2
            exact List.mem_of_getElem? this
          have e := inD_dT hcx (hQ.tx t ht)
          by_cases z : c ∈ t.2
          · simp [encT, e, z, wipeE]
          · simp [encT, e, z, wipeE]
        · simp [backE, wN_nl n5]
          rw [← hS]
      rintro ρ' rfl
      refine ok_seq_n (fun ρ' => ρ' = [bx a s, .frz (encQ q), .frz (.int p), .own (.lst (ns.map .int)), .frz (.str c), .frz (.lst (S.map fun x => .int (x.1 : Nat))), .frz (.int (p - covSum q ns c)), .emp, s8, .emp, .emp, .emp]) ?_ ?_
      · simp
        apply ok_fLc
        simp [wipeOk, calmSl, wipeE]
        refine ok_lcG (f := fun x : Nat × (Str × List Str) => D.int (x.1 : Nat)) (c := fun _ => true) (e := fun x => .int (ns[x.1]?.getD 0)) (fun x hx => ?_) (by rw [sizeLine_val]; omega) ?_
        · obtain ⟨t, ht, hc, hlt⟩ := hSm x hx
          obtain ⟨v, ev, gv, mv⟩ := atI_map (f := D.int) (xs := ns) (i := (x.1 : Int)) (by omega) (by omega)
          rw [Int.toNat_natCast] at gv
          simp [ev, gv, wipeE]
        · have hm : (S.map fun x => D.int (ns[x.1]?.getD 0)) = (S.map fun x => ns[x.1]?.getD 0).map D.int := by rw [List.map_map]; rfl
          rw [List.filter_eq_self.mpr (fun _ _ => rfl), hm]
          simp [backE, hsum, wN_nl n6, -List.map_map]
      rintro ρ' rfl
      by_cases hlack : 0 < p - covSum q ns c
      · have hl2 : covSum q ns c < p := by omega
        simp [hlack, hl2, wN_nl n8]
        refine take_ok (by omega) (by omega) fun d a s d0 d1 => ?_
        obtain ⟨x, ex, gx, mx⟩ := atI_map (f := fun x : Nat × (Str × List Str) => D.int (x.1 : Nat)) (xs := S) (i := d) d0 d1
        obtain ⟨t, ht, hc, hlt⟩ := hSm x mx
        obtain ⟨v, ev, gv, mv⟩ := atI_map (f := D.int) (xs := ns) (i := (x.1 : Int)) (by omega) (by omega)
        rw [Int.toNat_natCast] at gv
        have hix : L2.ixN ns.length (x.1 : Int) = some x.1 := by rw [L2.ixN, if_pos (by omega), if_pos (by omega), Int.toNat_natCast]
        simp [ex, ev, hix, wN_nl n8]
        have hset := fun c' => covSum_set c' (p - covSum q ns c) q ns x.1 t v ht gv
        have hle := covSum_le c q ns x.1 t v (fun n hn => (hns n hn).1) ht gv hc
        have hv := hns v mv
        refine ⟨a, s, ns.set x.1 (v + (p - covSum q ns c)), _, nl_frz, _, nl_frz, _, nl_frz, _, nl_frz, by rw [List.length_set]; exact hnl, fun n hn => ?_, fun c' hc' => ?_, ⟨rfl, rfl⟩, by rw [List.map_set], rfl, rfl, rfl, rfl⟩
        · rcases List.mem_or_eq_of_mem_set hn with z | z
          · exact hns n z
          · rw [z]; omega
        · rw [hset c']
          rcases hc' with z | z
          · have := hdone c' z
            split <;> omega
          · subst z
            rw [if_pos hc]; omega
      · have hl2 : ¬ covSum q ns c < p := by omega
        simp [hlack, hl2]
        refine ⟨a, s, ns, _, nl_frz, _, nl_frz, _, nl_frz, s8, n8, hnl, hns, fun c' hc' => ?_, ⟨rfl, rfl⟩, rfl, rfl, rfl, rfl, rfl⟩
        rcases hc' with z | z
        · exact hdone c' z
        · subst z; omega
    · obtain ⟨a, s, ns, s4, s5, s6, s8, n4, n5, n6, n8, hnl, hns, hdone, rfl⟩ := hI
      exact ⟨rfl, a, s, ns, s4, s5, s6, s8, ⟨p1, Int.le_refl _, hnl, hns, hdone⟩, rfl⟩
  rintro ρ' ⟨a, s, ns, s4, s5, s6, s8, hC, rfl⟩
  simp
  exact h p ns a s ⟨hC.p1, p6, hC.len, fun n hn => ⟨(hC.num n hn).1, by have := (hC.num n hn).2; omega⟩, hC.cov⟩
end Dz
/-! plain texts 9: powers, products, roots; covers made greater. -/
namespace Dz
open PySem Fs
theorem pow_ok {h p : Int} (hp : 0 ≤ p) (hp2 : p < 1000000) (H : ∀ i : Nat, (i : Int) < p → MulOk (h ^ i) h) {Q : R → List Slot → Prop} (q : Q (.frz (.int (h ^ p.toNat))) [.frz (.int h), .frz (.int p)]) : COk m_powered [.frz (.int h), .frz (.int p)] Q := by
  apply cok_fnA rfl
  unfold b_powered
  simp [rng1_at (n := p) (by omega) (by omega)]
  refine ok_forL (I := fun todo ρ => ∃ i : Nat, (i : Int) ≤ p ∧ todo.length = p.toNat - i ∧ ∃ s3, nl s3 ∧ ρ = [.frz (.int h), .frz (.int p), .frz (.int (h ^ i)), s3]) (fun d ds ρ hI => ?_) (fun ρ hI => ?_) _ _ ⟨0, hp, by simp [rangeL_len], .emp, .inl rfl, by simp⟩
  · obtain ⟨i, hi, hl, s3, n3, rfl⟩ := hI
    simp only [List.length_cons] at hl
    rw [ok_setTg_nm]
    refine ok_set rfl n3 ?_
    simp [H i (by omega)]
    refine ⟨i + 1, by omega, by omega, ?_⟩
    simp [Int.pow_succ, nl]
  · obtain ⟨i, hi, hl, s3, n3, rfl⟩ := hI
    simp at hl
    have e : i = p.toNat := by omega
    subst e
    simp [q]
theorem lpow_ok {h p : Int} (hp : 0 ≤ p) (hp2 : p < 1000000) (H : ∀ i : Nat, (i : Int) < p → MulOk (h ^ i) h) {Q : R → List Slot → Prop} (q : Q (.frz (.int (h ^ p.toNat))) [.frz (.int h), .frz (.int p)]) : COk m__law_power [.frz (.int h), .frz (.int p)] Q := pow_ok hp hp2 H q
theorem natAbs_pow_lt {h : Int} {b i : Nat} (hb : h.natAbs < 2 ^ b) : (h ^ i).natAbs < 2 ^ (b * i + 1) := by
  rw [Int.natAbs_pow]
  have h1 : h.natAbs ^ i ≤ (2 ^ b) ^ i := Nat.pow_le_pow_left (by omega) i
  rw [← Nat.pow_mul] at h1
  have h2 : 2 ^ (b * i) < 2 ^ (b * i + 1) := Nat.pow_lt_pow_right (by omega) (by omega)
  omega
theorem mulOk_pows {h p : Int} {b : Nat} (hb : h.natAbs < 2 ^ b) (hs : b * p.toNat + b + 1 ≤ 900000) : ∀ i : Nat, (i : Int) < p → MulOk (h ^ i) h := fun i hi => by
  refine mulOk_pow2 (natAbs_pow_lt hb) hb ?_
  have : b * i ≤ b * p.toNat := Nat.mul_le_mul_left b (by omega)
  omega
theorem mulOk_small {h p : Int} (h0 : 0 ≤ h) (h1 : h < 1000000) : ∀ i : Nat, (i : Int) < p → MulOk (h ^ i) h := fun i _ => mulOk_r (by omega) (by omega)
theorem whole_ok {r : Int} {Q : R → List Slot → Prop} (q : Q (.frz (.bl true)) [.frz (.int r)]) : COk m__law_whole [.frz (.int r)] Q := by
  apply cok_fnA rfl
  unfold b__law_whole
  simp [isiD, isT, q]
theorem truth_ok {b c : Bool} {Q : R → List Slot → Prop} (q : Q (.frz (.bl (b == c))) [.frz (.bl b), .frz (.bl c)]) : COk m__law_truth [.frz (.bl b), .frz (.bl c)] Q := by
  apply cok_fnA rfl
  unfold b__law_truth
  simp [isiD, isT, q]
theorem pow_ge {p : Int} (hp : 1 ≤ p) (h : Int) (hh : 0 ≤ h) : h ≤ h ^ p.toNat := by
  obtain ⟨P, hP⟩ : ∃ P : Nat, p.toNat = P + 1 := ⟨p.toNat - 1, by omega⟩
  by_cases c : h = 0
  · rw [c, hP, Int.pow_succ]; omega
  · rw [hP]
    have : (0 : Int) < h ^ P := Int.pow_pos (by omega)
    calc h = 1 * h := by omega
      _ ≤ h ^ P * h := Int.mul_le_mul_of_nonneg_right (by omega) (by omega)
      _ = h ^ (P + 1) := (Int.pow_succ h P).symm
theorem pow_le_l {a b : Int} (h0 : 0 ≤ a) (h : a ≤ b) : ∀ n : Nat, a ^ n ≤ b ^ n
  | 0 => by simp
  | n + 1 => by
    rw [Int.pow_succ, Int.pow_succ]
    have h1 := pow_le_l h0 h n
    have h2 : (0 : Int) ≤ a ^ n := Int.pow_nonneg h0
    exact Int.le_trans (Int.mul_le_mul_of_nonneg_left h h2) (Int.mul_le_mul_of_nonneg_right h1 (by omega))
/-- what the search keeps -/
theorem root_ok {n p : Int} (hn : 0 ≤ n) (hn2 : n.natAbs < 2 ^ 4000) (hp : 1 ≤ p) (hp2 : p ≤ 60) {Q : R → List Slot → Prop} (q : ∀ r : Int, 0 ≤ r → r.natAbs < 2 ^ 4001 → r ^ p.toNat ≤ n → n < (r + 1) ^ p.toNat → Q (.frz (.int r)) [.frz (.int n), .frz (.int p)]) :
    COk m_root [.frz (.int n), .frz (.int p)] Q := by
  apply cok_fnA rfl
  unfold b_root
  obtain ⟨P, hP⟩ : ∃ P : Nat, p.toNat = P + 1 := ⟨p.toNat - 1, by omega⟩
  have big : ∀ h : Int, h.natAbs < 2 ^ 4002 → ∀ i : Nat, (i : Int) < p → MulOk (h ^ i) h := fun h hh => mulOk_pows hh (by omega)
  have ge : ∀ h : Int, 1 ≤ h → h ≤ h ^ p.toNat := fun h hh => pow_ge hp h (by omega)
  have e2 : (2 : Nat) ^ 4001 = 2 * 2 ^ 4000 := by rw [Nat.pow_succ]; omega
  have e3 : (2 : Nat) ^ 4002 = 2 * 2 ^ 4001 := by rw [Nat.pow_succ]; omega
  generalize (2 : Nat) ^ 4000 = B at hn2 e2
  generalize hB1 : (2 : Nat) ^ 4001 = B1 at q e2 e3
  generalize hB2 : (2 : Nat) ^ 4002 = B2 at big e3
  simp
  refine ok_while (I := fun k ρ => ∃ h : Int, 1 ≤ h ∧ h ≤ 2 * n + 2 ∧ (h = 1 ∨ ∃ l, h = 2 * l ∧ 1 ≤ l ∧ l ^ p.toNat ≤ n) ∧ k = (n + 1 - h).toNat ∧ ρ = [.frz (.int n), .frz (.int p), .frz (.int h), .emp, .emp]) (fun k ρ hI => ?_) _ _ ⟨1, by omega, by omega, .inl rfl, rfl, rfl⟩
  · obtain ⟨h, h1, h2, h3, rfl, rfl⟩ := hI
    simp
    refine pow_ok (by omega) (by omega) (big h (by omega)) ?_
    simp
    by_cases c : h ^ p.toNat ≤ n
    · have := ge h h1
      simp [c, mulOk_r]
      exact ⟨(n + 1 - h * 2).toNat, by omega, h * 2, by omega, by omega, .inr ⟨h, by omega, h1, c⟩, rfl, rfl⟩
    · have c2 : n < h ^ p.toNat := by omega
      have l0 : (h / 2) ^ p.toNat ≤ n := by
        rcases h3 with rfl | ⟨l, rfl, l1, l2⟩
        · rw [show (1 : Int) / 2 = 0 from rfl, hP, Int.pow_succ]
          omega
        · rw [show 2 * l / 2 = l by omega]
          exact l2
      simp [c, cdivW]
      refine ok_while (I := fun k ρ => ∃ (l g : Int) (s4 : Slot), nl s4 ∧ 0 ≤ l ∧ l < g ∧ g ≤ 2 * n + 2 ∧ l ^ p.toNat ≤ n ∧ n < g ^ p.toNat ∧ k = (g - l).toNat ∧ ρ = [.frz (.int n), .frz (.int p), .frz (.int g), .frz (.int l), s4]) (fun k ρ hI => ?_) _ _ ⟨h / 2, h, .emp, .inl rfl, by omega, by omega, h2, l0, c2, rfl, rfl⟩
      obtain ⟨l, g, s4, n4, i1, i2, i3, i4, i5, rfl, rfl⟩ := hI
      simp
      by_cases d : 1 < g - l
      · simp [d, cdivW, wN_nl n4]
        refine pow_ok (by omega) (by omega) (big _ (by omega)) ?_
        simp
        by_cases f : ((l + g) / 2) ^ p.toNat ≤ n
        · simp [f]
          exact ⟨(g - (l + g) / 2).toNat, by omega, _, _, _, .inr (.inl ⟨_, rfl⟩), by omega, by omega, i3, f, i5, rfl, rfl, rfl, rfl⟩
        · simp [f]
          exact ⟨((l + g) / 2 - l).toNat, by omega, _, _, _, .inr (.inl ⟨_, rfl⟩), i1, by omega, by omega, i4, by omega, rfl, rfl, rfl, rfl⟩
      · have e : g = l + 1 := by omega
        subst e
        simp [d]
        exact q l i1 (by omega) i4 i5
theorem edge_ok {n p : Int} (hn : 0 ≤ n) (hn2 : n.natAbs < 2 ^ 4000) (hp : 1 ≤ p) (hp2 : p ≤ 60) {Q : R → List Slot → Prop} (q : ∀ r : Int, 0 ≤ r → r.natAbs < 2 ^ 4001 → r ^ p.toNat ≤ n → n < (r + 1) ^ p.toNat → Q (.frz (.int r)) [.frz (.int n), .frz (.int p)]) :
    COk m__law_edge [.frz (.int n), .frz (.int p)] Q := by
  apply cok_fnA rfl
  unfold b__law_edge
  have big : ∀ h : Int, h.natAbs < 2 ^ 4003 → ∀ i : Nat, (i : Int) < p → MulOk (h ^ i) h := fun h hh => mulOk_pows hh (by omega)
  have ge : ∀ h : Int, 0 ≤ h → h ≤ h ^ p.toNat := pow_ge hp
  have e2 : (2 : Nat) ^ 4001 = 2 * 2 ^ 4000 := by rw [Nat.pow_succ]; omega
  have e3 : (2 : Nat) ^ 4002 = 2 * 2 ^ 4001 := by rw [Nat.pow_succ]; omega
  have e4 : (2 : Nat) ^ 4003 = 2 * 2 ^ 4002 := by rw [Nat.pow_succ]; omega
  generalize (2 : Nat) ^ 4000 = B at hn2 e2
  generalize hB1 : (2 : Nat) ^ 4001 = B1 at q e2 e3
  generalize hB2 : (2 : Nat) ^ 4002 = B2 at e3 e4
  generalize hB3 : (2 : Nat) ^ 4003 = B3 at big e4
  have hp0 : (0 : Int) ^ p.toNat = 0 := by
    obtain ⟨P, hP⟩ : ∃ P : Nat, p.toNat = P + 1 := ⟨p.toNat - 1, by omega⟩
    rw [hP, Int.pow_succ]; omega
  refine ok_seq_n (fun ρ' => ρ' = [.frz (.int n), .frz (.int p), .frz (.int 1), .emp]) (by simp) ?_
  rintro ρ' rfl
  refine ok_seq_n (fun ρ' => ∃ j : Nat, (2 : Int) ^ j ≤ n + 1 ∧ n < (2 * 2 ^ j) ^ p.toNat ∧ ρ' = [.frz (.int n), .frz (.int p), .frz (.int (2 ^ j)), .emp]) ?_ ?_
  · refine ok_while (I := fun k ρ => ∃ j : Nat, (2 : Int) ^ j ≤ n + 1 ∧ k = (n + 1 - 2 ^ j).toNat ∧ ρ = [.frz (.int n), .frz (.int p), .frz (.int (2 ^ j)), .emp]) (fun k ρ hI => ?_) _ _ ⟨0, by omega, rfl, rfl⟩
    obtain ⟨j, j1, rfl, rfl⟩ := hI
    have jp : (0 : Int) < 2 ^ j := Int.pow_pos (by omega)
    simp [mulOk_l]
    refine lpow_ok (by omega) (by omega) (big _ (by omega)) ?_
    by_cases c : (2 * 2 ^ j : Int) ^ p.toNat ≤ n
    · have := ge (2 * 2 ^ j) (by omega)
      simp [c, mulOk_l]
      refine ⟨(n + 1 - 2 ^ (j + 1)).toNat, ?_, j + 1, ?_, rfl, ?_⟩
      · rw [Int.pow_succ]; omega
      · rw [Int.pow_succ]; omega
      · rw [Int.pow_succ]; omega
    · simp [c]
      exact ⟨j, j1, by omega, rfl⟩
  rintro ρ' ⟨j, j1, j2, rfl⟩
  refine ok_seq_n (fun ρ' => ρ' = [.frz (.int n), .frz (.int p), .frz (.int (2 ^ j)), .frz (.int 0)]) (by simp) ?_
  rintro ρ' rfl
  refine ok_seq_n (fun ρ' => ∃ f : Int, 0 ≤ f ∧ f ^ p.toNat ≤ n ∧ n < (f + 1) ^ p.toNat ∧ ρ' = [.frz (.int n), .frz (.int p), .frz (.int 0), .frz (.int f)]) ?_ ?_
  · refine ok_while (I := fun k ρ => ∃ st f : Int, 0 ≤ f ∧ f ^ p.toNat ≤ n ∧ st ≤ n + 1 ∧ k = st.toNat ∧ ((st = 0 ∧ n < (f + 1) ^ p.toNat) ∨ ∃ j : Nat, st = 2 ^ j ∧ n < (f + 2 * st) ^ p.toNat) ∧ ρ = [.frz (.int n), .frz (.int p), .frz (.int st), .frz (.int f)]) (fun k ρ hI => ?_) _ _ ⟨2 ^ j, 0, by omega, by rw [hp0]; exact hn, j1, rfl, .inr ⟨j, rfl, by rw [Int.zero_add]; exact j2⟩, rfl⟩
    obtain ⟨st, f, f0, f1, s1, rfl, hst, rfl⟩ := hI
    have hf := ge f f0
    rcases hst with ⟨rfl, h⟩ | ⟨j, rfl, h⟩
    · simp
      exact ⟨f, f0, f1, h, rfl⟩
    · have jp : (0 : Int) < 2 ^ j := Int.pow_pos (by omega)
      have hdiv : (2 : Int) ^ j / 2 = 0 ∧ j = 0 ∨ ∃ i, j = i + 1 ∧ (2 : Int) ^ j / 2 = 2 ^ i ∧ (2 : Int) ^ j = 2 * 2 ^ i := by
        cases j with
        | zero => exact .inl ⟨by rfl, rfl⟩
        | succ i => refine .inr ⟨i, rfl, ?_, ?_⟩ <;> rw [Int.pow_succ] <;> omega
      simp [jp]
      refine lpow_ok (by omega) (by omega) (big _ (by omega)) ?_
      by_cases c : (f + 2 ^ j) ^ p.toNat ≤ n
      · simp [c, cdivW]
        refine ⟨(2 ^ j / 2 : Int).toNat, by omega, _, _, by omega, c, by omega, rfl, ?_, rfl, rfl⟩
        rcases hdiv with ⟨e1, rfl⟩ | ⟨i, rfl, e1, e5⟩
        · refine .inl ⟨e1, ?_⟩
          rw [show f + 2 ^ 0 + 1 = f + 2 * 2 ^ 0 by omega]; exact h
        · refine .inr ⟨⟨i, e1⟩, ?_⟩
          rw [e1, show f + 2 ^ (i + 1) + 2 * 2 ^ i = f + 2 * 2 ^ (i + 1) by omega]; exact h
      · simp [c, cdivW]
        refine ⟨(2 ^ j / 2 : Int).toNat, by omega, _, _, f0, f1, by omega, rfl, ?_, rfl, rfl⟩
        rcases hdiv with ⟨e1, rfl⟩ | ⟨i, rfl, e1, e5⟩
        · refine .inl ⟨e1, ?_⟩
          rw [show f + 1 = f + 2 ^ 0 by omega]; omega
        · refine .inr ⟨⟨i, e1⟩, ?_⟩
          rw [e1, show f + 2 * 2 ^ i = f + 2 ^ (i + 1) by omega]; omega
  rintro ρ' ⟨f, f0, f1, f2, rfl⟩
  have hf := ge f f0
  simp
  exact q f f0 (by omega) f1 f2
end Dz
/-! plain texts 10: the rows' numbers multiplied; covers made greater. -/
namespace Dz
open PySem Fs
abbrev Rows := List (List Int)
def prodZ (l : List (Rows × Int)) : Int := l.foldl (fun acc x => acc * (x.1.length : Int) ^ x.2.toNat) 1
theorem prodZ_snoc (l : List (Rows × Int)) (x : Rows × Int) : prodZ (l ++ [x]) = prodZ l * (x.1.length : Int) ^ x.2.toNat := by simp [prodZ]
theorem prodZ_bd : ∀ l : List (Rows × Int), (∀ x ∈ l, x.1.length ≤ 40 ∧ 0 ≤ x.2 ∧ x.2 ≤ 60) → 0 ≤ prodZ l ∧ prodZ l ≤ 2 ^ (360 * l.length) := by
  apply snoc_ind
  · intro _; simp [prodZ]
  · intro l x ih h
    obtain ⟨i1, i2⟩ := ih fun y hy => h y (List.mem_append_left _ hy)
    obtain ⟨x1, x2, x3⟩ := h x (by simp)
    rw [prodZ_snoc]
    have h1 : (0 : Int) ≤ (x.1.length : Int) ^ x.2.toNat := Int.pow_nonneg (by omega)
    have h2 : (x.1.length : Int) ^ x.2.toNat ≤ 2 ^ 360 := by
      have a1 : (x.1.length : Int) ^ x.2.toNat ≤ (64 : Int) ^ x.2.toNat := pow_le_l (by omega) (by omega) _
      have a2 : (64 : Int) ^ x.2.toNat ≤ (64 : Int) ^ 60 := by
        obtain ⟨k, hk⟩ : ∃ k, 60 = x.2.toNat + k := ⟨60 - x.2.toNat, by omega⟩
        rw [hk, Int.pow_add]
        have := Int.mul_le_mul_of_nonneg_left (show (1 : Int) ≤ 64 ^ k by have : (0 : Int) < 64 ^ k := Int.pow_pos (by omega); omega) (show (0 : Int) ≤ 64 ^ x.2.toNat from Int.pow_nonneg (by omega))
        omega
      have a3 : (64 : Int) ^ 60 = 2 ^ 360 := by decide +kernel
      omega
    refine ⟨Int.mul_nonneg i1 h1, ?_⟩
    rw [List.length_append, List.length_singleton, Nat.mul_add, Nat.mul_one, Int.pow_add]
    exact Int.le_trans (Int.mul_le_mul_of_nonneg_left h2 i1) (Int.mul_le_mul_of_nonneg_right i2 (Int.pow_nonneg (by omega)))
/-- house and numbers fit -/
structure PrOk (hs : List Rows) (ns : List Int) : Prop where
  le : hs.length ≤ 6
  rows : ∀ r ∈ hs, r.length ≤ 40
  num : ∀ n ∈ ns, 0 ≤ n ∧ n ≤ 60
theorem PrOk.at {hs : List Rows} {ns : List Int} (h : PrOk hs ns) {x : Rows × Int} (hx : x ∈ hs.zip ns) : x.1.length ≤ 40 ∧ 0 ≤ x.2 ∧ x.2 ≤ 60 :=
  ⟨h.rows _ (List.of_mem_zip hx).1, h.num _ (List.of_mem_zip hx).2⟩
theorem natAbs_le_pow {x : Int} {b : Nat} (h0 : 0 ≤ x) (h1 : x ≤ 2 ^ b) : x.natAbs < 2 ^ (b + 1) := by
  have h2 : ((2 : Int) ^ b) = ((2 ^ b : Nat) : Int) := by simp
  rw [h2] at h1
  have : x.natAbs ≤ 2 ^ b := by omega
  rw [Nat.pow_succ]
  have : 0 < 2 ^ b := Nat.pow_pos (by omega)
  omega
theorem PrOk.bits {hs : List Rows} {ns : List Int} (h : PrOk hs ns) {l : List (Rows × Int)} (hl : ∀ x ∈ l, x ∈ hs.zip ns) (hn : l.length ≤ 6) : 0 ≤ prodZ l ∧ (prodZ l).natAbs < 2 ^ 2161 := by
  obtain ⟨h1, h2⟩ := prodZ_bd l fun x hx => h.at (hl x hx)
  have h3 := natAbs_le_pow h1 h2
  refine ⟨h1, Nat.lt_of_lt_of_le h3 (Nat.pow_le_pow_right (by omega) (by omega))⟩
theorem zip_walk (hs : List Rows) (ns : List Int) : zipL (hs.map encR) (ns.map D.int) = (hs.zip ns).map fun p => .tpl [encR p.1, .int p.2] := zipL_map hs ns
theorem len_encR (r : Rows) : lenD [encR r] = some (.frz (.int r.length)) := by rw [encR, lenD_tup, List.length_map]
theorem product_ok {hs : List Rows} {ns : List Int} (h : PrOk hs ns) {Q : R → List Slot → Prop} (q : Q (.frz (.int (prodZ (hs.zip ns)))) [.frz (encH hs), .frz (.tup (ns.map .int))]) : COk m__law_product [.frz (encH hs), .frz (.tup (ns.map .int))] Q := by
  apply cok_fnA rfl
  unfold b__law_product
  simp [encH, zip_walk]
  refine ok_forG (I := fun done ρ => ∃ s3 s4 s5, nl s3 ∧ nl s4 ∧ nl s5 ∧ ρ = [.frz (encH hs), .frz (.tup (ns.map .int)), .frz (.int (prodZ done)), s3, s4, s5]) (fun done x rest ρ hd hI => ?_) (fun ρ hI => ?_) ⟨.emp, .emp, .emp, .inl rfl, .inl rfl, .inl rfl, rfl⟩
  · obtain ⟨s3, s4, s5, n3, n4, n5, rfl⟩ := hI
    obtain ⟨r, n⟩ := x
    obtain ⟨x1, x2, x3⟩ := h.at (show (r, n) ∈ hs.zip ns by rw [hd]; simp)
    have x1 : r.length ≤ 40 := x1
    have x2 : 0 ≤ n := x2
    have x3 : n ≤ 60 := x3
    refine Ok.mono (Q := fun _ ρ' => ρ' = [.frz (encH hs), .frz (.tup (ns.map .int)), .frz (.int (prodZ done)), .frz (encR r), .frz (.int n), s5]) (by simp [wN_nl n3, wN_nl n4]) ?_
    rintro _ ρ' rfl
    simp [rng1_at (n := n) (by omega) (by omega)]
    refine ok_forL (I := fun todo ρ => ∃ (i : Nat) (s5 : Slot), nl s5 ∧ i + todo.length = n.toNat ∧ ρ = [.frz (encH hs), .frz (.tup (ns.map .int)), .frz (.int (prodZ done * (r.length : Int) ^ i)), .frz (encR r), .frz (.int n), s5]) (fun d todo ρ hI => ?_) (fun ρ hI => ?_) _ _ ⟨0, s5, n5, by simp [rangeL_len], by simp⟩
    · obtain ⟨i, s5, n5, hl, rfl⟩ := hI
      simp only [List.length_cons] at hl
      rw [ok_setTg_nm]
      refine ok_set rfl n5 ?_
      simp [len_encR, mulOk_r (show -18446744073709551616 < (r.length : Int) by omega) (show (r.length : Int) < 18446744073709551616 by omega)]
      exact ⟨i + 1, _, nl_frz, by omega, by rw [Int.pow_succ, Int.mul_assoc], rfl⟩
    · obtain ⟨i, s5, n5, hl, rfl⟩ := hI
      simp at hl
      subst hl
      exact ⟨_, _, s5, nl_frz, nl_frz, n5, by rw [prodZ_snoc]⟩
  · obtain ⟨s3, s4, s5, n3, n4, n5, rfl⟩ := hI
    simp
    exact q
theorem sizes_ok {hs : List Rows} {ns : List Int} (h : PrOk hs ns) {Q : R → List Slot → Prop} (q : Q (.frz (.int (prodZ (hs.zip ns)))) [.frz (encH hs), .frz (.tup (ns.map .int))]) : COk m_sizes_multiplied [.frz (encH hs), .frz (.tup (ns.map .int))] Q := by
  apply cok_fnA rfl
  unfold b_sizes_multiplied
  have hzl : (hs.zip ns).length ≤ 6 := by rw [List.length_zip]; have := h.le; omega
  simp [encH, zip_walk]
  refine ok_forG (I := fun done ρ => ∃ s3 s4, nl s3 ∧ nl s4 ∧ ρ = [.frz (encH hs), .frz (.tup (ns.map .int)), .frz (.int (prodZ done)), s3, s4]) (fun done x rest ρ hd hI => ?_) (fun ρ hI => ?_) ⟨.emp, .emp, .inl rfl, .inl rfl, rfl⟩
  · obtain ⟨s3, s4, n3, n4, rfl⟩ := hI
    have hx := h.at (show x ∈ hs.zip ns by rw [hd]; simp)
    have hlen : done.length + 1 + rest.length ≤ 6 := by
      have := congrArg List.length hd
      rw [List.length_append, List.length_cons] at this
      omega
    have b1 := h.bits (l := done) (fun y hy => by rw [hd]; exact List.mem_append_left _ hy) (by omega)
    have b2 := h.bits (l := [x]) (fun y hy => by rw [hd]; simp at hy; rw [hy]; simp) (by simp)
    have e1 : prodZ [x] = (x.1.length : Int) ^ x.2.toNat := by simp [prodZ]
    rw [e1] at b2
    obtain ⟨r, n⟩ := x
    obtain ⟨x1, x2, x3⟩ := hx
    have x1 : r.length ≤ 40 := x1
    have x2 : 0 ≤ n := x2
    have x3 : n ≤ 60 := x3
    refine Ok.mono (Q := fun _ ρ' => ρ' = [.frz (encH hs), .frz (.tup (ns.map .int)), .frz (.int (prodZ done)), .frz (encR r), .frz (.int n)]) (by simp [wN_nl n3, wN_nl n4]) ?_
    rintro _ ρ' rfl
    simp [len_encR]
    refine pow_ok x2 (by omega) (mulOk_small (by omega) (by omega)) ?_
    have hm : MulOk (prodZ done) ((r.length : Int) ^ n.toNat) := mulOk_pow2 b1.2 b2.2 (by omega)
    simp [hm]
    exact ⟨_, nl_frz, _, nl_frz, by rw [prodZ_snoc], rfl, rfl⟩
  · obtain ⟨s3, s4, n3, n4, rfl⟩ := hI
    simp
    exact q
/-! ### greater covers -/
theorem covSum_ge (c : Str) (k : Int) : ∀ (q : Qu) (ns ms : List Int), ns.length = ms.length → (∀ (i : Nat) (n m : Int), ns[i]? = some n → ms[i]? = some m → k * n ≤ m) → k * covSum q ns c ≤ covSum q ms c
  | [], _, _, _, _ => by simp [covSum]
  | _ :: _, [], [], _, _ => by simp [covSum]
  | _ :: _, _ :: _, [], h, _ => by simp at h
  | _ :: _, [], _ :: _, h, _ => by simp at h
  | t :: q, n :: ns, m :: ms, h, hk => by
    have h1 := covSum_ge c k q ns ms (by simpa using h) fun i a b e1 e2 => hk (i + 1) a b e1 e2
    have h2 := hk 0 n m rfl rfl
    show k * ((if c ∈ t.2 then n else 0) + covSum q ns c) ≤ (if c ∈ t.2 then m else 0) + covSum q ms c
    rw [Int.mul_add]
    split
    · omega
    · simp; exact h1
def mins (k : Int) (xs : List (Int × Int)) : List Int := xs.map fun x => if x.1 * k + x.2 < 60 then x.1 * k + x.2 else 60
theorem great_cover_ok {a s : Int} {q : Qu} (hQ : QuOk q) {Q : R → List Slot → Prop} (h : ∀ p ns a' s', CovOk q p ns 60 → Q (.frz (encC p ns)) [bx a' s', .frz (encQ q)]) : COk m__law_great_cover [bx a s, .frz (encQ q)] Q := by
  apply cok_fnA rfl
  unfold b__law_great_cover
  refine ok_seq_n (fun ρ' => ∃ (a s p : Int) (ns : List Int), CovOk q p ns 6 ∧ ρ' = [bx a s, .frz (encQ q), .emp, .emp, .frz (.int p), .frz (.tup (ns.map .int)), .emp, .emp]) ?_ ?_
  · simp
    refine cover_ok hQ fun p ns a s hC => ?_
    simp [encC]
    exact ⟨a, s, p, ns, hC, ⟨rfl, rfl⟩, rfl, rfl⟩
  rintro ρ' ⟨a, s, p, ns, hC, rfl⟩
  refine ok_seq_n (fun ρ' => ∃ (a s k : Int), 1 ≤ k ∧ k ≤ 10 ∧ ρ' = [bx a s, .frz (encQ q), .frz (.int k), .emp, .frz (.int p), .frz (.tup (ns.map .int)), .emp, .emp]) ?_ ?_
  · simp
    refine take_ok (by omega) (by omega) fun d a s d0 d1 => ?_
    obtain ⟨x, ex, _, mx⟩ := atI_map (f := D.int) (xs := [1, 10]) (i := d) d0 (by simpa using d1)
    have ex : L2.atI [D.int 1, D.int 10] d = some (D.int x) := ex
    have hx : x = 1 ∨ x = 10 := by simpa using mx
    simp [ex]
    refine take_ok (by omega) (by omega) fun e a s e0 e1 => ?_
    simp
    exact ⟨a, s, 1 + e, by omega, by omega, ⟨rfl, rfl⟩, rfl⟩
  rintro ρ' ⟨a, s, k, k0, k1, rfl⟩
  have hnl : ns.length ≤ 6 := by rw [hC.len]; exact hQ.le
  refine ok_seq_n (fun ρ' => ∃ (a s : Int) (ms : List Int), ms.length = ns.length ∧ (∀ m ∈ ms, 0 ≤ m) ∧ ρ' = [bx a s, .frz (encQ q), .frz (.int k), .own (.lst (ms.map .int)), .frz (.int p), .frz (.tup (ns.map .int)), .emp, .emp]) ?_ ?_
  · rw [ok_sAsg]
    apply ok_fLc
    simp [wipeOk, calmSl, wipeE]
    refine ok_lcL (I := fun todo acc ρ => ∃ (a s : Int) (ms : List Int), ms.length + todo.length = ns.length ∧ (∀ m ∈ ms, 0 ≤ m) ∧ acc = ms.map D.int ∧ ρ = [bx a s, .frz (encQ q), .frz (.int k), .emp, .frz (.int p), .frz (.tup (ns.map .int)), .emp, .emp]) (fun x todo acc ρ hI => ?_) (fun acc ρ hI => ?_) _ _ _ ⟨a, s, [], by simp, (fun _ z => nomatch z), rfl, rfl⟩
    · obtain ⟨a, s, ms, hl, hms, rfl, rfl⟩ := hI
      simp only [List.length_cons] at hl
      simp
      refine take_ok (by omega) (by omega) fun d a s d0 d1 => ?_
      obtain ⟨x, ex, _, mx⟩ := atI_map (f := D.int) (xs := [1, 3]) (i := d) d0 (by simpa using d1)
      have ex : L2.atI [D.int 1, D.int 3] d = some (D.int x) := ex
      have hx : x = 1 ∨ x = 3 := by simpa using mx
      simp [ex]
      refine take_ok (by omega) (by omega) fun e a s e0 e1 => ?_
      simp [show ms.length < 16777216 by omega, wipeE]
      refine ⟨a, s, ms ++ [e], by simp; omega, fun n hn => ?_, by simp, rfl, rfl⟩
      rcases List.mem_append.mp hn with z | z
      · exact hms n z
      · rw [List.mem_singleton.mp z]; exact e0
    · obtain ⟨a, s, ms, hl, hms, rfl, rfl⟩ := hI
      simp at hl
      simp [backE]
      exact ⟨a, s, ms, hl, hms, ⟨rfl, rfl⟩, rfl⟩
  rintro ρ' ⟨a, s, ms, hml, hms, rfl⟩
  have hzl : (ns.zip ms).length = ns.length := by rw [List.length_zip]; omega
  have hgo : CovOk q (p * k) (mins k (ns.zip ms)) 60 := by
    have hp := hC.p1
    have hp6 := hC.pb
    have hpk : p * k ≤ 6 * k := Int.mul_le_mul_of_nonneg_right hp6 (by omega)
    have hpk1 : 1 * k ≤ p * k := Int.mul_le_mul_of_nonneg_right hp (by omega)
    refine ⟨by omega, by omega, by rw [mins, List.length_map, hzl]; exact hC.len, fun n hn => ?_, fun c hc => ?_⟩
    · obtain ⟨x, hx, rfl⟩ := List.mem_map.mp hn
      have h1 := (hC.num _ (List.of_mem_zip hx).1).1
      have h2 := hms _ (List.of_mem_zip hx).2
      have h3 : 0 ≤ x.1 * k := Int.mul_nonneg h1 (by omega)
      constructor <;> split <;> omega
    · have h1 := hC.cov c hc
      have h2 := covSum_ge c k q ns (mins k (ns.zip ms)) (by rw [mins, List.length_map, hzl]) fun i n m e1 e2 => by
        rw [mins, List.getElem?_map] at e2
        cases hz : (ns.zip ms)[i]? with
        | none => rw [hz] at e2; cases e2
        | some x =>
          rw [hz] at e2
          cases e2
          obtain ⟨f1, f2⟩ := List.getElem?_zip_eq_some.mp hz
          rw [e1] at f1
          have f1 : n = x.1 := Option.some.inj f1
          have g1 := hC.num x.1 (List.of_mem_zip (List.mem_of_getElem? hz)).1
          have g2 := hms x.2 (List.of_mem_zip (List.mem_of_getElem? hz)).2
          have g3 : x.1 * k ≤ 6 * k := Int.mul_le_mul_of_nonneg_right g1.2 (by omega)
          rw [f1, Int.mul_comm k x.1]
          show x.1 * k ≤ if x.1 * k + x.2 < 60 then x.1 * k + x.2 else 60
          split <;> omega
      have h3 : k * p ≤ k * covSum q ns c := Int.mul_le_mul_of_nonneg_left h1 (by omega)
      rw [Int.mul_comm p k]
      omega
  simp [mulOk_r (show -18446744073709551616 < k by omega) (show k < 18446744073709551616 by omega)]
  apply ok_fLc
  simp [wipeOk, calmSl, wipeE]
  rw [zipL_map]
  refine ok_lcG (c := fun _ => true) (e := fun x => .int (if x.1 * k + x.2 < 60 then x.1 * k + x.2 else 60)) (fun x hx => ?_) (by rw [hzl, sizeLine_val]; omega) ?_
  · simp [mulOk_r (show -18446744073709551616 < k by omega) (show k < 18446744073709551616 by omega), wipeE]
  · rw [List.filter_eq_self.mpr (fun _ _ => rfl)]
    have e : ((ns.zip ms).map fun x => D.int (if x.1 * k + x.2 < 60 then x.1 * k + x.2 else 60)) = (mins k (ns.zip ms)).map .int := by rw [mins, List.map_map]; rfl
    rw [e]
    simp [backE]
    exact h _ _ a s hgo
end Dz
namespace Fs
open PySem PySem.Spec PyProof.Rows L2 Dz
/-! need_cover(question, shares): 0 question, 1 shares, 2 column, 3 parts, 4 numbers, 5 number, 6 T, 7 columns -/
noncomputable def b_need_cover : M Fl :=
    sSeq (sUnp (.tp [.nm 3, .nm 4]) (fName 1))
    (sFor (.nm 2) (fSrc seqD (fCall m_columns_of [.bor 0]))
    (fIf (fB (f2 (.ev (fL [.ev (fLc (.tp [.tp [.nm 6, .nm 7], .nm 5]) [5, 6, 7] (fWalk zipA [.sl 0, .ev (fName 4)]) (fB (f2 (.sl 2) (.sl 7) inD)) (fName 5))] sumD)) (.sl 3) ltD))
    (sNever)
    (mret .next)))
noncomputable def m_need_cover : Fn := fnA 2 8 b_need_cover
/-! most(question, house, shares): 0 question, 1 house, 2 shares -/
noncomputable def b_most : M Fl :=
    sSeq (sExpr (fCall m_need_cover [.bor 0, .val (fName 2)]))
    (sRet (fCall m_root [.val (fCall m_sizes_multiplied [.bor 1, .val (f2 (.sl 2) (.ev (fC (.int 1))) getD1)]), .val (f2 (.sl 2) (.ev (fC (.int 0))) getD1)]))
noncomputable def m_most : Fn := fnA 3 3 b_most
/-! looks_fit(question, house, shares, looks): 0 question, 1 house, 2 shares, 3 looks, 4 factor, 5 parts, 6 numbers -/
noncomputable def b_looks_fit : M Fl :=
    sSeq (sExpr (fCall m_need_cover [.bor 0, .val (fName 2)]))
    (sSeq (sUnp (.tp [.nm 5, .nm 6]) (fName 2))
    (sSeq (sAsg 4 (f2 (.ev (fL [.ev (fCall m_columns_of [.bor 0])] lenD)) (.ev (fL [.sl 0] lenD)) mulD))
    (sRet (f2 (.ev (fCall m_powered [.bor 3, .bor 5])) (.ev (f2 (.ev (fCall m_sizes_multiplied [.bor 1, .bor 6])) (.ev (fCall m_powered [.bor 4, .bor 5])) mulD)) leD))))
noncomputable def m_looks_fit : Fn := fnA 4 7 b_looks_fit
/-! _law_right_k36(_law_question_here, _law_house_here, _law_shares, _law_drawn): 0 _law_question_here, 1 _law_house_here, 2 _law_shares, 3 _law_drawn, 4 _law_product_here, 5 _law_found, 6 _law_factor, 7 _law_edge_here, 8 _law_looks, 9 _law_parts, 10 _law_numbers -/
noncomputable def b__law_right_k36 : M Fl :=
    sSeq (sUnp (.tp [.nm 9, .nm 10]) (fName 2))
    (sSeq (sAsg 4 (fCall m__law_product [.bor 1, .bor 10]))
    (sSeq (sAsg 5 (fCall m_most [.bor 0, .bor 1, .val (fName 2)]))
    (sSeq (fIf (fOr (fNot (fB (fCall m__law_whole [.bor 5]))) (fB (f2 (.sl 5) (.ev (fC (.int 0))) ltD)))
    (sRet (fC (.bl false)))
    (mret .next))
    (sSeq (fIf (fNot (fB (fCh leD ltD (.ev (fCall m__law_power [.bor 5, .bor 9])) (.sl 4) (.ev (fCall m__law_power [.val (f2 (.sl 5) (.ev (fC (.int 1))) addD), .bor 9])))))
    (sRet (fC (.bl false)))
    (mret .next))
    (sSeq (sAsg 6 (f2 (.ev (fL [.ev (fCall m__law_columns [.bor 0])] lenD)) (.ev (fL [.sl 0] lenD)) mulD))
    (sSeq (sAsg 7 (fCall m__law_edge [.val (f2 (.sl 4) (.ev (fCall m__law_power [.bor 6, .bor 9])) mulD), .bor 9]))
    (sSeq (sFor (.nm 8) (fSrc seqD (fLst [fName 7, f2 (.sl 7) (.ev (fC (.int 1))) addD, fC (.int 0), fName 3]))
    (fIf (fNot (fB (fCall m__law_truth [.val (fCall m_looks_fit [.bor 0, .bor 1, .val (fName 2), .bor 8]), .val (f2 (.sl 8) (.sl 7) leD)])))
    (sRet (fC (.bl false)))
    (mret .next)))
    (sRet (fC (.bl true))))))))))
noncomputable def m__law_right_k36 : Fn := fnA 4 11 b__law_right_k36
/-! law_k36(_law_script): 0 _law_script, 1 _law_some, 2 _law_k, 3 _law_box_here, 4 _law_question_here, 5 _law_house_here, 6 _law_shares, 7 _law_drawn -/
noncomputable def b_law_k36 : M Fl :=
    sSeq (sAsg 1 (fLst []))
    (sSeq (sFor (.nm 2) (fRng rng1 [.ev (fC (.int 2))])
    (sSeq (sAsg 3 (fCall m__law_box [.bor 0, .bor 2]))
    (sSeq (sAsg 4 (fCall m__law_question [.lent 3, .val (fC (.int 3))]))
    (sSeq (sAsg 5 (fCall m__law_house [.lent 3, .bor 4, .val (fC (.int 0))]))
    (sExpr (fMut 1 [fTup [fName 4, fName 5, fCall m__law_great_cover [.lent 3, .bor 4], fCall m__law_take [.lent 3, .val (f2 (.ev (fC (.int 10))) (.ev (fC (.int 5))) powD)]]] appD))))))
    (sSeq (sFor (.tp [.nm 4, .nm 5, .nm 6, .nm 7]) (fSrc seqD (f2 (.sl 1) (.ev (fSlice (.sl 1) (.no) (.op (fC (.int 1))))) addD))
    (fIf (fNot (fB (fCall m__law_right_k36 [.bor 4, .bor 5, .val (fName 6), .val (fName 7)])))
    (sRet (fC (.bl false)))
    (mret .next)))
    (sRet (fC (.bl true)))))
noncomputable def m_law_k36 : Fn := fnA 1 8 b_law_k36
end Fs
namespace Dz
open PySem Fs
theorem need_cover_ok {q : Qu} (hQ : QuOk q) {p : Int} {ns : List Int} (hC : CovOk q p ns 60) {Q : R → List Slot → Prop} (h : Q (.frz .non) [.frz (encQ q), .frz (encC p ns)]) : COk m_need_cover [.frz (encQ q), .frz (encC p ns)] Q := by
  apply cok_fnA rfl
  unfold b_need_cover
  have hq6 := hQ.le
  refine ok_seq_n (fun ρ' => ρ' = [.frz (encQ q), .frz (encC p ns), .emp, .frz (.int p), .frz (.tup (ns.map .int)), .emp, .emp, .emp]) (by simp [encC]) ?_
  rintro ρ' rfl
  simp
  refine columns_of_ok hQ ?_
  simp
  refine ⟨dS (colsL q), rfl, ?_⟩
  refine ok_forG (f := D.str) (I := fun done ρ => ∃ s2, nl s2 ∧ ρ = [.frz (encQ q), .frz (encC p ns), s2, .frz (.int p), .frz (.tup (ns.map .int)), .emp, .emp, .emp]) (fun done c rest ρ hd hI => ?_) (fun ρ hI => ?_) ⟨.emp, .inl rfl, rfl⟩
  · obtain ⟨s2, n2, rfl⟩ := hI
    have hcm : c ∈ colsL q := by rw [hd]; simp
    have hcx := hQ.colsTx c hcm
    have hcov := hC.cov c hcm
    have hlt : ¬ covSum q ns c < p := by omega
    rw [ok_setTg_nm]
    refine ok_set rfl n2 ?_
    simp
    apply ok_fLc
    simp [encQ, wipeOk, calmSl, wipeE]
    rw [zipL_map]
    refine ok_lcG (c := fun x => decide (c ∈ x.1.2)) (e := fun x => .int x.2) (fun x hx => ?_) (by rw [List.length_zip, sizeLine_val]; omega) ?_
    · have e := inD_dT hcx (hQ.tx x.1 (List.of_mem_zip hx).1)
      by_cases z : c ∈ x.1.2
      · simp [encT, e, z, wipeE]
      · simp [encT, e, z, wipeE]
    · have hm : (((q.zip ns).filter fun x => decide (c ∈ x.1.2)).map fun x => D.int x.2) = (((q.zip ns).filter fun x => decide (c ∈ x.1.2)).map (·.2)).map D.int := by rw [List.map_map]; rfl
      rw [hm]
      simp [backE, -List.map_map, cov_filter, hlt]
  · obtain ⟨s2, n2, rfl⟩ := hI
    simp
    exact h
theorem most_ok {q : Qu} (hQ : QuOk q) {hs : List Rows} {p : Int} {ns : List Int} (hC : CovOk q p ns 60) (hP : PrOk hs ns) {Q : R → List Slot → Prop}
    (h : ∀ r : Int, 0 ≤ r → r.natAbs < 2 ^ 4001 → r ^ p.toNat ≤ prodZ (hs.zip ns) → prodZ (hs.zip ns) < (r + 1) ^ p.toNat → Q (.frz (.int r)) [.frz (encQ q), .frz (encH hs), .frz (encC p ns)]) : COk m_most [.frz (encQ q), .frz (encH hs), .frz (encC p ns)] Q := by
  apply cok_fnA rfl
  unfold b_most
  have hzl : (hs.zip ns).length ≤ 6 := by rw [List.length_zip]; have := hP.le; omega
  obtain ⟨b1, b2⟩ := hP.bits (l := hs.zip ns) (fun _ z => z) hzl
  have b3 : (prodZ (hs.zip ns)).natAbs < 2 ^ 4000 := Nat.lt_trans b2 (Nat.pow_lt_pow_right (by omega) (by omega))
  have hp1 := hC.p1
  have hpb := hC.pb
  refine ok_seq_n (fun ρ' => ρ' = [.frz (encQ q), .frz (encH hs), .frz (encC p ns)]) ?_ ?_
  · simp
    refine need_cover_ok hQ hC ?_
    simp
  rintro ρ' rfl
  simp [encC, atI0, atI1]
  refine sizes_ok hP ?_
  simp [atI0]
  refine root_ok b1 b3 hp1 hpb fun r r0 r1 r2 r3 => ?_
  simp
  exact h r r0 r1 r2 r3
theorem factor_ok {q : Qu} (hQ : QuOk q) : ∃ f : Int, 0 ≤ f ∧ f ≤ 36 ∧ ((colsL q).length : Int) * (q.length : Int) = f := by
  have h1 := hQ.colsLen (q' := q) fun _ z => z
  have h2 := hQ.le
  refine ⟨_, Int.mul_nonneg (by omega) (by omega), ?_, rfl⟩
  have : ((colsL q).length : Int) * (q.length : Int) ≤ 6 * 6 := Int.mul_le_mul (by omega) (by omega) (by omega) (by omega)
  omega
theorem fpow_bits {f p : Int} (h0 : 0 ≤ f) (h1 : f ≤ 36) (p0 : 1 ≤ p) (p1 : p ≤ 60) : 0 ≤ f ^ p.toNat ∧ (f ^ p.toNat).natAbs < 2 ^ 361 := by
  refine ⟨Int.pow_nonneg h0, ?_⟩
  refine Nat.lt_of_lt_of_le (natAbs_pow_lt (h := f) (b := 6) (i := p.toNat) (by omega)) (Nat.pow_le_pow_right (by omega) (by omega))
theorem looks_ok {q : Qu} (hQ : QuOk q) {hs : List Rows} {p : Int} {ns : List Int} (hC : CovOk q p ns 60) (hP : PrOk hs ns) {f looks : Int} (hf : ((colsL q).length : Int) * (q.length : Int) = f) (f0 : 0 ≤ f) (f1 : f ≤ 36) (hl : looks.natAbs < 2 ^ 4002) {Q : R → List Slot → Prop}
    (h : Q (.frz (.bl (decide (looks ^ p.toNat ≤ prodZ (hs.zip ns) * f ^ p.toNat)))) [.frz (encQ q), .frz (encH hs), .frz (encC p ns), .frz (.int looks)]) : COk m_looks_fit [.frz (encQ q), .frz (encH hs), .frz (encC p ns), .frz (.int looks)] Q := by
  apply cok_fnA rfl
  unfold b_looks_fit
  have hzl : (hs.zip ns).length ≤ 6 := by rw [List.length_zip]; have := hP.le; omega
  obtain ⟨b1, b2⟩ := hP.bits (l := hs.zip ns) (fun _ z => z) hzl
  have hp1 := hC.p1
  have hpb := hC.pb
  obtain ⟨g1, g2⟩ := fpow_bits f0 f1 hp1 hpb
  have hm : MulOk (prodZ (hs.zip ns)) (f ^ p.toNat) := mulOk_pow2 b2 g2 (by omega)
  have hcl := hQ.colsLen (q' := q) fun _ z => z
  have hq6 := hQ.le
  refine ok_seq_n (fun ρ' => ρ' = [.frz (encQ q), .frz (encH hs), .frz (encC p ns), .frz (.int looks), .emp, .emp, .emp]) ?_ ?_
  · simp
    refine need_cover_ok hQ hC ?_
    simp
  rintro ρ' rfl
  refine ok_seq_n (fun ρ' => ρ' = [.frz (encQ q), .frz (encH hs), .frz (encC p ns), .frz (.int looks), .emp, .frz (.int p), .frz (.tup (ns.map .int))]) (by simp [encC]) ?_
  rintro ρ' rfl
  have hlq : lenD [encQ q] = some (.frz (.int q.length)) := by rw [encQ, lenD_tup, List.length_map]
  have hlc : lenD [dT (colsL q)] = some (.frz (.int (colsL q).length)) := by rw [dT, lenD_tup, List.length_map]
  refine ok_seq_n (fun ρ' => ρ' = [.frz (encQ q), .frz (encH hs), .frz (encC p ns), .frz (.int looks), .frz (.int f), .frz (.int p), .frz (.tup (ns.map .int))]) ?_ ?_
  · simp
    refine columns_of_ok hQ ?_
    simp [hlc, hlq, mulOk_r (show -18446744073709551616 < (q.length : Int) by omega) (show (q.length : Int) < 18446744073709551616 by omega), hf]
  rintro ρ' rfl
  simp
  refine pow_ok (by omega) (by omega) (mulOk_pows hl (by omega)) ?_
  simp
  refine sizes_ok hP ?_
  simp
  refine pow_ok (by omega) (by omega) (mulOk_small f0 (by omega)) ?_
  simp [hm]
  exact h
theorem le_edge {looks e N : Int} {n : Nat} (l0 : 0 ≤ looks) (e0 : 0 ≤ e) (h1 : e ^ n ≤ N) (h2 : N < (e + 1) ^ n) : decide (looks ^ n ≤ N) = decide (looks ≤ e) := by
  by_cases c : looks ≤ e
  · have := pow_le_l l0 c n
    rw [decide_eq_true c, decide_eq_true (by omega)]
  · have := pow_le_l (show (0 : Int) ≤ e + 1 by omega) (show e + 1 ≤ looks by omega) n
    rw [decide_eq_false c, decide_eq_false (by omega)]
theorem right_ok {q : Qu} (hQ : QuOk q) {hs : List Rows} {p : Int} {ns : List Int} (hC : CovOk q p ns 60) (hP : PrOk hs ns) {drawn : Int} (d0 : 0 ≤ drawn) (d1 : drawn < 1000000) {Q : R → List Slot → Prop}
    (h : Q (.frz (.bl true)) [.frz (encQ q), .frz (encH hs), .frz (encC p ns), .frz (.int drawn)]) : COk m__law_right_k36 [.frz (encQ q), .frz (encH hs), .frz (encC p ns), .frz (.int drawn)] Q := by
  apply cok_fnA rfl
  unfold b__law_right_k36
  have hzl : (hs.zip ns).length ≤ 6 := by rw [List.length_zip]; have := hP.le; omega
  obtain ⟨b1, b2⟩ := hP.bits (l := hs.zip ns) (fun _ z => z) hzl
  have hp1 := hC.p1
  have hpb := hC.pb
  obtain ⟨f, f0, f1, hf⟩ := factor_ok hQ
  obtain ⟨g1, g2⟩ := fpow_bits f0 f1 hp1 hpb
  have hm : MulOk (prodZ (hs.zip ns)) (f ^ p.toNat) := mulOk_pow2 b2 g2 (by omega)
  have hcl := hQ.colsLen (q' := q) fun _ z => z
  have hq6 := hQ.le
  have hN0 : 0 ≤ prodZ (hs.zip ns) * f ^ p.toNat := Int.mul_nonneg b1 g1
  have hNb : (prodZ (hs.zip ns) * f ^ p.toNat).natAbs < 2 ^ 4000 := by
    rw [Int.natAbs_mul]
    have h1 : (prodZ (hs.zip ns)).natAbs * (f ^ p.toNat).natAbs ≤ 2 ^ 2161 * 2 ^ 361 := Nat.mul_le_mul (by omega) (by omega)
    rw [← Nat.pow_add] at h1
    exact Nat.lt_of_le_of_lt h1 (Nat.pow_lt_pow_right (by omega) (by omega))
  refine ok_seq_n (fun ρ' => ρ' = [.frz (encQ q), .frz (encH hs), .frz (encC p ns), .frz (.int drawn), .emp, .emp, .emp, .emp, .emp, .frz (.int p), .frz (.tup (ns.map .int))]) (by simp [encC]) ?_
  rintro ρ' rfl
  refine ok_seq_n (fun ρ' => ρ' = [.frz (encQ q), .frz (encH hs), .frz (encC p ns), .frz (.int drawn), .frz (.int (prodZ (hs.zip ns))), .emp, .emp, .emp, .emp, .frz (.int p), .frz (.tup (ns.map .int))]) ?_ ?_
  · simp
    refine product_ok hP ?_
    simp
  rintro ρ' rfl
  generalize hZ : prodZ (hs.zip ns) = Z at b1 b2 hm hN0 hNb
  refine ok_seq_n (fun ρ' => ∃ r : Int, 0 ≤ r ∧ r.natAbs < 2 ^ 4001 ∧ r ^ p.toNat ≤ Z ∧ Z < (r + 1) ^ p.toNat ∧ ρ' = [.frz (encQ q), .frz (encH hs), .frz (encC p ns), .frz (.int drawn), .frz (.int Z), .frz (.int r), .emp, .emp, .emp, .frz (.int p), .frz (.tup (ns.map .int))]) ?_ ?_
  · simp
    refine most_ok hQ hC hP fun r r0 r1 r2 r3 => ?_
    rw [hZ] at r2 r3
    simp
    exact ⟨r, r0, r1, r2, r3, rfl⟩
  rintro ρ' ⟨r, r0, r1, r2, r3, rfl⟩
  refine ok_seq_n (fun ρ' => ρ' = [.frz (encQ q), .frz (encH hs), .frz (encC p ns), .frz (.int drawn), .frz (.int Z), .frz (.int r), .emp, .emp, .emp, .frz (.int p), .frz (.tup (ns.map .int))]) ?_ ?_
  · simp
    refine whole_ok ?_
    have e : ¬ r < 0 := by omega
    simp [e]
  rintro ρ' rfl
  have e3 : (2 : Nat) ^ 4002 = 2 * 2 ^ 4001 := by rw [Nat.pow_succ]; omega
  have r4 : (r + 1).natAbs < 2 ^ 4002 := by
    generalize (2 : Nat) ^ 4001 = B at *
    omega
  refine ok_seq_n (fun ρ' => ρ' = [.frz (encQ q), .frz (encH hs), .frz (encC p ns), .frz (.int drawn), .frz (.int Z), .frz (.int r), .emp, .emp, .emp, .frz (.int p), .frz (.tup (ns.map .int))]) ?_ ?_
  · simp
    refine lpow_ok (by omega) (by omega) (mulOk_pows r1 (by omega)) ?_
    simp [r2]
    refine lpow_ok (by omega) (by omega) (mulOk_pows r4 (by omega)) ?_
    simp [r3]
  rintro ρ' rfl
  have hlq : lenD [encQ q] = some (.frz (.int q.length)) := by rw [encQ, lenD_tup, List.length_map]
  refine ok_seq_n (fun ρ' => ρ' = [.frz (encQ q), .frz (encH hs), .frz (encC p ns), .frz (.int drawn), .frz (.int Z), .frz (.int r), .frz (.int f), .emp, .emp, .frz (.int p), .frz (.tup (ns.map .int))]) ?_ ?_
  · simp
    refine columns_ok hQ ?_
    simp [hlq, mulOk_r (show -18446744073709551616 < (q.length : Int) by omega) (show (q.length : Int) < 18446744073709551616 by omega), hf]
  rintro ρ' rfl
  refine ok_seq_n (fun ρ' => ∃ e : Int, 0 ≤ e ∧ e.natAbs < 2 ^ 4001 ∧ e ^ p.toNat ≤ Z * f ^ p.toNat ∧ Z * f ^ p.toNat < (e + 1) ^ p.toNat ∧ ρ' = [.frz (encQ q), .frz (encH hs), .frz (encC p ns), .frz (.int drawn), .frz (.int Z), .frz (.int r), .frz (.int f), .frz (.int e), .emp, .frz (.int p), .frz (.tup (ns.map .int))]) ?_ ?_
  · simp
    refine lpow_ok (by omega) (by omega) (mulOk_small f0 (by omega)) ?_
    simp [hm]
    refine edge_ok hN0 hNb hp1 hpb fun e e0 e1 e2 e3 => ?_
    simp
    exact ⟨e, e0, e1, e2, e3, rfl⟩
  rintro ρ' ⟨e, e0, e1, e2, e3', rfl⟩
  have e4 : (e + 1).natAbs < 2 ^ 4002 := by
    generalize (2 : Nat) ^ 4001 = B at *
    omega
  have e5 : e.natAbs < 2 ^ 4002 := by
    generalize (2 : Nat) ^ 4001 = B at *
    omega
  refine ok_seq_n (fun ρ' => ∃ s8, ρ' = [.frz (encQ q), .frz (encH hs), .frz (encC p ns), .frz (.int drawn), .frz (.int Z), .frz (.int r), .frz (.int f), .frz (.int e), s8, .frz (.int p), .frz (.tup (ns.map .int))]) ?_ ?_
  · simp
    have main := ok_forG (xs := [e, e + 1, 0, drawn]) (f := D.int) (t := .nm 8) (body := fIf (fNot (fB (fCall m__law_truth [.val (fCall m_looks_fit [.bor 0, .bor 1, .val (fName 2), .bor 8]), .val (f2 (.sl 8) (.sl 7) leD)])))
      (sRet (fC (.bl false))) (mret .next)) (Q := fun fl ρ' => fl = .next ∧ ∃ s8, ρ' = [.frz (encQ q), .frz (encH hs), .frz (encC p ns), .frz (.int drawn), .frz (.int Z), .frz (.int r), .frz (.int f), .frz (.int e), s8, .frz (.int p), .frz (.tup (ns.map .int))])
      (I := fun done ρ => ∃ s8, nl s8 ∧ ρ = [.frz (encQ q), .frz (encH hs), .frz (encC p ns), .frz (.int drawn), .frz (.int Z), .frz (.int r), .frz (.int f), .frz (.int e), s8, .frz (.int p), .frz (.tup (ns.map .int))]) (fun done x rest ρ hd hI => ?_) (fun ρ hI => ?_) (ρ := [.frz (encQ q), .frz (encH hs), .frz (encC p ns), .frz (.int drawn), .frz (.int Z), .frz (.int r), .frz (.int f), .frz (.int e), .emp, .frz (.int p), .frz (.tup (ns.map .int))]) ⟨.emp, .inl rfl, rfl⟩
    · exact main
    · obtain ⟨s8, n8, rfl⟩ := hI
      have hx : x ∈ [e, e + 1, 0, drawn] := by rw [hd]; simp
      have hx0 : 0 ≤ x ∧ x.natAbs < 2 ^ 4002 := by
        have big : (1000000 : Nat) < 2 ^ 4002 := Nat.lt_trans (show 1000000 < 2 ^ 20 by decide) (Nat.pow_lt_pow_right (by omega) (by omega))
        simp at hx
        rcases hx with z | z | z | z
        · rw [z]; exact ⟨e0, e5⟩
        · rw [z]; exact ⟨by omega, e4⟩
        · rw [z]; exact ⟨by omega, by generalize (2 : Nat) ^ 4002 = B at *; omega⟩
        · rw [z]; exact ⟨d0, by generalize (2 : Nat) ^ 4002 = B at *; omega⟩
      rw [ok_setTg_nm]
      refine ok_set rfl n8 ?_
      simp
      refine looks_ok hQ hC hP hf f0 f1 hx0.2 ?_
      rw [hZ, le_edge hx0.1 e0 e2 e3']
      simp
      refine truth_ok ?_
      simp
    · obtain ⟨s8, n8, rfl⟩ := hI
      exact ⟨rfl, s8, rfl⟩
  rintro ρ' ⟨s8, rfl⟩
  simp
  exact h
theorem pr_of {q : Qu} (hQ : QuOk q) {hs : List Rows} {p : Int} {ns : List Int} (hH : HouseOk q hs) (hC : CovOk q p ns 60) : PrOk hs ns := by
  refine ⟨by rw [hH.len]; exact hQ.le, fun r hr => ?_, hC.num⟩
  obtain ⟨i, hi, e⟩ := List.mem_iff_getElem.mp hr
  have hi2 : i < q.length := by rw [← hH.len]; exact hi
  exact (hH.rows i q[i] r (List.getElem?_eq_getElem hi2) (by rw [List.getElem?_eq_getElem hi, e])).le
def isSome4 (d : D) : Prop := ∃ (q : Qu) (hs : List Rows) (p : Int) (ns : List Int) (w : Int), QuOk q ∧ HouseOk q hs ∧ CovOk q p ns 60 ∧ 0 ≤ w ∧ w < 1000000 ∧ d = .tup [encQ q, encH hs, encC p ns, .int w]
def LwI (ns : List Int) (todo : List D) (ρ : Env) : Prop := ∃ (k n : Nat) (L : List D) (s2 s3 s4 s5 : Slot), todo = rangeL k n ∧ k + n = 2 ∧ L.length = k ∧ (∀ d ∈ L, isSome4 d) ∧ nl s2 ∧ nl s3 ∧ nl s4 ∧ nl s5 ∧ ρ = [.frz (.scr ns), .own (.lst L), s2, s3, s4, s5, .emp, .emp]
def WkI (ns : List Int) (L : List D) (s2 s3 : Slot) (todo : List D) (ρ : Env) : Prop := ∃ s4 s5 s6 s7, nl s4 ∧ nl s5 ∧ nl s6 ∧ nl s7 ∧ (∀ d ∈ todo, isSome4 d) ∧ ρ = [.frz (.scr ns), .own (.lst L), s2, s3, s4, s5, s6, s7]
theorem law_ok (ns : List Int) : ∃ ps', m_law_k36 [.frz (.scr ns)] = some (.ret (.frz (.bl true)) ps') := by
  have h : COk m_law_k36 [.frz (.scr ns)] fun r ps' => r = .frz (.bl true) := by
    apply cok_fnA rfl
    unfold b_law_k36
    refine ok_seq_n (fun ρ' => ρ' = [.frz (.scr ns), .own (.lst []), .emp, .emp, .emp, .emp, .emp, .emp]) (by simp) ?_
    rintro ρ' rfl
    refine ok_seq_n (fun ρ' => ∃ (L : List D) (s2 s3 s4 s5 : Slot), L.length ≤ 2 ∧ (∀ d ∈ L, isSome4 d) ∧ nl s4 ∧ nl s5 ∧ ρ' = [.frz (.scr ns), .own (.lst L), s2, s3, s4, s5, .emp, .emp]) ?_ ?_
    · simp [rng1_at (n := 2) (by omega) (by omega)]
      refine ok_forL (I := LwI ns) (fun x todo ρ hI => ?_) (fun ρ hI => ?_) _ _ ⟨0, 2, [], .emp, .emp, .emp, .emp, rfl, rfl, rfl, (fun _ z => nomatch z), .inl rfl, .inl rfl, .inl rfl, .inl rfl, rfl⟩
      · obtain ⟨k, n, L, s2, s3, s4, s5, htodo, hk, hLl, hL, n2, n3, n4, n5, rfl⟩ := hI
        obtain ⟨rfl, n, rfl, rfl⟩ := rangeL_inv htodo
        rw [ok_setTg_nm]
        refine ok_set rfl n2 ?_
        refine ok_seq_n (fun ρ' => ∃ a s, ρ' = [.frz (.scr ns), .own (.lst L), .frz (.int k), .own (.lst [.int a, .int s]), s4, s5, .emp, .emp]) ?_ ?_
        · simp
          refine box_ok (by omega) fun a s => ?_
          simp [wN_nl n3]
        rintro ρ' ⟨a, s, rfl⟩
        refine ok_seq_n (fun ρ' => ∃ a s q, QuOk q ∧ ρ' = [.frz (.scr ns), .own (.lst L), .frz (.int k), .own (.lst [.int a, .int s]), .frz (encQ q), s5, .emp, .emp]) ?_ ?_
        · simp
          refine question_ok (by omega) (by omega) fun q a s hQ => ?_
          simp [wN_nl n4]
          exact ⟨a, s, q, hQ, ⟨rfl, rfl⟩, rfl⟩
        rintro ρ' ⟨a, s, q, hQ, rfl⟩
        refine ok_seq_n (fun ρ' => ∃ a s hs, HouseOk q hs ∧ ρ' = [.frz (.scr ns), .own (.lst L), .frz (.int k), .own (.lst [.int a, .int s]), .frz (encQ q), .frz (encH hs), .emp, .emp]) ?_ ?_
        · simp
          refine house_ok hQ (by omega) (by omega) fun hs a s hH _ => ?_
          simp [wN_nl n5]
          exact ⟨a, s, hs, hH, ⟨rfl, rfl⟩, rfl⟩
        rintro ρ' ⟨a, s, hs, hH, rfl⟩
        simp
        refine great_cover_ok hQ fun p ms a s hC => ?_
        simp
        refine take_ok (by omega) (by omega) fun d a s d0 d1 => ?_
        simp [show L.length < 16777216 by omega]
        refine ⟨k + 1, n, L ++ [.tup [encQ q, encH hs, encC p ms, .int d]], _, _, _, _, by simp, by omega, by simp [hLl], fun x hx => ?_, nl_frz, nl_own, nl_frz, nl_frz, rfl⟩
        rcases List.mem_append.mp hx with z | z
        · exact hL x z
        · rw [List.mem_singleton.mp z]
          exact ⟨q, hs, p, ms, d, hQ, hH, hC, d0, by omega, rfl⟩
      · obtain ⟨k, n, L, s2, s3, s4, s5, htodo, hk, hLl, hL, n2, n3, n4, n5, rfl⟩ := hI
        exact ⟨rfl, L, s2, s3, s4, s5, by omega, hL, n4, n5, rfl⟩
    rintro ρ' ⟨L, s2, s3, s4, s5, hLl, hL, n4, n5, rfl⟩
    have hc := cutD_len (xs := L) (lo := none) (hi := some 1)
    have hall : ∀ d ∈ L ++ cutD L none (some 1), isSome4 d := fun d hd => (List.mem_append.mp hd).elim (hL d) fun z => hL d (cutD_mem z)
    refine ok_seq_n (WkI ns L s2 s3 []) ?_ ?_
    · simp [show L.length + (cutD L none (some 1)).length ≤ 16777216 by omega]
      refine ok_forL (I := WkI ns L s2 s3) (fun x todo ρ hI => ?_) (fun ρ hI => ?_) _ _ ⟨s4, s5, .emp, .emp, n4, n5, .inl rfl, .inl rfl, hall, rfl⟩
      · obtain ⟨s4, s5, s6, s7, n4, n5, n6, n7, hd, rfl⟩ := hI
        obtain ⟨q, hs, p, ms, w, hQ, hH, hC, w0, w1, rfl⟩ := hd x List.mem_cons_self
        refine Ok.mono (Q := fun _ ρ' => ρ' = [.frz (.scr ns), .own (.lst L), s2, s3, .frz (encQ q), .frz (encH hs), .frz (encC p ms), .frz (.int w)]) (by simp [wN_nl n4, wN_nl n5, wN_nl n6, wN_nl n7]) ?_
        rintro _ ρ' rfl
        simp
        refine right_ok hQ hC (pr_of hQ hH hC) w0 w1 ?_
        simp
        exact ⟨_, _, _, _, nl_frz, nl_frz, nl_frz, nl_frz, fun d hd' => hd d (List.mem_cons_of_mem _ hd'), rfl⟩
      · exact ⟨rfl, hI⟩
    rintro ρ' ⟨s4, s5, s6, s7, _, _, _, _, _, rfl⟩
    simp
  obtain ⟨r, ps', e, rfl⟩ := h
  exact ⟨ps', e⟩
end Dz
namespace Lw
open PySem PySem.Spec PyProof.Rows L2
abbrev RWL : PySem.W.OpenLaw := PySem.Challenge.rw_mostrows_k36_most_by_covers
def top (i : Nat) : Stmt := PySem.Challenge.pw_mostrows_k36_most_by_covers.main.body.getD i (.Pass ⟨0, 0, 0, 0⟩)
abbrev s_columns_of : Stmt := top 4
abbrev s_powered : Stmt := top 6
abbrev s_root : Stmt := top 7
abbrev s_need_cover : Stmt := top 8
abbrev s_sizes_multiplied : Stmt := top 9
abbrev s_most : Stmt := top 10
abbrev s_looks_fit : Stmt := top 11
abbrev s__law_box : Stmt := top 13
abbrev s__law_take : Stmt := top 14
abbrev s__law_order : Stmt := top 15
abbrev s__law_names : Stmt := top 16
abbrev s__law_some_columns : Stmt := top 17
abbrev s__law_any_tables : Stmt := top 18
abbrev s__law_ear_tables : Stmt := top 19
abbrev s__law_ring_tables : Stmt := top 20
abbrev s__law_question : Stmt := top 21
abbrev s__law_columns : Stmt := top 22
abbrev s__law_value : Stmt := top 23
abbrev s__law_house : Stmt := top 24
abbrev s__law_cover : Stmt := top 25
abbrev s__law_power : Stmt := top 26
abbrev s__law_great_cover : Stmt := top 27
abbrev s__law_product : Stmt := top 28
abbrev s__law_whole : Stmt := top 29
abbrev s__law_truth : Stmt := top 30
abbrev s__law_edge : Stmt := top 31
abbrev s__law_right : Stmt := top 32
abbrev s_law : Stmt := top 33
abbrev dd (x : Str) (st : Stmt) : He.DefD := ⟨(x, none), x, x, defArgs st, defBody st, defScope st, [], []⟩
def fn : List He.DefD := [dd "columns_of" s_columns_of, dd "powered" s_powered, dd "root" s_root, dd "need_cover" s_need_cover, dd "sizes_multiplied" s_sizes_multiplied, dd "most" s_most, dd "looks_fit" s_looks_fit, dd "_law_box" s__law_box, dd "_law_take" s__law_take, dd "_law_order" s__law_order, dd "_law_names" s__law_names, dd "_law_some_columns" s__law_some_columns, dd "_law_any_tables" s__law_any_tables, dd "_law_ear_tables" s__law_ear_tables, dd "_law_ring_tables" s__law_ring_tables, dd "_law_question" s__law_question, dd "_law_columns" s__law_columns, dd "_law_value" s__law_value, dd "_law_house" s__law_house, dd "_law_cover" s__law_cover, dd "_law_power" s__law_power, dd "_law_great_cover" s__law_great_cover, dd "_law_product" s__law_product, dd "_law_whole" s__law_whole, dd "_law_truth" s__law_truth, dd "_law_edge" s__law_edge, dd "_law_right" s__law_right, dd "law" s_law]
def fa0 : List He.Fa := [.glo "columns_of", .glo "powered", .glo "root", .glo "need_cover", .glo "sizes_multiplied", .glo "most", .glo "looks_fit", .glo "_law_box", .glo "_law_take", .glo "_law_order", .glo "_law_names", .glo "_law_some_columns", .glo "_law_any_tables", .glo "_law_ear_tables", .glo "_law_ring_tables", .glo "_law_question", .glo "_law_columns", .glo "_law_value", .glo "_law_house", .glo "_law_cover", .glo "_law_power", .glo "_law_great_cover", .glo "_law_product", .glo "_law_whole", .glo "_law_truth", .glo "_law_edge", .glo "_law_right", .glo "law", .free "ValueError", .free "bool"]
def fa1 : List He.Fa := [.free "enumerate", .free "int", .free "isinstance", .free "len", .free "list", .free "max", .free "min", .free "range", .free "set", .free "sorted", .free "sum", .free "tuple", .free "zip", .glo "RowsError", .glo "NoCover"]
def fa : List He.Fa := fa0 ++ fa1
def loose0 : List PySem.Str := ["RowsError", "NoCover", "columns_of", "powered", "root", "need_cover", "sizes_multiplied", "most", "looks_fit", "_law_box", "_law_take", "_law_order", "_law_names", "_law_some_columns", "_law_any_tables", "_law_ear_tables", "_law_ring_tables", "_law_question", "_law_columns", "_law_value", "_law_house", "_law_cover", "_law_power", "_law_great_cover", "_law_product", "_law_whole", "_law_truth", "_law_edge", "_law_right"]
def loose : List PySem.Str := loose0
abbrev RowL : PySem.W.OpenRow := PySem.W.OpenLaw.row RWL
abbrev hk : PySem.W.Hook := Dz.hookZ 4 fa fn
def ob (s : PySem.W.SharedT) : He.AlD := Dz.obsZG 4 fa fn (HandSHeadRun.getT s)
theorem ob_eq (s : PySem.W.SharedT) : ob s = hk.obs s.abs := Dz.obsZG_eq (HandSHeadRun.getT_eq s)
theorem run (w : World) : HandSHeadRun.RunEq RowL (PySem.W.view RowL.prog [33]) hk ob 3000 loose w := by
  intro os
  kernel_rfl
end Lw
namespace Lw
open PySem PySem.Spec PyProof.Rows L2 Dz Fs
structure Su (K : PySem.W.Frag) (mg : Str → Option Value) (base : Heap) : Prop where
  says : SaysZ fa fn K
  kin : K.In base
  ns : base.Ns mainGlobals mg
section
variable {K : PySem.W.Frag} {mg : Str → Option Value} {base : Heap} (S : Su K mg base)
include S
theorem g_columns_of : mg "columns_of" = some (.ref (He.fAd K ("columns_of", none))) := He.glo_ok S.kin S.ns (S.says.1.fact 0 (f := .glo "columns_of") rfl)
theorem g_powered : mg "powered" = some (.ref (He.fAd K ("powered", none))) := He.glo_ok S.kin S.ns (S.says.1.fact 1 (f := .glo "powered") rfl)
theorem g_root : mg "root" = some (.ref (He.fAd K ("root", none))) := He.glo_ok S.kin S.ns (S.says.1.fact 2 (f := .glo "root") rfl)
theorem g_need_cover : mg "need_cover" = some (.ref (He.fAd K ("need_cover", none))) := He.glo_ok S.kin S.ns (S.says.1.fact 3 (f := .glo "need_cover") rfl)
theorem g_sizes_multiplied : mg "sizes_multiplied" = some (.ref (He.fAd K ("sizes_multiplied", none))) := He.glo_ok S.kin S.ns (S.says.1.fact 4 (f := .glo "sizes_multiplied") rfl)
theorem g_most : mg "most" = some (.ref (He.fAd K ("most", none))) := He.glo_ok S.kin S.ns (S.says.1.fact 5 (f := .glo "most") rfl)
theorem g_looks_fit : mg "looks_fit" = some (.ref (He.fAd K ("looks_fit", none))) := He.glo_ok S.kin S.ns (S.says.1.fact 6 (f := .glo "looks_fit") rfl)
theorem g__law_box : mg "_law_box" = some (.ref (He.fAd K ("_law_box", none))) := He.glo_ok S.kin S.ns (S.says.1.fact 7 (f := .glo "_law_box") rfl)
theorem g__law_take : mg "_law_take" = some (.ref (He.fAd K ("_law_take", none))) := He.glo_ok S.kin S.ns (S.says.1.fact 8 (f := .glo "_law_take") rfl)
theorem g__law_order : mg "_law_order" = some (.ref (He.fAd K ("_law_order", none))) := He.glo_ok S.kin S.ns (S.says.1.fact 9 (f := .glo "_law_order") rfl)
theorem g__law_names : mg "_law_names" = some (.ref (He.fAd K ("_law_names", none))) := He.glo_ok S.kin S.ns (S.says.1.fact 10 (f := .glo "_law_names") rfl)
theorem g__law_some_columns : mg "_law_some_columns" = some (.ref (He.fAd K ("_law_some_columns", none))) := He.glo_ok S.kin S.ns (S.says.1.fact 11 (f := .glo "_law_some_columns") rfl)
theorem g__law_any_tables : mg "_law_any_tables" = some (.ref (He.fAd K ("_law_any_tables", none))) := He.glo_ok S.kin S.ns (S.says.1.fact 12 (f := .glo "_law_any_tables") rfl)
theorem g__law_ear_tables : mg "_law_ear_tables" = some (.ref (He.fAd K ("_law_ear_tables", none))) := He.glo_ok S.kin S.ns (S.says.1.fact 13 (f := .glo "_law_ear_tables") rfl)
theorem g__law_ring_tables : mg "_law_ring_tables" = some (.ref (He.fAd K ("_law_ring_tables", none))) := He.glo_ok S.kin S.ns (S.says.1.fact 14 (f := .glo "_law_ring_tables") rfl)
theorem g__law_question : mg "_law_question" = some (.ref (He.fAd K ("_law_question", none))) := He.glo_ok S.kin S.ns (S.says.1.fact 15 (f := .glo "_law_question") rfl)
theorem g__law_columns : mg "_law_columns" = some (.ref (He.fAd K ("_law_columns", none))) := He.glo_ok S.kin S.ns (S.says.1.fact 16 (f := .glo "_law_columns") rfl)
theorem g__law_value : mg "_law_value" = some (.ref (He.fAd K ("_law_value", none))) := He.glo_ok S.kin S.ns (S.says.1.fact 17 (f := .glo "_law_value") rfl)
theorem g__law_house : mg "_law_house" = some (.ref (He.fAd K ("_law_house", none))) := He.glo_ok S.kin S.ns (S.says.1.fact 18 (f := .glo "_law_house") rfl)
theorem g__law_cover : mg "_law_cover" = some (.ref (He.fAd K ("_law_cover", none))) := He.glo_ok S.kin S.ns (S.says.1.fact 19 (f := .glo "_law_cover") rfl)
theorem g__law_power : mg "_law_power" = some (.ref (He.fAd K ("_law_power", none))) := He.glo_ok S.kin S.ns (S.says.1.fact 20 (f := .glo "_law_power") rfl)
theorem g__law_great_cover : mg "_law_great_cover" = some (.ref (He.fAd K ("_law_great_cover", none))) := He.glo_ok S.kin S.ns (S.says.1.fact 21 (f := .glo "_law_great_cover") rfl)
theorem g__law_product : mg "_law_product" = some (.ref (He.fAd K ("_law_product", none))) := He.glo_ok S.kin S.ns (S.says.1.fact 22 (f := .glo "_law_product") rfl)
theorem g__law_whole : mg "_law_whole" = some (.ref (He.fAd K ("_law_whole", none))) := He.glo_ok S.kin S.ns (S.says.1.fact 23 (f := .glo "_law_whole") rfl)
theorem g__law_truth : mg "_law_truth" = some (.ref (He.fAd K ("_law_truth", none))) := He.glo_ok S.kin S.ns (S.says.1.fact 24 (f := .glo "_law_truth") rfl)
theorem g__law_edge : mg "_law_edge" = some (.ref (He.fAd K ("_law_edge", none))) := He.glo_ok S.kin S.ns (S.says.1.fact 25 (f := .glo "_law_edge") rfl)
theorem g__law_right : mg "_law_right" = some (.ref (He.fAd K ("_law_right", none))) := He.glo_ok S.kin S.ns (S.says.1.fact 26 (f := .glo "_law_right") rfl)
theorem g_law : mg "law" = some (.ref (He.fAd K ("law", none))) := He.glo_ok S.kin S.ns (S.says.1.fact 27 (f := .glo "law") rfl)
theorem g_ValueError : mg "ValueError" = none := He.free_ok S.kin S.ns (S.says.1.fact 28 (f := .free "ValueError") rfl)
theorem g_bool : mg "bool" = none := He.free_ok S.kin S.ns (S.says.1.fact 29 (f := .free "bool") rfl)
theorem g_enumerate : mg "enumerate" = none := He.free_ok S.kin S.ns (S.says.1.fact 30 (f := .free "enumerate") rfl)
theorem g_int : mg "int" = none := He.free_ok S.kin S.ns (S.says.1.fact 31 (f := .free "int") rfl)
theorem g_isinstance : mg "isinstance" = none := He.free_ok S.kin S.ns (S.says.1.fact 32 (f := .free "isinstance") rfl)
theorem g_len : mg "len" = none := He.free_ok S.kin S.ns (S.says.1.fact 33 (f := .free "len") rfl)
theorem g_list : mg "list" = none := He.free_ok S.kin S.ns (S.says.1.fact 34 (f := .free "list") rfl)
theorem g_max : mg "max" = none := He.free_ok S.kin S.ns (S.says.1.fact 35 (f := .free "max") rfl)
theorem g_min : mg "min" = none := He.free_ok S.kin S.ns (S.says.1.fact 36 (f := .free "min") rfl)
theorem g_range : mg "range" = none := He.free_ok S.kin S.ns (S.says.1.fact 37 (f := .free "range") rfl)
theorem g_set : mg "set" = none := He.free_ok S.kin S.ns (S.says.1.fact 38 (f := .free "set") rfl)
theorem g_sorted : mg "sorted" = none := He.free_ok S.kin S.ns (S.says.1.fact 39 (f := .free "sorted") rfl)
theorem g_sum : mg "sum" = none := He.free_ok S.kin S.ns (S.says.1.fact 40 (f := .free "sum") rfl)
theorem g_tuple : mg "tuple" = none := He.free_ok S.kin S.ns (S.says.1.fact 41 (f := .free "tuple") rfl)
theorem g_zip : mg "zip" = none := He.free_ok S.kin S.ns (S.says.1.fact 42 (f := .free "zip") rfl)
theorem g_RowsError : mg "RowsError" = some (.ref (He.ga K "RowsError")) := He.glo_ok S.kin S.ns (S.says.1.fact 43 (f := .glo "RowsError") rfl)
theorem g_NoCover : mg "NoCover" = some (.ref (He.ga K "NoCover")) := He.glo_ok S.kin S.ns (S.says.1.fact 44 (f := .glo "NoCover") rfl)
end
def N_columns_of : List Str := ["question", "found", "name", "columns", "column"]
theorem sc_columns_of : FnScope N_columns_of ["question"] (defScope s_columns_of) := ⟨rfl, rfl, rfl, by decide +kernel, rfl, by decide +kernel, by decide +kernel⟩
theorem d_columns_of {P : Program} {w : World} {K : PySem.W.Frag} {mg : Str → Option Value} {base : Heap} (S : Su K mg base) (f : Addr) (cdv : Value) (A : Around) (outer : List PySem.Env) (s : Shared) (H : Hp) (E : XK) (hr : Room 0 (A.deeper (envOfC "columns_of" (defScope s_columns_of) s.heap.objs.size f cdv))) :
    DSs (cxF P w K mg base N_columns_of "columns_of" (defScope s_columns_of) f cdv A outer s H E) (wxF E) (defBody s_columns_of) b_columns_of :=
    (dss_cons (ds_asg (i := 1) sc_columns_of.nd rfl (by first | exact .inl rfl | exact .inr rfl) (de_lst df_nil))
    (dss_cons (ds_for owns_cx rfl (di_seqB (pv 0)) (dg_tup rfl (dgs_cons (dg_name (i := 2) sc_columns_of.nd rfl (by first | exact .inl rfl | exact .inr rfl)) (dgs_cons (dg_name (i := 3) sc_columns_of.nd rfl (by first | exact .inl rfl | exact .inr rfl)) dgs_nil)))
    (dss_one (ds_expr (de_extend (pv 1) (dos_cons (do_ev (de_lc (own := [("column", 4)]) rfl sc_columns_of.nd (di_seqB (pv 3)) (blkOk_by (N := N_columns_of) (sc := defScope s_columns_of) (own := [("column", 4)]) (by decide +kernel)) rfl (fun _ _ _ _ _ => (dg_name (i := 4) sc_columns_of.nd rfl (by first | exact .inl rfl | exact .inr rfl))) (fun _ _ _ _ _ => (dts_one (dt_nin (u65 hr) (do_sl (pv 4)) (do_sl (pv 1))))) (fun _ _ _ _ _ => (de_var (pv 4))))) dos_nil)))))
    (dss_one (ds_ret (de_tupleC rfl rfl (g_tuple S) (dos_cons (do_sl (pv 1)) dos_nil))))))
theorem c_columns_of {P : Program} {w : World} {K : PySem.W.Frag} {mg : Str → Option Value} {base : Heap} (S : Su K mg base) : Callee P w K mg base 1 "columns_of" m_columns_of := by
  obtain ⟨fd, F⟩ := S.says.1.def_ 0 (d := dd "columns_of" s_columns_of) rfl
  exact callee_of F sc_columns_of (g_columns_of S) rfl rfl (F.bindsN fun _ _ _ _ _ _ us hl => match us, hl with | [_], _ => rfl) fun cdv A outer s H E hr => d_columns_of S _ cdv A outer s H E hr
def N_powered : List Str := ["number", "power", "found", "turn"]
theorem sc_powered : FnScope N_powered ["number", "power"] (defScope s_powered) := ⟨rfl, rfl, rfl, by decide +kernel, rfl, by decide +kernel, by decide +kernel⟩
theorem d_powered {P : Program} {w : World} {K : PySem.W.Frag} {mg : Str → Option Value} {base : Heap} (S : Su K mg base) (f : Addr) (cdv : Value) (A : Around) (outer : List PySem.Env) (s : Shared) (H : Hp) (E : XK) (hr : Room 0 (A.deeper (envOfC "powered" (defScope s_powered) s.heap.objs.size f cdv))) :
    DSs (cxF P w K mg base N_powered "powered" (defScope s_powered) f cdv A outer s H E) (wxF E) (defBody s_powered) b_powered :=
    (dss_cons (ds_asg (i := 2) sc_powered.nd rfl (by first | exact .inl rfl | exact .inr rfl) de_int)
    (dss_cons (ds_for owns_cx rfl (di_range1 rfl (g_range S) (dos_cons (do_sl (pv 1)) dos_nil)) (dg_name (i := 3) sc_powered.nd rfl (by first | exact .inl rfl | exact .inr rfl))
    (dss_one (ds_asg (i := 2) sc_powered.nd rfl (by first | exact .inl rfl | exact .inr rfl) (de_mul (do_sl (pv 2)) (do_sl (pv 0))))))
    (dss_one (ds_ret (de_move (pv 2))))))
theorem c_powered {P : Program} {w : World} {K : PySem.W.Frag} {mg : Str → Option Value} {base : Heap} (S : Su K mg base) : Callee P w K mg base 1 "powered" m_powered := by
  obtain ⟨fd, F⟩ := S.says.1.def_ 1 (d := dd "powered" s_powered) rfl
  exact callee_of F sc_powered (g_powered S) rfl rfl (F.bindsN fun _ _ _ _ _ _ us hl => match us, hl with | [_, _], _ => rfl) fun cdv A outer s H E hr => d_powered S _ cdv A outer s H E hr
def N__law_box : List Str := ["_law_script", "_law_k", "_law_cell", "_law_seed"]
theorem sc__law_box : FnScope N__law_box ["_law_script", "_law_k"] (defScope s__law_box) := ⟨rfl, rfl, rfl, by decide +kernel, rfl, by decide +kernel, by decide +kernel⟩
theorem d__law_box {P : Program} {w : World} {K : PySem.W.Frag} {mg : Str → Option Value} {base : Heap} (S : Su K mg base) (f : Addr) (cdv : Value) (A : Around) (outer : List PySem.Env) (s : Shared) (H : Hp) (E : XK) (hr : Room 0 (A.deeper (envOfC "_law_box" (defScope s__law_box) s.heap.objs.size f cdv))) :
    DSs (cxF P w K mg base N__law_box "_law_box" (defScope s__law_box) f cdv A outer s H E) (wxF E) (defBody s__law_box) b__law_box :=
    (dss_cons (ds_asg (i := 2) sc__law_box.nd rfl (by first | exact .inl rfl | exact .inr rfl) (de_add (do_ev (de_mul (do_ev de_int) (do_sl (pv 1)))) (do_ev de_int)))
    (dss_cons (ds_if (dt_lt (do_sl (pv 1)) (do_ev (de_len rfl (g_len S) (dos_cons (do_sl (pv 0)) dos_nil))))
    (dss_one (ds_asg (i := 2) sc__law_box.nd rfl (by first | exact .inl rfl | exact .inr rfl) (de_ix (do_sl (pv 0)) (do_sl (pv 1)))))
    (dss_one (ds_if (dt_gt (do_ev (de_len rfl (g_len S) (dos_cons (do_sl (pv 0)) dos_nil))) (do_ev de_int))
    (dss_one (ds_asg (i := 2) sc__law_box.nd rfl (by first | exact .inl rfl | exact .inr rfl) (de_add (do_sl (pv 2)) (do_ev (de_mul (do_ev (de_mod (do_ev (de_ix (do_sl (pv 0)) (do_ev (de_mod (do_sl (pv 1)) (do_ev (de_len rfl (g_len S) (dos_cons (do_sl (pv 0)) dos_nil))))))) (do_ev de_int))) (do_ev de_int))))))
    dss_nil)))
    (dss_cons (ds_asg (i := 3) sc__law_box.nd rfl (by first | exact .inl rfl | exact .inr rfl) (de_add (do_ev (de_mod (do_ev (de_add (do_ev (de_mul (do_ev (de_mod (do_sl (pv 2)) (do_ev de_int))) (do_ev de_int))) (do_ev (de_mul (do_ev de_int) (do_sl (pv 1)))))) (do_ev de_int))) (do_ev de_int)))
    (dss_one (ds_ret (de_lst (df_cons (de_mul (do_sl (pv 2)) (do_ev (de_intC rfl rfl (g_int S) (dos_cons (do_ev (de_ge (do_sl (pv 2)) (do_ev (de_pow (do_ev de_int) (do_ev de_int))))) dos_nil)))) (df_cons (de_var (pv 3)) df_nil))))))))
theorem c__law_box {P : Program} {w : World} {K : PySem.W.Frag} {mg : Str → Option Value} {base : Heap} (S : Su K mg base) : Callee P w K mg base 1 "_law_box" m__law_box := by
  obtain ⟨fd, F⟩ := S.says.1.def_ 7 (d := dd "_law_box" s__law_box) rfl
  exact callee_of F sc__law_box (g__law_box S) rfl rfl (F.bindsN fun _ _ _ _ _ _ us hl => match us, hl with | [_, _], _ => rfl) fun cdv A outer s H E hr => d__law_box S _ cdv A outer s H E hr
def N__law_take : List Str := ["_law_box_here", "_law_many", "_law_one", "_law_digit"]
theorem sc__law_take : FnScope N__law_take ["_law_box_here", "_law_many"] (defScope s__law_take) := ⟨rfl, rfl, rfl, by decide +kernel, rfl, by decide +kernel, by decide +kernel⟩
theorem d__law_take {P : Program} {w : World} {K : PySem.W.Frag} {mg : Str → Option Value} {base : Heap} (S : Su K mg base) (f : Addr) (cdv : Value) (A : Around) (outer : List PySem.Env) (s : Shared) (H : Hp) (E : XK) (hr : Room 0 (A.deeper (envOfC "_law_take" (defScope s__law_take) s.heap.objs.size f cdv))) :
    DSs (cxF P w K mg base N__law_take "_law_take" (defScope s__law_take) f cdv A outer s H E) (wxF E) (defBody s__law_take) b__law_take :=
    (dss_cons (ds_if (dt_gt (do_ev (de_ix (do_sl (pv 0)) (do_ev de_int))) (do_ev de_int))
    (dss_cons (ds_asg (i := 3) sc__law_take.nd rfl (by first | exact .inl rfl | exact .inr rfl) (de_mod (do_ev (de_ix (do_sl (pv 0)) (do_ev de_int))) (do_sl (pv 1))))
    (dss_cons (ds_put set_list vrp_setL (de_fdiv (do_ev (de_ix (do_sl (pv 0)) (do_ev de_int))) (do_sl (pv 1))) (pv 0) (do_ev de_int))
    (dss_one (ds_ret (de_move (pv 3))))))
    dss_nil)
    (dss_cons (ds_asg (i := 2) sc__law_take.nd rfl (by first | exact .inl rfl | exact .inr rfl) (de_mod (do_ev (de_mul (do_ev (de_ix (do_sl (pv 0)) (do_ev de_int))) (do_ev de_int))) (do_ev de_int)))
    (dss_cons (ds_put set_list vrp_setL (de_add (do_ev (de_mod (do_ev (de_add (do_ev (de_mul (do_sl (pv 2)) (do_ev de_int))) (do_ev de_int))) (do_ev de_int))) (do_ev de_int)) (pv 0) (do_ev de_int))
    (dss_one (ds_ret (de_mod (do_ev (de_fdiv (do_ev (de_add (do_ev (de_mul (do_sl (pv 2)) (do_ev de_int))) (do_ev (de_ix (do_sl (pv 0)) (do_ev de_int))))) (do_ev de_int))) (do_sl (pv 1))))))))
theorem c__law_take {P : Program} {w : World} {K : PySem.W.Frag} {mg : Str → Option Value} {base : Heap} (S : Su K mg base) : Callee P w K mg base 1 "_law_take" m__law_take := by
  obtain ⟨fd, F⟩ := S.says.1.def_ 8 (d := dd "_law_take" s__law_take) rfl
  exact callee_of F sc__law_take (g__law_take S) rfl rfl (F.bindsN fun _ _ _ _ _ _ us hl => match us, hl with | [_, _], _ => rfl) fun cdv A outer s H E hr => d__law_take S _ cdv A outer s H E hr
def N__law_columns : List Str := ["_law_question_here", "_law_found", "_law_kt", "_law_own", "_law_column"]
theorem sc__law_columns : FnScope N__law_columns ["_law_question_here"] (defScope s__law_columns) := ⟨rfl, rfl, rfl, by decide +kernel, rfl, by decide +kernel, by decide +kernel⟩
theorem d__law_columns {P : Program} {w : World} {K : PySem.W.Frag} {mg : Str → Option Value} {base : Heap} (S : Su K mg base) (f : Addr) (cdv : Value) (A : Around) (outer : List PySem.Env) (s : Shared) (H : Hp) (E : XK) (hr : Room 0 (A.deeper (envOfC "_law_columns" (defScope s__law_columns) s.heap.objs.size f cdv))) :
    DSs (cxF P w K mg base N__law_columns "_law_columns" (defScope s__law_columns) f cdv A outer s H E) (wxF E) (defBody s__law_columns) b__law_columns :=
    (dss_cons (ds_asg (i := 1) sc__law_columns.nd rfl (by first | exact .inl rfl | exact .inr rfl) (de_lst df_nil))
    (dss_cons (ds_for owns_cx rfl (di_seqB (pv 0)) (dg_tup rfl (dgs_cons (dg_name (i := 2) sc__law_columns.nd rfl (by first | exact .inl rfl | exact .inr rfl)) (dgs_cons (dg_name (i := 3) sc__law_columns.nd rfl (by first | exact .inl rfl | exact .inr rfl)) dgs_nil)))
    (dss_one (ds_expr (de_extend (pv 1) (dos_cons (do_ev (de_lc (own := [("_law_column", 4)]) rfl sc__law_columns.nd (di_seqB (pv 3)) (blkOk_by (N := N__law_columns) (sc := defScope s__law_columns) (own := [("_law_column", 4)]) (by decide +kernel)) rfl (fun _ _ _ _ _ => (dg_name (i := 4) sc__law_columns.nd rfl (by first | exact .inl rfl | exact .inr rfl))) (fun _ _ _ _ _ => (dts_one (dt_nin (u65 hr) (do_sl (pv 4)) (do_sl (pv 1))))) (fun _ _ _ _ _ => (de_var (pv 4))))) dos_nil)))))
    (dss_one (ds_ret (de_move (pv 1))))))
theorem c__law_columns {P : Program} {w : World} {K : PySem.W.Frag} {mg : Str → Option Value} {base : Heap} (S : Su K mg base) : Callee P w K mg base 1 "_law_columns" m__law_columns := by
  obtain ⟨fd, F⟩ := S.says.1.def_ 16 (d := dd "_law_columns" s__law_columns) rfl
  exact callee_of F sc__law_columns (g__law_columns S) rfl rfl (F.bindsN fun _ _ _ _ _ _ us hl => match us, hl with | [_], _ => rfl) fun cdv A outer s H E hr => d__law_columns S _ cdv A outer s H E hr
def N__law_power : List Str := ["_law_number", "_law_times", "_law_found", "_law_k"]
theorem sc__law_power : FnScope N__law_power ["_law_number", "_law_times"] (defScope s__law_power) := ⟨rfl, rfl, rfl, by decide +kernel, rfl, by decide +kernel, by decide +kernel⟩
theorem d__law_power {P : Program} {w : World} {K : PySem.W.Frag} {mg : Str → Option Value} {base : Heap} (S : Su K mg base) (f : Addr) (cdv : Value) (A : Around) (outer : List PySem.Env) (s : Shared) (H : Hp) (E : XK) (hr : Room 0 (A.deeper (envOfC "_law_power" (defScope s__law_power) s.heap.objs.size f cdv))) :
    DSs (cxF P w K mg base N__law_power "_law_power" (defScope s__law_power) f cdv A outer s H E) (wxF E) (defBody s__law_power) b__law_power :=
    (dss_cons (ds_asg (i := 2) sc__law_power.nd rfl (by first | exact .inl rfl | exact .inr rfl) de_int)
    (dss_cons (ds_for owns_cx rfl (di_range1 rfl (g_range S) (dos_cons (do_sl (pv 1)) dos_nil)) (dg_name (i := 3) sc__law_power.nd rfl (by first | exact .inl rfl | exact .inr rfl))
    (dss_one (ds_asg (i := 2) sc__law_power.nd rfl (by first | exact .inl rfl | exact .inr rfl) (de_mul (do_sl (pv 2)) (do_sl (pv 0))))))
    (dss_one (ds_ret (de_move (pv 2))))))
theorem c__law_power {P : Program} {w : World} {K : PySem.W.Frag} {mg : Str → Option Value} {base : Heap} (S : Su K mg base) : Callee P w K mg base 1 "_law_power" m__law_power := by
  obtain ⟨fd, F⟩ := S.says.1.def_ 20 (d := dd "_law_power" s__law_power) rfl
  exact callee_of F sc__law_power (g__law_power S) rfl rfl (F.bindsN fun _ _ _ _ _ _ us hl => match us, hl with | [_, _], _ => rfl) fun cdv A outer s H E hr => d__law_power S _ cdv A outer s H E hr
def N__law_product : List Str := ["_law_house_here", "_law_numbers", "_law_found", "_law_rows", "_law_number", "_law_k"]
theorem sc__law_product : FnScope N__law_product ["_law_house_here", "_law_numbers"] (defScope s__law_product) := ⟨rfl, rfl, rfl, by decide +kernel, rfl, by decide +kernel, by decide +kernel⟩
theorem d__law_product {P : Program} {w : World} {K : PySem.W.Frag} {mg : Str → Option Value} {base : Heap} (S : Su K mg base) (f : Addr) (cdv : Value) (A : Around) (outer : List PySem.Env) (s : Shared) (H : Hp) (E : XK) (hr : Room 0 (A.deeper (envOfC "_law_product" (defScope s__law_product) s.heap.objs.size f cdv))) :
    DSs (cxF P w K mg base N__law_product "_law_product" (defScope s__law_product) f cdv A outer s H E) (wxF E) (defBody s__law_product) b__law_product :=
    (dss_cons (ds_asg (i := 2) sc__law_product.nd rfl (by first | exact .inl rfl | exact .inr rfl) de_int)
    (dss_cons (ds_for owns_cx rfl (di_zipA rfl (g_zip S) (dws_cons (dw_sl (pv 0)) (dws_cons (dw_sl (pv 1)) dws_nil))) (dg_tup rfl (dgs_cons (dg_name (i := 3) sc__law_product.nd rfl (by first | exact .inl rfl | exact .inr rfl)) (dgs_cons (dg_name (i := 4) sc__law_product.nd rfl (by first | exact .inl rfl | exact .inr rfl)) dgs_nil)))
    (dss_one (ds_for owns_cx rfl (di_range1 rfl (g_range S) (dos_cons (do_sl (pv 4)) dos_nil)) (dg_name (i := 5) sc__law_product.nd rfl (by first | exact .inl rfl | exact .inr rfl))
    (dss_one (ds_asg (i := 2) sc__law_product.nd rfl (by first | exact .inl rfl | exact .inr rfl) (de_mul (do_sl (pv 2)) (do_ev (de_len rfl (g_len S) (dos_cons (do_sl (pv 3)) dos_nil)))))))))
    (dss_one (ds_ret (de_move (pv 2))))))
theorem c__law_product {P : Program} {w : World} {K : PySem.W.Frag} {mg : Str → Option Value} {base : Heap} (S : Su K mg base) : Callee P w K mg base 1 "_law_product" m__law_product := by
  obtain ⟨fd, F⟩ := S.says.1.def_ 22 (d := dd "_law_product" s__law_product) rfl
  exact callee_of F sc__law_product (g__law_product S) rfl rfl (F.bindsN fun _ _ _ _ _ _ us hl => match us, hl with | [_, _], _ => rfl) fun cdv A outer s H E hr => d__law_product S _ cdv A outer s H E hr
def N__law_whole : List Str := ["_law_found"]
theorem sc__law_whole : FnScope N__law_whole ["_law_found"] (defScope s__law_whole) := ⟨rfl, rfl, rfl, by decide +kernel, rfl, by decide +kernel, by decide +kernel⟩
theorem d__law_whole {P : Program} {w : World} {K : PySem.W.Frag} {mg : Str → Option Value} {base : Heap} (S : Su K mg base) (f : Addr) (cdv : Value) (A : Around) (outer : List PySem.Env) (s : Shared) (H : Hp) (E : XK) (hr : Room 0 (A.deeper (envOfC "_law_whole" (defScope s__law_whole) s.heap.objs.size f cdv))) :
    DSs (cxF P w K mg base N__law_whole "_law_whole" (defScope s__law_whole) f cdv A outer s H E) (wxF E) (defBody s__law_whole) b__law_whole :=
    (dss_one (ds_ret (de_and (de_isi (T := .int) rfl (g_isinstance S) rfl (g_int S) boot_int (do_sl (pv 0))) (de_one (de_not (de_isi (T := .bl) rfl (g_isinstance S) rfl (g_bool S) boot_bool (do_sl (pv 0))))))))
theorem c__law_whole {P : Program} {w : World} {K : PySem.W.Frag} {mg : Str → Option Value} {base : Heap} (S : Su K mg base) : Callee P w K mg base 1 "_law_whole" m__law_whole := by
  obtain ⟨fd, F⟩ := S.says.1.def_ 23 (d := dd "_law_whole" s__law_whole) rfl
  exact callee_of F sc__law_whole (g__law_whole S) rfl rfl (F.bindsN fun _ _ _ _ _ _ us hl => match us, hl with | [_], _ => rfl) fun cdv A outer s H E hr => d__law_whole S _ cdv A outer s H E hr
def N__law_truth : List Str := ["_law_found", "_law_due"]
theorem sc__law_truth : FnScope N__law_truth ["_law_found", "_law_due"] (defScope s__law_truth) := ⟨rfl, rfl, rfl, by decide +kernel, rfl, by decide +kernel, by decide +kernel⟩
theorem d__law_truth {P : Program} {w : World} {K : PySem.W.Frag} {mg : Str → Option Value} {base : Heap} (S : Su K mg base) (f : Addr) (cdv : Value) (A : Around) (outer : List PySem.Env) (s : Shared) (H : Hp) (E : XK) (hr : Room 0 (A.deeper (envOfC "_law_truth" (defScope s__law_truth) s.heap.objs.size f cdv))) :
    DSs (cxF P w K mg base N__law_truth "_law_truth" (defScope s__law_truth) f cdv A outer s H E) (wxF E) (defBody s__law_truth) b__law_truth :=
    (dss_one (ds_ret (de_and (de_isi (T := .bl) rfl (g_isinstance S) rfl (g_bool S) boot_bool (do_sl (pv 0))) (de_one (de_eq (u64 hr) (do_sl (pv 0)) (do_sl (pv 1)))))))
theorem c__law_truth {P : Program} {w : World} {K : PySem.W.Frag} {mg : Str → Option Value} {base : Heap} (S : Su K mg base) : Callee P w K mg base 1 "_law_truth" m__law_truth := by
  obtain ⟨fd, F⟩ := S.says.1.def_ 24 (d := dd "_law_truth" s__law_truth) rfl
  exact callee_of F sc__law_truth (g__law_truth S) rfl rfl (F.bindsN fun _ _ _ _ _ _ us hl => match us, hl with | [_, _], _ => rfl) fun cdv A outer s H E hr => d__law_truth S _ cdv A outer s H E hr
def N_root : List Str := ["number", "power", "high", "low", "middle"]
theorem sc_root : FnScope N_root ["number", "power"] (defScope s_root) := ⟨rfl, rfl, rfl, by decide +kernel, rfl, by decide +kernel, by decide +kernel⟩
theorem d_root {P : Program} {w : World} {K : PySem.W.Frag} {mg : Str → Option Value} {base : Heap} (S : Su K mg base) (f : Addr) (cdv : Value) (A : Around) (outer : List PySem.Env) (s : Shared) (H : Hp) (E : XK) (hr : Room 1 (A.deeper (envOfC "root" (defScope s_root) s.heap.objs.size f cdv))) :
    DSs (cxF P w K mg base N_root "root" (defScope s_root) f cdv A outer s H E) (wxF E) (defBody s_root) b_root :=
    (dss_cons (ds_asg (i := 2) sc_root.nd rfl (by first | exact .inl rfl | exact .inr rfl) de_int)
    (dss_cons (ds_while owns_cx (dt_le (do_ev (de_call (c_powered S) hr (by decide) takes_cx rfl (dcs_cons (da_bor (pv 2)) (dcs_cons (da_bor (pv 1)) dcs_nil)))) (do_sl (pv 0)))
    (dss_one (ds_asg (i := 2) sc_root.nd rfl (by first | exact .inl rfl | exact .inr rfl) (de_mul (do_sl (pv 2)) (do_ev de_int)))))
    (dss_cons (ds_asg (i := 3) sc_root.nd rfl (by first | exact .inl rfl | exact .inr rfl) (de_fdiv (do_sl (pv 2)) (do_ev de_int)))
    (dss_cons (ds_while owns_cx (dt_gt (do_ev (de_sub (do_sl (pv 2)) (do_sl (pv 3)))) (do_ev de_int))
    (dss_cons (ds_asg (i := 4) sc_root.nd rfl (by first | exact .inl rfl | exact .inr rfl) (de_fdiv (do_ev (de_add (do_sl (pv 3)) (do_sl (pv 2)))) (do_ev de_int)))
    (dss_one (ds_if (dt_le (do_ev (de_call (c_powered S) hr (by decide) takes_cx rfl (dcs_cons (da_bor (pv 4)) (dcs_cons (da_bor (pv 1)) dcs_nil)))) (do_sl (pv 0)))
    (dss_one (ds_asg (i := 3) sc_root.nd rfl (by first | exact .inl rfl | exact .inr rfl) (de_var (pv 4))))
    (dss_one (ds_asg (i := 2) sc_root.nd rfl (by first | exact .inl rfl | exact .inr rfl) (de_var (pv 4))))))))
    (dss_one (ds_ret (de_move (pv 3))))))))
theorem c_root {P : Program} {w : World} {K : PySem.W.Frag} {mg : Str → Option Value} {base : Heap} (S : Su K mg base) : Callee P w K mg base 2 "root" m_root := by
  obtain ⟨fd, F⟩ := S.says.1.def_ 2 (d := dd "root" s_root) rfl
  exact callee_of F sc_root (g_root S) rfl rfl (F.bindsN fun _ _ _ _ _ _ us hl => match us, hl with | [_, _], _ => rfl) fun cdv A outer s H E hr => d_root S _ cdv A outer s H E hr
def N_need_cover : List Str := ["question", "shares", "column", "parts", "numbers", "number", "T", "columns"]
theorem sc_need_cover : FnScope N_need_cover ["question", "shares"] (defScope s_need_cover) := ⟨rfl, rfl, rfl, by decide +kernel, rfl, by decide +kernel, by decide +kernel⟩
theorem d_need_cover {P : Program} {w : World} {K : PySem.W.Frag} {mg : Str → Option Value} {base : Heap} (S : Su K mg base) (f : Addr) (cdv : Value) (A : Around) (outer : List PySem.Env) (s : Shared) (H : Hp) (E : XK) (hr : Room 1 (A.deeper (envOfC "need_cover" (defScope s_need_cover) s.heap.objs.size f cdv))) :
    DSs (cxF P w K mg base N_need_cover "need_cover" (defScope s_need_cover) f cdv A outer s H E) (wxF E) (defBody s_need_cover) b_need_cover :=
    (dss_cons (ds_unp (dg_tup rfl (dgs_cons (dg_name (i := 3) sc_need_cover.nd rfl (by first | exact .inl rfl | exact .inr rfl)) (dgs_cons (dg_name (i := 4) sc_need_cover.nd rfl (by first | exact .inl rfl | exact .inr rfl)) dgs_nil))) (de_var (pv 1)))
    (dss_one (ds_for owns_cx rfl (di_seq (de_call (c_columns_of S) hr (by decide) takes_cx rfl (dcs_cons (da_bor (pv 0)) dcs_nil))) (dg_name (i := 2) sc_need_cover.nd rfl (by first | exact .inl rfl | exact .inr rfl))
    (dss_one (ds_if (dt_lt (do_ev (de_sum rfl rfl (g_sum S) (dos_cons (do_ev (de_lc (own := [("number", 5), ("T", 6), ("columns", 7)]) rfl sc_need_cover.nd (di_zipA rfl (g_zip S) (dws_cons (dw_sl (pv 0)) (dws_cons (dw_ev (de_var (pv 4))) dws_nil))) (blkOk_by (N := N_need_cover) (sc := defScope s_need_cover) (own := [("number", 5), ("T", 6), ("columns", 7)]) (by decide +kernel)) rfl (fun _ _ _ _ _ => (dg_tup rfl (dgs_cons (dg_tup rfl (dgs_cons (dg_name (i := 6) sc_need_cover.nd rfl (by first | exact .inl rfl | exact .inr rfl)) (dgs_cons (dg_name (i := 7) sc_need_cover.nd rfl (by first | exact .inl rfl | exact .inr rfl)) dgs_nil))) (dgs_cons (dg_name (i := 5) sc_need_cover.nd rfl (by first | exact .inl rfl | exact .inr rfl)) dgs_nil)))) (fun _ _ _ _ _ => (dts_one (dt_in (u65 hr) (do_sl (pv 2)) (do_sl (pv 7))))) (fun _ _ _ _ _ => (de_var (pv 5))))) dos_nil))) (do_sl (pv 3)))
    (dss_one ds_never)
    dss_nil)))))
theorem c_need_cover {P : Program} {w : World} {K : PySem.W.Frag} {mg : Str → Option Value} {base : Heap} (S : Su K mg base) : Callee P w K mg base 2 "need_cover" m_need_cover := by
  obtain ⟨fd, F⟩ := S.says.1.def_ 3 (d := dd "need_cover" s_need_cover) rfl
  exact callee_of F sc_need_cover (g_need_cover S) rfl rfl (F.bindsN fun _ _ _ _ _ _ us hl => match us, hl with | [_, _], _ => rfl) fun cdv A outer s H E hr => d_need_cover S _ cdv A outer s H E hr
def N_sizes_multiplied : List Str := ["house", "numbers", "found", "rows", "number"]
theorem sc_sizes_multiplied : FnScope N_sizes_multiplied ["house", "numbers"] (defScope s_sizes_multiplied) := ⟨rfl, rfl, rfl, by decide +kernel, rfl, by decide +kernel, by decide +kernel⟩
theorem d_sizes_multiplied {P : Program} {w : World} {K : PySem.W.Frag} {mg : Str → Option Value} {base : Heap} (S : Su K mg base) (f : Addr) (cdv : Value) (A : Around) (outer : List PySem.Env) (s : Shared) (H : Hp) (E : XK) (hr : Room 1 (A.deeper (envOfC "sizes_multiplied" (defScope s_sizes_multiplied) s.heap.objs.size f cdv))) :
    DSs (cxF P w K mg base N_sizes_multiplied "sizes_multiplied" (defScope s_sizes_multiplied) f cdv A outer s H E) (wxF E) (defBody s_sizes_multiplied) b_sizes_multiplied :=
    (dss_cons (ds_asg (i := 2) sc_sizes_multiplied.nd rfl (by first | exact .inl rfl | exact .inr rfl) de_int)
    (dss_cons (ds_for owns_cx rfl (di_zipA rfl (g_zip S) (dws_cons (dw_sl (pv 0)) (dws_cons (dw_sl (pv 1)) dws_nil))) (dg_tup rfl (dgs_cons (dg_name (i := 3) sc_sizes_multiplied.nd rfl (by first | exact .inl rfl | exact .inr rfl)) (dgs_cons (dg_name (i := 4) sc_sizes_multiplied.nd rfl (by first | exact .inl rfl | exact .inr rfl)) dgs_nil)))
    (dss_one (ds_asg (i := 2) sc_sizes_multiplied.nd rfl (by first | exact .inl rfl | exact .inr rfl) (de_mul (do_sl (pv 2)) (do_ev (de_call (c_powered S) hr (by decide) takes_cx rfl (dcs_cons (da_val (de_len rfl (g_len S) (dos_cons (do_sl (pv 3)) dos_nil))) (dcs_cons (da_bor (pv 4)) dcs_nil))))))))
    (dss_one (ds_ret (de_move (pv 2))))))
theorem c_sizes_multiplied {P : Program} {w : World} {K : PySem.W.Frag} {mg : Str → Option Value} {base : Heap} (S : Su K mg base) : Callee P w K mg base 2 "sizes_multiplied" m_sizes_multiplied := by
  obtain ⟨fd, F⟩ := S.says.1.def_ 4 (d := dd "sizes_multiplied" s_sizes_multiplied) rfl
  exact callee_of F sc_sizes_multiplied (g_sizes_multiplied S) rfl rfl (F.bindsN fun _ _ _ _ _ _ us hl => match us, hl with | [_, _], _ => rfl) fun cdv A outer s H E hr => d_sizes_multiplied S _ cdv A outer s H E hr
def N__law_order : List Str := ["_law_box_here", "_law_things", "_law_left", "_law_found"]
theorem sc__law_order : FnScope N__law_order ["_law_box_here", "_law_things"] (defScope s__law_order) := ⟨rfl, rfl, rfl, by decide +kernel, rfl, by decide +kernel, by decide +kernel⟩
theorem d__law_order {P : Program} {w : World} {K : PySem.W.Frag} {mg : Str → Option Value} {base : Heap} (S : Su K mg base) (f : Addr) (cdv : Value) (A : Around) (outer : List PySem.Env) (s : Shared) (H : Hp) (E : XK) (hr : Room 1 (A.deeper (envOfC "_law_order" (defScope s__law_order) s.heap.objs.size f cdv))) :
    DSs (cxF P w K mg base N__law_order "_law_order" (defScope s__law_order) f cdv A outer s H E) (wxF E) (defBody s__law_order) b__law_order :=
    (dss_cons (ds_asg (i := 2) sc__law_order.nd rfl (by first | exact .inl rfl | exact .inr rfl) (de_listC rfl rfl (g_list S) (dos_cons (do_sl (pv 1)) dos_nil)))
    (dss_cons (ds_asg (i := 3) sc__law_order.nd rfl (by first | exact .inl rfl | exact .inr rfl) (de_lst df_nil))
    (dss_cons (ds_while owns_cx (dt_gt (do_ev (de_len rfl (g_len S) (dos_cons (do_sl (pv 2)) dos_nil))) (do_ev de_int))
    (dss_one (ds_expr (de_append (pv 3) (df_cons (de_popAt (pv 2) (df_cons (de_call (c__law_take S) hr (by decide) takes_cx rfl (dcs_cons (da_lent (pv 0)) (dcs_cons (da_val (de_len rfl (g_len S) (dos_cons (do_sl (pv 2)) dos_nil))) dcs_nil))) df_nil)) df_nil)))))
    (dss_one (ds_ret (de_move (pv 3)))))))
theorem c__law_order {P : Program} {w : World} {K : PySem.W.Frag} {mg : Str → Option Value} {base : Heap} (S : Su K mg base) : Callee P w K mg base 2 "_law_order" m__law_order := by
  obtain ⟨fd, F⟩ := S.says.1.def_ 9 (d := dd "_law_order" s__law_order) rfl
  exact callee_of F sc__law_order (g__law_order S) rfl rfl (F.bindsN fun _ _ _ _ _ _ us hl => match us, hl with | [_, _], _ => rfl) fun cdv A outer s H E hr => d__law_order S _ cdv A outer s H E hr
def N__law_names : List Str := ["_law_box_here", "_law_many", "_law_letters", "_law_stem", "_law_at", "_law_first", "_law_form", "_law_found", "_law_k", "_law_own", "_law_word", "_law_some", "_law_x", "_law_y", "_law_z"]
theorem sc__law_names : FnScope N__law_names ["_law_box_here", "_law_many"] (defScope s__law_names) := ⟨rfl, rfl, rfl, by decide +kernel, rfl, by decide +kernel, by decide +kernel⟩
theorem d__law_names {P : Program} {w : World} {K : PySem.W.Frag} {mg : Str → Option Value} {base : Heap} (S : Su K mg base) (f : Addr) (cdv : Value) (A : Around) (outer : List PySem.Env) (s : Shared) (H : Hp) (E : XK) (hr : Room 1 (A.deeper (envOfC "_law_names" (defScope s__law_names) s.heap.objs.size f cdv))) :
    DSs (cxF P w K mg base N__law_names "_law_names" (defScope s__law_names) f cdv A outer s H E) (wxF E) (defBody s__law_names) b__law_names :=
    (dss_cons (ds_asg (i := 2) sc__law_names.nd rfl (by first | exact .inl rfl | exact .inr rfl) de_str)
    (dss_cons (ds_asg (i := 3) sc__law_names.nd rfl (by first | exact .inl rfl | exact .inr rfl) (de_join de_str (do_ev (de_lc (own := [("_law_k", 8)]) rfl sc__law_names.nd (di_range1 rfl (g_range S) (dos_cons (do_ev (de_call (c__law_take S) hr (by decide) takes_cx rfl (dcs_cons (da_lent (pv 0)) (dcs_cons (da_val de_int) dcs_nil)))) dos_nil)) (blkOk_by (N := N__law_names) (sc := defScope s__law_names) (own := [("_law_k", 8)]) (by decide +kernel)) rfl (fun _ _ _ _ _ => (dg_name (i := 8) sc__law_names.nd rfl (by first | exact .inl rfl | exact .inr rfl))) (fun _ _ _ _ _ => dts_nil) (fun _ _ _ _ _ => (de_ix (do_sl (pv 2)) (do_ev (de_call (c__law_take S) hr (by decide) takes0 rfl (dcs_cons (da_lent (pv 0)) (dcs_cons (da_val de_int) dcs_nil))))))))))
    (dss_cons (ds_asg (i := 4) sc__law_names.nd rfl (by first | exact .inl rfl | exact .inr rfl) (de_call (c__law_take S) hr (by decide) takes_cx rfl (dcs_cons (da_lent (pv 0)) (dcs_cons (da_val (de_add (do_ev (de_len rfl (g_len S) (dos_cons (do_sl (pv 3)) dos_nil))) (do_ev de_int))) dcs_nil))))
    (dss_cons (ds_asg (i := 5) sc__law_names.nd rfl (by first | exact .inl rfl | exact .inr rfl) (de_call (c__law_take S) hr (by decide) takes_cx rfl (dcs_cons (da_lent (pv 0)) (dcs_cons (da_val de_int) dcs_nil))))
    (dss_cons (ds_asg (i := 6) sc__law_names.nd rfl (by first | exact .inl rfl | exact .inr rfl) (de_call (c__law_take S) hr (by decide) takes_cx rfl (dcs_cons (da_lent (pv 0)) (dcs_cons (da_val de_int) dcs_nil))))
    (dss_cons (ds_if (dt_eq (u64 hr) (do_sl (pv 6)) (do_ev de_int))
    (dss_cons (ds_unpS rfl (dgs_cons (dg_name (i := 12) sc__law_names.nd rfl (by first | exact .inl rfl | exact .inr rfl)) (dgs_cons (dg_name (i := 13) sc__law_names.nd rfl (by first | exact .inl rfl | exact .inr rfl)) (dgs_cons (dg_name (i := 14) sc__law_names.nd rfl (by first | exact .inl rfl | exact .inr rfl)) dgs_nil))) (de_slc (do_ev (de_slc (do_sl (pv 2)) (dp_op (de_call (c__law_take S) hr (by decide) takes_cx rfl (dcs_cons (da_lent (pv 0)) (dcs_cons (da_val de_int) dcs_nil)))) dp_no)) dp_no (dp_op de_int)))
    (dss_cons (ds_asg (i := 11) sc__law_names.nd rfl (by first | exact .inl rfl | exact .inr rfl) (de_lst (df_cons (de_var (pv 12)) (df_cons (de_add (do_sl (pv 12)) (do_sl (pv 13))) (df_cons (de_var (pv 13)) (df_cons (de_add (do_sl (pv 13)) (do_sl (pv 14))) df_nil))))))
    (dss_one (ds_ret (de_slc (do_ev (de_add (do_sl (pv 11)) (do_ev (de_lst (df_cons (de_var (pv 14)) (df_cons (de_add (do_sl (pv 12)) (do_sl (pv 14))) (df_cons (de_add (do_ev (de_add (do_sl (pv 12)) (do_sl (pv 13)))) (do_sl (pv 14))) (df_cons (de_add (do_sl (pv 14)) (do_sl (pv 13))) df_nil)))))))) dp_no (dp_op (de_var (pv 1))))))))
    dss_nil)
    (dss_cons (ds_asg (i := 7) sc__law_names.nd rfl (by first | exact .inl rfl | exact .inr rfl) (de_lst df_nil))
    (dss_cons (ds_for owns_cx rfl (di_range1 rfl (g_range S) (dos_cons (do_sl (pv 1)) dos_nil)) (dg_name (i := 8) sc__law_names.nd rfl (by first | exact .inl rfl | exact .inr rfl))
    (dss_cons (ds_asg (i := 10) sc__law_names.nd rfl (by first | exact .inl rfl | exact .inr rfl) (de_add (do_ev (de_add (do_ev (de_slc (do_sl (pv 3)) dp_no (dp_op (de_var (pv 4))))) (do_ev (de_ix (do_sl (pv 2)) (do_ev (de_mod (do_ev (de_add (do_sl (pv 5)) (do_ev (de_mul (do_ev de_int) (do_sl (pv 8)))))) (do_ev de_int))))))) (do_ev (de_slc (do_sl (pv 3)) (dp_op (de_var (pv 4))) dp_no))))
    (dss_one (ds_expr (de_append (pv 7) (df_cons (de_add (do_sl (pv 10)) (do_ev (de_mulS (do_ev de_str) (do_ev (de_intC rfl rfl (g_int S) (dos_cons (do_ev (de_and (de_eq (u64 hr) (do_sl (pv 6)) (do_ev de_int)) (de_one (de_eq (u64 hr) (do_ev (de_mod (do_sl (pv 8)) (do_ev de_int))) (do_ev de_int))))) dos_nil)))))) df_nil))))))
    (dss_cons (ds_asg (i := 9) sc__law_names.nd rfl (by first | exact .inl rfl | exact .inr rfl) (de_lst (df_cons de_str (df_cons de_str (df_cons de_str (df_cons de_str (df_cons de_str (df_cons de_str df_nil))))))))
    (dss_cons (ds_asg (i := 9) sc__law_names.nd rfl (by first | exact .inl rfl | exact .inr rfl) (de_add (do_sl (pv 9)) (do_ev (de_lst (df_cons de_str (df_cons de_str (df_cons de_str (df_cons de_str (df_cons de_str df_nil)))))))))
    (dss_cons (ds_asg (i := 10) sc__law_names.nd rfl (by first | exact .inl rfl | exact .inr rfl) (de_ix (do_sl (pv 9)) (do_ev (de_call (c__law_take S) hr (by decide) takes_cx rfl (dcs_cons (da_lent (pv 0)) (dcs_cons (da_val de_int) dcs_nil))))))
    (dss_cons (ds_if (DW.dt (dw_and (dt_eq (u64 hr) (do_ev (de_call (c__law_take S) hr (by decide) takes_cx rfl (dcs_cons (da_lent (pv 0)) (dcs_cons (da_val de_int) dcs_nil)))) (do_ev de_int)) (dw_and1 (dt_nin (u65 hr) (do_sl (pv 10)) (do_sl (pv 7))))))
    (dss_one (ds_put set_list vrp_setL (de_var (pv 10)) (pv 7) (do_ev (de_call (c__law_take S) hr (by decide) takes_cx rfl (dcs_cons (da_lent (pv 0)) (dcs_cons (da_bor (pv 1)) dcs_nil))))))
    dss_nil)
    (dss_one (ds_ret (de_move (pv 7))))))))))))))))
theorem c__law_names {P : Program} {w : World} {K : PySem.W.Frag} {mg : Str → Option Value} {base : Heap} (S : Su K mg base) : Callee P w K mg base 2 "_law_names" m__law_names := by
  obtain ⟨fd, F⟩ := S.says.1.def_ 10 (d := dd "_law_names" s__law_names) rfl
  exact callee_of F sc__law_names (g__law_names S) rfl rfl (F.bindsN fun _ _ _ _ _ _ us hl => match us, hl with | [_, _], _ => rfl) fun cdv A outer s H E hr => d__law_names S _ cdv A outer s H E hr
def N__law_value : List Str := ["_law_box_here", "_law_span", "_law_value_here"]
theorem sc__law_value : FnScope N__law_value ["_law_box_here", "_law_span"] (defScope s__law_value) := ⟨rfl, rfl, rfl, by decide +kernel, rfl, by decide +kernel, by decide +kernel⟩
theorem d__law_value {P : Program} {w : World} {K : PySem.W.Frag} {mg : Str → Option Value} {base : Heap} (S : Su K mg base) (f : Addr) (cdv : Value) (A : Around) (outer : List PySem.Env) (s : Shared) (H : Hp) (E : XK) (hr : Room 1 (A.deeper (envOfC "_law_value" (defScope s__law_value) s.heap.objs.size f cdv))) :
    DSs (cxF P w K mg base N__law_value "_law_value" (defScope s__law_value) f cdv A outer s H E) (wxF E) (defBody s__law_value) b__law_value :=
    (dss_cons (ds_asg (i := 2) sc__law_value.nd rfl (by first | exact .inl rfl | exact .inr rfl) (de_call (c__law_take S) hr (by decide) takes_cx rfl (dcs_cons (da_lent (pv 0)) (dcs_cons (da_bor (pv 1)) dcs_nil))))
    (dss_cons (ds_if (dt_eq (u64 hr) (do_sl (pv 1)) (do_ev de_int))
    (dss_one (ds_ret (de_ix (do_ev (de_lst (df_cons de_int (df_cons de_int (df_cons de_int (df_cons de_int (df_cons de_int (df_cons de_int (df_cons de_int (df_cons de_int (df_cons de_int (df_cons de_int (df_cons de_int (df_cons de_int df_nil)))))))))))))) (do_sl (pv 2)))))
    dss_nil)
    (dss_one (ds_ret (de_move (pv 2))))))
theorem c__law_value {P : Program} {w : World} {K : PySem.W.Frag} {mg : Str → Option Value} {base : Heap} (S : Su K mg base) : Callee P w K mg base 2 "_law_value" m__law_value := by
  obtain ⟨fd, F⟩ := S.says.1.def_ 17 (d := dd "_law_value" s__law_value) rfl
  exact callee_of F sc__law_value (g__law_value S) rfl rfl (F.bindsN fun _ _ _ _ _ _ us hl => match us, hl with | [_, _], _ => rfl) fun cdv A outer s H E hr => d__law_value S _ cdv A outer s H E hr
def N__law_cover : List Str := ["_law_box_here", "_law_question_here", "_law_parts", "_law_numbers", "_law_column", "_law_some", "_law_lack", "_law_table", "_law_at", "_law_k", "_law_kt", "_law_own"]
theorem sc__law_cover : FnScope N__law_cover ["_law_box_here", "_law_question_here"] (defScope s__law_cover) := ⟨rfl, rfl, rfl, by decide +kernel, rfl, by decide +kernel, by decide +kernel⟩
theorem d__law_cover {P : Program} {w : World} {K : PySem.W.Frag} {mg : Str → Option Value} {base : Heap} (S : Su K mg base) (f : Addr) (cdv : Value) (A : Around) (outer : List PySem.Env) (s : Shared) (H : Hp) (E : XK) (hr : Room 1 (A.deeper (envOfC "_law_cover" (defScope s__law_cover) s.heap.objs.size f cdv))) :
    DSs (cxF P w K mg base N__law_cover "_law_cover" (defScope s__law_cover) f cdv A outer s H E) (wxF E) (defBody s__law_cover) b__law_cover :=
    (dss_cons (ds_asg (i := 2) sc__law_cover.nd rfl (by first | exact .inl rfl | exact .inr rfl) (de_add (do_ev de_int) (do_ev (de_call (c__law_take S) hr (by decide) takes_cx rfl (dcs_cons (da_lent (pv 0)) (dcs_cons (da_val de_int) dcs_nil))))))
    (dss_cons (ds_asg (i := 3) sc__law_cover.nd rfl (by first | exact .inl rfl | exact .inr rfl) (de_lc (own := [("_law_table", 7)]) rfl sc__law_cover.nd (di_seqB (pv 1)) (blkOk_by (N := N__law_cover) (sc := defScope s__law_cover) (own := [("_law_table", 7)]) (by decide +kernel)) rfl (fun _ _ _ _ _ => (dg_name (i := 7) sc__law_cover.nd rfl (by first | exact .inl rfl | exact .inr rfl))) (fun _ _ _ _ _ => dts_nil) (fun _ _ _ _ _ => (de_call (c__law_take S) hr (by decide) takes0 rfl (dcs_cons (da_lent (pv 0)) (dcs_cons (da_val (de_add (do_sl (pv 2)) (do_ev de_int))) dcs_nil))))))
    (dss_cons (ds_for owns_cx rfl (di_seq (de_call (c__law_columns S) hr (by decide) takes_cx rfl (dcs_cons (da_bor (pv 1)) dcs_nil))) (dg_name (i := 4) sc__law_cover.nd rfl (by first | exact .inl rfl | exact .inr rfl))
    (dss_cons (ds_setLc (i := 5) (own := [("_law_k", 9), ("_law_kt", 10), ("_law_own", 11)]) rfl sc__law_cover.nd rfl rfl (sw_true rfl rfl rfl (by decide +kernel)) (di_enumA rfl (g_enumerate S) (dws_cons (dw_sl (pv 1)) dws_nil)) (blkOk_by (N := N__law_cover) (sc := defScope s__law_cover) (own := [("_law_k", 9), ("_law_kt", 10), ("_law_own", 11)]) (by decide +kernel)) rfl (fun _ _ _ _ _ => (dg_tup rfl (dgs_cons (dg_name (i := 9) sc__law_cover.nd rfl (by first | exact .inl rfl | exact .inr rfl)) (dgs_cons (dg_tup rfl (dgs_cons (dg_name (i := 10) sc__law_cover.nd rfl (by first | exact .inl rfl | exact .inr rfl)) (dgs_cons (dg_name (i := 11) sc__law_cover.nd rfl (by first | exact .inl rfl | exact .inr rfl)) dgs_nil))) dgs_nil)))) (fun _ _ _ _ _ => (dts_one (dt_in (u65 hr) (do_sl (pv 4)) (do_sl (pv 11))))) (fun _ _ _ _ _ => (de_var (pv 9))))
    (dss_cons (ds_asg (i := 6) sc__law_cover.nd rfl (by first | exact .inl rfl | exact .inr rfl) (de_sub (do_sl (pv 2)) (do_ev (de_sum rfl rfl (g_sum S) (dos_cons (do_ev (de_lc (own := [("_law_k", 9)]) rfl sc__law_cover.nd (di_seq (de_var (pv 5))) (blkOk_by (N := N__law_cover) (sc := defScope s__law_cover) (own := [("_law_k", 9)]) (by decide +kernel)) rfl (fun _ _ _ _ _ => (dg_name (i := 9) sc__law_cover.nd rfl (by first | exact .inl rfl | exact .inr rfl))) (fun _ _ _ _ _ => dts_nil) (fun _ _ _ _ _ => (de_ix (do_sl (pv 3)) (do_sl (pv 9)))))) dos_nil)))))
    (dss_one (ds_if (dt_gt (do_sl (pv 6)) (do_ev de_int))
    (dss_cons (ds_asg (i := 8) sc__law_cover.nd rfl (by first | exact .inl rfl | exact .inr rfl) (de_ix (do_sl (pv 5)) (do_ev (de_call (c__law_take S) hr (by decide) takes_cx rfl (dcs_cons (da_lent (pv 0)) (dcs_cons (da_val (de_len rfl (g_len S) (dos_cons (do_sl (pv 5)) dos_nil))) dcs_nil))))))
    (dss_one (ds_put set_list vrp_setL (de_add (do_ev (de_ix (do_sl (pv 3)) (do_sl (pv 8)))) (do_sl (pv 6))) (pv 3) (do_sl (pv 8)))))
    dss_nil)))))
    (dss_one (ds_ret (de_tup (df_cons (de_var (pv 2)) (df_cons (de_tupleC rfl rfl (g_tuple S) (dos_cons (do_sl (pv 3)) dos_nil)) df_nil))))))))
theorem c__law_cover {P : Program} {w : World} {K : PySem.W.Frag} {mg : Str → Option Value} {base : Heap} (S : Su K mg base) : Callee P w K mg base 2 "_law_cover" m__law_cover := by
  obtain ⟨fd, F⟩ := S.says.1.def_ 19 (d := dd "_law_cover" s__law_cover) rfl
  exact callee_of F sc__law_cover (g__law_cover S) rfl rfl (F.bindsN fun _ _ _ _ _ _ us hl => match us, hl with | [_, _], _ => rfl) fun cdv A outer s H E hr => d__law_cover S _ cdv A outer s H E hr
def N__law_edge : List Str := ["_law_number", "_law_power_here", "_law_step", "_law_found"]
theorem sc__law_edge : FnScope N__law_edge ["_law_number", "_law_power_here"] (defScope s__law_edge) := ⟨rfl, rfl, rfl, by decide +kernel, rfl, by decide +kernel, by decide +kernel⟩
theorem d__law_edge {P : Program} {w : World} {K : PySem.W.Frag} {mg : Str → Option Value} {base : Heap} (S : Su K mg base) (f : Addr) (cdv : Value) (A : Around) (outer : List PySem.Env) (s : Shared) (H : Hp) (E : XK) (hr : Room 1 (A.deeper (envOfC "_law_edge" (defScope s__law_edge) s.heap.objs.size f cdv))) :
    DSs (cxF P w K mg base N__law_edge "_law_edge" (defScope s__law_edge) f cdv A outer s H E) (wxF E) (defBody s__law_edge) b__law_edge :=
    (dss_cons (ds_asg (i := 2) sc__law_edge.nd rfl (by first | exact .inl rfl | exact .inr rfl) de_int)
    (dss_cons (ds_while owns_cx (dt_le (do_ev (de_call (c__law_power S) hr (by decide) takes_cx rfl (dcs_cons (da_val (de_mul (do_ev de_int) (do_sl (pv 2)))) (dcs_cons (da_bor (pv 1)) dcs_nil)))) (do_sl (pv 0)))
    (dss_one (ds_asg (i := 2) sc__law_edge.nd rfl (by first | exact .inl rfl | exact .inr rfl) (de_mul (do_ev de_int) (do_sl (pv 2))))))
    (dss_cons (ds_asg (i := 3) sc__law_edge.nd rfl (by first | exact .inl rfl | exact .inr rfl) de_int)
    (dss_cons (ds_while owns_cx (dt_gt (do_sl (pv 2)) (do_ev de_int))
    (dss_cons (ds_if (dt_le (do_ev (de_call (c__law_power S) hr (by decide) takes_cx rfl (dcs_cons (da_val (de_add (do_sl (pv 3)) (do_sl (pv 2)))) (dcs_cons (da_bor (pv 1)) dcs_nil)))) (do_sl (pv 0)))
    (dss_one (ds_asg (i := 3) sc__law_edge.nd rfl (by first | exact .inl rfl | exact .inr rfl) (de_add (do_sl (pv 3)) (do_sl (pv 2)))))
    dss_nil)
    (dss_one (ds_asg (i := 2) sc__law_edge.nd rfl (by first | exact .inl rfl | exact .inr rfl) (de_fdiv (do_sl (pv 2)) (do_ev de_int))))))
    (dss_one (ds_ret (de_move (pv 3))))))))
theorem c__law_edge {P : Program} {w : World} {K : PySem.W.Frag} {mg : Str → Option Value} {base : Heap} (S : Su K mg base) : Callee P w K mg base 2 "_law_edge" m__law_edge := by
  obtain ⟨fd, F⟩ := S.says.1.def_ 25 (d := dd "_law_edge" s__law_edge) rfl
  exact callee_of F sc__law_edge (g__law_edge S) rfl rfl (F.bindsN fun _ _ _ _ _ _ us hl => match us, hl with | [_, _], _ => rfl) fun cdv A outer s H E hr => d__law_edge S _ cdv A outer s H E hr
def N_most : List Str := ["question", "house", "shares"]
theorem sc_most : FnScope N_most ["question", "house", "shares"] (defScope s_most) := ⟨rfl, rfl, rfl, by decide +kernel, rfl, by decide +kernel, by decide +kernel⟩
theorem d_most {P : Program} {w : World} {K : PySem.W.Frag} {mg : Str → Option Value} {base : Heap} (S : Su K mg base) (f : Addr) (cdv : Value) (A : Around) (outer : List PySem.Env) (s : Shared) (H : Hp) (E : XK) (hr : Room 2 (A.deeper (envOfC "most" (defScope s_most) s.heap.objs.size f cdv))) :
    DSs (cxF P w K mg base N_most "most" (defScope s_most) f cdv A outer s H E) (wxF E) (defBody s_most) b_most :=
    (dss_cons (ds_expr (de_call (c_need_cover S) hr (by decide) takes_cx rfl (dcs_cons (da_bor (pv 0)) (dcs_cons (da_val (de_var (pv 2))) dcs_nil))))
    (dss_one (ds_ret (de_call (c_root S) hr (by decide) takes_cx rfl (dcs_cons (da_val (de_call (c_sizes_multiplied S) hr (by decide) takes_cx rfl (dcs_cons (da_bor (pv 1)) (dcs_cons (da_val (de_ix (do_sl (pv 2)) (do_ev de_int))) dcs_nil)))) (dcs_cons (da_val (de_ix (do_sl (pv 2)) (do_ev de_int))) dcs_nil))))))
theorem c_most {P : Program} {w : World} {K : PySem.W.Frag} {mg : Str → Option Value} {base : Heap} (S : Su K mg base) : Callee P w K mg base 3 "most" m_most := by
  obtain ⟨fd, F⟩ := S.says.1.def_ 5 (d := dd "most" s_most) rfl
  exact callee_of F sc_most (g_most S) rfl rfl (F.bindsN fun _ _ _ _ _ _ us hl => match us, hl with | [_, _, _], _ => rfl) fun cdv A outer s H E hr => d_most S _ cdv A outer s H E hr
def N_looks_fit : List Str := ["question", "house", "shares", "looks", "factor", "parts", "numbers"]
theorem sc_looks_fit : FnScope N_looks_fit ["question", "house", "shares", "looks"] (defScope s_looks_fit) := ⟨rfl, rfl, rfl, by decide +kernel, rfl, by decide +kernel, by decide +kernel⟩
theorem d_looks_fit {P : Program} {w : World} {K : PySem.W.Frag} {mg : Str → Option Value} {base : Heap} (S : Su K mg base) (f : Addr) (cdv : Value) (A : Around) (outer : List PySem.Env) (s : Shared) (H : Hp) (E : XK) (hr : Room 2 (A.deeper (envOfC "looks_fit" (defScope s_looks_fit) s.heap.objs.size f cdv))) :
    DSs (cxF P w K mg base N_looks_fit "looks_fit" (defScope s_looks_fit) f cdv A outer s H E) (wxF E) (defBody s_looks_fit) b_looks_fit :=
    (dss_cons (ds_expr (de_call (c_need_cover S) hr (by decide) takes_cx rfl (dcs_cons (da_bor (pv 0)) (dcs_cons (da_val (de_var (pv 2))) dcs_nil))))
    (dss_cons (ds_unp (dg_tup rfl (dgs_cons (dg_name (i := 5) sc_looks_fit.nd rfl (by first | exact .inl rfl | exact .inr rfl)) (dgs_cons (dg_name (i := 6) sc_looks_fit.nd rfl (by first | exact .inl rfl | exact .inr rfl)) dgs_nil))) (de_var (pv 2)))
    (dss_cons (ds_asg (i := 4) sc_looks_fit.nd rfl (by first | exact .inl rfl | exact .inr rfl) (de_mul (do_ev (de_len rfl (g_len S) (dos_cons (do_ev (de_call (c_columns_of S) hr (by decide) takes_cx rfl (dcs_cons (da_bor (pv 0)) dcs_nil))) dos_nil))) (do_ev (de_len rfl (g_len S) (dos_cons (do_sl (pv 0)) dos_nil)))))
    (dss_one (ds_ret (de_le (do_ev (de_call (c_powered S) hr (by decide) takes_cx rfl (dcs_cons (da_bor (pv 3)) (dcs_cons (da_bor (pv 5)) dcs_nil)))) (do_ev (de_mul (do_ev (de_call (c_sizes_multiplied S) hr (by decide) takes_cx rfl (dcs_cons (da_bor (pv 1)) (dcs_cons (da_bor (pv 6)) dcs_nil)))) (do_ev (de_call (c_powered S) hr (by decide) takes_cx rfl (dcs_cons (da_bor (pv 4)) (dcs_cons (da_bor (pv 5)) dcs_nil))))))))))))
theorem c_looks_fit {P : Program} {w : World} {K : PySem.W.Frag} {mg : Str → Option Value} {base : Heap} (S : Su K mg base) : Callee P w K mg base 3 "looks_fit" m_looks_fit := by
  obtain ⟨fd, F⟩ := S.says.1.def_ 6 (d := dd "looks_fit" s_looks_fit) rfl
  exact callee_of F sc_looks_fit (g_looks_fit S) rfl rfl (F.bindsN fun _ _ _ _ _ _ us hl => match us, hl with | [_, _, _, _], _ => rfl) fun cdv A outer s H E hr => d_looks_fit S _ cdv A outer s H E hr
def N__law_some_columns : List Str := ["_law_box_here", "_law_names_here", "_law_many"]
theorem sc__law_some_columns : FnScope N__law_some_columns ["_law_box_here", "_law_names_here", "_law_many"] (defScope s__law_some_columns) := ⟨rfl, rfl, rfl, by decide +kernel, rfl, by decide +kernel, by decide +kernel⟩
theorem d__law_some_columns {P : Program} {w : World} {K : PySem.W.Frag} {mg : Str → Option Value} {base : Heap} (S : Su K mg base) (f : Addr) (cdv : Value) (A : Around) (outer : List PySem.Env) (s : Shared) (H : Hp) (E : XK) (hr : Room 2 (A.deeper (envOfC "_law_some_columns" (defScope s__law_some_columns) s.heap.objs.size f cdv))) :
    DSs (cxF P w K mg base N__law_some_columns "_law_some_columns" (defScope s__law_some_columns) f cdv A outer s H E) (wxF E) (defBody s__law_some_columns) b__law_some_columns :=
    (dss_one (ds_ret (de_tupleC rfl rfl (g_tuple S) (dos_cons (do_ev (de_slc (do_ev (de_call (c__law_order S) hr (by decide) takes_cx rfl (dcs_cons (da_lent (pv 0)) (dcs_cons (da_bor (pv 1)) dcs_nil)))) dp_no (dp_op (de_var (pv 2))))) dos_nil))))
theorem c__law_some_columns {P : Program} {w : World} {K : PySem.W.Frag} {mg : Str → Option Value} {base : Heap} (S : Su K mg base) : Callee P w K mg base 3 "_law_some_columns" m__law_some_columns := by
  obtain ⟨fd, F⟩ := S.says.1.def_ 11 (d := dd "_law_some_columns" s__law_some_columns) rfl
  exact callee_of F sc__law_some_columns (g__law_some_columns S) rfl rfl (F.bindsN fun _ _ _ _ _ _ us hl => match us, hl with | [_, _, _], _ => rfl) fun cdv A outer s H E hr => d__law_some_columns S _ cdv A outer s H E hr
def N__law_house : List Str := ["_law_box_here", "_law_question_here", "_law_ceiling", "_law_columns_here", "_law_span", "_law_planted", "_law_even", "_law_room", "_law_is_even", "_law_found", "_law_kt", "_law_own", "_law_limit", "_law_rows", "_law_k", "_law_column", "_law_row"]
theorem sc__law_house : FnScope N__law_house ["_law_box_here", "_law_question_here", "_law_ceiling"] (defScope s__law_house) := ⟨rfl, rfl, rfl, by decide +kernel, rfl, by decide +kernel, by decide +kernel⟩
theorem d__law_house {P : Program} {w : World} {K : PySem.W.Frag} {mg : Str → Option Value} {base : Heap} (S : Su K mg base) (f : Addr) (cdv : Value) (A : Around) (outer : List PySem.Env) (s : Shared) (H : Hp) (E : XK) (hr : Room 2 (A.deeper (envOfC "_law_house" (defScope s__law_house) s.heap.objs.size f cdv))) :
    DSs (cxF P w K mg base N__law_house "_law_house" (defScope s__law_house) f cdv A outer s H E) (wxF E) (defBody s__law_house) b__law_house :=
    (dss_cons (ds_asg (i := 3) sc__law_house.nd rfl (by first | exact .inl rfl | exact .inr rfl) (de_call (c__law_columns S) hr (by decide) takes_cx rfl (dcs_cons (da_bor (pv 1)) dcs_nil)))
    (dss_cons (ds_asg (i := 4) sc__law_house.nd rfl (by first | exact .inl rfl | exact .inr rfl) (de_ix (do_ev (de_lst (df_cons de_int (df_cons de_int (df_cons de_int (df_cons de_int (df_cons de_int df_nil))))))) (do_ev (de_call (c__law_take S) hr (by decide) takes_cx rfl (dcs_cons (da_lent (pv 0)) (dcs_cons (da_val de_int) dcs_nil))))))
    (dss_cons (ds_setLc (i := 5) (own := [("_law_k", 14)]) rfl sc__law_house.nd rfl rfl (sw_true rfl rfl rfl (by decide +kernel)) (di_range1 rfl (g_range S) (dos_cons (do_ev (de_call (c__law_take S) hr (by decide) takes_cx rfl (dcs_cons (da_lent (pv 0)) (dcs_cons (da_val de_int) dcs_nil)))) dos_nil)) (blkOk_by (N := N__law_house) (sc := defScope s__law_house) (own := [("_law_k", 14)]) (by decide +kernel)) rfl (fun _ _ _ _ _ => (dg_name (i := 14) sc__law_house.nd rfl (by first | exact .inl rfl | exact .inr rfl))) (fun _ _ _ _ _ => dts_nil) (fun _ _ _ _ _ => (de_lc (own := [("_law_column", 15)]) rfl sc__law_house.nd (di_seq (de_var (pv 3))) (blkOk_by (own := [("_law_column", 15)]) rfl) rfl (fun _ _ _ _ _ => (dg_name (i := 15) sc__law_house.nd rfl (by first | exact .inl rfl | exact .inr rfl))) (fun _ _ _ _ _ => dts_nil) (fun _ _ _ _ _ => (de_call (c__law_value S) hr (by decide) takes0 rfl (dcs_cons (da_lent (pv 0)) (dcs_cons (da_bor (pv 4)) dcs_nil)))))))
    (dss_cons (ds_asg (i := 6) sc__law_house.nd rfl (by first | exact .inl rfl | exact .inr rfl) (de_ix (do_ev (de_ix (do_ev (de_lst (df_cons (de_lst (df_cons de_int (df_cons de_int (df_cons de_int (df_cons de_int (df_cons de_int (df_cons de_int df_nil))))))) (df_cons (de_lst (df_cons de_int (df_cons de_int (df_cons de_int (df_cons de_int (df_cons de_int (df_cons de_int df_nil))))))) df_nil)))) (do_ev (de_intC rfl rfl (g_int S) (dos_cons (do_ev (de_lt (do_sl (pv 2)) (do_ev de_int))) dos_nil))))) (do_ev (de_sub (do_ev (de_len rfl (g_len S) (dos_cons (do_sl (pv 1)) dos_nil))) (do_ev de_int)))))
    (dss_cons (ds_asg (i := 7) sc__law_house.nd rfl (by first | exact .inl rfl | exact .inr rfl) (de_var (pv 2)))
    (dss_cons (ds_asg (i := 8) sc__law_house.nd rfl (by first | exact .inl rfl | exact .inr rfl) (de_and (de_gt (do_sl (pv 2)) (do_ev de_int)) (de_one (de_eq (u64 hr) (do_ev (de_call (c__law_take S) hr (by decide) takes_cx rfl (dcs_cons (da_lent (pv 0)) (dcs_cons (da_val de_int) dcs_nil)))) (do_ev de_int)))))
    (dss_cons (ds_asg (i := 9) sc__law_house.nd rfl (by first | exact .inl rfl | exact .inr rfl) (de_lst df_nil))
    (dss_cons (ds_for owns_cx rfl (di_seqB (pv 1)) (dg_tup rfl (dgs_cons (dg_name (i := 10) sc__law_house.nd rfl (by first | exact .inl rfl | exact .inr rfl)) (dgs_cons (dg_name (i := 11) sc__law_house.nd rfl (by first | exact .inl rfl | exact .inr rfl)) dgs_nil)))
    (dss_cons (ds_asg (i := 12) sc__law_house.nd rfl (by first | exact .inl rfl | exact .inr rfl) de_int)
    (dss_cons (ds_if (dt_gt (do_sl (pv 2)) (do_ev de_int))
    (dss_one (ds_asg (i := 12) sc__law_house.nd rfl (by first | exact .inl rfl | exact .inr rfl) (de_min rfl rfl (g_min S) (dos_cons (do_ev de_int) (dos_cons (do_sl (pv 7)) dos_nil)))))
    dss_nil)
    (dss_cons (ds_if (dt_tru (do_sl (pv 8)))
    (dss_one (ds_asg (i := 12) sc__law_house.nd rfl (by first | exact .inl rfl | exact .inr rfl) (de_min rfl rfl (g_min S) (dos_cons (do_sl (pv 12)) (dos_cons (do_sl (pv 6)) dos_nil)))))
    dss_nil)
    (dss_cons (ds_setLc (i := 13) (own := [("_law_row", 16)]) rfl sc__law_house.nd rfl rfl (sw_true rfl rfl rfl (by decide +kernel)) (di_seq (de_var (pv 5))) (blkOk_by (N := N__law_house) (sc := defScope s__law_house) (own := [("_law_row", 16)]) (by decide +kernel)) rfl (fun _ _ _ _ _ => (dg_name (i := 16) sc__law_house.nd rfl (by first | exact .inl rfl | exact .inr rfl))) (fun _ _ _ _ _ => dts_nil) (fun _ _ _ _ _ => (de_tupleC rfl rfl (g_tuple S) (dos_cons (do_ev (de_lc (own := [("_law_column", 15)]) rfl sc__law_house.nd (di_seqB (pv 11)) (blkOk_by (own := [("_law_column", 15)]) rfl) rfl (fun _ _ _ _ _ => (dg_name (i := 15) sc__law_house.nd rfl (by first | exact .inl rfl | exact .inr rfl))) (fun _ _ _ _ _ => dts_nil) (fun _ _ _ _ _ => (de_ix (do_sl (pv 16)) (do_ev (de_idxL (u65 hr) (do_sl (pv 3)) (dos_cons (do_sl (pv 15)) dos_nil))))))) dos_nil))))
    (dss_cons (ds_if (dt_eq (u64 hr) (do_ev (de_call (c__law_take S) hr (by decide) takes_cx rfl (dcs_cons (da_lent (pv 0)) (dcs_cons (da_val de_int) dcs_nil)))) (do_ev de_int))
    (dss_one (ds_asg (i := 13) sc__law_house.nd rfl (by first | exact .inl rfl | exact .inr rfl) (de_lst df_nil)))
    dss_nil)
    (dss_cons (ds_for owns_cx rfl (di_range1 rfl (g_range S) (dos_cons (do_ev (de_call (c__law_take S) hr (by decide) takes_cx rfl (dcs_cons (da_lent (pv 0)) (dcs_cons (da_val (de_ix (do_ev (de_lst (df_cons (de_add (do_sl (pv 12)) (do_ev de_int)) (df_cons (de_add (do_ev (de_min rfl rfl (g_min S) (dos_cons (do_sl (pv 12)) (dos_cons (do_ev de_int) dos_nil)))) (do_ev de_int)) df_nil)))) (do_ev (de_call (c__law_take S) hr (by decide) takes_cx rfl (dcs_cons (da_lent (pv 0)) (dcs_cons (da_val de_int) dcs_nil)))))) dcs_nil)))) dos_nil)) (dg_name (i := 14) sc__law_house.nd rfl (by first | exact .inl rfl | exact .inr rfl))
    (dss_one (ds_expr (de_append (pv 13) (df_cons (de_tupleC rfl rfl (g_tuple S) (dos_cons (do_ev (de_lc (own := [("_law_column", 15)]) rfl sc__law_house.nd (di_seqB (pv 11)) (blkOk_by (N := N__law_house) (sc := defScope s__law_house) (own := [("_law_column", 15)]) (by decide +kernel)) rfl (fun _ _ _ _ _ => (dg_name (i := 15) sc__law_house.nd rfl (by first | exact .inl rfl | exact .inr rfl))) (fun _ _ _ _ _ => dts_nil) (fun _ _ _ _ _ => (de_call (c__law_value S) hr (by decide) takes0 rfl (dcs_cons (da_lent (pv 0)) (dcs_cons (da_bor (pv 4)) dcs_nil)))))) dos_nil)) df_nil)))))
    (dss_cons (ds_asg (i := 13) sc__law_house.nd rfl (by first | exact .inl rfl | exact .inr rfl) (de_slc (do_ev (de_srtSet rfl (u64 hr) rfl (g_sorted S) rfl (g_set S) (do_sl (pv 13)))) dp_no (dp_op (de_var (pv 12)))))
    (dss_cons (ds_expr (de_append (pv 9) (df_cons (de_tupleC rfl rfl (g_tuple S) (dos_cons (do_sl (pv 13)) dos_nil)) df_nil)))
    (dss_one (ds_asg (i := 7) sc__law_house.nd rfl (by first | exact .inl rfl | exact .inr rfl) (de_fdiv (do_sl (pv 7)) (do_ev (de_max rfl rfl (g_max S) (dos_cons (do_ev de_int) (dos_cons (do_ev (de_len rfl (g_len S) (dos_cons (do_sl (pv 13)) dos_nil))) dos_nil))))))))))))))))
    (dss_one (ds_ret (de_tupleC rfl rfl (g_tuple S) (dos_cons (do_sl (pv 9)) dos_nil))))))))))))
theorem c__law_house {P : Program} {w : World} {K : PySem.W.Frag} {mg : Str → Option Value} {base : Heap} (S : Su K mg base) : Callee P w K mg base 3 "_law_house" m__law_house := by
  obtain ⟨fd, F⟩ := S.says.1.def_ 18 (d := dd "_law_house" s__law_house) rfl
  exact callee_of F sc__law_house (g__law_house S) rfl rfl (F.bindsN fun _ _ _ _ _ _ us hl => match us, hl with | [_, _, _], _ => rfl) fun cdv A outer s H E hr => d__law_house S _ cdv A outer s H E hr
def N__law_great_cover : List Str := ["_law_box_here", "_law_question_here", "_law_times", "_law_more", "_law_parts", "_law_numbers", "_law_number", "_law_one"]
theorem sc__law_great_cover : FnScope N__law_great_cover ["_law_box_here", "_law_question_here"] (defScope s__law_great_cover) := ⟨rfl, rfl, rfl, by decide +kernel, rfl, by decide +kernel, by decide +kernel⟩
theorem d__law_great_cover {P : Program} {w : World} {K : PySem.W.Frag} {mg : Str → Option Value} {base : Heap} (S : Su K mg base) (f : Addr) (cdv : Value) (A : Around) (outer : List PySem.Env) (s : Shared) (H : Hp) (E : XK) (hr : Room 2 (A.deeper (envOfC "_law_great_cover" (defScope s__law_great_cover) s.heap.objs.size f cdv))) :
    DSs (cxF P w K mg base N__law_great_cover "_law_great_cover" (defScope s__law_great_cover) f cdv A outer s H E) (wxF E) (defBody s__law_great_cover) b__law_great_cover :=
    (dss_cons (ds_unp (dg_tup rfl (dgs_cons (dg_name (i := 4) sc__law_great_cover.nd rfl (by first | exact .inl rfl | exact .inr rfl)) (dgs_cons (dg_name (i := 5) sc__law_great_cover.nd rfl (by first | exact .inl rfl | exact .inr rfl)) dgs_nil))) (de_call (c__law_cover S) hr (by decide) takes_cx rfl (dcs_cons (da_lent (pv 0)) (dcs_cons (da_bor (pv 1)) dcs_nil))))
    (dss_cons (ds_asg (i := 2) sc__law_great_cover.nd rfl (by first | exact .inl rfl | exact .inr rfl) (de_add (do_ev de_int) (do_ev (de_call (c__law_take S) hr (by decide) takes_cx rfl (dcs_cons (da_lent (pv 0)) (dcs_cons (da_val (de_ix (do_ev (de_lst (df_cons de_int (df_cons de_int df_nil)))) (do_ev (de_call (c__law_take S) hr (by decide) takes_cx rfl (dcs_cons (da_lent (pv 0)) (dcs_cons (da_val de_int) dcs_nil)))))) dcs_nil))))))
    (dss_cons (ds_setLc (i := 3) (own := [("_law_number", 6)]) rfl sc__law_great_cover.nd rfl rfl (sw_true rfl rfl rfl (by decide +kernel)) (di_seq (de_var (pv 5))) (blkOk_by (N := N__law_great_cover) (sc := defScope s__law_great_cover) (own := [("_law_number", 6)]) (by decide +kernel)) rfl (fun _ _ _ _ _ => (dg_name (i := 6) sc__law_great_cover.nd rfl (by first | exact .inl rfl | exact .inr rfl))) (fun _ _ _ _ _ => dts_nil) (fun _ _ _ _ _ => (de_call (c__law_take S) hr (by decide) takes0 rfl (dcs_cons (da_lent (pv 0)) (dcs_cons (da_val (de_ix (do_ev (de_lst (df_cons de_int (df_cons de_int df_nil)))) (do_ev (de_call (c__law_take S) hr (by decide) takes0 rfl (dcs_cons (da_lent (pv 0)) (dcs_cons (da_val de_int) dcs_nil)))))) dcs_nil)))))
    (dss_one (ds_ret (de_tup (df_cons (de_mul (do_sl (pv 4)) (do_sl (pv 2))) (df_cons (de_tupleC rfl rfl (g_tuple S) (dos_cons (do_ev (de_lc (own := [("_law_number", 6), ("_law_one", 7)]) rfl sc__law_great_cover.nd (di_zipA rfl (g_zip S) (dws_cons (dw_ev (de_var (pv 5))) (dws_cons (dw_ev (de_var (pv 3))) dws_nil))) (blkOk_by (N := N__law_great_cover) (sc := defScope s__law_great_cover) (own := [("_law_number", 6), ("_law_one", 7)]) (by decide +kernel)) rfl (fun _ _ _ _ _ => (dg_tup rfl (dgs_cons (dg_name (i := 6) sc__law_great_cover.nd rfl (by first | exact .inl rfl | exact .inr rfl)) (dgs_cons (dg_name (i := 7) sc__law_great_cover.nd rfl (by first | exact .inl rfl | exact .inr rfl)) dgs_nil)))) (fun _ _ _ _ _ => dts_nil) (fun _ _ _ _ _ => (de_min rfl rfl (g_min S) (dos_cons (do_ev de_int) (dos_cons (do_ev (de_add (do_ev (de_mul (do_sl (pv 6)) (do_sl (pv 2)))) (do_sl (pv 7)))) dos_nil)))))) dos_nil)) df_nil))))))))
theorem c__law_great_cover {P : Program} {w : World} {K : PySem.W.Frag} {mg : Str → Option Value} {base : Heap} (S : Su K mg base) : Callee P w K mg base 3 "_law_great_cover" m__law_great_cover := by
  obtain ⟨fd, F⟩ := S.says.1.def_ 21 (d := dd "_law_great_cover" s__law_great_cover) rfl
  exact callee_of F sc__law_great_cover (g__law_great_cover S) rfl rfl (F.bindsN fun _ _ _ _ _ _ us hl => match us, hl with | [_, _], _ => rfl) fun cdv A outer s H E hr => d__law_great_cover S _ cdv A outer s H E hr
def N__law_any_tables : List Str := ["_law_box_here", "_law_names_here", "_law_pool", "_law_found", "_law_k"]
theorem sc__law_any_tables : FnScope N__law_any_tables ["_law_box_here", "_law_names_here"] (defScope s__law_any_tables) := ⟨rfl, rfl, rfl, by decide +kernel, rfl, by decide +kernel, by decide +kernel⟩
theorem d__law_any_tables {P : Program} {w : World} {K : PySem.W.Frag} {mg : Str → Option Value} {base : Heap} (S : Su K mg base) (f : Addr) (cdv : Value) (A : Around) (outer : List PySem.Env) (s : Shared) (H : Hp) (E : XK) (hr : Room 3 (A.deeper (envOfC "_law_any_tables" (defScope s__law_any_tables) s.heap.objs.size f cdv))) :
    DSs (cxF P w K mg base N__law_any_tables "_law_any_tables" (defScope s__law_any_tables) f cdv A outer s H E) (wxF E) (defBody s__law_any_tables) b__law_any_tables :=
    (dss_cons (ds_asg (i := 2) sc__law_any_tables.nd rfl (by first | exact .inl rfl | exact .inr rfl) (de_slc (do_sl (pv 1)) dp_no (dp_op (de_add (do_ev de_int) (do_ev (de_call (c__law_take S) hr (by decide) takes_cx rfl (dcs_cons (da_lent (pv 0)) (dcs_cons (da_val de_int) dcs_nil))))))))
    (dss_cons (ds_asg (i := 3) sc__law_any_tables.nd rfl (by first | exact .inl rfl | exact .inr rfl) (de_lst df_nil))
    (dss_cons (ds_for owns_cx rfl (di_range1 rfl (g_range S) (dos_cons (do_ev (de_add (do_ev de_int) (do_ev (de_call (c__law_take S) hr (by decide) takes_cx rfl (dcs_cons (da_lent (pv 0)) (dcs_cons (da_val de_int) dcs_nil)))))) dos_nil)) (dg_name (i := 4) sc__law_any_tables.nd rfl (by first | exact .inl rfl | exact .inr rfl))
    (dss_one (ds_expr (de_append (pv 3) (df_cons (de_call (c__law_some_columns S) hr (by decide) takes_cx rfl (dcs_cons (da_lent (pv 0)) (dcs_cons (da_bor (pv 2)) (dcs_cons (da_val (de_add (do_ev de_int) (do_ev (de_call (c__law_take S) hr (by decide) takes_cx rfl (dcs_cons (da_lent (pv 0)) (dcs_cons (da_val (de_min rfl rfl (g_min S) (dos_cons (do_ev de_int) (dos_cons (do_ev (de_len rfl (g_len S) (dos_cons (do_sl (pv 2)) dos_nil))) dos_nil)))) dcs_nil)))))) dcs_nil)))) df_nil)))))
    (dss_one (ds_ret (de_move (pv 3)))))))
theorem c__law_any_tables {P : Program} {w : World} {K : PySem.W.Frag} {mg : Str → Option Value} {base : Heap} (S : Su K mg base) : Callee P w K mg base 4 "_law_any_tables" m__law_any_tables := by
  obtain ⟨fd, F⟩ := S.says.1.def_ 12 (d := dd "_law_any_tables" s__law_any_tables) rfl
  exact callee_of F sc__law_any_tables (g__law_any_tables S) rfl rfl (F.bindsN fun _ _ _ _ _ _ us hl => match us, hl with | [_, _], _ => rfl) fun cdv A outer s H E hr => d__law_any_tables S _ cdv A outer s H E hr
def N__law_ear_tables : List Str := ["_law_box_here", "_law_names_here", "_law_left", "_law_found", "_law_k", "_law_own", "_law_j", "_law_one"]
theorem sc__law_ear_tables : FnScope N__law_ear_tables ["_law_box_here", "_law_names_here"] (defScope s__law_ear_tables) := ⟨rfl, rfl, rfl, by decide +kernel, rfl, by decide +kernel, by decide +kernel⟩
theorem d__law_ear_tables {P : Program} {w : World} {K : PySem.W.Frag} {mg : Str → Option Value} {base : Heap} (S : Su K mg base) (f : Addr) (cdv : Value) (A : Around) (outer : List PySem.Env) (s : Shared) (H : Hp) (E : XK) (hr : Room 3 (A.deeper (envOfC "_law_ear_tables" (defScope s__law_ear_tables) s.heap.objs.size f cdv))) :
    DSs (cxF P w K mg base N__law_ear_tables "_law_ear_tables" (defScope s__law_ear_tables) f cdv A outer s H E) (wxF E) (defBody s__law_ear_tables) b__law_ear_tables :=
    (dss_cons (ds_asg (i := 2) sc__law_ear_tables.nd rfl (by first | exact .inl rfl | exact .inr rfl) (de_listC rfl rfl (g_list S) (dos_cons (do_ev (de_slc (do_sl (pv 1)) dp_no (dp_op de_int))) dos_nil)))
    (dss_cons (ds_asg (i := 3) sc__law_ear_tables.nd rfl (by first | exact .inl rfl | exact .inr rfl) (de_lst df_nil))
    (dss_cons (ds_for owns_cx rfl (di_range1 rfl (g_range S) (dos_cons (do_ev (de_add (do_ev de_int) (do_ev (de_call (c__law_take S) hr (by decide) takes_cx rfl (dcs_cons (da_lent (pv 0)) (dcs_cons (da_val de_int) dcs_nil)))))) dos_nil)) (dg_name (i := 4) sc__law_ear_tables.nd rfl (by first | exact .inl rfl | exact .inr rfl))
    (dss_cons (ds_asg (i := 5) sc__law_ear_tables.nd rfl (by first | exact .inl rfl | exact .inr rfl) (de_lst df_nil))
    (dss_cons (ds_if (dt_gt (do_sl (pv 4)) (do_ev de_int))
    (dss_cons (ds_asg (i := 7) sc__law_ear_tables.nd rfl (by first | exact .inl rfl | exact .inr rfl) (de_ix (do_sl (pv 3)) (do_ev (de_call (c__law_take S) hr (by decide) takes_cx rfl (dcs_cons (da_lent (pv 0)) (dcs_cons (da_bor (pv 4)) dcs_nil))))))
    (dss_one (ds_asg (i := 5) sc__law_ear_tables.nd rfl (by first | exact .inl rfl | exact .inr rfl) (de_listC rfl rfl (g_list S) (dos_cons (do_ev (de_call (c__law_some_columns S) hr (by decide) takes_cx rfl (dcs_cons (da_lent (pv 0)) (dcs_cons (da_bor (pv 7)) (dcs_cons (da_val (de_call (c__law_take S) hr (by decide) takes_cx rfl (dcs_cons (da_lent (pv 0)) (dcs_cons (da_val (de_add (do_ev (de_min rfl rfl (g_min S) (dos_cons (do_ev de_int) (dos_cons (do_ev (de_len rfl (g_len S) (dos_cons (do_sl (pv 7)) dos_nil))) dos_nil)))) (do_ev de_int))) dcs_nil)))) dcs_nil))))) dos_nil)))))
    dss_nil)
    (dss_cons (ds_for owns_cx rfl (di_range1 rfl (g_range S) (dos_cons (do_ev (de_call (c__law_take S) hr (by decide) takes_cx rfl (dcs_cons (da_lent (pv 0)) (dcs_cons (da_val (de_sub (do_ev de_int) (do_ev (de_len rfl (g_len S) (dos_cons (do_sl (pv 5)) dos_nil))))) dcs_nil)))) dos_nil)) (dg_name (i := 6) sc__law_ear_tables.nd rfl (by first | exact .inl rfl | exact .inr rfl))
    (dss_one (ds_if (dt_gt (do_ev (de_len rfl (g_len S) (dos_cons (do_sl (pv 2)) dos_nil))) (do_ev de_int))
    (dss_one (ds_expr (de_append (pv 5) (df_cons (de_pop (pv 2)) df_nil))))
    dss_nil)))
    (dss_cons (ds_if (dt_eq (u64 hr) (do_ev (de_len rfl (g_len S) (dos_cons (do_sl (pv 5)) dos_nil))) (do_ev de_int))
    (dss_one (ds_asg (i := 5) sc__law_ear_tables.nd rfl (by first | exact .inl rfl | exact .inr rfl) (de_if (dt_eq (u64 hr) (do_sl (pv 4)) (do_ev de_int)) (de_lst (df_cons (de_ix (do_sl (pv 1)) (do_ev de_int)) df_nil)) (de_lst (df_cons (de_ix (do_ev (de_ix (do_sl (pv 3)) (do_ev de_int))) (do_ev de_int)) df_nil)))))
    dss_nil)
    (dss_cons (ds_if (DW.dt (dw_and (dt_in (u65 hr) (do_ev (de_ix (do_sl (pv 1)) (do_ev de_int))) (do_sl (pv 5))) (dw_and1 (dt_in (u65 hr) (do_ev (de_ix (do_sl (pv 1)) (do_ev de_int))) (do_sl (pv 2))))))
    (dss_one (ds_expr (de_remL (u65 hr) (pv 2) (dos_cons (do_ev (de_ix (do_sl (pv 1)) (do_ev de_int))) dos_nil))))
    dss_nil)
    (dss_one (ds_expr (de_append (pv 3) (df_cons (de_tupleC rfl rfl (g_tuple S) (dos_cons (do_ev (de_call (c__law_order S) hr (by decide) takes_cx rfl (dcs_cons (da_lent (pv 0)) (dcs_cons (da_bor (pv 5)) dcs_nil)))) dos_nil)) df_nil))))))))))
    (dss_one (ds_ret (de_move (pv 3)))))))
theorem c__law_ear_tables {P : Program} {w : World} {K : PySem.W.Frag} {mg : Str → Option Value} {base : Heap} (S : Su K mg base) : Callee P w K mg base 4 "_law_ear_tables" m__law_ear_tables := by
  obtain ⟨fd, F⟩ := S.says.1.def_ 13 (d := dd "_law_ear_tables" s__law_ear_tables) rfl
  exact callee_of F sc__law_ear_tables (g__law_ear_tables S) rfl rfl (F.bindsN fun _ _ _ _ _ _ us hl => match us, hl with | [_, _], _ => rfl) fun cdv A outer s H E hr => d__law_ear_tables S _ cdv A outer s H E hr
def N__law_ring_tables : List Str := ["_law_box_here", "_law_names_here", "#hp", "_law_many", "_law_ring", "_law_sets", "_law_one", "_law_own", "_law_k", "_law_column"]
theorem sc__law_ring_tables : FnScope N__law_ring_tables ["_law_box_here", "_law_names_here"] (defScope s__law_ring_tables) := ⟨rfl, rfl, rfl, by decide +kernel, rfl, by decide +kernel, by decide +kernel⟩
theorem d__law_ring_tables {P : Program} {w : World} {K : PySem.W.Frag} {mg : Str → Option Value} {base : Heap} (S : Su K mg base) (f : Addr) (cdv : Value) (A : Around) (outer : List PySem.Env) (s : Shared) (H : Hp) (E : XK) (hr : Room 3 (A.deeper (envOfC "_law_ring_tables" (defScope s__law_ring_tables) s.heap.objs.size f cdv))) :
    DSs (cxF P w K mg base N__law_ring_tables "_law_ring_tables" (defScope s__law_ring_tables) f cdv A outer s H E) (wxF E) (defBody s__law_ring_tables) b__law_ring_tables :=
    (dss_cons (ds_asg (i := 3) sc__law_ring_tables.nd rfl (by first | exact .inl rfl | exact .inr rfl) (de_add (do_ev de_int) (do_ev (de_call (c__law_take S) hr (by decide) takes_cx rfl (dcs_cons (da_lent (pv 0)) (dcs_cons (da_val de_int) dcs_nil))))))
    (dss_cons (ds_asg (i := 4) sc__law_ring_tables.nd rfl (by first | exact .inl rfl | exact .inr rfl) (de_slc (do_sl (pv 1)) dp_no (dp_op (de_var (pv 3)))))
    (dss_cons (ds_setLc (i := 5) (own := [("_law_k", 8)]) rfl sc__law_ring_tables.nd rfl rfl (sw_true rfl rfl rfl (by decide +kernel)) (di_range1 rfl (g_range S) (dos_cons (do_sl (pv 3)) dos_nil)) (blkOk_by (N := N__law_ring_tables) (sc := defScope s__law_ring_tables) (own := [("_law_k", 8)]) (by decide +kernel)) rfl (fun _ _ _ _ _ => (dg_name (i := 8) sc__law_ring_tables.nd rfl (by first | exact .inl rfl | exact .inr rfl))) (fun _ _ _ _ _ => dts_nil) (fun _ _ _ _ _ => (de_cell (de_lst (df_cons (de_ix (do_sl (pv 4)) (do_sl (pv 8))) (df_cons (de_ix (do_sl (pv 4)) (do_ev (de_mod (do_ev (de_add (do_sl (pv 8)) (do_ev de_int))) (do_sl (pv 3))))) df_nil))))))
    (dss_cons (ds_if (DW.dt (dw_and (dt_lt (do_sl (pv 3)) (do_ev de_int)) (dw_and1 (dt_eq (u64 hr) (do_ev (de_call (c__law_take S) hr (by decide) takes_cx rfl (dcs_cons (da_lent (pv 0)) (dcs_cons (da_val de_int) dcs_nil)))) (do_ev de_int)))))
    (dss_one (ds_setLc (i := 5) (own := [("_law_one", 6)]) rfl sc__law_ring_tables.nd rfl rfl (sw_true rfl rfl rfl (by decide +kernel)) (di_seq (de_var (pv 4))) (blkOk_by (N := N__law_ring_tables) (sc := defScope s__law_ring_tables) (own := [("_law_one", 6)]) (by decide +kernel)) rfl (fun _ _ _ _ _ => (dg_name (i := 6) sc__law_ring_tables.nd rfl (by first | exact .inl rfl | exact .inr rfl))) (fun _ _ _ _ _ => dts_nil) (fun _ _ _ _ _ => (de_cell (de_lc (own := [("_law_column", 9)]) rfl sc__law_ring_tables.nd (di_seq (de_var (pv 4))) (blkOk_by (own := [("_law_column", 9)]) rfl) rfl (fun _ _ _ _ _ => (dg_name (i := 9) sc__law_ring_tables.nd rfl (by first | exact .inl rfl | exact .inr rfl))) (fun _ _ _ _ _ => (dts_one (dt_ne (u64 hr) (do_sl (pv 9)) (do_sl (pv 6))))) (fun _ _ _ _ _ => (de_var (pv 9))))))))
    dss_nil)
    (dss_cons (ds_if (DW.dt (dw_and (dt_lt (do_sl (pv 3)) (do_ev de_int)) (dw_and1 (dt_eq (u64 hr) (do_ev (de_call (c__law_take S) hr (by decide) takes_cx rfl (dcs_cons (da_lent (pv 0)) (dcs_cons (da_val de_int) dcs_nil)))) (do_ev de_int)))))
    (dss_cons (ds_asg (i := 6) sc__law_ring_tables.nd rfl (by first | exact .inl rfl | exact .inr rfl) (de_ix (do_sl (pv 5)) (do_ev (de_call (c__law_take S) hr (by decide) takes_cx rfl (dcs_cons (da_lent (pv 0)) (dcs_cons (da_bor (pv 3)) dcs_nil))))))
    (dss_one (ds_expr (de_append (pv 5) (df_cons (de_cell (de_listC rfl rfl (g_list S) (dos_cons (do_ev (de_call (c__law_some_columns S) hr (by decide) takes_cx rfl (dcs_cons (da_lent (pv 0)) (dcs_cons (da_cel (de_var (pv 6))) (dcs_cons (da_val (de_add (do_ev de_int) (do_ev (de_call (c__law_take S) hr (by decide) takes_cx rfl (dcs_cons (da_lent (pv 0)) (dcs_cons (da_val de_int) dcs_nil)))))) dcs_nil))))) dos_nil))) df_nil)))))
    dss_nil)
    (dss_cons (ds_if (DW.dt (dw_and (dt_lt (do_sl (pv 3)) (do_ev de_int)) (dw_and (dt_lt (do_ev (de_len rfl (g_len S) (dos_cons (do_dr (de_ix (do_sl (pv 5)) (do_ev de_int))) dos_nil))) (do_ev de_int)) (dw_and1 (dt_eq (u64 hr) (do_ev (de_call (c__law_take S) hr (by decide) takes_cx rfl (dcs_cons (da_lent (pv 0)) (dcs_cons (da_val de_int) dcs_nil)))) (do_ev de_int))))))
    (dss_one (ds_for owns_cx rfl (di_seq (de_slc (do_sl (pv 5)) dp_no (dp_op (de_add (do_ev de_int) (do_ev (de_call (c__law_take S) hr (by decide) takes_cx rfl (dcs_cons (da_lent (pv 0)) (dcs_cons (da_val de_int) dcs_nil)))))))) (dg_name (i := 7) sc__law_ring_tables.nd rfl (by first | exact .inl rfl | exact .inr rfl))
    (dss_one (ds_expr (de_appendC (de_var (pv 7)) (df_cons (de_ix (do_sl (pv 1)) (do_sl (pv 3))) df_nil))))))
    dss_nil)
    (dss_one (ds_ret (de_lc (own := [("_law_own", 7)]) rfl sc__law_ring_tables.nd (di_seq (de_call (c__law_order S) hr (by decide) takes_cx rfl (dcs_cons (da_lent (pv 0)) (dcs_cons (da_bor (pv 5)) dcs_nil)))) (blkOk_by (N := N__law_ring_tables) (sc := defScope s__law_ring_tables) (own := [("_law_own", 7)]) (by decide +kernel)) rfl (fun _ _ _ _ _ => (dg_name (i := 7) sc__law_ring_tables.nd rfl (by first | exact .inl rfl | exact .inr rfl))) (fun _ _ _ _ _ => dts_nil) (fun _ _ _ _ _ => (de_tupleC rfl rfl (g_tuple S) (dos_cons (do_ev (de_call (c__law_order S) hr (by decide) takes0 rfl (dcs_cons (da_lent (pv 0)) (dcs_cons (da_cel (de_var (pv 7))) dcs_nil)))) dos_nil))))))))))))
theorem c__law_ring_tables {P : Program} {w : World} {K : PySem.W.Frag} {mg : Str → Option Value} {base : Heap} (S : Su K mg base) : Callee P w K mg base 4 "_law_ring_tables" m__law_ring_tables := by
  obtain ⟨fd, F⟩ := S.says.1.def_ 14 (d := dd "_law_ring_tables" s__law_ring_tables) rfl
  exact calleeH_of F sc__law_ring_tables (g__law_ring_tables S) rfl rfl (F.bindsN fun _ _ _ _ _ _ us hl => match us, hl with | [_, _], _ => rfl) (by decide) fun cdv A outer s H E hr => d__law_ring_tables S _ cdv A outer s H E hr
def N__law_right : List Str := ["_law_question_here", "_law_house_here", "_law_shares", "_law_drawn", "_law_product_here", "_law_found", "_law_factor", "_law_edge_here", "_law_looks", "_law_parts", "_law_numbers"]
theorem sc__law_right : FnScope N__law_right ["_law_question_here", "_law_house_here", "_law_shares", "_law_drawn"] (defScope s__law_right) := ⟨rfl, rfl, rfl, by decide +kernel, rfl, by decide +kernel, by decide +kernel⟩
theorem d__law_right {P : Program} {w : World} {K : PySem.W.Frag} {mg : Str → Option Value} {base : Heap} (S : Su K mg base) (f : Addr) (cdv : Value) (A : Around) (outer : List PySem.Env) (s : Shared) (H : Hp) (E : XK) (hr : Room 3 (A.deeper (envOfC "_law_right" (defScope s__law_right) s.heap.objs.size f cdv))) :
    DSs (cxF P w K mg base N__law_right "_law_right" (defScope s__law_right) f cdv A outer s H E) (wxF E) (defBody s__law_right) b__law_right_k36 :=
    (dss_cons (ds_unp (dg_tup rfl (dgs_cons (dg_name (i := 9) sc__law_right.nd rfl (by first | exact .inl rfl | exact .inr rfl)) (dgs_cons (dg_name (i := 10) sc__law_right.nd rfl (by first | exact .inl rfl | exact .inr rfl)) dgs_nil))) (de_var (pv 2)))
    (dss_cons (ds_asg (i := 4) sc__law_right.nd rfl (by first | exact .inl rfl | exact .inr rfl) (de_call (c__law_product S) hr (by decide) takes_cx rfl (dcs_cons (da_bor (pv 1)) (dcs_cons (da_bor (pv 10)) dcs_nil))))
    (dss_cons (ds_asg (i := 5) sc__law_right.nd rfl (by first | exact .inl rfl | exact .inr rfl) (de_call (c_most S) hr (by decide) takes_cx rfl (dcs_cons (da_bor (pv 0)) (dcs_cons (da_bor (pv 1)) (dcs_cons (da_val (de_var (pv 2))) dcs_nil)))))
    (dss_cons (ds_if (DW.dt (dw_or (dt_not (dt_val (de_call (c__law_whole S) hr (by decide) takes_cx rfl (dcs_cons (da_bor (pv 5)) dcs_nil)))) (dw_or1 (dt_lt (do_sl (pv 5)) (do_ev de_int)))))
    (dss_one (ds_ret de_bl))
    dss_nil)
    (dss_cons (ds_if (dt_not (dt_lelt (do_ev (de_call (c__law_power S) hr (by decide) takes_cx rfl (dcs_cons (da_bor (pv 5)) (dcs_cons (da_bor (pv 9)) dcs_nil)))) (do_sl (pv 4)) (do_ev (de_call (c__law_power S) hr (by decide) takes_cx rfl (dcs_cons (da_val (de_add (do_sl (pv 5)) (do_ev de_int))) (dcs_cons (da_bor (pv 9)) dcs_nil))))))
    (dss_one (ds_ret de_bl))
    dss_nil)
    (dss_cons (ds_asg (i := 6) sc__law_right.nd rfl (by first | exact .inl rfl | exact .inr rfl) (de_mul (do_ev (de_len rfl (g_len S) (dos_cons (do_ev (de_call (c__law_columns S) hr (by decide) takes_cx rfl (dcs_cons (da_bor (pv 0)) dcs_nil))) dos_nil))) (do_ev (de_len rfl (g_len S) (dos_cons (do_sl (pv 0)) dos_nil)))))
    (dss_cons (ds_asg (i := 7) sc__law_right.nd rfl (by first | exact .inl rfl | exact .inr rfl) (de_call (c__law_edge S) hr (by decide) takes_cx rfl (dcs_cons (da_val (de_mul (do_sl (pv 4)) (do_ev (de_call (c__law_power S) hr (by decide) takes_cx rfl (dcs_cons (da_bor (pv 6)) (dcs_cons (da_bor (pv 9)) dcs_nil)))))) (dcs_cons (da_bor (pv 9)) dcs_nil))))
    (dss_cons (ds_for owns_cx rfl (di_seq (de_lst (df_cons (de_var (pv 7)) (df_cons (de_add (do_sl (pv 7)) (do_ev de_int)) (df_cons de_int (df_cons (de_var (pv 3)) df_nil)))))) (dg_name (i := 8) sc__law_right.nd rfl (by first | exact .inl rfl | exact .inr rfl))
    (dss_one (ds_if (dt_not (dt_val (de_call (c__law_truth S) hr (by decide) takes_cx rfl (dcs_cons (da_val (de_call (c_looks_fit S) hr (by decide) takes_cx rfl (dcs_cons (da_bor (pv 0)) (dcs_cons (da_bor (pv 1)) (dcs_cons (da_val (de_var (pv 2))) (dcs_cons (da_bor (pv 8)) dcs_nil)))))) (dcs_cons (da_val (de_le (do_sl (pv 8)) (do_sl (pv 7)))) dcs_nil)))))
    (dss_one (ds_ret de_bl))
    dss_nil)))
    (dss_one (ds_ret de_bl))))))))))
theorem c__law_right {P : Program} {w : World} {K : PySem.W.Frag} {mg : Str → Option Value} {base : Heap} (S : Su K mg base) : Callee P w K mg base 4 "_law_right" m__law_right_k36 := by
  obtain ⟨fd, F⟩ := S.says.1.def_ 26 (d := dd "_law_right" s__law_right) rfl
  exact callee_of F sc__law_right (g__law_right S) rfl rfl (F.bindsN fun _ _ _ _ _ _ us hl => match us, hl with | [_, _, _, _], _ => rfl) fun cdv A outer s H E hr => d__law_right S _ cdv A outer s H E hr
def N__law_question : List Str := ["_law_box_here", "_law_kind", "_law_way", "_law_columns_here", "_law_tables", "_law_sets"]
theorem sc__law_question : FnScope N__law_question ["_law_box_here", "_law_kind"] (defScope s__law_question) := ⟨rfl, rfl, rfl, by decide +kernel, rfl, by decide +kernel, by decide +kernel⟩
theorem d__law_question {P : Program} {w : World} {K : PySem.W.Frag} {mg : Str → Option Value} {base : Heap} (S : Su K mg base) (f : Addr) (cdv : Value) (A : Around) (outer : List PySem.Env) (s : Shared) (H : Hp) (E : XK) (hr : Room 4 (A.deeper (envOfC "_law_question" (defScope s__law_question) s.heap.objs.size f cdv))) :
    DSs (cxF P w K mg base N__law_question "_law_question" (defScope s__law_question) f cdv A outer s H E) (wxF E) (defBody s__law_question) b__law_question :=
    (dss_cons (ds_par (i := 3) (j := 4) rfl sc__law_question.nd rfl rfl (by decide) rfl rfl (df_cons (de_call (c__law_names S) hr (by decide) takes_cx rfl (dcs_cons (da_lent (pv 0)) (dcs_cons (da_val de_int) dcs_nil))) (df_cons (de_call (c__law_names S) hr (by decide) takes_cx rfl (dcs_cons (da_lent (pv 0)) (dcs_cons (da_val de_int) dcs_nil))) df_nil)) rfl)
    (dss_cons (ds_if (dt_eq (u64 hr) (do_ev (de_call (c__law_take S) hr (by decide) takes_cx rfl (dcs_cons (da_lent (pv 0)) (dcs_cons (da_val de_int) dcs_nil)))) (do_ev de_int))
    (dss_one (ds_asg (i := 4) sc__law_question.nd rfl (by first | exact .inl rfl | exact .inr rfl) (de_call (c__law_order S) hr (by decide) takes_cx rfl (dcs_cons (da_lent (pv 0)) (dcs_cons (da_bor (pv 3)) dcs_nil)))))
    dss_nil)
    (dss_cons (ds_asg (i := 2) sc__law_question.nd rfl (by first | exact .inl rfl | exact .inr rfl) (de_var (pv 1)))
    (dss_cons (ds_if (dt_eq (u64 hr) (do_sl (pv 1)) (do_ev de_int))
    (dss_one (ds_asg (i := 2) sc__law_question.nd rfl (by first | exact .inl rfl | exact .inr rfl) (de_call (c__law_take S) hr (by decide) takes_cx rfl (dcs_cons (da_lent (pv 0)) (dcs_cons (da_val de_int) dcs_nil)))))
    dss_nil)
    (dss_cons (ds_if (dt_eq (u64 hr) (do_sl (pv 2)) (do_ev de_int))
    (dss_one (ds_asg (i := 5) sc__law_question.nd rfl (by first | exact .inl rfl | exact .inr rfl) (de_call (c__law_any_tables S) hr (by decide) takes_cx rfl (dcs_cons (da_lent (pv 0)) (dcs_cons (da_bor (pv 3)) dcs_nil)))))
    (dss_one (ds_if (dt_eq (u64 hr) (do_sl (pv 2)) (do_ev de_int))
    (dss_one (ds_asg (i := 5) sc__law_question.nd rfl (by first | exact .inl rfl | exact .inr rfl) (de_call (c__law_ear_tables S) hr (by decide) takes_cx rfl (dcs_cons (da_lent (pv 0)) (dcs_cons (da_bor (pv 3)) dcs_nil)))))
    (dss_one (ds_asg (i := 5) sc__law_question.nd rfl (by first | exact .inl rfl | exact .inr rfl) (de_call (c__law_ring_tables S) hr (by decide) takes_cx rfl (dcs_cons (da_lent (pv 0)) (dcs_cons (da_bor (pv 3)) dcs_nil))))))))
    (dss_one (ds_ret (de_zipT rfl rfl (g_tuple S) rfl (g_zip S) (dos_cons (do_sl (pv 4)) (dos_cons (do_sl (pv 5)) dos_nil))))))))))
theorem c__law_question {P : Program} {w : World} {K : PySem.W.Frag} {mg : Str → Option Value} {base : Heap} (S : Su K mg base) : Callee P w K mg base 5 "_law_question" m__law_question := by
  obtain ⟨fd, F⟩ := S.says.1.def_ 15 (d := dd "_law_question" s__law_question) rfl
  exact callee_of F sc__law_question (g__law_question S) rfl rfl (F.bindsN fun _ _ _ _ _ _ us hl => match us, hl with | [_, _], _ => rfl) fun cdv A outer s H E hr => d__law_question S _ cdv A outer s H E hr
def N_law : List Str := ["_law_script", "_law_some", "_law_k", "_law_box_here", "_law_question_here", "_law_house_here", "_law_shares", "_law_drawn"]
theorem sc_law : FnScope N_law ["_law_script"] (defScope s_law) := ⟨rfl, rfl, rfl, by decide +kernel, rfl, by decide +kernel, by decide +kernel⟩
theorem d_law {P : Program} {w : World} {K : PySem.W.Frag} {mg : Str → Option Value} {base : Heap} (S : Su K mg base) (f : Addr) (cdv : Value) (A : Around) (outer : List PySem.Env) (s : Shared) (H : Hp) (E : XK) (hr : Room 5 (A.deeper (envOfC "law" (defScope s_law) s.heap.objs.size f cdv))) :
    DSs (cxF P w K mg base N_law "law" (defScope s_law) f cdv A outer s H E) (wxF E) (defBody s_law) b_law_k36 :=
    (dss_cons (ds_asg (i := 1) sc_law.nd rfl (by first | exact .inl rfl | exact .inr rfl) (de_lst df_nil))
    (dss_cons (ds_for owns_cx rfl (di_range1 rfl (g_range S) (dos_cons (do_ev de_int) dos_nil)) (dg_name (i := 2) sc_law.nd rfl (by first | exact .inl rfl | exact .inr rfl))
    (dss_cons (ds_asg (i := 3) sc_law.nd rfl (by first | exact .inl rfl | exact .inr rfl) (de_call (c__law_box S) hr (by decide) takes_cx rfl (dcs_cons (da_bor (pv 0)) (dcs_cons (da_bor (pv 2)) dcs_nil))))
    (dss_cons (ds_asg (i := 4) sc_law.nd rfl (by first | exact .inl rfl | exact .inr rfl) (de_call (c__law_question S) hr (by decide) takes_cx rfl (dcs_cons (da_lent (pv 3)) (dcs_cons (da_val de_int) dcs_nil))))
    (dss_cons (ds_asg (i := 5) sc_law.nd rfl (by first | exact .inl rfl | exact .inr rfl) (de_call (c__law_house S) hr (by decide) takes_cx rfl (dcs_cons (da_lent (pv 3)) (dcs_cons (da_bor (pv 4)) (dcs_cons (da_val de_int) dcs_nil)))))
    (dss_one (ds_expr (de_append (pv 1) (df_cons (de_tup (df_cons (de_var (pv 4)) (df_cons (de_var (pv 5)) (df_cons (de_call (c__law_great_cover S) hr (by decide) takes_cx rfl (dcs_cons (da_lent (pv 3)) (dcs_cons (da_bor (pv 4)) dcs_nil))) (df_cons (de_call (c__law_take S) hr (by decide) takes_cx rfl (dcs_cons (da_lent (pv 3)) (dcs_cons (da_val (de_pow (do_ev de_int) (do_ev de_int))) dcs_nil))) df_nil))))) df_nil))))))))
    (dss_cons (ds_for owns_cx rfl (di_seq (de_add (do_sl (pv 1)) (do_ev (de_slc (do_sl (pv 1)) dp_no (dp_op de_int))))) (dg_tup rfl (dgs_cons (dg_name (i := 4) sc_law.nd rfl (by first | exact .inl rfl | exact .inr rfl)) (dgs_cons (dg_name (i := 5) sc_law.nd rfl (by first | exact .inl rfl | exact .inr rfl)) (dgs_cons (dg_name (i := 6) sc_law.nd rfl (by first | exact .inl rfl | exact .inr rfl)) (dgs_cons (dg_name (i := 7) sc_law.nd rfl (by first | exact .inl rfl | exact .inr rfl)) dgs_nil)))))
    (dss_one (ds_if (dt_not (dt_val (de_call (c__law_right S) hr (by decide) takes_cx rfl (dcs_cons (da_bor (pv 4)) (dcs_cons (da_bor (pv 5)) (dcs_cons (da_val (de_var (pv 6))) (dcs_cons (da_val (de_var (pv 7))) dcs_nil)))))))
    (dss_one (ds_ret de_bl))
    dss_nil)))
    (dss_one (ds_ret de_bl)))))
theorem facts {w : World} {K : PySem.W.Frag} {h : Heap} {mg : Str → Option Value} {fa_ : Addr} (X : K.In h) (G : h.Ns mainGlobals mg) (hfa : mg ("law" : Str) = some (.ref fa_)) (c : SaysZ fa fn K) :
    ∃ fd : FuncData, (∀ (s : Shared) (v : Value), BindsTo s fd ⟨[v], []⟩ [("_law_script", v)]) ∧ ∀ base : Heap, K.In base → base.Ns mainGlobals mg → FnOk RWL.prog w K mg base (L2.CX RWL.prog w) 6 fa_ fd ["_law_script"] (spD mg m_law_k36) := by
  obtain ⟨fd, F⟩ := c.1.def_ 27 (d := dd "law" s_law) rfl
  have e := hfa.symm.trans (g_law ⟨c, X, G⟩)
  cases e
  have b := FunD.bindsA (ps := ["_law_script"]) F fun _ _ _ _ _ _ us hl => match us, hl with | [_], _ => rfl
  exact ⟨fd, fun s v => b s [v] rfl, fun base kb nb => fnok_of F sc_law rfl rfl fun cdv A outer s H E hr => d_law ⟨c, kb, nb⟩ _ cdv A outer s H E hr⟩
theorem holds_of (truth : ∀ ns : List Int, ns.length ≤ 63 → ∃ ps', m_law_k36 [.frz (.scr ns)] = some (.ret (.frz (.bl true)) ps')) : RWL.Holds := by
  open PySem.W PySem.Calls in
  w_on; o_law
  refine HandSHeadRun.head_any (r := OpenLaw.row RWL) (q := view (OpenLaw.row RWL).prog [33]) (H := hk) (ob := ob) (M := 3000) (loose := loose) (d := HandSHeadRun.topDef (OpenLaw.row RWL).prog 33) (kwd := []) ob_eq
    (by kernel_rfl) (fun s => by kernel_rfl) run (by kernel_rfl) (by kernel_rfl) (by kernel_rfl) (by rfl) (by first | assumption | decide +kernel) (by decide +kernel) ⟨rfl, rfl, rfl, rfl, rfl, by decide +kernel⟩ ?hw ?hc
  case hw => w_witness2
  case hc =>
    refine Dz.walk_ofC (l := RWL) (n := 63) (k := 6) (x := "_law_script") rfl (by decide) (by kernel_rfl) ⟨rfl, by decide, by decide⟩ ?F
    intro w mg fa_ h Y G hmg0
    obtain ⟨K, KX, c⟩ := Y
    have hmg : mg ("law" : PySem.Str) = some (.ref fa_) := by
      have e : (HandSHeadRun.topDef (OpenLaw.row RWL).prog 33).name = ("law" : PySem.Str) := by kernel_rfl
      rw [← e]
      exact hmg0
    obtain ⟨fd, hb, hF⟩ := facts (w := w) KX G hmg c
    exact ⟨K, fd, spD mg m_law_k36, KX, hb, fun H a ns hl hS => law_says hS c.2 (truth ns hl), hF⟩
end Lw
theorem PySem.Challenge.cw_mostrows_k36_most_by_covers_holds : PySem.Challenge.rw_mostrows_k36_most_by_covers.Holds := by
  exact Lw.holds_of fun ns hl => Dz.law_ok ns
