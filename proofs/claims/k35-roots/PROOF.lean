import PyProof.Rows.All
import Wide.All
import OpenK.AllK
import Wide.FinOn
import KE.KStateDown
import HandS.ForMost
import HandS.TupAny
import HandS.Exc
import HandS.WordsExc
import HandS.Defaults
import HandS.Deep
import HandS.Zip
import HandS.IsInst
import HandS.Wide
import HandS.TupLe
import HandS.Strs
import HandS.CallSlots
import HandS.ExcOwn
import HandS.TupLen
import HandS.HeadEnd
import HandS.HeadHook1
import HandS.HeadHook2
import HandS.Head1
import HandS.Head2
import HandS.Head0
import HandS.Base
import HandS.Call
import HandS.Ends
import HandS.More
import HandS.Words
import PySem.Challenge.RW_mostrows_k35_roots
set_option Elab.async false
set_option linter.all false
set_option maxRecDepth 100000
set_option maxHeartbeats 0
/-! Dz 0: tuples whose very object is known (it has no dict of its own): their methods may be called. -/
namespace Dz
open PySem PySem.Spec PyProof.Rows L2 HT
def TupZ (H : Hp) (a : Addr) (vs : List V) : Prop := ∃ o : Obj, H a = some (.frz o (.tup vs)) ∧ o.dict = none
theorem TupZ.sq {K : PySem.W.Frag} {H : Hp} {a : Addr} {vs : List V} (h : TupZ H a vs) : SqT K H a vs := by
  obtain ⟨o, e, _⟩ := h
  exact .inl (.inr ⟨o, e⟩)
theorem TupZ.trk {H : Hp} {a : Addr} {vs : List V} (h : TupZ H a vs) : H a ≠ none := by
  obtain ⟨o, e, _⟩ := h
  rw [e]
  simp
/-- what a new tuple brings -/
abbrev NewT (H : Hp) (vs : List V) (Q : VK) : Prop := ∀ (p : Addr) (o : Obj), H p = none → o.dict = none → Q (.ref p) (upd H p (.frz o (.tup vs)))
section
variable {X : Cx} {pins : List (Addr × Obj)} {σ : L2.St} {H : Hp} {s : Shared}
theorem laidT {h' : Heap} {vs : List V} {its : List Value} (I : Inv X pins σ H { s with heap := h' }) (r : Vals vs its) (hz : vs.length ≤ sizeLine) :
    Inv X pins σ (upd H h'.objs.size (.frz { cls := .type "tuple", data := .seq its.toArray } (.tup vs))) { s with heap := h'.push { cls := .type "tuple", data := .seq its.toArray } } :=
  I.laid (t' := s.toks) (fun b o e => Heap.get?_push_of_some _ e) (Nat.le_refl _) ⟨Heap.get?_push_size _ rfl, hz, its, r, IsTup.new _ _⟩
variable {es : List Expr} {t : TA} {pos : Pos}
def tTupZ (t : TA) : TE := fun σ H Q => t σ H fun xs H1 => xs.length ≤ sizeLine ∧ NewT H1 xs Q
theorem pe_tupZ {x1} (h : PA X es t) : PE X (.Tuple es x1 pos) (tTupZ t) := by
  refine ⟨fun pins s σ H Q I hq => ?_⟩
  refine wpAny_Tuple_spliced (thn (h.run pos pins s σ H _ I hq) fun us s1 ⟨xs, H1, I1, r, z, q⟩ => ⟨by rw [← r.length]; exact z, ?_⟩)
  exact ⟨.ref s1.heap.objs.size, _, laidT I1 r z, rfl, q _ _ (I1.hok.fresh (Nat.le_refl _)) rfl⟩
/-- tuple(x): of a list a new one; a tuple is itself -/
theorem call_tupleZ : CallR X (.type "tuple") (fun xs H Q => ∃ p ys, xs = [.ref p] ∧ ((SqL X.K H p ys ∧ NewT H ys Q) ∨ (SqT X.K H p ys ∧ Q (.ref p) H))) := by
  intro pins s σ H xs us Q I r h
  obtain ⟨p, ys, rfl, h⟩ := h
  obtain ⟨u, rfl, rx⟩ := vals1 r
  cases rx
  rcases h with ⟨hq, q⟩ | ⟨hq, q⟩
  · obtain ⟨its, r', pl, hz⟩ := I.list hq
    refine call_tuple_list pl.isList (fun h' kp => ?_) (by simp only [List.size_toArray]; have := r'.length; omega)
    have I1 : Inv X pins σ H { s with heap := h' } := I.kept (t' := s.toks) kp
    exact ⟨.ref h'.objs.size, _, laidT I1 r' hz, rfl, q _ _ (I1.hok.fresh (Nat.le_refl _)) rfl⟩
  · obtain ⟨its, r', pl, hz⟩ := I.tuple hq
    exact call_tuple_same pl ⟨.ref p, H, I, rfl, q⟩
theorem vnil {xs : List V} {us : List Value} (r : Vals xs us) : us = [] ↔ xs = [] := by
  cases r with
  | nil => simp
  | cons _ _ => simp
/-- t + u -/
def rCatZ (K : PySem.W.Frag) : R2 := fun x y H Q => ∃ a b xs ys, x = .ref a ∧ y = .ref b ∧ SqT K H a xs ∧ SqT K H b ys ∧ xs.length + ys.length ≤ sizeLine ∧
  (xs = [] → Q (.ref b) H) ∧ (xs ≠ [] → ys = [] → Q (.ref a) H) ∧ (xs ≠ [] → ys ≠ [] → NewT H (xs ++ ys) Q)
theorem op_catZ : OpR X (binaryOp .Add) (rCatZ X.K) := by
  intro pins s σ H x y v u Q I rx ry h
  obtain ⟨a, b, xs, ys, rfl, rfl, ha, hb, hz, q0, q1, q2⟩ := h
  cases rx
  cases ry
  obtain ⟨its, r1, p1, _⟩ := I.tuple ha
  obtain ⟨its2, r2, p2, _⟩ := I.tuple hb
  by_cases hx : xs = []
  · subst hx
    cases r1
    exact cat_tup0 p1 p2 ⟨.ref b, H, I, rfl, q0 rfl⟩
  · refine HT.cat_tup p1 p2 (fun z => hx ((vnil r1).mp z)) (fun z => ⟨.ref a, H, I, rfl, q1 hx ((vnil r2).mp z)⟩) (fun z => ?_) (by rw [← r1.length, ← r2.length]; exact hz)
    exact ⟨.ref s.heap.objs.size, _, laidT I (r1.append r2) (by rw [List.length_append]; exact hz), rfl, q2 hx (fun w => z ((vnil r2).mpr w)) _ _ (I.hok.fresh (Nat.le_refl _)) rfl⟩
/-- t[lo:hi]: the whole of it is t itself -/
def rSlZ (K : PySem.W.Frag) : V → Option Int → Option Int → Hp → VK → Prop := fun x lo hi H Q => ∃ a xs, x = .ref a ∧ SqT K H a xs ∧
  (HT.sIx xs.length 0 lo = 0 ∧ HT.sIx xs.length xs.length hi = xs.length → Q (.ref a) H) ∧ (¬ (HT.sIx xs.length 0 lo = 0 ∧ HT.sIx xs.length xs.length hi = xs.length) → NewT H (cutV xs lo hi) Q)
theorem cut_vals {xs : List V} {us : List Value} (r : Vals xs us) (i k : Nat) : Vals ((xs.drop i).take k) ((us.drop i).take k) := (r.drop i).take k
theorem sl_tupZ : SlR X (rSlZ X.K) := by
  intro pins s σ H x v vl vu lo hi sl Q I rx hs pl pu h
  obtain ⟨a, xs, rfl, hx, q1, q2⟩ := h
  cases rx
  obtain ⟨its, r, ht, hz⟩ := I.tuple hx
  have hlen : its.toArray.size = xs.length := by rw [List.size_toArray]; exact r.length.symm
  refine ⟨"tuple", _, PyProof.Rows.slot_tuple_getitem.lookup, ht.typeIs, ?_⟩
  by_cases hw : HT.sIx xs.length 0 lo = 0 ∧ HT.sIx xs.length xs.length hi = xs.length
  · exact getItem_tuple_whole ht hs pl pu (by rw [hlen]; exact hw) ⟨.ref a, H, I, rfl, q1 hw⟩
  · refine HT.getItem_tuple_cut ht hs pl pu (by rw [hlen]; exact hw) ?_ (by rw [hlen]; exact hz)
    have e : (its.toArray.toList.drop (HT.sIx its.toArray.size 0 lo)).take (HT.sIx its.toArray.size its.toArray.size hi - HT.sIx its.toArray.size 0 lo) = (its.drop (HT.sIx xs.length 0 lo)).take (HT.sIx xs.length xs.length hi - HT.sIx xs.length 0 lo) := by rw [hlen]
    rw [e]
    exact ⟨.ref s.heap.objs.size, _, laidT I (cut_vals r _ _) (Nat.le_trans (cutV_length xs lo hi) hz), rfl, q2 hw _ _ (I.hok.fresh (Nat.le_refl _)) rfl⟩
end
section
variable {X : Cx} {o e : Expr} {es : List Expr} {to : TE} {t : TA} {name : Str} {apos cpos : Pos} {id : String} {r : V → List V → Hp → VK → Prop}
/-- a method of a tuple -/
def tTM (r : V → List V → Hp → VK → Prop) (to : TE) (t : TA) : TE := fun σ H Q => to σ H fun x H1 => (∃ a vs, x = .ref a ∧ TupZ H1 a vs) ∧ t σ H1 fun xs H2 => r x xs H2 Q
theorem tupZ_is {pins : List (Addr × Obj)} {σ : L2.St} {H : Hp} {s : Shared} (I : Inv X pins σ H s) {a : Addr} {vs : List V} (h : TupZ H a vs) : s.TypeIs (.ref a) "tuple" ∧ ∀ b, Value.ref a = .ref b → ∃ ob, s.heap.get? b = some ob ∧ ob.dict = none := by
  obtain ⟨o, e, d⟩ := h
  obtain ⟨e1, _, its, r, ob, e2, c, _⟩ := I.hok a _ e
  rw [e1] at e2
  cases e2
  exact ⟨⟨o, e1, c⟩, fun b q => by cases q; exact ⟨o, e1, d⟩⟩
theorem pe_tm (slot : Slot "tuple" name id) (hty : typeOf (.builtin id) = pure (.type "method_descriptor")) (hm : MtR X id r) (ho : PE X o to) (ha : PA X (e :: es) t)
    (hbase : attributeBase o name X.env (eval o X.env) = eval o X.env := by rfl)
    (hfew : ((backTo cpos (starEach (e :: es) X.env)).all (fun x => !x.1) && (backToKw cpos (keywordEach [] X.env)).all (fun x => x.1.isSome)
      && decide ((e :: es).length + ([] : List Keyword).length + (if ([] : List Keyword).isEmpty then 0 else 1) < 30)) = true := by rfl)
    (hline : (apos.endLine == cpos.line) = true := by rfl) (hs : starEach (e :: es) X.env = (false, eval e X.env) :: starEach es X.env := by rfl) (hplain : (backTo cpos (starEach es X.env)).any (·.1) = false := by rfl) :
    PE X (.Call (.Attribute o name apos) (e :: es) [] cpos) (tTM r to t) := by
  refine ⟨fun pins s σ H Q I h => ?_⟩
  refine wpAny_Call_method_late hbase hfew hline rfl (thn (ho.run pins s σ H _ I h) fun v s1 ⟨x, H1, I1, r1, ⟨a, vs, ex, z⟩, q1⟩ => ?_)
  subst ex
  cases r1
  obtain ⟨h1, h2⟩ := tupZ_is I1 z
  refine ⟨"tuple", id, PySem.F.plainAttrs_tuple, slot, hty, h1, h2, ?_⟩
  have hA := ha.run cpos pins s1 σ H1 _ I1 q1
  rw [hs] at hA ⊢
  refine Calls.callWith_builtin (by show (false || (backTo cpos (starEach es X.env)).any (·.1)) = false; rw [hplain] <;> rfl) (Calls.evalArgs_plain ?_)
  exact thn hA fun us s2 ⟨ws, H2, I2, r2, q2⟩ => hm pins s2 σ H2 (V.ref a) ws (Value.ref a) us Q I2 rfl r2 q2
end
end Dz
/-! Dz 1: data trees, what stands for them in the abstract heap, environments, readings on data. -/
namespace Dz
open PySem PySem.Spec PyProof.Rows L2

/-- data: what a program's value is, as a tree -/
inductive D where
  | non | bl (b : Bool) | int (i : Int) | str (s : Str)
  | tup (xs : List D) | lst (xs : List D)
  | dK (ks : List Key) (vs : List D) | dT (ks : List (List Key)) (vs : List D)
  | scr (ns : List Int) | tpl (xs : List D)
instance : Inhabited D := ⟨.non⟩

abbrev AP := Addr → Prop
/-- either -/
def Eo (N M : AP) : AP := fun a => N a ∨ M a
/-- one more -/
def Pl (N : AP) (b : Addr) : AP := fun a => N a ∨ a = b

mutual
/-- v stands for d; none of the objects at N is part of it -/
def Rep (N : AP) (H : Hp) : D → V → Prop
  | .non, v => v = .non
  | .bl b, v => v = .bl b
  | .int i, v => v = .int i
  | .str s, v => v = .str s
  | .scr ns, v => ∃ a, v = .ref a ∧ Rd H a (.lst (ns.map V.int)) ∧ ¬ N a
  | .tup ds, v => ∃ a vs, v = .ref a ∧ TupZ H a vs ∧ ¬ N a ∧ Reps N H ds vs
  | .tpl ds, v => ∃ a vs, v = .ref a ∧ H a = some (.tup vs) ∧ ¬ N a ∧ Reps N H ds vs
  | .lst ds, v => ∃ a vs, v = .ref a ∧ H a = some (.lst vs) ∧ ¬ N a ∧ Reps N H ds vs
  | .dK ks ds, v => ∃ a kvs, v = .ref a ∧ H a = some (.dK kvs) ∧ ¬ N a ∧ kvs.map (·.1) = ks ∧ Reps N H ds (kvs.map (·.2))
  | .dT ks ds, v => ∃ a kvs, v = .ref a ∧ H a = some (.dT kvs) ∧ ¬ N a ∧ kvs.map (·.1) = ks ∧ Reps N H ds (kvs.map (·.2))
def Reps (N : AP) (H : Hp) : List D → List V → Prop
  | [], vs => vs = []
  | d :: ds, vs => ∃ v r, vs = v :: r ∧ Rep N H d v ∧ Reps N H ds r
end

theorem rd_keep {N : AP} {H H' : Hp} {a : Addr} {u : HO} (hk : ∀ a o, H a = some o → ¬ N a → H' a = some o) (h : Rd H a u) (n : ¬ N a) : Rd H' a u := by
  rcases h with h | ⟨o, h⟩
  · exact .inl (hk a _ h n)
  · exact .inr ⟨o, hk a _ h n⟩
theorem TupZ.keep {N : AP} {H H' : Hp} {a : Addr} {vs : List V} (hk : ∀ a o, H a = some o → ¬ N a → H' a = some o) (h : TupZ H a vs) (n : ¬ N a) : TupZ H' a vs := by
  obtain ⟨o, e, d⟩ := h
  exact ⟨o, hk a _ e n, d⟩
theorem rd_trk {H : Hp} {a : Addr} {u : HO} (h : Rd H a u) : H a ≠ none := by
  rcases h with h | ⟨o, h⟩ <;> rw [h] <;> simp
theorem nn {N N' : AP} {H : Hp} {a : Addr} (hN : ∀ a, N' a → N a ∨ H a = none) (n : ¬ N a) (t : H a ≠ none) : ¬ N' a := fun z => by
  rcases hN a z with q | q
  · exact n q
  · exact t q

mutual
theorem Rep.mono {N N' : AP} {H H' : Hp} (hN : ∀ a, N' a → N a ∨ H a = none) (hk : ∀ a o, H a = some o → ¬ N a → H' a = some o) : ∀ (d : D) (v : V), Rep N H d v → Rep N' H' d v
  | .non, _, h => h
  | .bl _, _, h => h
  | .int _, _, h => h
  | .str _, _, h => h
  | .scr _, v, h => by
    obtain ⟨a, e, r, n⟩ := h
    exact ⟨a, e, rd_keep hk r n, nn hN n (rd_trk r)⟩
  | .tup ds, v, h => by
    obtain ⟨a, vs, e, r, n, q⟩ := h
    exact ⟨a, vs, e, r.keep hk n, nn hN n r.trk, Reps.mono hN hk ds vs q⟩
  | .tpl ds, v, h => by
    obtain ⟨a, vs, e, r, n, q⟩ := h
    exact ⟨a, vs, e, hk _ _ r n, nn hN n (by rw [r]; simp), Reps.mono hN hk ds vs q⟩
  | .lst ds, v, h => by
    obtain ⟨a, vs, e, r, n, q⟩ := h
    exact ⟨a, vs, e, hk _ _ r n, nn hN n (by rw [r]; simp), Reps.mono hN hk ds vs q⟩
  | .dK ks ds, v, h => by
    obtain ⟨a, kvs, e, r, n, z, q⟩ := h
    exact ⟨a, kvs, e, hk _ _ r n, nn hN n (by rw [r]; simp), z, Reps.mono hN hk ds _ q⟩
  | .dT ks ds, v, h => by
    obtain ⟨a, kvs, e, r, n, z, q⟩ := h
    exact ⟨a, kvs, e, hk _ _ r n, nn hN n (by rw [r]; simp), z, Reps.mono hN hk ds _ q⟩
theorem Reps.mono {N N' : AP} {H H' : Hp} (hN : ∀ a, N' a → N a ∨ H a = none) (hk : ∀ a o, H a = some o → ¬ N a → H' a = some o) : ∀ (ds : List D) (vs : List V), Reps N H ds vs → Reps N' H' ds vs
  | [], _, h => h
  | d :: ds, vs, h => by
    obtain ⟨v, r, e, p, q⟩ := h
    exact ⟨v, r, e, Rep.mono hN hk d v p, Reps.mono hN hk ds r q⟩
end
theorem Rep.less {N N' : AP} {H : Hp} {d : D} {v : V} (h : Rep N H d v) (hN : ∀ a, N' a → N a) : Rep N' H d v := Rep.mono (fun a z => .inl (hN a z)) (fun _ _ e _ => e) d v h
theorem Reps.less {N N' : AP} {H : Hp} {ds : List D} {vs : List V} (h : Reps N H ds vs) (hN : ∀ a, N' a → N a) : Reps N' H ds vs := Reps.mono (fun a z => .inl (hN a z)) (fun _ _ e _ => e) ds vs h
theorem Reps.length {N : AP} {H : Hp} : ∀ {ds : List D} {vs : List V}, Reps N H ds vs → vs.length = ds.length
  | [], _, h => by rw [show _ = [] from h]; rfl
  | d :: ds, _, ⟨v, r, e, _, q⟩ => by rw [e, List.length_cons, List.length_cons, Reps.length q]
theorem Reps.get {N : AP} {H : Hp} : ∀ {ds : List D} {vs : List V} {i : Nat} {d : D}, Reps N H ds vs → ds[i]? = some d → ∃ v, vs[i]? = some v ∧ Rep N H d v
  | [], _, _, _, _, e => by simp at e
  | d :: ds, _, 0, d', ⟨v, r, e1, p, q⟩, e => by
    simp at e
    subst e
    exact ⟨v, by simp [e1], p⟩
  | d :: ds, _, i + 1, d', ⟨v, r, e1, p, q⟩, e => by
    obtain ⟨u, h1, h2⟩ := Reps.get (i := i) q (by simpa using e)
    exact ⟨u, by simp [e1, h1], h2⟩
theorem Reps.getv {N : AP} {H : Hp} : ∀ {ds : List D} {vs : List V} {i : Nat} {v : V}, Reps N H ds vs → vs[i]? = some v → ∃ d, ds[i]? = some d ∧ Rep N H d v
  | [], _, _, _, h, e => by rw [show _ = [] from h] at e; simp at e
  | d :: ds, _, 0, v', ⟨v, r, e1, p, q⟩, e => by
    subst e1
    simp at e
    subst e
    exact ⟨d, by simp, p⟩
  | d :: ds, _, i + 1, d', ⟨v, r, e1, p, q⟩, e => by
    subst e1
    obtain ⟨u, h1, h2⟩ := Reps.getv (i := i) q (by simpa using e)
    exact ⟨u, by simp [h1], h2⟩
theorem Reps.append {N : AP} {H : Hp} : ∀ {ds es : List D} {vs ws : List V}, Reps N H ds vs → Reps N H es ws → Reps N H (ds ++ es) (vs ++ ws)
  | [], _, _, _, h, k => by rw [show _ = [] from h]; exact k
  | d :: ds, es, _, ws, ⟨v, r, e1, p, q⟩, k => by
    subst e1
    exact ⟨v, r ++ ws, rfl, p, Reps.append q k⟩
theorem Reps.one {N : AP} {H : Hp} {d : D} {v : V} (h : Rep N H d v) : Reps N H [d] [v] := ⟨v, [], rfl, h, rfl⟩
theorem Reps.set {N : AP} {H : Hp} {d : D} {v : V} (h : Rep N H d v) : ∀ {ds : List D} {vs : List V} (i : Nat), Reps N H ds vs → Reps N H (ds.set i d) (vs.set i v)
  | [], _, _, k => by rw [show _ = [] from k]; exact rfl
  | _ :: ds, _, 0, ⟨w, r, e1, p, q⟩ => by subst e1; exact ⟨v, r, rfl, h, q⟩
  | _ :: ds, _, i + 1, ⟨w, r, e1, p, q⟩ => by subst e1; exact ⟨w, _, rfl, p, Reps.set h i q⟩
theorem Reps.take {N : AP} {H : Hp} : ∀ {ds : List D} {vs : List V} (i : Nat), Reps N H ds vs → Reps N H (ds.take i) (vs.take i)
  | _, _, 0, _ => by simp [Reps]
  | [], _, _, k => by rw [show _ = [] from k]; simp [Reps]
  | _ :: ds, _, i + 1, ⟨w, r, e1, p, q⟩ => by subst e1; exact ⟨w, _, rfl, p, Reps.take i q⟩
theorem Reps.drop {N : AP} {H : Hp} : ∀ {ds : List D} {vs : List V} (i : Nat), Reps N H ds vs → Reps N H (ds.drop i) (vs.drop i)
  | _, _, 0, k => by simpa using k
  | [], _, _, k => by rw [show _ = [] from k]; simp [Reps]
  | _ :: ds, _, i + 1, ⟨w, r, e1, p, q⟩ => by subst e1; exact Reps.drop i q

/-- the object at a holds d (its own top apart) -/
def Top (N : AP) (H : Hp) (a : Addr) : D → Prop
  | .lst ds => ∃ vs, H a = some (.lst vs) ∧ Reps N H ds vs
  | .dK ks ds => ∃ kvs, H a = some (.dK kvs) ∧ kvs.map (·.1) = ks ∧ Reps N H ds (kvs.map (·.2))
  | .dT ks ds => ∃ kvs, H a = some (.dT kvs) ∧ kvs.map (·.1) = ks ∧ Reps N H ds (kvs.map (·.2))
  | _ => False
abbrev TopR := Top
theorem Top.r {N : AP} {H : Hp} {a : Addr} {d : D} (h : Top N H a d) : TopR N H a d := h
theorem Top.trk {N : AP} {H : Hp} {a : Addr} {d : D} (h : TopR N H a d) : H a ≠ none := by
  cases d <;> first
    | exact h.elim
    | (obtain ⟨x, e, q⟩ := h; rw [e]; simp)
theorem Top.mono {N N' M : AP} {H H' : Hp} {a : Addr} {d : D} (hN : ∀ a, N' a → N a ∨ H a = none) (hk : ∀ a o, H a = some o → ¬ M a → H' a = some o) (hM : ∀ b, M b → N b) (n : ¬ M a) (h : Top N H a d) : Top N' H' a d := by
  have hk' : ∀ a o, H a = some o → ¬ N a → H' a = some o := fun b o e z => hk b o e fun m => z (hM b m)
  cases d <;> first
    | exact h.elim
    | (obtain ⟨x, e, q⟩ := h; exact ⟨x, hk _ _ e n, Reps.mono hN hk' _ _ q⟩)
    | (obtain ⟨x, e, z, q⟩ := h; exact ⟨x, hk _ _ e n, z, Reps.mono hN hk' _ _ q⟩)
theorem Top.less {N N' : AP} {H : Hp} {a : Addr} {d : D} (hN : ∀ a, N' a → N a) (h : Top N H a d) : Top N' H a d :=
  Top.mono (M := fun _ => False) (fun a z => .inl (hN a z)) (fun _ _ e _ => e) (fun _ z => z.elim) (fun z => z) h
theorem Top.rep {N : AP} {H : Hp} {a : Addr} {d : D} (h : TopR N H a d) (n : ¬ N a) : Rep N H d (.ref a) := by
  cases d <;> first
    | exact h.elim
    | (obtain ⟨x, e, q⟩ := h; exact ⟨a, x, rfl, e, n, q⟩)
/-- a value that is at hand: it stands for d, or its top is a known object's -/
def PRep (N : AP) (H : Hp) (d : D) (v : V) : Prop := Rep N H d v ∨ ∃ a, v = .ref a ∧ TopR N H a d
def PReps (N : AP) (H : Hp) : List D → List V → Prop
  | [], vs => vs = []
  | d :: ds, vs => ∃ v r, vs = v :: r ∧ PRep N H d v ∧ PReps N H ds r
theorem PRep.less {N N' : AP} {H : Hp} {d : D} {v : V} (h : PRep N H d v) (hN : ∀ a, N' a → N a) : PRep N' H d v := by
  rcases h with h | ⟨a, e, h⟩
  · exact .inl (h.less hN)
  · exact .inr ⟨a, e, h.less hN⟩
theorem PReps.less {N N' : AP} {H : Hp} (hN : ∀ a, N' a → N a) : ∀ {ds : List D} {vs : List V}, PReps N H ds vs → PReps N' H ds vs
  | [], _, h => h
  | d :: ds, _, ⟨v, r, e, p, q⟩ => ⟨v, r, e, p.less hN, PReps.less hN q⟩
theorem PRep.int {N : AP} {H : Hp} {i : Int} {v : V} (h : PRep N H (.int i) v) : v = .int i := by
  rcases h with h | ⟨a, e, h⟩
  · exact h
  · exact h.elim
theorem PRep.bl {N : AP} {H : Hp} {i : Bool} {v : V} (h : PRep N H (.bl i) v) : v = .bl i := by
  rcases h with h | ⟨a, e, h⟩
  · exact h
  · exact h.elim
theorem PRep.str {N : AP} {H : Hp} {i : Str} {v : V} (h : PRep N H (.str i) v) : v = .str i := by
  rcases h with h | ⟨a, e, h⟩
  · exact h
  · exact h.elim
theorem PRep.non {N : AP} {H : Hp} {v : V} (h : PRep N H .non v) : v = .non := by
  rcases h with h | ⟨a, e, h⟩
  · exact h
  · exact h.elim
theorem PRep.lst {N : AP} {H : Hp} {ds : List D} {v : V} (h : PRep N H (.lst ds) v) : ∃ a vs, v = .ref a ∧ H a = some (.lst vs) ∧ Reps N H ds vs := by
  rcases h with ⟨a, vs, e, r, _, q⟩ | ⟨a, e, vs, r, q⟩
  · exact ⟨a, vs, e, r, q⟩
  · exact ⟨a, vs, e, r, q⟩
theorem PRep.tup {N : AP} {H : Hp} {ds : List D} {v : V} (h : PRep N H (.tup ds) v) : ∃ a vs, v = .ref a ∧ TupZ H a vs ∧ ¬ N a ∧ Reps N H ds vs := by
  rcases h with h | ⟨a, e, h⟩
  · exact h
  · exact h.elim
theorem PRep.dK {N : AP} {H : Hp} {ks : List Key} {ds : List D} {v : V} (h : PRep N H (.dK ks ds) v) : ∃ a kvs, v = .ref a ∧ H a = some (.dK kvs) ∧ kvs.map (·.1) = ks ∧ Reps N H ds (kvs.map (·.2)) := by
  rcases h with ⟨a, vs, e, r, _, q⟩ | ⟨a, e, vs, r, q⟩
  · exact ⟨a, vs, e, r, q⟩
  · exact ⟨a, vs, e, r, q⟩
theorem PRep.dT {N : AP} {H : Hp} {ks : List (List Key)} {ds : List D} {v : V} (h : PRep N H (.dT ks ds) v) : ∃ a kvs, v = .ref a ∧ H a = some (.dT kvs) ∧ kvs.map (·.1) = ks ∧ Reps N H ds (kvs.map (·.2)) := by
  rcases h with ⟨a, vs, e, r, _, q⟩ | ⟨a, e, vs, r, q⟩
  · exact ⟨a, vs, e, r, q⟩
  · exact ⟨a, vs, e, r, q⟩

/-! ### environments -/
/-- a local name: not set; a value nobody changes any more; an object of this name alone; one lent for reading; one lent for writing -/
inductive Slot where
  | emp | frz (d : D) | own (d : D) | bor (d : D) | lent (d : D)
abbrev Env := List Slot
def Slot.cont : Slot → Option D
  | .emp => none
  | .frz d => some d
  | .own d => some d
  | .bor d => some d
  | .lent d => some d
/-- may be written -/
def Slot.wr : Slot → Bool
  | .own _ => true
  | .lent _ => true
  | _ => false
def sv (σ : L2.St) (i : Nat) : Option V := σ.getD i none
theorem sv_some {σ : L2.St} {i : Nat} {v : V} (h : sv σ i = some v) : σ[i]? = some (some v) := by
  unfold sv at h
  rw [List.getD_eq_getElem?_getD] at h
  cases e : σ[i]? with
  | none => rw [e] at h; simp at h
  | some x => rw [e] at h; simp at h; rw [h]
theorem sv_of {σ : L2.St} {i : Nat} {v : Option V} (h : σ[i]? = some v) : sv σ i = v := by
  unfold sv
  rw [List.getD_eq_getElem?_getD, h]
  rfl
theorem sv_set {σ : L2.St} {i : Nat} (v : Option V) (h : i < σ.length) : sv (σ.set i v) i = v := sv_of (by simp [h])
theorem sv_set_ne {σ : L2.St} {i j : Nat} (v : Option V) (h : i ≠ j) : sv (σ.set i v) j = sv σ j := by
  unfold sv
  rw [List.getD_eq_getElem?_getD, List.getD_eq_getElem?_getD, List.getElem?_set_ne h]
def SlotOk (W B : AP) (H : Hp) (v : Option V) : Slot → Prop
  | .emp => True
  | .frz d => ∃ x, v = some x ∧ Rep (Eo W B) H d x
  | .own d => ∃ a, v = some (.ref a) ∧ W a ∧ Top (Eo W B) H a d
  | .lent d => ∃ a, v = some (.ref a) ∧ W a ∧ Top (Eo W B) H a d
  | .bor d => ∃ a, v = some (.ref a) ∧ B a ∧ TopR (Eo W B) H a d
/-- W: the objects that are ours to write; B: objects that nothing here may change or hand on -/
structure St (W B : AP) (σ : L2.St) (H : Hp) (ρ : Env) : Prop where
  len : σ.length = ρ.length
  slot : ∀ i s, ρ[i]? = some s → SlotOk W B H (sv σ i) s
  dom : ∀ a, W a ∨ B a → H a ≠ none
  dis : ∀ a, W a → B a → False
  apart : ∀ i j s t a, i ≠ j → ρ[i]? = some s → ρ[j]? = some t → s.wr = true → t.wr = true → sv σ i = some (.ref a) → sv σ j = some (.ref a) → False
structure Fr (W : AP) (H : Hp) (W' : AP) (H' : Hp) : Prop where
  keep : ∀ a o, H a = some o → ¬ W a → H' a = some o
  sub : ∀ a, W' a → W a ∨ H a = none
theorem Fr.refl {W : AP} {H : Hp} : Fr W H W H := ⟨fun _ _ e _ => e, fun _ z => .inl z⟩
theorem Fr.less {W W' : AP} {H : Hp} (h : ∀ a, W' a → W a) : Fr W H W' H := ⟨fun _ _ e _ => e, fun a z => .inl (h a z)⟩
theorem Fr.trans {W W1 W2 : AP} {H H1 H2 : Hp} (p : Fr W H W1 H1) (q : Fr W1 H1 W2 H2) : Fr W H W2 H2 := by
  have back : ∀ a o, H a = some o → ¬ W a → ¬ W1 a := fun a o e n z => by
    rcases p.sub a z with k | k
    · exact n k
    · rw [e] at k; cases k
  refine ⟨fun a o e n => q.keep a o (p.keep a o e n) (back a o e n), fun a z => ?_⟩
  rcases q.sub a z with k | k
  · exact p.sub a k
  · cases e : H a with
    | none => exact .inr rfl
    | some o =>
      by_cases n : W a
      · exact .inl n
      · rw [p.keep a o e n] at k; cases k
/-- a new object -/
theorem Fr.new {W : AP} {H : Hp} {p : Addr} {o : HO} (hp : H p = none) : Fr W H W (upd H p o) := ⟨fun a u e _ => by rw [upd_ne (ne_of_none e hp)]; exact e, fun _ z => .inl z⟩
theorem Fr.eo {W W' B : AP} {H H' : Hp} (p : Fr W H W' H') : ∀ a, Eo W' B a → Eo W B a ∨ H a = none := fun a z => by
  rcases z with z | z
  · rcases p.sub a z with k | k
    · exact .inl (.inl k)
    · exact .inr k
  · exact .inl (.inr z)
theorem Fr.keepO {W W' B : AP} {H H' : Hp} (p : Fr W H W' H') : ∀ a o, H a = some o → ¬ Eo W B a → H' a = some o := fun a o e n => p.keep a o e fun z => n (.inl z)
theorem Rep.fr {W W' B : AP} {H H' : Hp} {d : D} {v : V} (h : Rep (Eo W B) H d v) (p : Fr W H W' H') : Rep (Eo W' B) H' d v := Rep.mono p.eo p.keepO d v h
theorem Reps.fr {W W' B : AP} {H H' : Hp} {ds : List D} {vs : List V} (h : Reps (Eo W B) H ds vs) (p : Fr W H W' H') : Reps (Eo W' B) H' ds vs := Reps.mono p.eo p.keepO ds vs h
theorem Top.fr {W W' B : AP} {H H' : Hp} {a : Addr} {d : D} (h : Top (Eo W B) H a d) (p : Fr W H W' H') (n : ¬ W a) : Top (Eo W' B) H' a d := Top.mono p.eo p.keep (fun _ z => .inl z) n h
theorem SlotOk.less {W B B' : AP} {H : Hp} {v : Option V} {s : Slot} (h : SlotOk W B H v s) (hB : ∀ a, B' a → B a) (hb : ∀ d a, s = .bor d → v = some (.ref a) → B' a) : SlotOk W B' H v s := by
  have hE : ∀ a, Eo W B' a → Eo W B a := fun a z => z.elim .inl fun k => .inr (hB a k)
  cases s with
  | emp => trivial
  | frz d => obtain ⟨x, e, r⟩ := h; exact ⟨x, e, r.less hE⟩
  | own d => obtain ⟨a, e, k, r⟩ := h; exact ⟨a, e, k, r.less hE⟩
  | lent d => obtain ⟨a, e, k, r⟩ := h; exact ⟨a, e, k, r.less hE⟩
  | bor d => obtain ⟨a, e, k, r⟩ := h; exact ⟨a, e, hb d a rfl e, r.less hE⟩

/-! ### what comes of an expression -/
inductive R where
  | frz (d : D) | own (d : D)
def R.d : R → D
  | .frz d => d
  | .own d => d
def VOk (W B : AP) (σ : L2.St) (H : Hp) (ρ : Env) (v : V) : R → Prop
  | .frz d => St W B σ H ρ ∧ Rep (Eo W B) H d v
  | .own d => ∃ a, v = .ref a ∧ W a ∧ St W B σ H ρ ∧ Top (Eo W B) H a d ∧ ∀ i s, ρ[i]? = some s → s.wr = true → sv σ i ≠ some (.ref a)
/-- one of ours goes -/
def Mi (W : AP) (a : Addr) : AP := fun b => W b ∧ b ≠ a
/-- an object of ours that no name owns is put aside -/
theorem St.aside {W B B' : AP} {σ : L2.St} {H : Hp} {ρ : Env} {a : Addr} (s : St W B σ H ρ) (wa : W a) (hn : ∀ i s, ρ[i]? = some s → s.wr = true → sv σ i ≠ some (.ref a)) (hB : ∀ b, B b → B' b) (hB' : ∀ b, B' b → B b ∨ b = a) : St (Mi W a) B' σ H ρ := by
  have hE : ∀ b, Eo (Mi W a) B' b → Eo W B b := fun b z => by
    rcases z with ⟨z, _⟩ | z
    · exact .inl z
    · rcases hB' b z with k | k
      · exact .inr k
      · subst k; exact .inl wa
  refine ⟨s.len, fun i t e => ?_, fun b z => s.dom b (hE b z), fun b p q => ?_, s.apart⟩
  · have q := s.slot i t e
    cases t with
    | emp => trivial
    | frz d => obtain ⟨x, e1, r⟩ := q; exact ⟨x, e1, r.less hE⟩
    | own d => obtain ⟨x, e1, w, r⟩ := q; exact ⟨x, e1, ⟨w, fun z => hn i _ e rfl (by rw [e1, z])⟩, r.less hE⟩
    | lent d => obtain ⟨x, e1, w, r⟩ := q; exact ⟨x, e1, ⟨w, fun z => hn i _ e rfl (by rw [e1, z])⟩, r.less hE⟩
    | bor d => obtain ⟨x, e1, w, r⟩ := q; exact ⟨x, e1, hB x w, r.less hE⟩
  · rcases hB' b q with k | k
    · exact s.dis b p.1 k
    · exact p.2 k
theorem St.unpark {W B : AP} {σ : L2.St} {H : Hp} {ρ : Env} {a : Addr} (h : St W (Pl B a) σ H ρ) (hb : ∀ (i : Nat) (d : D), ρ[i]? = some (Slot.bor d) → sv σ i ≠ some (.ref a)) : St W B σ H ρ := by
  refine ⟨h.len, fun i s e => (h.slot i s e).less (fun _ z => .inl z) fun d b es ev => ?_, fun b z => h.dom b (z.elim .inl fun k => .inr (.inl k)), fun b p q => h.dis b p (.inl q), h.apart⟩
  subst es
  obtain ⟨c, e1, k, _⟩ := h.slot i _ e
  rw [ev] at e1
  cases e1
  rcases k with k | k
  · exact k
  · subst k
    exact absurd ev (hb i d e)
theorem VOk.st {W B : AP} {σ : L2.St} {H : Hp} {ρ : Env} {v : V} {r : R} (h : VOk W B σ H ρ v r) : St W B σ H ρ := by
  cases r with
  | frz d => exact h.1
  | own d => obtain ⟨a, _, _, s, _⟩ := h; exact s
/-- as a value that nobody changes any more -/
theorem VOk.any {W B : AP} {σ : L2.St} {H : Hp} {ρ : Env} {v : V} {r : R} (h : VOk W B σ H ρ v r) : ∃ W1, (∀ a, W1 a → W a) ∧ St W1 B σ H ρ ∧ Rep (Eo W1 B) H r.d v := by
  cases r with
  | frz d => exact ⟨W, fun _ z => z, h⟩
  | own d =>
    obtain ⟨a, e, wa, s, t, hn⟩ := h
    subst e
    exact ⟨Mi W a, fun _ z => z.1, s.aside wa hn (fun _ z => z) (fun _ z => .inl z), (t.less fun b z => z.elim (fun k => .inl k.1) .inr).rep fun z => z.elim (fun k => k.2 rfl) (s.dis a wa)⟩
/-- a result, parked while more is done: the sets, the state, what stands for it -/
theorem VOk.park {W B : AP} {σ : L2.St} {H : Hp} {ρ : Env} {v : V} {r : R} (h : VOk W B σ H ρ v r) :
    ∃ W1 B1, (∀ a, W1 a → W a) ∧ St W1 B1 σ H ρ ∧ (∀ a, B a → B1 a) ∧ (∀ W' H' : _, Fr W1 H W' H' → PRep (Eo W' B1) H' r.d v) ∧ (∀ (σ' : L2.St) (ρ' : Env) (H' : Hp) (W' : AP), (∀ (i : Nat) (d : D), ρ'[i]? = some (Slot.bor d) → ρ[i]? = some (Slot.bor d) ∧ sv σ' i = sv σ i) → St W' B1 σ' H' ρ' → St W' B σ' H' ρ') := by
  cases r with
  | frz d => exact ⟨W, B, fun _ z => z, h.1, fun _ z => z, fun W' H' p => .inl (h.2.fr p), fun _ _ _ _ _ s => s⟩
  | own d =>
    obtain ⟨a, e, wa, s, t, hn⟩ := h
    subst e
    have hE : ∀ b, Eo (Mi W a) (Pl B a) b → Eo W B b := fun b z => by
      rcases z with z | z | z
      · exact .inl z.1
      · exact .inr z
      · subst z; exact .inl wa
    refine ⟨Mi W a, Pl B a, fun _ z => z.1, s.aside wa hn (fun _ z => .inl z) (fun _ z => z), fun _ z => .inl z, fun W' H' p => .inr ⟨a, rfl, (t.less hE).fr p fun z => z.2 rfl⟩, fun σ' ρ' H' W' k s' => s'.unpark fun i d e ev => ?_⟩
    obtain ⟨e1, e2⟩ := k i d e
    rw [e2] at ev
    obtain ⟨c, e3, bc, _⟩ := s.slot i _ e1
    rw [ev] at e3
    cases e3
    exact s.dis a wa bc
end Dz
/-! Dz 2: semantic functions; readings; names, constants, operands, displays. -/
namespace Dz
open PySem PySem.Spec PyProof.Rows L2

/-- an exception: its class by name, the field it bears -/
structure Exc where
  cls : Str
  fld : Option (Str × D)
def XRep (mg : Str → Option Value) (N : AP) (H : Hp) (e : Exc) (c : Value) (dd : Option Addr) : Prop :=
  ∃ C, mg e.cls = some (.ref C) ∧ c = .ref C ∧ ∀ x d, e.fld = some (x, d) → ∃ a fs v, dd = some a ∧ ¬ N a ∧ H a = some (.xd fs) ∧ fs.lookup x = some v ∧ Rep N H d v
theorem XRep.less {mg : Str → Option Value} {N N' : AP} {H : Hp} {e : Exc} {c : Value} {dd : Option Addr} (h : XRep mg N H e c dd) (hN : ∀ a, N' a → N a) : XRep mg N' H e c dd := by
  obtain ⟨C, e1, e2, q⟩ := h
  refine ⟨C, e1, e2, fun x d ed => ?_⟩
  obtain ⟨a, fs, v, p1, p2, p3, p4, p5⟩ := q x d ed
  exact ⟨a, fs, v, p1, fun z => p2 (hN a z), p3, p4, p5.less hN⟩

inductive Res (α : Type) where
  | ok (a : α) (ρ : Env) | err (e : Exc) (ρ : Env)
def Res.env {α : Type} : Res α → Env
  | .ok _ ρ => ρ
  | .err _ ρ => ρ
abbrev M (α : Type) := Env → Option (Res α)
def mbind {α β : Type} (f : M α) (g : α → M β) : M β := fun ρ =>
  match f ρ with
  | none => none
  | some (.err e ρ') => some (.err e ρ')
  | some (.ok a ρ') => g a ρ'
def mret {α : Type} (a : α) : M α := fun ρ => some (.ok a ρ)
def mopt {α : Type} (o : Option α) : M α := fun ρ =>
  match o with
  | some a => some (.ok a ρ)
  | none => none
/-- what no semantic function changes: names lent stay lent, nothing comes to be borrowed -/
structure Evo (ρ ρ' : Env) : Prop where
  len : ρ'.length = ρ.length
  bor : ∀ (i : Nat) (d : D), ρ'[i]? = some (Slot.bor d) → ρ[i]? = some (Slot.bor d)
  lent : ∀ (i : Nat) (d : D), ρ[i]? = some (Slot.lent d) → ∃ d', ρ'[i]? = some (Slot.lent d')
  tnel : ∀ (i : Nat) (d : D), ρ'[i]? = some (Slot.lent d) → ∃ d', ρ[i]? = some (Slot.lent d')
theorem Evo.refl (ρ : Env) : Evo ρ ρ := ⟨rfl, fun _ _ e => e, fun _ d e => ⟨d, e⟩, fun _ d e => ⟨d, e⟩⟩
theorem Evo.trans {ρ ρ1 ρ2 : Env} (p : Evo ρ ρ1) (q : Evo ρ1 ρ2) : Evo ρ ρ2 :=
  ⟨q.len.trans p.len, fun i d e => p.bor i d (q.bor i d e), fun i d e => let ⟨d1, e1⟩ := p.lent i d e; q.lent i d1 e1, fun i d e => let ⟨d1, e1⟩ := q.tnel i d e; p.tnel i d1 e1⟩
/-- a slot that is neither borrowed nor lent gets one that is neither -/
theorem Evo.set {ρ : Env} {i : Nat} {s t : Slot} (e : ρ[i]? = some s) (hs : ∀ d, s ≠ .lent d) (ht : ∀ d, t ≠ .lent d) (hb : ∀ d, t ≠ .bor d) : Evo ρ (ρ.set i t) := by
  have hi : i < ρ.length := (List.getElem?_eq_some_iff.mp e).1
  refine ⟨by simp, fun j d k => ?_, fun j d k => ?_, fun j d k => ?_⟩
  · by_cases q : i = j
    · subst q; rw [List.getElem?_set_self hi] at k; exact absurd (Option.some.inj k) (hb d)
    · rw [List.getElem?_set_ne q] at k; exact k
  · by_cases q : i = j
    · subst q; rw [e] at k; exact absurd (Option.some.inj k) (hs d)
    · exact ⟨d, by rw [List.getElem?_set_ne q]; exact k⟩
  · by_cases q : i = j
    · subst q; rw [List.getElem?_set_self hi] at k; exact absurd (Option.some.inj k) (ht d)
    · rw [List.getElem?_set_ne q] at k; exact ⟨d, k⟩
def EvoF {α : Type} (f : M α) : Prop := ∀ ρ o, f ρ = some o → Evo ρ o.env
theorem evo_ret {α : Type} (a : α) : EvoF (mret a) := fun ρ o e => by cases e; exact .refl ρ
theorem evo_opt {α : Type} (o : Option α) : EvoF (mopt o) := fun ρ r e => by
  cases o with
  | none => cases e
  | some a => cases e; exact .refl ρ
theorem evo_bind {α β : Type} {f : M α} {g : α → M β} (hf : EvoF f) (hg : ∀ a, EvoF (g a)) : EvoF (mbind f g) := fun ρ o e => by
  unfold mbind at e
  cases q : f ρ with
  | none => rw [q] at e; cases e
  | some r =>
    rw [q] at e
    have h1 := hf ρ r q
    cases r with
    | err x ρ' => cases e; exact h1
    | ok a ρ' => exact h1.trans (hg a ρ' o e)

section
variable {mg : Str → Option Value} {Wx : WX} {W B : AP} {σ : L2.St} {H : Hp} {α β : Type}
def After (mg : Str → Option Value) (Wx : WX) (W B : AP) (σ : L2.St) (H : Hp) (o : Option (Res α)) (Q : AP → Hp → α → Env → Prop) : Prop :=
  match o with
  | none => False
  | some (.ok a ρ') => ∀ W' H', Fr W H W' H' → Q W' H' a ρ'
  | some (.err e ρ') => ∀ W' H' c d, Fr W H W' H' → St W' B σ H' ρ' → XRep mg (Eo W' B) H' e c d → Wx c d σ H'
theorem After.mono {o : Option (Res α)} {Q Q' : AP → Hp → α → Env → Prop} (h : After mg Wx W B σ H o Q) (hq : ∀ W' H' a ρ', o = some (.ok a ρ') → Fr W H W' H' → Q W' H' a ρ' → Q' W' H' a ρ') : After mg Wx W B σ H o Q' := by
  cases o with
  | none => exact h
  | some r =>
    cases r with
    | err e ρ' => exact h
    | ok a ρ' => exact fun W' H' f => hq W' H' a ρ' rfl f (h W' H' f)
theorem After.bind {f : M α} {g : α → M β} {ρ : Env} {Q : AP → Hp → β → Env → Prop} (h : After mg Wx W B σ H (mbind f g ρ) Q) : After mg Wx W B σ H (f ρ) fun W1 H1 a ρ1 => After mg Wx W1 B σ H1 (g a ρ1) Q := by
  unfold mbind at h
  cases q : f ρ with
  | none => rw [q] at h; exact h
  | some r =>
    rw [q] at h
    cases r with
    | err e ρ' => exact h
    | ok a ρ1 =>
      refine fun W1 H1 f1 => ?_
      have h : After mg Wx W B σ H (g a ρ1) Q := h
      show After mg Wx W1 B σ H1 (g a ρ1) Q
      cases q2 : g a ρ1 with
      | none => rw [q2] at h; exact h
      | some r2 =>
        rw [q2] at h
        cases r2 with
        | err e ρ' => exact fun W' H' c d f2 s x => h W' H' c d (f1.trans f2) s x
        | ok b ρ' => exact fun W' H' f2 => h W' H' (f1.trans f2)
theorem After.sub {W0 : AP} {o : Option (Res α)} {Q : AP → Hp → α → Env → Prop} (h : After mg Wx W B σ H o Q) (hW : ∀ a, W0 a → W a) : After mg Wx W0 B σ H o Q := by
  cases o with
  | none => exact h
  | some r =>
    cases r with
    | err e ρ' => exact fun W' H' c d f s x => h W' H' c d ((Fr.less hW).trans f) s x
    | ok a ρ' => exact fun W' H' f => h W' H' ((Fr.less hW).trans f)
/-- under a wider shutter -/
theorem After.park {B1 : AP} {ρ1 : Env} {o : Option (Res α)} {Q : AP → Hp → α → Env → Prop} (h : After mg Wx W B σ H o Q) (hB : ∀ a, B a → B1 a) (he : ∀ r, o = some r → Evo ρ1 r.env)
    (hu : ∀ W' H' ρ', Evo ρ1 ρ' → St W' B1 σ H' ρ' → St W' B σ H' ρ') : After mg Wx W B1 σ H o Q := by
  cases o with
  | none => exact h
  | some r =>
    cases r with
    | ok a ρ' => exact h
    | err e ρ' => exact fun W' H' c d f s x => h W' H' c d f (hu W' H' ρ' (he _ rfl) s) (x.less fun a z => z.elim .inl fun k => .inr (hB a k))
/-- at the end, nothing more happens -/
theorem After.here {o : α} {ρ : Env} {Q : AP → Hp → α → Env → Prop} (h : After mg Wx W B σ H (some (.ok o ρ)) Q) : Q W H o ρ := h W H Fr.refl

/-! ### the readings -/
def rdE (mg : Str → Option Value) (Wx : WX) (f : M R) : TE := fun σ H Q => ∃ W B ρ, St W B σ H ρ ∧ After mg Wx W B σ H (f ρ) fun W' H' r ρ' => ∀ v, VOk W' B σ H' ρ' v r → Q v H'
def rdT (mg : Str → Option Value) (Wx : WX) (f : M Bool) : TT := fun σ H Q => ∃ W B ρ, St W B σ H ρ ∧ After mg Wx W B σ H (f ρ) fun W' H' b ρ' => St W' B σ H' ρ' → Q b H'
end
theorem pe_imp {X : Cx} {e : Expr} {t t' : TE} (h : PE X e t) (i : ∀ σ H Q, t' σ H Q → t σ H Q) : PE X e t' := ⟨fun pins s σ H Q I q => h.run pins s σ H Q I (i σ H Q q)⟩
theorem pt_imp {X : Cx} {e : Expr} {t t' : TT} (h : PT X e t) (i : ∀ σ H Q, t' σ H Q → t σ H Q) : PT X e t' := ⟨fun pins s σ H Q I q => h.run pins s σ H Q I (i σ H Q q)⟩
theorem pw_imp {X : Cx} {e : Expr} {t t' : TT} (h : PW X e t) (i : ∀ σ H Q, t' σ H Q → t σ H Q) : PW X e t' := ⟨fun wh pins s σ H Q I q => h.run wh pins s σ H Q I (i σ H Q q)⟩
theorem pa_imp {X : Cx} {es : List Expr} {t t' : TA} (h : PA X es t) (i : ∀ σ H Q, t' σ H Q → t σ H Q) : PA X es t' := ⟨fun pos pins s σ H Q I q => h.run pos pins s σ H Q I (i σ H Q q)⟩
structure DE (X : Cx) (Wx : WX) (e : Expr) (f : M R) : Prop where
  pe : PE X e (rdE X.mg Wx f)
  evo : EvoF f
structure DT (X : Cx) (Wx : WX) (e : Expr) (f : M Bool) : Prop where
  pt : PT X e (rdT X.mg Wx f)
  evo : EvoF f

/-! ### constants, names -/
section
variable {X : Cx} {Wx : WX} {pos : Pos}
def fC (d : D) : M R := mret (.frz d)
theorem rdE_c {mg : Str → Option Value} {d : D} {v : V} (hr : ∀ N H, Rep N H d v) : ∀ σ H Q, rdE mg Wx (fC d) σ H Q → tC v σ H Q := fun σ H Q ⟨W, B, ρ, s, a⟩ => a.here v ⟨s, hr _ _⟩
theorem de_int {i : Int} {j : Nat} : DE X Wx (.Constant (.int i) j pos) (fC (.int i)) := ⟨pe_imp pe_int (rdE_c fun _ _ => rfl), evo_ret _⟩
theorem de_bl {i : Bool} {j : Nat} : DE X Wx (.Constant (.bool i) j pos) (fC (.bl i)) := ⟨pe_imp pe_bl (rdE_c fun _ _ => rfl), evo_ret _⟩
theorem de_str {i : Str} {j : Nat} : DE X Wx (.Constant (.str i) j pos) (fC (.str i)) := ⟨pe_imp pe_str (rdE_c fun _ _ => rfl), evo_ret _⟩
theorem de_non {j : Nat} : DE X Wx (.Constant .none j pos) (fC .non) := ⟨pe_imp pe_non (rdE_c fun _ _ => rfl), evo_ret _⟩
/-- a constant of the module -/
theorem de_gint {x : Str} {i : Int} (hg : Gl X x) (hm : ∃ t, X.mg x = some (.int i t)) (hd : (x == ("__debug__" : Str)) = false := by decide) : DE X Wx (.Name x pos) (fC (.int i)) := by
  obtain ⟨t, hm⟩ := hm
  exact ⟨pe_imp (pe_glob (v := .int i) hg hm ⟨t, rfl⟩ hd) (rdE_c fun _ _ => rfl), evo_ret _⟩
theorem de_gstr {x z : Str} (hg : Gl X x) (hm : ∃ t, X.mg x = some (.str z t)) (hd : (x == ("__debug__" : Str)) = false := by decide) : DE X Wx (.Name x pos) (fC (.str z)) := by
  obtain ⟨t, hm⟩ := hm
  exact ⟨pe_imp (pe_glob (v := .str z) hg hm ⟨t, rfl⟩ hd) (rdE_c fun _ _ => rfl), evo_ret _⟩

theorem St.wr_at {W B : AP} {σ : L2.St} {H : Hp} {ρ : Env} (s : St W B σ H ρ) {i : Nat} {t : Slot} (e : ρ[i]? = some t) (hw : t.wr = true) : ∃ a d, t.cont = some d ∧ sv σ i = some (.ref a) ∧ W a ∧ Top (Eo W B) H a d := by
  have q := s.slot i t e
  cases t with
  | own d => obtain ⟨a, e1, w, t⟩ := q; exact ⟨a, d, rfl, e1, w, t⟩
  | lent d => obtain ⟨a, e1, w, t⟩ := q; exact ⟨a, d, rfl, e1, w, t⟩
  | emp => cases hw
  | frz d => cases hw
  | bor d => cases hw
/-- the slot i, that owns the object at a, changes to u; a leaves our set (u: what holds of it then) -/
theorem St.letgo {W B B' : AP} {σ : L2.St} {H : Hp} {ρ : Env} (s : St W B σ H ρ) {i : Nat} {t u : Slot} {a : Addr} (e : ρ[i]? = some t) (hw : t.wr = true) (ev : sv σ i = some (.ref a)) (wa : W a)
    (hu : SlotOk (Mi W a) B' H (some (.ref a)) u) (hnw : u.wr = false) (hB : ∀ b, B b → B' b) (hB' : ∀ b, B' b → B b ∨ b = a) : St (Mi W a) B' σ H (ρ.set i u) := by
  have hi : i < ρ.length := (List.getElem?_eq_some_iff.mp e).1
  have hE : ∀ b, Eo (Mi W a) B' b → Eo W B b := fun b z => by
    rcases z with ⟨z, _⟩ | z
    · exact .inl z
    · rcases hB' b z with k | k
      · exact .inr k
      · subst k; exact .inl wa
  refine ⟨by rw [List.length_set]; exact s.len, fun j v k => ?_, fun b z => ?_, fun b p q => ?_, fun j k v v' b hjk p q w1 w2 x1 x2 => ?_⟩
  · by_cases hj : i = j
    · subst hj
      rw [List.getElem?_set_self hi] at k
      cases k
      rw [ev]
      exact hu
    · rw [List.getElem?_set_ne hj] at k
      have q := s.slot j v k
      cases v with
      | emp => trivial
      | frz d => obtain ⟨x, e1, r⟩ := q; exact ⟨x, e1, r.less hE⟩
      | own d => obtain ⟨c, e1, w, r⟩ := q; exact ⟨c, e1, ⟨w, fun z => s.apart i j t _ a hj e k hw rfl ev (by rw [e1, z])⟩, r.less hE⟩
      | lent d => obtain ⟨c, e1, w, r⟩ := q; exact ⟨c, e1, ⟨w, fun z => s.apart i j t _ a hj e k hw rfl ev (by rw [e1, z])⟩, r.less hE⟩
      | bor d => obtain ⟨c, e1, w, r⟩ := q; exact ⟨c, e1, hB c w, r.less hE⟩
  · exact s.dom b (hE b z)
  · rcases hB' b q with k | k
    · exact s.dis b p.1 k
    · exact p.2 k
  · have hne : ∀ l x, (ρ.set i u)[l]? = some x → x.wr = true → i ≠ l ∧ ρ[l]? = some x := fun l x y wx => by
      by_cases hl : i = l
      · subst hl
        rw [List.getElem?_set_self hi] at y
        cases y
        rw [hnw] at wx
        cases wx
      · rw [List.getElem?_set_ne hl] at y
        exact ⟨hl, y⟩
    obtain ⟨_, p'⟩ := hne j v p w1
    obtain ⟨_, q'⟩ := hne k v' q w2
    exact s.apart j k v v' b hjk p' q' w1 w2 x1 x2
/-- a name, for keeping: what it owned is let go -/
def fName (i : Nat) : M R := fun ρ =>
  match ρ[i]? with
  | some (.frz d) => some (.ok (.frz d) ρ)
  | some (.own d) => some (.ok (.frz d) (ρ.set i (.frz d)))
  | _ => none
/-- a name for the last time: what it owned goes on as its new owner's -/
def fMove (i : Nat) : M R := fun ρ =>
  match ρ[i]? with
  | some (.frz d) => some (.ok (.frz d) ρ)
  | some (.own d) => some (.ok (.own d) (ρ.set i .emp))
  | _ => none
theorem evo_name {i : Nat} : EvoF (fName i) := fun ρ o e => by
  unfold fName at e
  split at e
  · cases e; exact .refl _
  · rename_i d q
    cases e
    exact .set q (fun _ z => nomatch z) (fun _ z => nomatch z) (fun _ z => nomatch z)
  · cases e
theorem evo_move {i : Nat} : EvoF (fMove i) := fun ρ o e => by
  unfold fMove at e
  split at e
  · cases e; exact .refl _
  · rename_i d q
    cases e
    exact .set q (fun _ z => nomatch z) (fun _ z => nomatch z) (fun _ z => nomatch z)
  · cases e
theorem de_var {i : Nat} {e : Expr} (h : PE X e (tVar i)) : DE X Wx e (fName i) := by
  refine ⟨pe_imp h fun σ H Q ⟨W, B, ρ, s, a⟩ => ?_, evo_name⟩
  unfold fName at a
  split at a
  · rename_i d e1
    obtain ⟨x, e2, r⟩ := s.slot i _ e1
    exact ⟨x, sv_some e2, a.here x ⟨s, r⟩⟩
  · rename_i d e1
    obtain ⟨b, e2, wb, t⟩ := s.slot i _ e1
    refine ⟨.ref b, sv_some e2, a (Mi W b) H (.less fun c z => z.1) _ ⟨?_, ?_⟩⟩
    · refine s.letgo e1 rfl e2 wb ?_ rfl (fun _ z => z) (fun _ z => .inl z)
      exact ⟨_, rfl, (t.r.less fun c z => z.elim (fun k => .inl k.1) .inr).rep fun z => z.elim (fun k => k.2 rfl) (s.dis b wb)⟩
    · exact (t.r.less fun c z => z.elim (fun k => .inl k.1) .inr).rep fun z => z.elim (fun k => k.2 rfl) (s.dis b wb)
  · exact a.elim
theorem de_move {i : Nat} {e : Expr} (h : PE X e (tVar i)) : DE X Wx e (fMove i) := by
  refine ⟨pe_imp h fun σ H Q ⟨W, B, ρ, s, a⟩ => ?_, evo_move⟩
  unfold fMove at a
  split at a
  · rename_i d e1
    obtain ⟨x, e2, r⟩ := s.slot i _ e1
    exact ⟨x, sv_some e2, a.here x ⟨s, r⟩⟩
  · rename_i d e1
    obtain ⟨b, e2, wb, t⟩ := s.slot i _ e1
    refine ⟨.ref b, sv_some e2, a W H .refl _ ⟨b, rfl, wb, ?_, t, fun j s' e3 w3 e4 => ?_⟩⟩
    · have hi : i < ρ.length := (List.getElem?_eq_some_iff.mp e1).1
      refine ⟨by rw [List.length_set]; exact s.len, fun j v k => ?_, s.dom, s.dis, fun j k v v' c hjk p q w1 w2 x1 x2 => ?_⟩
      · by_cases hj : i = j
        · subst hj
          rw [List.getElem?_set_self hi] at k
          cases k
          trivial
        · rw [List.getElem?_set_ne hj] at k
          exact s.slot j v k
      · have hne : ∀ (l : Nat) (x : Slot), (ρ.set i .emp)[l]? = some x → x.wr = true → ρ[l]? = some x := fun l x y wx => by
          by_cases hl : i = l
          · subst hl
            rw [List.getElem?_set_self hi] at y
            cases y
            cases wx
          · rw [List.getElem?_set_ne hl] at y
            exact y
        exact s.apart j k v v' c hjk (hne j v p w1) (hne k v' q w2) w1 w2 x1 x2
    · have hj : i ≠ j := fun z => by
        subst z
        rw [List.getElem?_set_self (List.getElem?_eq_some_iff.mp e1).1] at e3
        cases e3
        cases w3
      rw [List.getElem?_set_ne hj] at e3
      exact s.apart i j _ _ b hj e1 e3 rfl w3 e2 e4
  · exact a.elim

/-! ### operands -/
inductive Opd where
  | ev (f : M R) | sl (i : Nat)
def rdO (mg : Str → Option Value) (Wx : WX) : Opd → TE
  | .ev f => rdE mg Wx f
  | .sl i => tVar i
def DO (X : Cx) (Wx : WX) (e : Expr) : Opd → Prop
  | .ev f => DE X Wx e f
  | .sl i => PE X e (tVar i)
theorem DO.pe {e : Expr} {o : Opd} (h : DO X Wx e o) : PE X e (rdO X.mg Wx o) := by
  cases o with
  | ev f => exact DE.pe h
  | sl i => exact h
def Opd.Evo : Opd → Prop
  | .ev f => EvoF f
  | .sl _ => True
theorem DO.evo {e : Expr} {o : Opd} (h : DO X Wx e o) : o.Evo := by
  cases o with
  | ev f => exact DE.evo h
  | sl i => trivial
def contAt (ρ : Env) (i : Nat) : Option D :=
  match ρ[i]? with
  | some s => s.cont
  | none => none
def getSl (i : Nat) (ds : List D) : M (List D) := fun ρ =>
  match contAt ρ i with
  | some d => some (.ok (d :: ds) ρ)
  | none => none
def needSl (i : Nat) : M Unit := fun ρ =>
  match contAt ρ i with
  | some _ => some (.ok () ρ)
  | none => none
def evs : List Opd → M (List D)
  | [] => mret []
  | .ev f :: os => mbind f fun r => mbind (evs os) fun ds => mret (r.d :: ds)
  | .sl i :: os => mbind (needSl i) fun _ => mbind (evs os) fun ds => getSl i ds
theorem evo_getSl {i : Nat} {ds : List D} : EvoF (getSl i ds) := fun ρ o e => by
  unfold getSl at e
  split at e
  · cases e; exact .refl _
  · cases e
theorem evo_needSl {i : Nat} : EvoF (needSl i) := fun ρ o e => by
  unfold needSl at e
  split at e
  · cases e; exact .refl _
  · cases e
theorem evo_evs : ∀ {os : List Opd}, (∀ o ∈ os, o.Evo) → EvoF (evs os)
  | [], _ => evo_ret _
  | .ev f :: os, h => evo_bind (h _ List.mem_cons_self) fun _ => evo_bind (evo_evs fun o z => h o (List.mem_cons_of_mem _ z)) fun _ => evo_ret _
  | .sl i :: os, h => evo_bind evo_needSl fun _ => evo_bind (evo_evs fun o z => h o (List.mem_cons_of_mem _ z)) fun _ => evo_getSl
def rdOs (mg : Str → Option Value) (Wx : WX) (os : List Opd) : TA := fun σ H Q => ∃ W B ρ, St W B σ H ρ ∧ After mg Wx W B σ H (evs os ρ) fun W' H' ds ρ' => ∀ vs, St W' B σ H' ρ' → PReps (Eo W' B) H' ds vs → Q vs H'
theorem St.at {W B : AP} {σ : L2.St} {H : Hp} {ρ : Env} (s : St W B σ H ρ) {i : Nat} {d : D} (h : contAt ρ i = some d) : ∃ v, sv σ i = some v ∧ PRep (Eo W B) H d v := by
  unfold contAt at h
  split at h
  · rename_i t e
    have q := s.slot i t e
    cases t with
    | emp => cases h
    | frz d' => cases h; obtain ⟨x, e1, r⟩ := q; exact ⟨x, e1, .inl r⟩
    | own d' => cases h; obtain ⟨x, e1, _, r⟩ := q; exact ⟨_, e1, .inr ⟨x, rfl, r.r⟩⟩
    | lent d' => cases h; obtain ⟨x, e1, _, r⟩ := q; exact ⟨_, e1, .inr ⟨x, rfl, r.r⟩⟩
    | bor d' => cases h; obtain ⟨x, e1, _, r⟩ := q; exact ⟨_, e1, .inr ⟨x, rfl, r⟩⟩
  · cases h
theorem rdOs_cons {mg : Str → Option Value} {o : Opd} {os : List Opd} (ho : o.Evo) (hos : ∀ o ∈ os, o.Evo) {σ : L2.St} {H : Hp} {Q : List V → Hp → Prop} (h : rdOs mg Wx (o :: os) σ H Q) :
    rdO mg Wx o σ H fun x H1 => rdOs mg Wx os σ H1 fun xs H2 => Q (x :: xs) H2 := by
  obtain ⟨W, B, ρ, s, a⟩ := h
  cases o with
  | ev f =>
    refine ⟨W, B, ρ, s, After.mono (After.bind a) fun W1 H1 r ρ1 e1 fr1 a1 v hv => ?_⟩
    obtain ⟨W0, B1, hW, s1, hB, hp, hu⟩ := hv.park
    have hu' : ∀ W' H' ρ', Evo ρ1 ρ' → St W' B1 σ H' ρ' → St W' B σ H' ρ' := fun W' H' ρ' ev => hu σ ρ' H' W' fun i d q => ⟨ev.bor i d q, rfl⟩
    refine ⟨W0, B1, ρ1, s1, After.park (ρ1 := ρ1) (After.mono (After.bind (a1.sub hW)) fun W2 H2 ds ρ2 e2 fr2 a2 vs s2 r2 => ?_) hB (fun r q => evo_evs hos _ _ q) hu'⟩
    exact a2.here (v :: vs) (hu' W2 H2 ρ2 (evo_evs hos _ _ e2) s2) ⟨v, vs, rfl, (hp W2 H2 fr2).less (fun b z => z.elim .inl fun k => .inr (hB b k)), PReps.less (fun b z => z.elim .inl fun k => .inr (hB b k)) r2⟩
  | sl i =>
    have a := After.bind a
    unfold needSl at a
    split at a
    · rename_i d e
      obtain ⟨v, e1, _⟩ := s.at e
      refine ⟨v, sv_some e1, W, B, ρ, s, After.mono (After.bind a.here) fun W2 H2 ds ρ2 e2 fr2 a2 vs s2 r2 => ?_⟩
      unfold getSl at a2
      split at a2
      · rename_i d2 e3
        obtain ⟨v2, e4, r4⟩ := s2.at e3
        rw [e1] at e4
        cases e4
        exact a2.here (v :: vs) s2 ⟨v, vs, rfl, r4, r2⟩
      · exact a2.elim
    · exact a.elim
theorem rdOs_nil {mg : Str → Option Value} {σ : L2.St} {H : Hp} {Q : List V → Hp → Prop} (h : rdOs mg Wx [] σ H Q) : Q [] H := by
  obtain ⟨W, B, ρ, s, a⟩ := h
  exact a.here [] s rfl
structure DOs (X : Cx) (Wx : WX) (es : List Expr) (os : List Opd) : Prop where
  pa : PA X es (rdOs X.mg Wx os)
  evo : ∀ o ∈ os, o.Evo
theorem dos_nil : DOs X Wx [] [] := ⟨pa_imp pa_nil fun _ _ _ h => rdOs_nil h, fun _ z => nomatch z⟩
theorem dos_cons {e : Expr} {es : List Expr} {o : Opd} {os : List Opd} (h1 : DO X Wx e o) (h2 : DOs X Wx es os) (hs : starEach (e :: es) X.env = (false, eval e X.env) :: starEach es X.env := by rfl) : DOs X Wx (e :: es) (o :: os) :=
  ⟨pa_imp (pa_cons h1.pe h2.pa hs) fun _ _ _ h => rdOs_cons h1.evo h2.evo h, fun z hz => by
    rcases List.mem_cons.mp hz with e | k
    · rw [e]; exact h1.evo
    · exact h2.evo z k⟩

/-! ### operators by values -/
def ap2 (g : D → D → Option R) : List D → Option R
  | [a, b] => g a b
  | _ => none
def ap1 (g : D → Option R) : List D → Option R
  | [a] => g a
  | _ => none
theorem ap2_some {g : D → D → Option R} {ds : List D} {r : R} (h : ap2 g ds = some r) : ∃ a b, ds = [a, b] ∧ g a b = some r := by
  unfold ap2 at h
  split at h
  · exact ⟨_, _, rfl, h⟩
  · cases h
theorem ap1_some {g : D → Option R} {ds : List D} {r : R} (h : ap1 g ds = some r) : ∃ a, ds = [a] ∧ g a = some r := by
  unfold ap1 at h
  split at h
  · exact ⟨_, rfl, h⟩
  · cases h
theorem After.opt {mg : Str → Option Value} {Wx : WX} {W B : AP} {σ : L2.St} {H : Hp} {α : Type} {o : Option α} {ρ : Env} {Q : AP → Hp → α → Env → Prop} (h : After mg Wx W B σ H (mopt o ρ) Q) : ∃ a, o = some a ∧ ∀ W' H', Fr W H W' H' → Q W' H' a ρ := by
  cases o with
  | none => exact h.elim
  | some a => exact ⟨a, rfl, h⟩
def f2 (o1 o2 : Opd) (g : D → D → Option R) : M R := mbind (evs [o1, o2]) fun ds => mopt (ap2 g ds)
def f1 (o : Opd) (g : D → Option R) : M R := mbind (evs [o]) fun ds => mopt (ap1 g ds)
theorem evo_f2 {o1 o2 : Opd} {g : D → D → Option R} (h1 : o1.Evo) (h2 : o2.Evo) : EvoF (f2 o1 o2 g) :=
  evo_bind (evo_evs fun o z => by rcases List.mem_cons.mp z with e | z; exact e ▸ h1; rcases List.mem_cons.mp z with e | z; exact e ▸ h2; exact nomatch z) fun ds => evo_opt _
theorem evo_f1 {o1 : Opd} {g : D → Option R} (h1 : o1.Evo) : EvoF (f1 o1 g) :=
  evo_bind (evo_evs fun o z => by rcases List.mem_cons.mp z with e | z; exact e ▸ h1; exact nomatch z) fun ds => evo_opt _
/-- what a rule by values gives, on data -/
def VR2 (r : R2) (g : D → D → Option R) : Prop := ∀ (W B : AP) (σ : L2.St) (H : Hp) (ρ : Env) (x y : V) (a b : D) (res : R) (Q : VK), St W B σ H ρ → PRep (Eo W B) H a x → PRep (Eo W B) H b y → g a b = some res →
  (∀ W' H' v, Fr W H W' H' → VOk W' B σ H' ρ v res → Q v H') → r x y H Q
def VR1 (r : V → Hp → VK → Prop) (g : D → Option R) : Prop := ∀ (W B : AP) (σ : L2.St) (H : Hp) (ρ : Env) (x : V) (a : D) (res : R) (Q : VK), St W B σ H ρ → PRep (Eo W B) H a x → g a = some res →
  (∀ W' H' v, Fr W H W' H' → VOk W' B σ H' ρ v res → Q v H') → r x H Q
theorem rd2 {mg : Str → Option Value} {o1 o2 : Opd} {g : D → D → Option R} {r : R2} (hr : VR2 r g) (h1 : o1.Evo) (h2 : o2.Evo) {σ : L2.St} {H : Hp} {Q : VK} (h : rdE mg Wx (f2 o1 o2 g) σ H Q) :
    tOp r (rdO mg Wx o1) (rdO mg Wx o2) σ H Q := by
  obtain ⟨W, B, ρ, s, a⟩ := h
  have h : rdOs mg Wx [o1, o2] σ H fun vs H2 => ∃ x y, vs = [x, y] ∧ r x y H2 Q := by
    refine ⟨W, B, ρ, s, After.mono (After.bind a) fun W' H' ds ρ' _ _ a' vs s' rs => ?_⟩
    obtain ⟨res, k, a2⟩ := a'.opt
    obtain ⟨d, e, rfl, k⟩ := ap2_some k
    obtain ⟨x, _, rfl, p, y, _, rfl, q, z⟩ := rs
    rw [show _ = [] from z]
    exact ⟨x, y, rfl, hr W' B σ H' ρ' x y d e res Q s' p q k fun W2 H2 v f hv => a2 W2 H2 f v hv⟩
  have mem1 : ∀ o ∈ [o2], o.Evo := fun o z => by rcases List.mem_cons.mp z with e | z; exact e ▸ h2; exact nomatch z
  have mono : ∀ {o : Opd} {σ : L2.St} {H : Hp} {Q Q' : VK}, rdO mg Wx o σ H Q → (∀ v H, Q v H → Q' v H) → rdO mg Wx o σ H Q' := fun {o} {σ H Q Q'} q i => by
    cases o with
    | ev f => obtain ⟨W, B, ρ, s, a⟩ := q; exact ⟨W, B, ρ, s, a.mono fun W' H' r ρ' _ _ k v hv => i v H' (k v hv)⟩
    | sl j => obtain ⟨v, e, q⟩ := q; exact ⟨v, e, i _ _ q⟩
  refine mono (rdOs_cons h1 mem1 h) fun x H1 q => mono (rdOs_cons (os := []) h2 (fun _ z => (List.not_mem_nil z).elim) q) fun y H2 q => ?_
  obtain ⟨x', y', e, k⟩ := rdOs_nil q
  cases e
  exact k
theorem rd1 {mg : Str → Option Value} {o1 : Opd} {g : D → Option R} {r : V → Hp → VK → Prop} (hr : VR1 r g) (h1 : o1.Evo) {σ : L2.St} {H : Hp} {Q : VK} (h : rdE mg Wx (f1 o1 g) σ H Q) :
    rdO mg Wx o1 σ H fun x H1 => r x H1 Q := by
  obtain ⟨W, B, ρ, s, a⟩ := h
  have h : rdOs mg Wx [o1] σ H fun vs H2 => ∃ x, vs = [x] ∧ r x H2 Q := by
    refine ⟨W, B, ρ, s, After.mono (After.bind a) fun W' H' ds ρ' _ _ a' vs s' rs => ?_⟩
    obtain ⟨res, k, a2⟩ := a'.opt
    obtain ⟨d, rfl, k⟩ := ap1_some k
    obtain ⟨x, _, rfl, p, z⟩ := rs
    rw [show _ = [] from z]
    exact ⟨x, rfl, hr W' B σ H' ρ' x d res Q s' p k fun W2 H2 v f hv => a2 W2 H2 f v hv⟩
  have mono : ∀ {o : Opd} {σ : L2.St} {H : Hp} {Q Q' : VK}, rdO mg Wx o σ H Q → (∀ v H, Q v H → Q' v H) → rdO mg Wx o σ H Q' := fun {o} {σ H Q Q'} q i => by
    cases o with
    | ev f => obtain ⟨W, B, ρ, s, a⟩ := q; exact ⟨W, B, ρ, s, a.mono fun W' H' r ρ' _ _ k v hv => i v H' (k v hv)⟩
    | sl j => obtain ⟨v, e, q⟩ := q; exact ⟨v, e, i _ _ q⟩
  refine mono (rdOs_cons (os := []) h1 (fun _ z => (List.not_mem_nil z).elim) h) fun x H1 q => ?_
  obtain ⟨x', e, k⟩ := rdOs_nil q
  cases e
  exact k
theorem de_bin {a b : Expr} {op : Operator} {o1 o2 : Opd} {g : D → D → Option R} {r : R2} (ho : OpR X (binaryOp op) r) (hr : VR2 r g) (h1 : DO X Wx a o1) (h2 : DO X Wx b o2) : DE X Wx (.BinOp a op b pos) (f2 o1 o2 g) :=
  ⟨pe_imp (pe_op ho h1.pe h2.pe) fun _ _ _ h => rd2 hr h1.evo h2.evo h, evo_f2 h1.evo h2.evo⟩
theorem de_cmp {a b : Expr} {op : CmpOp} {o1 o2 : Opd} {g : D → D → Option R} {r : R2} (ho : OpR X (compareOp op) r) (hr : VR2 r g) (h1 : DO X Wx a o1) (h2 : DO X Wx b o2) (hm : behindInMarks op b = false) : DE X Wx (.Compare a [op] [b] pos) (f2 o1 o2 g) :=
  ⟨pe_imp (pe_cmpR ho h1.pe h2.pe hm) fun _ _ _ h => rd2 hr h1.evo h2.evo h, evo_f2 h1.evo h2.evo⟩
theorem de_un {a : Expr} {op : UnaryOp} {o1 : Opd} {g : D → Option R} {r : V → Hp → VK → Prop} (ho : UnR X (unaryOp op) r) (hr : VR1 r g) (h1 : DO X Wx a o1) : DE X Wx (.UnaryOp op a pos) (f1 o1 g) :=
  ⟨pe_imp (pe_un ho h1.pe) fun _ _ _ h => rd1 hr h1.evo h, evo_f1 h1.evo⟩

/-! ### values that go into something -/
def evF : List (M R) → M (List D)
  | [] => mret []
  | f :: fs => mbind f fun r => mbind (evF fs) fun ds => mret (r.d :: ds)
theorem evo_evF : ∀ {fs : List (M R)}, (∀ f ∈ fs, EvoF f) → EvoF (evF fs)
  | [], _ => evo_ret _
  | f :: fs, h => evo_bind (h _ List.mem_cons_self) fun _ => evo_bind (evo_evF fun o z => h o (List.mem_cons_of_mem _ z)) fun _ => evo_ret _
def rdF (mg : Str → Option Value) (Wx : WX) (fs : List (M R)) : TA := fun σ H Q => ∃ W B ρ, St W B σ H ρ ∧ After mg Wx W B σ H (evF fs ρ) fun W' H' ds ρ' => ∀ vs, St W' B σ H' ρ' → Reps (Eo W' B) H' ds vs → Q vs H'
theorem rdF_cons {mg : Str → Option Value} {f : M R} {fs : List (M R)} {σ : L2.St} {H : Hp} {Q : List V → Hp → Prop} (h : rdF mg Wx (f :: fs) σ H Q) :
    rdE mg Wx f σ H fun x H1 => rdF mg Wx fs σ H1 fun xs H2 => Q (x :: xs) H2 := by
  obtain ⟨W, B, ρ, s, a⟩ := h
  refine ⟨W, B, ρ, s, After.mono (After.bind a) fun W1 H1 r ρ1 e1 fr1 a1 v hv => ?_⟩
  obtain ⟨W0, hW, s1, r1⟩ := hv.any
  refine ⟨W0, B, ρ1, s1, After.mono (After.bind (a1.sub hW)) fun W2 H2 ds ρ2 e2 fr2 a2 vs s2 r2 => ?_⟩
  exact a2.here (v :: vs) s2 ⟨v, vs, rfl, r1.fr fr2, r2⟩
structure DF (X : Cx) (Wx : WX) (es : List Expr) (fs : List (M R)) : Prop where
  pa : PA X es (rdF X.mg Wx fs)
  evo : ∀ f ∈ fs, EvoF f
theorem df_nil : DF X Wx [] [] := ⟨pa_imp pa_nil fun _ _ _ ⟨W, B, ρ, s, a⟩ => a.here [] s rfl, fun _ z => nomatch z⟩
theorem df_cons {e : Expr} {es : List Expr} {f : M R} {fs : List (M R)} (h1 : DE X Wx e f) (h2 : DF X Wx es fs) (hs : starEach (e :: es) X.env = (false, eval e X.env) :: starEach es X.env := by rfl) : DF X Wx (e :: es) (f :: fs) :=
  ⟨pa_imp (pa_cons h1.pe h2.pa hs) fun _ _ _ h => rdF_cons h, fun z hz => by
    rcases List.mem_cons.mp hz with e | k
    · rw [e]; exact h1.evo
    · exact h2.evo z k⟩
/-- a new tuple: frozen -/
theorem St.new {W B : AP} {σ : L2.St} {H : Hp} {ρ : Env} {p : Addr} {o : HO} (s : St W B σ H ρ) (hp : H p = none) : St W B σ (upd H p o) ρ := by
  have fr : Fr W H W (upd H p o) := Fr.new hp
  have keepAll : ∀ a u, H a = some u → ¬ (fun _ : Addr => False) a → upd H p o a = some u := fun a u e _ => by rw [upd_ne (ne_of_none e hp)]; exact e
  refine ⟨s.len, fun i t e => ?_, fun a z => ?_, s.dis, s.apart⟩
  · have q := s.slot i t e
    cases t with
    | emp => trivial
    | frz d => obtain ⟨x, e1, r⟩ := q; exact ⟨x, e1, r.fr fr⟩
    | own d => obtain ⟨x, e1, w, r⟩ := q; exact ⟨x, e1, w, Top.mono (M := fun _ => False) (fun a z => .inl z) keepAll (fun _ z => z.elim) (fun z => z) r⟩
    | lent d => obtain ⟨x, e1, w, r⟩ := q; exact ⟨x, e1, w, Top.mono (M := fun _ => False) (fun a z => .inl z) keepAll (fun _ z => z.elim) (fun z => z) r⟩
    | bor d => obtain ⟨x, e1, w, r⟩ := q; exact ⟨x, e1, w, Top.mono (M := fun _ => False) (fun a z => .inl z) keepAll (fun _ z => z.elim) (fun z => z) r⟩
  · have q := s.dom a z
    unfold upd
    split
    · simp
    · exact q
theorem St.newB {W B : AP} {σ : L2.St} {H : Hp} {ρ : Env} {p : Addr} {o : HO} (s : St W B σ H ρ) (hp : H p = none) : St W (Pl B p) σ (upd H p o) ρ := by
  have fr : Fr W H W (upd H p o) := Fr.new hp
  have keepAll : ∀ a u, H a = some u → ¬ (fun _ : Addr => False) a → upd H p o a = some u := fun a u e _ => by rw [upd_ne (ne_of_none e hp)]; exact e
  have hN : ∀ a, Eo W (Pl B p) a → Eo W B a ∨ H a = none := fun a z => by
    rcases z with z | z | z
    · exact .inl (.inl z)
    · exact .inl (.inr z)
    · subst z; exact .inr hp
  have kO : ∀ a u, H a = some u → ¬ Eo W B a → upd H p o a = some u := fun a u e _ => keepAll a u e (fun z => z)
  refine ⟨s.len, fun i t e => ?_, fun a z => ?_, fun a w b => ?_, s.apart⟩
  · have q := s.slot i t e
    cases t with
    | emp => trivial
    | frz d => obtain ⟨x, e1, r⟩ := q; exact ⟨x, e1, Rep.mono hN kO _ _ r⟩
    | own d => obtain ⟨x, e1, w, r⟩ := q; exact ⟨x, e1, w, Top.mono (M := fun _ => False) hN keepAll (fun _ z => z.elim) (fun z => z) r⟩
    | lent d => obtain ⟨x, e1, w, r⟩ := q; exact ⟨x, e1, w, Top.mono (M := fun _ => False) hN keepAll (fun _ z => z.elim) (fun z => z) r⟩
    | bor d => obtain ⟨x, e1, w, r⟩ := q; exact ⟨x, e1, .inl w, Top.mono (M := fun _ => False) hN keepAll (fun _ z => z.elim) (fun z => z) r⟩
  · unfold upd
    split
    · simp
    · rename_i hne
      rcases z with z | z | z
      · exact s.dom a (.inl z)
      · exact s.dom a (.inr z)
      · exact absurd z hne
  · rcases b with b | b
    · exact s.dis a w b
    · subst b; exact s.dom a (.inl w) hp
theorem vok_tup {W B : AP} {σ : L2.St} {H : Hp} {ρ : Env} {p : Addr} {o : Obj} {ds : List D} {vs : List V} (hd : o.dict = none) (s : St W B σ H ρ) (r : Reps (Eo W B) H ds vs) (hp : H p = none) : VOk W B σ (upd H p (.frz o (.tup vs))) ρ (.ref p) (.frz (.tup ds)) :=
  ⟨s.new hp, p, vs, rfl, ⟨o, upd_same, hd⟩, fun z => by
    rcases z with z | z
    · exact s.dom p (.inl z) hp
    · exact s.dom p (.inr z) hp, r.fr (Fr.new hp)⟩
theorem Fr.newW {W : AP} {H : Hp} {p : Addr} {o : HO} (hp : H p = none) : Fr W H (Pl W p) (upd H p o) := ⟨fun a u e _ => by rw [upd_ne (ne_of_none e hp)]; exact e, fun a z => z.elim .inl fun k => .inr (by rw [k]; exact hp)⟩
theorem St.newW {W B : AP} {σ : L2.St} {H : Hp} {ρ : Env} {p : Addr} {o : HO} (s : St W B σ H ρ) (hp : H p = none) : St (Pl W p) B σ (upd H p o) ρ := by
  have q := s.newB (o := o) hp
  have hE : ∀ b, Eo (Pl W p) B b → Eo W (Pl B p) b := fun b z => by
    rcases z with (z | z) | z
    · exact .inl z
    · exact .inr (.inr z)
    · exact .inr (.inl z)
  refine ⟨s.len, fun i t e => ?_, fun a z => q.dom a (hE a z), fun a w b => ?_, s.apart⟩
  · have k := q.slot i t e
    cases t with
    | emp => trivial
    | frz d => obtain ⟨x, e1, r⟩ := k; exact ⟨x, e1, r.less hE⟩
    | own d => obtain ⟨x, e1, w, r⟩ := k; exact ⟨x, e1, .inl w, r.less hE⟩
    | lent d => obtain ⟨x, e1, w, r⟩ := k; exact ⟨x, e1, .inl w, r.less hE⟩
    | bor d =>
      obtain ⟨x, e1, w, r⟩ := k
      obtain ⟨y, e2, w2, r2⟩ := s.slot i _ e
      rw [e1] at e2
      cases e2
      exact ⟨x, e1, w2, r.less hE⟩
  · rcases w with w | w
    · exact s.dis a w b
    · subst w; exact s.dom a (.inr b) hp
/-- a new object that holds its own: no name is at it -/
theorem St.noname {W B : AP} {σ : L2.St} {H : Hp} {ρ : Env} {p : Addr} (s : St W B σ H ρ) (hp : H p = none) : ∀ i t, ρ[i]? = some t → t.wr = true → sv σ i ≠ some (.ref p) := fun i t e w ev => by
  obtain ⟨a, d, _, e1, wa, tp⟩ := s.wr_at e w
  rw [ev] at e1
  cases e1
  exact s.dom _ (.inl wa) hp
theorem vok_lst {W B : AP} {σ : L2.St} {H : Hp} {ρ : Env} {p : Addr} {ds : List D} {vs : List V} (s : St W B σ H ρ) (r : Reps (Eo W B) H ds vs) (hp : H p = none) : VOk (Pl W p) B σ (upd H p (.lst vs)) ρ (.ref p) (.own (.lst ds)) := by
  refine ⟨p, rfl, .inr rfl, s.newW hp, ⟨vs, upd_same, ?_⟩, s.noname hp⟩
  refine Reps.mono (fun a z => ?_) (fun a o e _ => by rw [upd_ne (ne_of_none e hp)]; exact e) _ _ r
  rcases z with (z | z) | z
  · exact .inl (.inl z)
  · subst z; exact .inr hp
  · exact .inl (.inr z)
def fTup (fs : List (M R)) : M R := mbind (evF fs) fun ds => mopt (if ds.length ≤ sizeLine then some (.frz (.tup ds)) else none)
def fLst (fs : List (M R)) : M R := mbind (evF fs) fun ds => mopt (if ds.length ≤ sizeLine then some (.own (.lst ds)) else none)
theorem de_tup {es : List Expr} {fs : List (M R)} {x1} (h : DF X Wx es fs) : DE X Wx (.Tuple es x1 pos) (fTup fs) := by
  refine ⟨pe_imp (pe_tupZ h.pa) fun σ H Q ⟨W, B, ρ, s, a⟩ => ?_, evo_bind (evo_evF h.evo) fun _ => evo_opt _⟩
  refine ⟨W, B, ρ, s, After.mono (After.bind a) fun W1 H1 ds ρ1 e1 fr1 a1 vs s1 r1 => ?_⟩
  split at a1
  · rename_i hz
    refine ⟨by rw [r1.length]; exact hz, fun p o hp hd => a1 W1 _ (Fr.new hp) _ (vok_tup hd s1 r1 hp)⟩
  · exact a1.elim
theorem de_lst {es : List Expr} {fs : List (M R)} (h : DF X Wx es fs) : DE X Wx (.List es pos) (fLst fs) := by
  refine ⟨pe_imp (pe_lst h.pa) fun σ H Q ⟨W, B, ρ, s, a⟩ => ?_, evo_bind (evo_evF h.evo) fun _ => evo_opt _⟩
  refine ⟨W, B, ρ, s, After.mono (After.bind a) fun W1 H1 ds ρ1 e1 fr1 a1 vs s1 r1 => ?_⟩
  split at a1
  · rename_i hz
    refine ⟨by rw [r1.length]; exact hz, fun p hp => a1 _ _ (Fr.newW hp) _ (vok_lst s1 r1 hp)⟩
  · exact a1.elim
end
end Dz
/-! Dz 3: operators on data. -/
namespace Dz
open PySem PySem.Spec PyProof.Rows L2

theorem PRep.lst' {N : AP} {H : Hp} {ds : List D} {v : V} (h : PRep N H (.lst ds) v) : ∃ a vs, v = .ref a ∧ H a = some (.lst vs) ∧ Reps N H ds vs := h.lst
theorem PRep.scr {N : AP} {H : Hp} {ns : List Int} {v : V} (h : PRep N H (.scr ns) v) : ∃ a, v = .ref a ∧ Rd H a (.lst (ns.map V.int)) := by
  rcases h with ⟨a, e, r, _⟩ | ⟨a, e, h⟩
  · exact ⟨a, e, r⟩
  · exact h.elim
theorem vok_flat {W B : AP} {σ : L2.St} {H : Hp} {ρ : Env} {v : V} {d : D} (s : St W B σ H ρ) (r : Rep (Eo W B) H d v) : VOk W B σ H ρ v (.frz d) := ⟨s, r⟩

/-! ### whole numbers, texts, lists, tuples: + - * // % ** -/
instance (i j : Int) : Decidable (CMul i j) := by unfold CMul; infer_instance
instance (i j : Int) : Decidable (CMulW i j) := by unfold CMulW; infer_instance
instance (i j : Int) : Decidable (CDivW i j) := by unfold CDivW; infer_instance
instance (i j : Int) : Decidable (CPow i j) := by unfold CPow; infer_instance
def MulOk (i j : Int) : Prop := CMul i j ∨ CMulW i j
instance (i j : Int) : Decidable (MulOk i j) := by unfold MulOk; infer_instance
def addD : D → D → Option R
  | .int i, .int j => some (.frz (.int (i + j)))
  | .str x, .str y => if x.length + y.length ≤ sizeLine then some (.frz (.str (x ++ y))) else none
  | .tup xs, .tup ys => if xs.length + ys.length ≤ sizeLine then some (.frz (.tup (xs ++ ys))) else none
  | .lst xs, .lst ys => if xs.length + ys.length ≤ sizeLine then some (.own (.lst (xs ++ ys))) else none
  | _, _ => none
def subD : D → D → Option R
  | .int i, .int j => some (.frz (.int (i - j)))
  | _, _ => none
def mulD : D → D → Option R
  | .int i, .int j => if MulOk i j then some (.frz (.int (i * j))) else none
  | .lst xs, .int k => if -(2 ^ 63) ≤ k ∧ k < 2 ^ 63 ∧ xs.length * k.toNat ≤ sizeLine then some (.own (.lst (List.replicate k.toNat xs).flatten)) else none
  | _, _ => none
def fdivD : D → D → Option R
  | .int i, .int j => if CDivW i j then some (.frz (.int (i / j))) else none
  | _, _ => none
def modD : D → D → Option R
  | .int i, .int j => if 0 < j then some (.frz (.int (i % j))) else none
  | _, _ => none
def powD : D → D → Option R
  | .int i, .int j => if CPow i j then some (.frz (.int (i ^ j.toNat))) else none
  | _, _ => none
def negD : D → Option R
  | .int i => some (.frz (.int (-i)))
  | _ => none
section
variable {X : Cx}
def rAddS : R2 := fun x y H Q => ∃ i j, x = .str i ∧ y = .str j ∧ i.length + j.length ≤ sizeLine ∧ Q (.str (i ++ j)) H
def rAddD (K : PySem.W.Frag) : R2 := fun x y H Q => rI0 (fun i j => .int (i + j)) x y H Q ∨ rAddS x y H Q ∨ rCatZ K x y H Q ∨ rCat x y H Q
theorem op_addD : OpR X (binaryOp .Add) (rAddD X.K) := op_add.or (OpR.or (r := rAddS) op_add_str (op_catZ.or op_cat))
theorem vr_add {K : PySem.W.Frag} : VR2 (rAddD K) addD := by
  intro W B σ H ρ x y a b res Q s hx hy hg hq
  unfold addD at hg
  split at hg
  · cases hg
    exact .inl ⟨_, _, hx.int, hy.int, hq W H _ Fr.refl ⟨s, rfl⟩⟩
  · split at hg
    · rename_i hz
      cases hg
      exact .inr (.inl ⟨_, _, hx.str, hy.str, hz, hq W H _ Fr.refl ⟨s, rfl⟩⟩)
    · cases hg
  · rename_i xs ys
    split at hg
    · rename_i hz
      cases hg
      obtain ⟨p, vs, rfl, hp, np, rp⟩ := hx.tup
      obtain ⟨q, ws, rfl, hq', nq, rq⟩ := hy.tup
      refine .inr (.inr (.inl ⟨p, q, vs, ws, rfl, rfl, hp.sq, hq'.sq, by rw [rp.length, rq.length]; exact hz, fun e => ?_, fun _ e => ?_, fun _ _ t o ht hd => ?_⟩))
      · subst e
        have : xs = [] := by cases xs with | nil => rfl | cons _ _ => obtain ⟨_, _, e, _⟩ := rp; cases e
        subst this
        exact hq W H _ Fr.refl ⟨s, q, ws, rfl, hq', nq, rq⟩
      · subst e
        have : ys = [] := by cases ys with | nil => rfl | cons _ _ => obtain ⟨_, _, e, _⟩ := rq; cases e
        subst this
        rw [List.append_nil] at hq
        exact hq W H _ Fr.refl ⟨s, p, vs, rfl, hp, np, rp⟩
      · exact hq W _ _ (Fr.new ht) (vok_tup hd s (rp.append rq) ht)
    · cases hg
  · split at hg
    · rename_i hz
      cases hg
      obtain ⟨p, vs, rfl, hp, rp⟩ := hx.lst'
      obtain ⟨q, ws, rfl, hq', rq⟩ := hy.lst'
      refine .inr (.inr (.inr ⟨p, q, vs, ws, rfl, rfl, hp, hq', by rw [rp.length, rq.length]; exact hz, fun t ht => ?_⟩))
      exact hq _ _ _ (Fr.newW ht) (vok_lst s (rp.append rq) ht)
    · cases hg
  · cases hg
theorem vr_sub : VR2 (rI0 fun i j => .int (i - j)) subD := by
  intro W B σ H ρ x y a b res Q s hx hy hg hq
  unfold subD at hg
  split at hg
  · cases hg
    exact ⟨_, _, hx.int, hy.int, hq W H _ Fr.refl ⟨s, rfl⟩⟩
  · cases hg
def rMulD : R2 := fun x y H Q => rI CMul (fun i j => .int (i * j)) x y H Q ∨ rI CMulW (fun i j => .int (i * j)) x y H Q ∨ rRep x y H Q
theorem op_mulD : OpR X (binaryOp .Mult) rMulD := op_mul.or (op_mulW.or op_rep)
theorem reps_rep {N : AP} {H : Hp} {ds : List D} {vs : List V} (r : Reps N H ds vs) : ∀ n : Nat, Reps N H (List.replicate n ds).flatten (List.replicate n vs).flatten
  | 0 => rfl
  | n + 1 => by
    rw [List.replicate_succ, List.replicate_succ, List.flatten_cons, List.flatten_cons]
    exact r.append (reps_rep r n)
theorem vr_mul : VR2 rMulD mulD := by
  intro W B σ H ρ x y a b res Q s hx hy hg hq
  unfold mulD at hg
  split at hg
  · split at hg
    · rename_i hz
      cases hg
      rcases hz with hz | hz
      · exact .inl ⟨_, _, hx.int, hy.int, hz, hq W H _ Fr.refl ⟨s, rfl⟩⟩
      · exact .inr (.inl ⟨_, _, hx.int, hy.int, hz, hq W H _ Fr.refl ⟨s, rfl⟩⟩)
    · cases hg
  · split at hg
    · rename_i hz
      cases hg
      obtain ⟨p, vs, rfl, hp, rp⟩ := hx.lst'
      refine .inr (.inr ⟨p, _, vs, rfl, hy.int, hp, hz.1, hz.2.1, by rw [rp.length]; exact hz.2.2, fun t ht => ?_⟩)
      exact hq _ _ _ (Fr.newW ht) (vok_lst s (reps_rep rp _) ht)
    · cases hg
  · cases hg
theorem vr_fdiv : VR2 (rI CDivW fun i j => .int (i / j)) fdivD := by
  intro W B σ H ρ x y a b res Q s hx hy hg hq
  unfold fdivD at hg
  split at hg
  · split at hg
    · rename_i hz
      cases hg
      exact ⟨_, _, hx.int, hy.int, hz, hq W H _ Fr.refl ⟨s, rfl⟩⟩
    · cases hg
  · cases hg
theorem vr_mod : VR2 (rI (fun _ j => 0 < j) fun i j => .int (i % j)) modD := by
  intro W B σ H ρ x y a b res Q s hx hy hg hq
  unfold modD at hg
  split at hg
  · split at hg
    · rename_i hz
      cases hg
      exact ⟨_, _, hx.int, hy.int, hz, hq W H _ Fr.refl ⟨s, rfl⟩⟩
    · cases hg
  · cases hg
theorem vr_pow : VR2 (rI CPow fun i j => .int (i ^ j.toNat)) powD := by
  intro W B σ H ρ x y a b res Q s hx hy hg hq
  unfold powD at hg
  split at hg
  · split at hg
    · rename_i hz
      cases hg
      exact ⟨_, _, hx.int, hy.int, hz, hq W H _ Fr.refl ⟨s, rfl⟩⟩
    · cases hg
  · cases hg
theorem vr_neg : VR1 (rU fun i => .int (-i)) negD := by
  intro W B σ H ρ x a res Q s hx hg hq
  unfold negD at hg
  split at hg
  · cases hg
    exact ⟨_, hx.int, hq W H _ Fr.refl ⟨s, rfl⟩⟩
  · cases hg
variable {Wx : WX} {a b : Expr} {o1 o2 : Opd} {pos : Pos}
theorem de_add (h1 : DO X Wx a o1) (h2 : DO X Wx b o2) : DE X Wx (.BinOp a .Add b pos) (f2 o1 o2 addD) := de_bin op_addD vr_add h1 h2
theorem de_sub (h1 : DO X Wx a o1) (h2 : DO X Wx b o2) : DE X Wx (.BinOp a .Sub b pos) (f2 o1 o2 subD) := de_bin op_sub vr_sub h1 h2
theorem de_mul (h1 : DO X Wx a o1) (h2 : DO X Wx b o2) : DE X Wx (.BinOp a .Mult b pos) (f2 o1 o2 mulD) := de_bin op_mulD vr_mul h1 h2
theorem de_fdiv (h1 : DO X Wx a o1) (h2 : DO X Wx b o2) : DE X Wx (.BinOp a .FloorDiv b pos) (f2 o1 o2 fdivD) := de_bin op_fdivW vr_fdiv h1 h2
theorem de_mod (h1 : DO X Wx a o1) (h2 : DO X Wx b o2) : DE X Wx (.BinOp a .Mod b pos) (f2 o1 o2 modD) := de_bin op_mod vr_mod h1 h2
theorem de_pow (h1 : DO X Wx a o1) (h2 : DO X Wx b o2) : DE X Wx (.BinOp a .Pow b pos) (f2 o1 o2 powD) := de_bin op_pow vr_pow h1 h2
theorem de_neg (h1 : DO X Wx a o1) : DE X Wx (.UnaryOp .USub a pos) (f1 o1 negD) := de_un un_neg vr_neg h1
end

/-! ### as the library's data -/
mutual
def py : D → PyData
  | .non => .none
  | .bl b => .bool b
  | .int i => .int i
  | .str s => .str s
  | .tup xs => .tuple (pys xs)
  | .lst xs => .list (pys xs)
  | .dK _ _ => .dict []
  | .dT _ _ => .dict []
  | .scr _ => .dict []
  | .tpl _ => .dict []
def pys : List D → List PyData
  | [] => []
  | x :: xs => py x :: pys xs
end
theorem pys_map : ∀ xs : List D, pys xs = xs.map py
  | [] => rfl
  | x :: xs => by rw [List.map_cons, ← pys_map xs]; rfl
/-- it may be compared -/
def okD (d : D) : Bool := SeqAt.shaped (py d)
mutual
theorem Rep.dp {K : PySem.W.Frag} {N : AP} {H : Hp} : ∀ (d : D) (v : V), Rep N H d v → (py d).canLay0 = true → Dp K H v (py d)
  | .non, _, h, _ => by rw [show _ = V.non from h]; exact .non
  | .bl b, _, h, _ => by rw [show _ = V.bl b from h]; exact .bl b
  | .int i, _, h, _ => by rw [show _ = V.int i from h]; exact .int i
  | .str i, _, h, _ => by rw [show _ = V.str i from h]; exact .str i
  | .tup ds, v, ⟨a, vs, e, hp, _, r⟩, c => by
    rw [e]
    exact .tup hp.sq (Reps.dp ds vs r c)
  | .lst ds, v, ⟨a, vs, e, hp, _, r⟩, c => by
    rw [e]
    exact .lst (SqL.of hp) (Reps.dp ds vs r c)
  | .dK _ _, _, _, c => by cases c
  | .dT _ _, _, _, c => by cases c
  | .scr _, _, _, c => by cases c
  | .tpl _, _, _, c => by cases c
theorem Reps.dp {K : PySem.W.Frag} {N : AP} {H : Hp} : ∀ (ds : List D) (vs : List V), Reps N H ds vs → PyData.canLayAll0 (pys ds) = true → DpAll K H vs (pys ds)
  | [], _, h, _ => by rw [show _ = [] from h]; exact .nil
  | d :: ds, vs, ⟨v, r, e, p, q⟩, c => by
    have c : ((py d).canLay0 && PyData.canLayAll0 (pys ds)) = true := c
    obtain ⟨c1, c2⟩ := Bool.and_eq_true_iff.mp c
    rw [e]
    exact .cons (Rep.dp d v p c1) (Reps.dp ds r q c2)
end
theorem PRep.dp {K : PySem.W.Frag} {N : AP} {H : Hp} {d : D} {v : V} (h : PRep N H d v) (c : okD d = true) : Dp K H v (py d) := by
  have c := (Bool.and_eq_true_iff.mp c).1
  rcases h with h | ⟨a, e, h⟩
  · exact Rep.dp d v h c
  · subst e
    cases d with
    | lst ds =>
      obtain ⟨vs, hp, r⟩ := h
      exact .lst (SqL.of hp) (Reps.dp ds vs r c)
    | dK _ _ => cases c
    | dT _ _ => cases c
    | _ => exact h.elim
def eqB (a b : D) : Bool := PyData.eqv (py a) (py b)
def eqD (a b : D) : Option R := if okD a = true ∧ okD b = true then some (.frz (.bl (eqB a b))) else none
def neD (a b : D) : Option R := if okD a = true ∧ okD b = true then some (.frz (.bl (!eqB a b))) else none
def ltD : D → D → Option R
  | .int i, .int j => some (.frz (.bl (decide (i < j))))
  | _, _ => none
def leD : D → D → Option R
  | .int i, .int j => some (.frz (.bl (decide (i ≤ j))))
  | _, _ => none
def gtD : D → D → Option R
  | .int i, .int j => some (.frz (.bl (decide (j < i))))
  | _, _ => none
def geD : D → D → Option R
  | .int i, .int j => some (.frz (.bl (decide (j ≤ i))))
  | _, _ => none
/-- a key -/
def keyD : D → Option Key
  | .int i => some (.inl i)
  | .str s => some (.inr s)
  | _ => none
def keyTs : List D → Option (List Key)
  | [] => some []
  | d :: ds => match keyD d, keyTs ds with
    | some k, some ks => some (k :: ks)
    | _, _ => none
def keyT : D → Option (List Key)
  | .tup ds => keyTs ds
  | _ => none
def inB : D → D → Option Bool
  | .str x, .str y => some (!(Builtin.Str.occurrences y x 0 y.length 1).isEmpty)
  | x, .lst ds => if okD x = true ∧ okD (.lst ds) = true then some (ds.any fun z => eqB z x) else none
  | x, .tup ds => if okD x = true ∧ okD (.tup ds) = true then some (ds.any fun z => eqB z x) else none
  | x, .dK ks _ => (keyD x).map fun k => ks.any fun k' => decide (k' = k)
  | _, _ => none
def inD (x y : D) : Option R := (inB x y).map fun b => .frz (.bl b)
def ninD (x y : D) : Option R := (inB x y).map fun b => .frz (.bl (!b))
section
variable {X : Cx}
theorem vr_eq {K : PySem.W.Frag} : VR2 (rEqD K) eqD := by
  intro W B σ H ρ x y a b res Q s hx hy hg hq
  unfold eqD at hg
  split at hg
  · rename_i hz
    cases hg
    exact ⟨_, _, hx.dp hz.1, hy.dp hz.2, hz.1, hz.2, hq W H _ Fr.refl ⟨s, rfl⟩⟩
  · cases hg
theorem vr_ne {K : PySem.W.Frag} : VR2 (rNeD K) neD := by
  intro W B σ H ρ x y a b res Q s hx hy hg hq
  unfold neD at hg
  split at hg
  · rename_i hz
    cases hg
    exact ⟨_, _, hx.dp hz.1, hy.dp hz.2, hz.1, hz.2, hq W H _ Fr.refl ⟨s, rfl⟩⟩
  · cases hg
theorem vr_lt : VR2 (rI0 fun i j => .bl (decide (i < j))) ltD := by
  intro W B σ H ρ x y a b res Q s hx hy hg hq
  unfold ltD at hg
  split at hg
  · cases hg
    exact ⟨_, _, hx.int, hy.int, hq W H _ Fr.refl ⟨s, rfl⟩⟩
  · cases hg
theorem vr_le : VR2 (rI0 fun i j => .bl (decide (i ≤ j))) leD := by
  intro W B σ H ρ x y a b res Q s hx hy hg hq
  unfold leD at hg
  split at hg
  · cases hg
    exact ⟨_, _, hx.int, hy.int, hq W H _ Fr.refl ⟨s, rfl⟩⟩
  · cases hg
theorem vr_gt : VR2 (rI0 fun i j => .bl (decide (j < i))) gtD := by
  intro W B σ H ρ x y a b res Q s hx hy hg hq
  unfold gtD at hg
  split at hg
  · cases hg
    exact ⟨_, _, hx.int, hy.int, hq W H _ Fr.refl ⟨s, rfl⟩⟩
  · cases hg
theorem vr_ge : VR2 (rI0 fun i j => .bl (decide (j ≤ i))) geD := by
  intro W B σ H ρ x y a b res Q s hx hy hg hq
  unfold geD at hg
  split at hg
  · cases hg
    exact ⟨_, _, hx.int, hy.int, hq W H _ Fr.refl ⟨s, rfl⟩⟩
  · cases hg
/-- in a tuple of data -/
def rInT (K : PySem.W.Frag) (neg : Bool) : R2 := fun x y H Q => ∃ d ds, Dp K H x d ∧ Dp K H y (.tuple ds) ∧ SeqAt.shaped d = true ∧ SeqAt.shaped (.tuple ds) = true ∧ Q (.bl (if neg then !(ds.any fun z => PyData.eqv z d) else ds.any fun z => PyData.eqv z d)) H
theorem room_tup {A : Around} {ds : List PyData} {d : PyData} (h : SeqAt.shaped d = true) (hu : A.units + 65 < cLine) : A.units + 1 + min (PyData.depthAll ds) d.depth < cLine := by
  have h1 := SeqAt.depth_of_shaped h
  omega
theorem op_inT (hu : X.A.units + 65 < cLine) : OpR X (compareOp .In) (rInT X.K false) := by
  intro pins s σ H x y v u Q I rx ry h
  obtain ⟨d, ds, hd, he, sd, se, q⟩ := h
  obtain ⟨as, r1⟩ := Dp.reads I d x v hd rx
  obtain ⟨bs, r2⟩ := Dp.reads I (.tuple ds) y u he ry
  exact SeqAt.in_tuple_reads r2 r1 (SeqAt.canLay_of_shaped se) (SeqAt.canLay_of_shaped sd) (room_tup sd hu) ⟨.bl _, H, I, rfl, q⟩
theorem op_notInT (hu : X.A.units + 65 < cLine) : OpR X (compareOp .NotIn) (rInT X.K true) := by
  intro pins s σ H x y v u Q I rx ry h
  obtain ⟨d, ds, hd, he, sd, se, q⟩ := h
  obtain ⟨as, r1⟩ := Dp.reads I d x v hd rx
  obtain ⟨bs, r2⟩ := Dp.reads I (.tuple ds) y u he ry
  exact SeqAt.notIn_tuple_reads r2 r1 (SeqAt.canLay_of_shaped se) (SeqAt.canLay_of_shaped sd) (room_tup sd hu) ⟨.bl _, H, I, rfl, q⟩
def rInDict (neg : Bool) : R2 := fun y x H Q => ∃ a o, x = .ref a ∧ DGet H a y o ∧ Q (.bl (if neg then !o.isSome else o.isSome)) H
theorem op_inDict (hu : X.A.units + 1 < cLine) : OpR X (compareOp .In) (rInDict false) := by
  intro pins s σ H y x iv u Q I ry rx ⟨a, ov, ex, g, q⟩
  subst ex
  obtain rfl : u = Value.ref a := rx
  exact d_in hu I g ry fun s3 I3 => ⟨.bl ov.isSome, H, I3, rfl, q⟩
theorem op_ninDict (hu : X.A.units + 1 < cLine) : OpR X (compareOp .NotIn) (rInDict true) := by
  intro pins s σ H y x iv u Q I ry rx ⟨a, ov, ex, g, q⟩
  subst ex
  obtain rfl : u = Value.ref a := rx
  exact d_notIn hu I g ry fun s3 I3 => ⟨.bl (!ov.isSome), H, I3, rfl, q⟩
def rInStr (neg : Bool) : R2 := fun x y H Q => ∃ i j, x = .str i ∧ y = .str j ∧ Q (.bl (if neg then !(!(Builtin.Str.occurrences j i 0 j.length 1).isEmpty) else !(Builtin.Str.occurrences j i 0 j.length 1).isEmpty)) H
def rInA (K : PySem.W.Frag) : R2 := fun x y H Q => rInStr false x y H Q ∨ rInD K x y H Q ∨ rInT K false x y H Q ∨ rInDict false x y H Q
def rNinA (K : PySem.W.Frag) : R2 := fun x y H Q => rInStr true x y H Q ∨ rNotInD K x y H Q ∨ rInT K true x y H Q ∨ rInDict true x y H Q
theorem op_inA (hu : X.A.units + 65 < cLine) : OpR X (compareOp .In) (rInA X.K) := OpR.or (r := rInStr false) op_in_str ((op_inD hu).or ((op_inT hu).or (op_inDict (by omega))))
theorem op_ninA (hu : X.A.units + 65 < cLine) : OpR X (compareOp .NotIn) (rNinA X.K) := OpR.or (r := rInStr true) op_notin_str ((op_notInD hu).or ((op_notInT hu).or (op_ninDict (by omega))))
theorem valV_some {κ : Type} [DecidableEq κ] {k : κ} : ∀ {kvs : List (κ × V)}, (valV kvs k).isSome = (kvs.map (·.1)).any fun k' => decide (k' = k)
  | [] => by simp [valV]
  | p :: r => by
    by_cases e : p.1 = k
    · rw [valV_pos e]; simp [e]
    · rw [valV_neg e, valV_some]
      simp [e]
theorem keyD_rep {N : AP} {H : Hp} {x : D} {v : V} {k : Key} (h : PRep N H x v) (e : keyD x = some k) : v = kV k := by
  unfold keyD at e
  split at e
  · cases e; exact h.int
  · cases e; exact h.str
  · cases e
theorem keyTs_rep {N : AP} {H : Hp} : ∀ {ds : List D} {vs : List V} {ks : List Key}, Reps N H ds vs → keyTs ds = some ks → vs = ks.map kV
  | [], vs, ks, h, e => by cases e; exact h
  | d :: ds, vs, ks, ⟨v, r, e1, p, q⟩, e => by
    unfold keyTs at e
    split at e
    · rename_i k ks' h1 h2
      cases e
      rw [e1, keyD_rep (.inl p) h1, keyTs_rep q h2]
      rfl
    · cases e
theorem dget_dK {N : AP} {H : Hp} {x : D} {v : V} {k : Key} {a : Addr} {kvs : List (Key × V)} (h : PRep N H x v) (e : keyD x = some k) (hp : H a = some (.dK kvs)) : DGet H a v (valV kvs k) :=
  .inl ⟨kvs, k, .inl hp, keyD_rep h e, rfl⟩
theorem any_map_py (ds : List D) (x : D) : (ds.any fun z => eqB z x) = (pys ds).any fun z => PyData.eqv z (py x) := by
  rw [pys_map, List.any_map]
  rfl
theorem vr_in {K : PySem.W.Frag} : VR2 (rInA K) inD := by
  intro W B σ H ρ x y a b res Q s hx hy hg hq
  unfold inD at hg
  cases e : inB a b with
  | none => rw [e] at hg; cases hg
  | some c =>
    rw [e] at hg
    cases hg
    have fin : Q (.bl c) H := hq W H _ Fr.refl ⟨s, rfl⟩
    unfold inB at e
    split at e
    · cases e
      exact .inl ⟨_, _, hx.str, hy.str, fin⟩
    · split at e
      · rename_i hz
        cases e
        refine .inr (.inl ⟨_, pys _, hx.dp hz.1, hy.dp hz.2, hz.1, hz.2, ?_⟩)
        rw [← any_map_py]
        exact fin
      · cases e
    · split at e
      · rename_i hz
        cases e
        refine .inr (.inr (.inl ⟨_, pys _, hx.dp hz.1, hy.dp hz.2, hz.1, hz.2, ?_⟩))
        rw [← any_map_py]
        exact fin
      · cases e
    · cases k : keyD a with
      | none => rw [k] at e; cases e
      | some k' =>
        rw [k] at e
        cases e
        obtain ⟨p, kvs, rfl, hp, rfl, _⟩ := hy.dK
        refine .inr (.inr (.inr ⟨p, _, rfl, dget_dK hx k hp, ?_⟩))
        show Q (.bl (valV kvs k').isSome) H
        rw [valV_some]
        exact fin
    · cases e
theorem vr_nin {K : PySem.W.Frag} : VR2 (rNinA K) ninD := by
  intro W B σ H ρ x y a b res Q s hx hy hg hq
  unfold ninD at hg
  cases e : inB a b with
  | none => rw [e] at hg; cases hg
  | some c =>
    rw [e] at hg
    cases hg
    have fin : Q (.bl (!c)) H := hq W H _ Fr.refl ⟨s, rfl⟩
    unfold inB at e
    split at e
    · cases e
      exact .inl ⟨_, _, hx.str, hy.str, fin⟩
    · split at e
      · rename_i hz
        cases e
        refine .inr (.inl ⟨_, pys _, hx.dp hz.1, hy.dp hz.2, hz.1, hz.2, ?_⟩)
        rw [← any_map_py]
        exact fin
      · cases e
    · split at e
      · rename_i hz
        cases e
        refine .inr (.inr (.inl ⟨_, pys _, hx.dp hz.1, hy.dp hz.2, hz.1, hz.2, ?_⟩))
        rw [← any_map_py]
        exact fin
      · cases e
    · cases k : keyD a with
      | none => rw [k] at e; cases e
      | some k' =>
        rw [k] at e
        cases e
        obtain ⟨p, kvs, rfl, hp, rfl, _⟩ := hy.dK
        refine .inr (.inr (.inr ⟨p, _, rfl, dget_dK hx k hp, ?_⟩))
        show Q (.bl (!(valV kvs k').isSome)) H
        rw [valV_some]
        exact fin
    · cases e
end
/-! ### is None -/
def isNonB : D → Bool
  | .non => true
  | _ => false
def isND (a b : D) : Option R := match b with
  | .non => some (.frz (.bl (isNonB a)))
  | _ => none
def notND (a b : D) : Option R := match b with
  | .non => some (.frz (.bl (!isNonB a)))
  | _ => none
theorem isNon_of {N : AP} {H : Hp} {d : D} {v : V} (h : PRep N H d v) : decide (v = .non) = isNonB d := by
  rcases h with h | ⟨a, e, h⟩
  · cases d with
    | non => rw [show v = .non from h]; rfl
    | bl b => rw [show v = .bl b from h]; rfl
    | int b => rw [show v = .int b from h]; rfl
    | str b => rw [show v = .str b from h]; rfl
    | scr _ => obtain ⟨a, e, _⟩ := h; subst e; rfl
    | tup _ => obtain ⟨a, vs, e, _⟩ := h; subst e; rfl
    | tpl _ => obtain ⟨a, vs, e, _⟩ := h; subst e; rfl
    | lst _ => obtain ⟨a, vs, e, _⟩ := h; subst e; rfl
    | dK _ _ => obtain ⟨a, vs, e, _⟩ := h; subst e; rfl
    | dT _ _ => obtain ⟨a, vs, e, _⟩ := h; subst e; rfl
  · subst e
    cases d <;> first | exact h.elim | rfl
theorem vr_isN : VR2 (fun x y H Q => y = .non ∧ Q (.bl (decide (x = .non))) H) isND := by
  intro W B σ H ρ x y a b res Q s hx hy hg hq
  unfold isND at hg
  split at hg
  · cases hg
    exact ⟨hy.non, by rw [isNon_of hx]; exact hq W H _ Fr.refl ⟨s, rfl⟩⟩
  · cases hg
theorem vr_notN : VR2 (fun x y H Q => y = .non ∧ Q (.bl (!decide (x = .non))) H) notND := by
  intro W B σ H ρ x y a b res Q s hx hy hg hq
  unfold notND at hg
  split at hg
  · cases hg
    exact ⟨hy.non, by rw [isNon_of hx]; exact hq W H _ Fr.refl ⟨s, rfl⟩⟩
  · cases hg
section
variable {X : Cx} {Wx : WX} {a b : Expr} {o1 o2 : Opd} {pos : Pos}
theorem de_eq (hu : X.A.units + 64 < cLine) (h1 : DO X Wx a o1) (h2 : DO X Wx b o2) : DE X Wx (.Compare a [.Eq] [b] pos) (f2 o1 o2 eqD) := de_cmp (op_eqD hu) vr_eq h1 h2 (nomark _)
theorem de_ne (hu : X.A.units + 64 < cLine) (h1 : DO X Wx a o1) (h2 : DO X Wx b o2) : DE X Wx (.Compare a [.NotEq] [b] pos) (f2 o1 o2 neD) := de_cmp (op_neD hu) vr_ne h1 h2 (nomark _)
theorem de_lt (h1 : DO X Wx a o1) (h2 : DO X Wx b o2) : DE X Wx (.Compare a [.Lt] [b] pos) (f2 o1 o2 ltD) := de_cmp op_lt vr_lt h1 h2 (nomark _)
theorem de_le (h1 : DO X Wx a o1) (h2 : DO X Wx b o2) : DE X Wx (.Compare a [.LtE] [b] pos) (f2 o1 o2 leD) := de_cmp op_le vr_le h1 h2 (nomark _)
theorem de_gt (h1 : DO X Wx a o1) (h2 : DO X Wx b o2) : DE X Wx (.Compare a [.Gt] [b] pos) (f2 o1 o2 gtD) := de_cmp op_gt vr_gt h1 h2 (nomark _)
theorem de_ge (h1 : DO X Wx a o1) (h2 : DO X Wx b o2) : DE X Wx (.Compare a [.GtE] [b] pos) (f2 o1 o2 geD) := de_cmp op_ge vr_ge h1 h2 (nomark _)
theorem de_in (hu : X.A.units + 65 < cLine) (h1 : DO X Wx a o1) (h2 : DO X Wx b o2) (hm : behindInMarks .In b = false := by rfl) : DE X Wx (.Compare a [.In] [b] pos) (f2 o1 o2 inD) := de_cmp (op_inA hu) vr_in h1 h2 hm
theorem de_nin (hu : X.A.units + 65 < cLine) (h1 : DO X Wx a o1) (h2 : DO X Wx b o2) (hm : behindInMarks .NotIn b = false := by rfl) : DE X Wx (.Compare a [.NotIn] [b] pos) (f2 o1 o2 ninD) := de_cmp (op_ninA hu) vr_nin h1 h2 hm
theorem de_isN (h1 : DO X Wx a o1) (h2 : DO X Wx b o2) : DE X Wx (.Compare a [.Is] [b] pos) (f2 o1 o2 isND) := de_cmp op_isN vr_isN h1 h2 (nomark _)
theorem de_notN (h1 : DO X Wx a o1) (h2 : DO X Wx b o2) : DE X Wx (.Compare a [.IsNot] [b] pos) (f2 o1 o2 notND) := de_cmp op_notN vr_notN h1 h2 (nomark _)
end
end Dz
/-! Dz 4: tests, statements, loops. -/
namespace Dz
open PySem PySem.Spec PyProof.Rows L2

section
variable {X : Cx} {Wx : WX} {a b c e : Expr} {o o1 o2 o3 : Opd} {f f' : M R} {g h : M Bool} {pos : Pos} {rest : List Expr}
def asB (r : R) : Option Bool := match r.d with
  | .bl k => some k
  | _ => none
theorem asB_bl {W B : AP} {σ : L2.St} {H : Hp} {ρ : Env} {v : V} {r : R} {k : Bool} (hv : VOk W B σ H ρ v r) (q : asB r = some k) : v = .bl k := by
  unfold asB at q
  cases r with
  | frz d =>
    cases d <;> first
      | (cases q; exact hv.2)
      | (cases q)
  | own d =>
    obtain ⟨x, _, _, _, t, _⟩ := hv
    cases d <;> first
      | exact t.elim
      | (cases q)
/-- a value's truth, where it is True or False -/
def fB (f : M R) : M Bool := mbind f fun r => mopt (asB r)
theorem evo_fB {f : M R} (h : EvoF f) : EvoF (fB f) := evo_bind h fun _ => evo_opt _
theorem rdT_bool {mg : Str → Option Value} {f : M R} {σ : L2.St} {H : Hp} {Q : Bool → Hp → Prop} (q : rdT mg Wx (fB f) σ H Q) : rdE mg Wx f σ H fun x H' => ∃ k, x = .bl k ∧ Q k H' := by
  obtain ⟨W, B, ρ, s, a⟩ := q
  refine ⟨W, B, ρ, s, (After.bind a).mono fun W1 H1 r ρ1 _ _ a1 v hv => ?_⟩
  obtain ⟨k, e, a2⟩ := a1.opt
  exact ⟨k, asB_bl hv e, a2 W1 H1 .refl hv.st⟩
theorem dt_cmp {op : CmpOp} {g : D → D → Option R} {r : R2} (ho : OpR X (compareOp op) r) (hr : VR2 r g) (h1 : DO X Wx a o1) (h2 : DO X Wx b o2) (hm : behindInMarks op b = false) : DT X Wx (.Compare a [op] [b] pos) (fB (f2 o1 o2 g)) :=
  ⟨pt_imp (pt_cmpR ho h1.pe h2.pe hm) fun σ H Q q => rd2 hr h1.evo h2.evo (rdT_bool q), evo_fB (evo_f2 h1.evo h2.evo)⟩
theorem dt_eq (hu : X.A.units + 64 < cLine) (h1 : DO X Wx a o1) (h2 : DO X Wx b o2) : DT X Wx (.Compare a [.Eq] [b] pos) (fB (f2 o1 o2 eqD)) := dt_cmp (op_eqD hu) vr_eq h1 h2 (nomark _)
theorem dt_ne (hu : X.A.units + 64 < cLine) (h1 : DO X Wx a o1) (h2 : DO X Wx b o2) : DT X Wx (.Compare a [.NotEq] [b] pos) (fB (f2 o1 o2 neD)) := dt_cmp (op_neD hu) vr_ne h1 h2 (nomark _)
theorem dt_lt (h1 : DO X Wx a o1) (h2 : DO X Wx b o2) : DT X Wx (.Compare a [.Lt] [b] pos) (fB (f2 o1 o2 ltD)) := dt_cmp op_lt vr_lt h1 h2 (nomark _)
theorem dt_le (h1 : DO X Wx a o1) (h2 : DO X Wx b o2) : DT X Wx (.Compare a [.LtE] [b] pos) (fB (f2 o1 o2 leD)) := dt_cmp op_le vr_le h1 h2 (nomark _)
theorem dt_gt (h1 : DO X Wx a o1) (h2 : DO X Wx b o2) : DT X Wx (.Compare a [.Gt] [b] pos) (fB (f2 o1 o2 gtD)) := dt_cmp op_gt vr_gt h1 h2 (nomark _)
theorem dt_ge (h1 : DO X Wx a o1) (h2 : DO X Wx b o2) : DT X Wx (.Compare a [.GtE] [b] pos) (fB (f2 o1 o2 geD)) := dt_cmp op_ge vr_ge h1 h2 (nomark _)
theorem dt_in (hu : X.A.units + 65 < cLine) (h1 : DO X Wx a o1) (h2 : DO X Wx b o2) (hm : behindInMarks .In b = false := by rfl) : DT X Wx (.Compare a [.In] [b] pos) (fB (f2 o1 o2 inD)) := dt_cmp (op_inA hu) vr_in h1 h2 hm
theorem dt_nin (hu : X.A.units + 65 < cLine) (h1 : DO X Wx a o1) (h2 : DO X Wx b o2) (hm : behindInMarks .NotIn b = false := by rfl) : DT X Wx (.Compare a [.NotIn] [b] pos) (fB (f2 o1 o2 ninD)) := dt_cmp (op_ninA hu) vr_nin h1 h2 hm
theorem dt_isN (h1 : DO X Wx a o1) (h2 : DO X Wx b o2) : DT X Wx (.Compare a [.Is] [b] pos) (fB (f2 o1 o2 isND)) := dt_cmp op_isN vr_isN h1 h2 (nomark _)
theorem dt_notN (h1 : DO X Wx a o1) (h2 : DO X Wx b o2) : DT X Wx (.Compare a [.IsNot] [b] pos) (fB (f2 o1 o2 notND)) := dt_cmp op_notN vr_notN h1 h2 (nomark _)
/-- True or False as a test (a call, a name) -/
theorem dt_val (h : DE X Wx e f) (he : ∀ whole, isTrue e X.env whole = (do let v ← whole; standAt e.pos; holding [v] (truthy v)) := by intro _; rfl) : DT X Wx e (fB f) :=
  ⟨pt_imp (pt_val h.pe he) fun _ _ _ q => rdT_bool q, evo_fB h.evo⟩
/-- any value's truth -/
def truB : D → Option Bool
  | .non => some false
  | .bl k => some k
  | .int i => some (i != 0)
  | .str x => if x.length ≤ sizeLine then some ((x.length : Int) != 0) else none
  | .tup xs => some (!xs.isEmpty)
  | .lst xs => some (!xs.isEmpty)
  | .dK ks _ => some (!ks.isEmpty)
  | _ => none
def tru1 : List D → Option Bool
  | [d] => truB d
  | _ => none
def fTru (o : Opd) : M Bool := mbind (evs [o]) fun ds => mopt (tru1 ds)
theorem isEmpty_len {α β : Type} {xs : List α} {ys : List β} (h : xs.length = ys.length) : xs.isEmpty = ys.isEmpty := by
  cases xs <;> cases ys <;> first | rfl | cases h
theorem dt_tru (h : DO X Wx e o) (he : ∀ whole, isTrue e X.env whole = (do let v ← whole; standAt e.pos; holding [v] (truthy v)) := by intro _; rfl) : DT X Wx e (fTru o) := by
  refine ⟨pt_imp (pt_truth h.pe he) fun σ H Q ⟨W, B, ρ, s, a⟩ => ?_, evo_bind (evo_evs fun o z => by rcases List.mem_cons.mp z with e | z; exact e ▸ h.evo; exact (List.not_mem_nil z).elim) fun _ => evo_opt _⟩
  have q : rdOs X.mg Wx [o] σ H fun vs H' => ∃ x, vs = [x] ∧ ∃ k, TruV X.K x H' k ∧ Q k H' := by
    refine ⟨W, B, ρ, s, (After.bind a).mono fun W1 H1 ds ρ1 _ _ a1 vs s1 rs => ?_⟩
    obtain ⟨k, e, a2⟩ := a1.opt
    have fin := a2 W1 H1 .refl s1
    unfold tru1 at e
    split at e
    · obtain ⟨x, _, rfl, p, z⟩ := rs
      rw [show _ = [] from z]
      refine ⟨x, rfl, k, ?_, fin⟩
      unfold truB at e
      split at e
      · cases e; rw [p.non]; rfl
      · cases e; rw [p.bl]; rfl
      · cases e; rw [p.int]; rfl
      · split at e
        · rename_i hz
          cases e
          rw [p.str]
          exact ⟨hz, rfl⟩
        · cases e
      · cases e
        obtain ⟨q, ws, rfl, hq, _, r⟩ := p.tup
        exact .inr (.inl ⟨ws, hq.sq, by rw [isEmpty_len r.length]⟩)
      · cases e
        obtain ⟨q, ws, rfl, hq, r⟩ := p.lst
        exact .inl ⟨ws, SqL.of hq, by rw [isEmpty_len r.length]⟩
      · cases e
        obtain ⟨q, ws, rfl, hq, z, r⟩ := p.dK
        exact .inr (.inr ⟨ws, hq, by rw [← z]; rw [isEmpty_len (List.length_map _)]⟩)
      · cases e
    · cases e
  have mono : ∀ {o : Opd} {σ : L2.St} {H : Hp} {Q Q' : VK}, rdO X.mg Wx o σ H Q → (∀ v H, Q v H → Q' v H) → rdO X.mg Wx o σ H Q' := fun {o} {σ H Q Q'} q i => by
    cases o with
    | ev f => obtain ⟨W, B, ρ, s, a⟩ := q; exact ⟨W, B, ρ, s, a.mono fun W' H' r ρ' _ _ k v hv => i v H' (k v hv)⟩
    | sl j => obtain ⟨v, e, q⟩ := q; exact ⟨v, e, i _ _ q⟩
  refine mono (rdOs_cons (os := []) h.evo (fun _ z => (List.not_mem_nil z).elim) q) fun x H1 q => ?_
  obtain ⟨x', e, k⟩ := rdOs_nil q
  cases e
  exact k

/-! ### and, or, not, if-else -/
structure DW (X : Cx) (Wx : WX) (e : Expr) (f : M Bool) : Prop where
  pw : PW X e (rdT X.mg Wx f)
  evo : EvoF f
def fAnd (f g : M Bool) : M Bool := mbind f fun c => if c = true then g else mret false
def fOr (f g : M Bool) : M Bool := mbind f fun c => if c = true then mret true else g
def fNot (f : M Bool) : M Bool := mbind f fun c => mret (!c)
def fIf {α : Type} (c : M Bool) (f g : M α) : M α := mbind c fun k => if k = true then f else g
theorem evo_if {α : Type} {c : M Bool} {f g : M α} (hc : EvoF c) (hf : EvoF f) (hg : EvoF g) : EvoF (fIf c f g) := evo_bind hc fun k => by cases k <;> assumption
theorem dw_and1 (h : DT X Wx a g) : DW X Wx (.BoolOp .And [a] pos) g := ⟨pw_and1 h.pt, h.evo⟩
theorem dw_or1 (h : DT X Wx a g) : DW X Wx (.BoolOp .Or [a] pos) g := ⟨pw_or1 h.pt, h.evo⟩
theorem dw_and (h1 : DT X Wx a g) (h2 : DW X Wx (.BoolOp .And (b :: rest) pos) h) : DW X Wx (.BoolOp .And (a :: b :: rest) pos) (fAnd g h) := by
  refine ⟨pw_imp (pw_and h1.pt h2.pw) fun σ H Q ⟨W, B, ρ, s, a⟩ => ⟨W, B, ρ, s, (After.bind a).mono fun W1 H1 c ρ1 _ _ a1 s1 => ?_⟩, evo_bind h1.evo fun c => by cases c; exact evo_ret _; exact h2.evo⟩
  cases c with
  | true => exact ⟨W1, B, ρ1, s1, a1⟩
  | false => exact a1.here s1
theorem dw_or (h1 : DT X Wx a g) (h2 : DW X Wx (.BoolOp .Or (b :: rest) pos) h) : DW X Wx (.BoolOp .Or (a :: b :: rest) pos) (fOr g h) := by
  refine ⟨pw_imp (pw_or h1.pt h2.pw) fun σ H Q ⟨W, B, ρ, s, a⟩ => ⟨W, B, ρ, s, (After.bind a).mono fun W1 H1 c ρ1 _ _ a1 s1 => ?_⟩, evo_bind h1.evo fun c => by cases c; exact h2.evo; exact evo_ret _⟩
  cases c with
  | false => exact ⟨W1, B, ρ1, s1, a1⟩
  | true => exact a1.here s1
theorem DW.dt (h : DW X Wx e g) : DT X Wx e g := ⟨h.pw.pt, h.evo⟩
theorem dt_not (h : DT X Wx a g) : DT X Wx (.UnaryOp .Not a pos) (fNot g) := by
  refine ⟨pt_imp (pt_not h.pt) fun σ H Q ⟨W, B, ρ, s, a⟩ => ⟨W, B, ρ, s, (After.bind a).mono fun W1 H1 c ρ1 _ _ a1 s1 => ?_⟩, evo_bind h.evo fun c => evo_ret _⟩
  exact a1.here s1
def needB (r : R) : M Bool := mopt (asB r)
def fAndV (f g : M R) : M R := mbind (fB f) fun c => if c = true then g else mret (.frz (.bl false))
def fOrV (f g : M R) : M R := mbind (fB f) fun c => if c = true then mret (.frz (.bl true)) else g
def fNotV (f : M R) : M R := mbind (fB f) fun c => mret (.frz (.bl (!c)))
theorem rdT_then {mg : Str → Option Value} {f : M R} {k : Bool → M R} {σ : L2.St} {H : Hp} {Q : VK} {P : Bool → Hp → Prop} (q : rdE mg Wx (mbind (fB f) k) σ H Q) (i : ∀ c H1, rdE mg Wx (k c) σ H1 Q → P c H1) : rdE mg Wx f σ H fun x H' => ∃ c, x = .bl c ∧ P c H' := by
  obtain ⟨W, B, ρ, s, a⟩ := q
  refine rdT_bool ⟨W, B, ρ, s, (After.bind a).mono fun W1 H1 c ρ1 _ _ a1 s1 => i c H1 ⟨W1, B, ρ1, s1, a1⟩⟩
theorem rdE_ret {mg : Str → Option Value} {d : D} {v : V} (hr : ∀ N H, Rep N H d v) {σ : L2.St} {H : Hp} {Q : VK} (q : rdE mg Wx (mret (.frz d)) σ H Q) : Q v H := by
  obtain ⟨W, B, ρ, s, a⟩ := q
  exact a.here v ⟨s, hr _ _⟩
theorem de_one {op : BoolOp} (h : DE X Wx a f) : DE X Wx (.BoolOp op [a] pos) f := ⟨pe_one h.pe, h.evo⟩
theorem de_and (h1 : DE X Wx a f) (h2 : DE X Wx (.BoolOp .And (b :: rest) pos) f') : DE X Wx (.BoolOp .And (a :: b :: rest) pos) (fAndV f f') := by
  refine ⟨pe_imp (pe_and h1.pe h2.pe) fun σ H Q q => rdT_then q fun c H1 k => ?_, evo_bind (evo_fB h1.evo) fun c => by cases c; exact evo_ret _; exact h2.evo⟩
  cases c with
  | true => exact k
  | false => exact rdE_ret (d := .bl false) (v := .bl false) (fun _ _ => rfl) k
theorem de_or (h1 : DE X Wx a f) (h2 : DE X Wx (.BoolOp .Or (b :: rest) pos) f') : DE X Wx (.BoolOp .Or (a :: b :: rest) pos) (fOrV f f') := by
  refine ⟨pe_imp (pe_or h1.pe h2.pe) fun σ H Q q => rdT_then q fun c H1 k => ?_, evo_bind (evo_fB h1.evo) fun c => by cases c; exact h2.evo; exact evo_ret _⟩
  cases c with
  | false => exact k
  | true => exact rdE_ret (d := .bl true) (v := .bl true) (fun _ _ => rfl) k
theorem de_not (h1 : DE X Wx a f) : DE X Wx (.UnaryOp .Not a pos) (fNotV f) := by
  refine ⟨pe_imp (pe_not h1.pe) fun σ H Q q => rdT_then q fun c H1 k => ?_, evo_bind (evo_fB h1.evo) fun c => evo_ret _⟩
  exact rdE_ret (d := .bl (!c)) (v := .bl (!c)) (fun _ _ => rfl) k
theorem de_if (hc : DT X Wx c g) (h1 : DE X Wx a f) (h2 : DE X Wx b f') : DE X Wx (.IfExp c a b pos) (fIf g f f') := by
  refine ⟨pe_imp (pe_ifExp hc.pt h1.pe h2.pe) fun σ H Q ⟨W, B, ρ, s, a⟩ => ⟨W, B, ρ, s, (After.bind a).mono fun W1 H1 c ρ1 _ _ a1 s1 => ?_⟩, evo_if hc.evo h1.evo h2.evo⟩
  cases c with
  | true => exact ⟨W1, B, ρ1, s1, a1⟩
  | false => exact ⟨W1, B, ρ1, s1, a1⟩
/-- a < b < c of whole numbers -/
def isI : D → Bool
  | .int _ => true
  | _ => false
def chK (g' : D → D → Option R) (o3 : Opd) (b : D) (c : Bool) : M R := if c = true then mbind (evs [o3]) fun ds => mopt (ap1 (g' b) ds) else mret (.frz (.bl false))
def chB (g : D → D → Option R) : List D → Option (D × Bool)
  | [.int i, .int j] => ((g (.int i) (.int j)).bind asB).map fun k => (.int j, k)
  | _ => none
theorem chB_some {g : D → D → Option R} {ds : List D} {d : D} {k : Bool} (h : chB g ds = some (d, k)) : ∃ i j, ds = [.int i, .int j] ∧ d = .int j ∧ (g (.int i) (.int j)).bind asB = some k := by
  unfold chB at h
  split at h
  · rename_i i j
    cases q : (g (.int i) (.int j)).bind asB with
    | none => rw [q] at h; cases h
    | some k' => rw [q] at h; cases h; exact ⟨i, j, rfl, rfl, q⟩
  · cases h
def fCh (g g' : D → D → Option R) (o1 o2 o3 : Opd) : M R := mbind (evs [o1, o2]) fun ds => mbind (mopt (chB g ds)) fun p => chK g' o3 p.1 p.2
theorem mono_rdO {mg : Str → Option Value} : ∀ {o : Opd} {σ : L2.St} {H : Hp} {Q Q' : VK}, rdO mg Wx o σ H Q → (∀ v H, Q v H → Q' v H) → rdO mg Wx o σ H Q' := fun {o} {σ H Q Q'} q i => by
  cases o with
  | ev f => obtain ⟨W, B, ρ, s, a⟩ := q; exact ⟨W, B, ρ, s, a.mono fun W' H' r ρ' _ _ k v hv => i v H' (k v hv)⟩
  | sl j => obtain ⟨v, e, q⟩ := q; exact ⟨v, e, i _ _ q⟩
theorem evo1 {o : Opd} (h : o.Evo) : ∀ p ∈ [o], p.Evo := fun p z => by rcases List.mem_cons.mp z with e | z; exact e ▸ h; exact (List.not_mem_nil z).elim
theorem evo2 {o p : Opd} (h : o.Evo) (k : p.Evo) : ∀ q ∈ [o, p], q.Evo := fun q z => by rcases List.mem_cons.mp z with e | z; exact e ▸ h; exact evo1 k q z
theorem de_chain {op op' : CmpOp} {g g' : D → D → Option R} {p p' : Int → Int → Bool} (ho : OpR X (compareOp op) (rI0 fun i j => .bl (p i j))) (ho' : OpR X (compareOp op') (rI0 fun i j => .bl (p' i j)))
    (hg : ∀ i j, g (.int i) (.int j) = some (.frz (.bl (p i j)))) (hg' : ∀ j d, g' (.int j) d = match d with | .int k => some (.frz (.bl (p' j k))) | _ => none)
    (h1 : DO X Wx a o1) (h2 : DO X Wx b o2) (h3 : DO X Wx c o3) (hm : lastMarks [op, op'] [b, c] = false := by rfl) : DE X Wx (.Compare a [op, op'] [b, c] pos) (fCh g g' o1 o2 o3) := by
  refine ⟨pe_imp (pe_chain ho ho' h1.pe h2.pe h3.pe hm) fun σ H Q ⟨W, B, ρ, s, a⟩ => ?_, evo_bind (evo_evs (evo2 h1.evo h2.evo)) fun ds => evo_bind (evo_opt _) fun q => by
    unfold chK
    cases q.2
    · exact evo_ret _
    · exact evo_bind (evo_evs (evo1 h3.evo)) fun _ => evo_opt _⟩
  have q : rdOs X.mg Wx [o1, o2] σ H fun vs H2 => ∃ i j, vs = [.int i, .int j] ∧ if p i j = true then rdO X.mg Wx o3 σ H2 fun w' H4 => ∃ k, w' = .int k ∧ Q (.bl (p' j k)) H4 else Q (.bl false) H2 := by
    refine ⟨W, B, ρ, s, (After.bind a).mono fun W1 H1 ds ρ1 _ _ a1 vs s1 rs => ?_⟩
    obtain ⟨⟨d, k⟩, e, a2⟩ := (After.bind a1).opt
    have a2 := a2 W1 H1 .refl
    obtain ⟨i, j, rfl, rfl, e2⟩ := chB_some e
    · rw [hg] at e2
      cases e2
      obtain ⟨x, _, rfl, px, y, _, rfl, py, z⟩ := rs
      rw [show _ = [] from z, px.int, py.int]
      refine ⟨i, j, rfl, ?_⟩
      cases hk : p i j with
      | true =>
        rw [hk] at a2
        show if true = true then _ else _
        rw [if_pos rfl]
        have q3 : rdOs X.mg Wx [o3] σ H1 fun ws H4 => ∃ w', ws = [w'] ∧ ∃ k, w' = .int k ∧ Q (.bl (p' j k)) H4 := by
          refine ⟨W1, B, ρ1, s1, (After.bind (show After X.mg Wx W1 B σ H1 (mbind (evs [o3]) (fun ds => mopt (ap1 (g' (.int j)) ds)) ρ1) _ from a2)).mono fun W3 H3 ds3 ρ3 _ _ a3 ws s3 rs3 => ?_⟩
          obtain ⟨r3, e3, a4⟩ := a3.opt
          obtain ⟨d3, rfl, e4⟩ := ap1_some e3
          obtain ⟨w', _, rfl, pw, z⟩ := rs3
          rw [show _ = [] from z]
          rw [hg'] at e4
          split at e4
          · cases e4
            exact ⟨w', rfl, _, pw.int, a4 W3 H3 .refl _ ⟨s3, rfl⟩⟩
          · cases e4
        refine mono_rdO (rdOs_cons (os := []) h3.evo (fun _ z => (List.not_mem_nil z).elim) q3) fun w' H4 q => ?_
        obtain ⟨w2, e, k⟩ := rdOs_nil q
        cases e
        exact k
      | false =>
        rw [hk] at a2
        show if false = true then _ else _
        rw [if_neg Bool.false_ne_true]
        exact a2 W1 H1 .refl (V.bl false) ⟨s1, rfl⟩
  refine mono_rdO (rdOs_cons h1.evo (evo1 h2.evo) q) fun x H1 q => mono_rdO (rdOs_cons (os := []) h2.evo (fun _ z => (List.not_mem_nil z).elim) q) fun y H2 q => ?_
  obtain ⟨i, j, e, k⟩ := rdOs_nil q
  cases e
  refine ⟨i, j, rfl, rfl, p i j, rfl, ?_⟩
  cases hk : p i j with
  | true =>
    rw [hk] at k
    rw [if_pos rfl] at k ⊢
    exact mono_rdO k fun w' H4 ⟨k, e, q⟩ => ⟨j, k, rfl, e, q⟩
  | false =>
    rw [hk] at k
    rw [if_neg Bool.false_ne_true] at k ⊢
    exact k
theorem ltD_r (j : Int) (d : D) : ltD (.int j) d = match d with | .int k => some (.frz (.bl (decide (j < k)))) | _ => none := by cases d <;> rfl
theorem leD_r (j : Int) (d : D) : leD (.int j) d = match d with | .int k => some (.frz (.bl (decide (j ≤ k)))) | _ => none := by cases d <;> rfl
theorem de_lele (h1 : DO X Wx a o1) (h2 : DO X Wx b o2) (h3 : DO X Wx c o3) : DE X Wx (.Compare a [.LtE, .LtE] [b, c] pos) (fCh leD leD o1 o2 o3) := de_chain op_le op_le (fun _ _ => rfl) leD_r h1 h2 h3 (nomark c)
theorem de_lelt (h1 : DO X Wx a o1) (h2 : DO X Wx b o2) (h3 : DO X Wx c o3) : DE X Wx (.Compare a [.LtE, .Lt] [b, c] pos) (fCh leD ltD o1 o2 o3) := de_chain op_le op_lt (fun _ _ => rfl) ltD_r h1 h2 h3 (nomark c)
theorem de_ltlt (h1 : DO X Wx a o1) (h2 : DO X Wx b o2) (h3 : DO X Wx c o3) : DE X Wx (.Compare a [.Lt, .Lt] [b, c] pos) (fCh ltD ltD o1 o2 o3) := de_chain op_lt op_lt (fun _ _ => rfl) ltD_r h1 h2 h3 (nomark c)
theorem de_ltle (h1 : DO X Wx a o1) (h2 : DO X Wx b o2) (h3 : DO X Wx c o3) : DE X Wx (.Compare a [.Lt, .LtE] [b, c] pos) (fCh ltD leD o1 o2 o3) := de_chain op_lt op_le (fun _ _ => rfl) leD_r h1 h2 h3 (nomark c)
end

/-! ### statements -/
inductive Fl where
  | next | brk | cont | ret (r : R)
def Kp (σ σ' : L2.St) (ρ' : Env) : Prop := ∀ (i : Nat) (d : D), (ρ'[i]? = some (Slot.bor d) ∨ ρ'[i]? = some (Slot.lent d)) → sv σ' i = sv σ i
theorem Kp.refl {σ : L2.St} {ρ : Env} : Kp σ σ ρ := fun _ _ _ => rfl
theorem Kp.trans {σ σ1 σ2 : L2.St} {ρ1 ρ2 : Env} (p : Kp σ σ1 ρ1) (ev : Evo ρ1 ρ2) (q : Kp σ1 σ2 ρ2) : Kp σ σ2 ρ2 := fun i d h => by
  rw [q i d h]
  rcases h with h | h
  · exact p i d (.inl (ev.bor i d h))
  · obtain ⟨d', h'⟩ := ev.tnel i d h
    exact p i d' (.inr h')
section
variable {mg : Str → Option Value} {Wx : WX} {W B : AP} {σ : L2.St} {H : Hp}
def FlOk (W B : AP) (σ : L2.St) (H : Hp) (ρ : Env) (D : Ends) : Fl → Prop
  | .next => St W B σ H ρ → D.nx σ H
  | .brk => St W B σ H ρ → D.bk σ H
  | .cont => St W B σ H ρ → D.ct σ H
  | .ret r => ∀ v, VOk W B σ H ρ v r → D.rt v H
def AfterS (mg : Str → Option Value) (Wx : WX) (W B : AP) (σ : L2.St) (H : Hp) (o : Option (Res Fl)) (D : Ends) : Prop :=
  match o with
  | none => False
  | some (.ok fl ρ') => ∀ W' σ' H', Fr W H W' H' → Kp σ σ' ρ' → FlOk W' B σ' H' ρ' D fl
  | some (.err e ρ') => ∀ W' σ' H' c d, Fr W H W' H' → Kp σ σ' ρ' → St W' B σ' H' ρ' → XRep mg (Eo W' B) H' e c d → Wx c d σ' H'
def rdS (mg : Str → Option Value) (Wx : WX) (f : M Fl) : TS := fun D σ H => ∃ W B ρ, St W B σ H ρ ∧ AfterS mg Wx W B σ H (f ρ) D
/-- an expression ahead of a statement's rest -/
theorem AfterS.bindE {α : Type} {f : M α} {g : α → M Fl} {ρ : Env} {D : Ends} (h : AfterS mg Wx W B σ H (mbind f g ρ) D) (he : ∀ a, EvoF (g a)) : After mg Wx W B σ H (f ρ) fun W1 H1 a ρ1 => AfterS mg Wx W1 B σ H1 (g a ρ1) D := by
  unfold mbind at h
  cases q : f ρ with
  | none => rw [q] at h; exact h
  | some r =>
    rw [q] at h
    cases r with
    | err e ρ' => exact fun W' H' c d fr s x => h W' σ H' c d fr .refl s x
    | ok a ρ1 =>
      have h : AfterS mg Wx W B σ H (g a ρ1) D := h
      refine fun W1 H1 f1 => ?_
      show AfterS mg Wx W1 B σ H1 (g a ρ1) D
      cases q2 : g a ρ1 with
      | none => rw [q2] at h; exact h
      | some r2 =>
        rw [q2] at h
        cases r2 with
        | err e ρ' => exact fun W' σ' H' c d f2 k s x => h W' σ' H' c d (f1.trans f2) k s x
        | ok b ρ' => exact fun W' σ' H' f2 k => h W' σ' H' (f1.trans f2) k
theorem AfterS.bindS {f : M Fl} {g : Fl → M Fl} {ρ : Env} {D D' : Ends} (h : AfterS mg Wx W B σ H (mbind f g ρ) D) (he : ∀ a, EvoF (g a))
    (i : ∀ fl ρ1 W1 σ1 H1, AfterS mg Wx W1 B σ1 H1 (g fl ρ1) D → FlOk W1 B σ1 H1 ρ1 D' fl) : AfterS mg Wx W B σ H (f ρ) D' := by
  unfold mbind at h
  cases q : f ρ with
  | none => rw [q] at h; exact h
  | some r =>
    rw [q] at h
    cases r with
    | err e ρ' => exact h
    | ok a ρ1 =>
      have h : AfterS mg Wx W B σ H (g a ρ1) D := h
      refine fun W1 σ1 H1 f1 k1 => i a ρ1 W1 σ1 H1 ?_
      cases q2 : g a ρ1 with
      | none => rw [q2] at h; exact h
      | some r2 =>
        have ev := he a ρ1 r2 q2
        rw [q2] at h
        cases r2 with
        | err e ρ' => exact fun W' σ' H' c d f2 k s x => h W' σ' H' c d (f1.trans f2) (k1.trans ev k) s x
        | ok b ρ' => exact fun W' σ' H' f2 k => h W' σ' H' (f1.trans f2) (k1.trans ev k)
end
theorem ps_imp {X : Cx} {st : Stmt} {t t' : TS} (h : PS X st t) (i : ∀ D σ H, t' D σ H → t D σ H) : PS X st t' := ⟨fun pins s σ H D I q => h.run pins s σ H D I (i D σ H q)⟩
theorem pss_imp {X : Cx} {st : List Stmt} {t t' : TS} (h : PSs X st t) (i : ∀ D σ H, t' D σ H → t D σ H) : PSs X st t' := ⟨fun pins s σ H D I q => h.run pins s σ H D I (i D σ H q)⟩
structure DS (X : Cx) (Wx : WX) (st : Stmt) (f : M Fl) : Prop where
  ps : PS X st (rdS X.mg Wx f)
  evo : EvoF f
structure DSs (X : Cx) (Wx : WX) (st : List Stmt) (f : M Fl) : Prop where
  pss : PSs X st (rdS X.mg Wx f)
  evo : EvoF f
section
variable {X : Cx} {Wx : WX} {st : Stmt} {sts : List Stmt} {e : Expr} {fe : M R} {f g : M Fl} {c : M Bool} {pos : Pos}
def sSeq (f g : M Fl) : M Fl := mbind f fun fl => match fl with
  | .next => g
  | .brk => mret .brk
  | .cont => mret .cont
  | .ret r => mret (.ret r)
theorem evo_seq (hf : EvoF f) (hg : EvoF g) : EvoF (sSeq f g) := evo_bind hf fun fl => by cases fl <;> first | exact hg | exact evo_ret _
theorem AfterS.here {mg : Str → Option Value} {W B : AP} {σ : L2.St} {H : Hp} {fl : Fl} {ρ : Env} {D : Ends} (h : AfterS mg Wx W B σ H (mret fl ρ) D) : FlOk W B σ H ρ D fl := h W σ H .refl .refl
theorem dss_nil : DSs X Wx [] (mret .next) := ⟨pss_imp pss_nil fun D σ H ⟨W, B, ρ, s, a⟩ => a.here s, evo_ret _⟩
theorem dss_cons (h1 : DS X Wx st f) (h2 : DSs X Wx sts g) : DSs X Wx (st :: sts) (sSeq f g) := by
  refine ⟨pss_imp (pss_cons h1.ps h2.pss) fun D σ H ⟨W, B, ρ, s, a⟩ => ⟨W, B, ρ, s, ?_⟩, evo_seq h1.evo h2.evo⟩
  refine a.bindS (fun fl => by cases fl <;> first | exact h2.evo | exact evo_ret _) fun fl ρ1 W1 σ1 H1 a1 => ?_
  cases fl with
  | next => exact fun s1 => ⟨W1, B, ρ1, s1, a1⟩
  | brk => exact a1.here
  | cont => exact a1.here
  | ret r => exact a1.here
theorem dss_one (h1 : DS X Wx st f) : DSs X Wx [st] f := ⟨pss_one h1.ps, h1.evo⟩
def sPass : M Fl := mret .next
theorem ds_pass : DS X Wx (.Pass pos) sPass := ⟨ps_imp ps_pass fun D σ H ⟨W, B, ρ, s, a⟩ => a.here s, evo_ret _⟩
theorem ds_doc {x j pos'} : DS X Wx (.Expr (.Constant (.str x) j pos) pos') sPass := ⟨ps_imp ps_doc fun D σ H ⟨W, B, ρ, s, a⟩ => a.here s, evo_ret _⟩
theorem ds_break : DS X Wx (.Break pos) (mret .brk) := ⟨ps_imp ps_break fun D σ H ⟨W, B, ρ, s, a⟩ => a.here s, evo_ret _⟩
theorem ds_continue : DS X Wx (.Continue pos) (mret .cont) := ⟨ps_imp ps_continue fun D σ H ⟨W, B, ρ, s, a⟩ => a.here s, evo_ret _⟩
def sNever : M Fl := fun _ => none
theorem ds_never : DS X Wx st sNever := ⟨ps_imp ps_never fun D σ H ⟨W, B, ρ, s, a⟩ => a, fun _ _ z => nomatch z⟩
def sExpr (fe : M R) : M Fl := mbind fe fun _ => mret .next
theorem ds_expr (h : DE X Wx e fe) (hs : swapsWith e none pos.line X.env = pure false := by rfl) : DS X Wx (.Expr e pos) (sExpr fe) :=
  ⟨ps_imp (ps_expr h.pe hs) fun D σ H ⟨W, B, ρ, s, a⟩ => ⟨W, B, ρ, s, (a.bindE fun _ => evo_ret _).mono fun W1 H1 r ρ1 _ _ a1 v hv => a1.here hv.st⟩, evo_bind h.evo fun _ => evo_ret _⟩
def sRet (fe : M R) : M Fl := mbind fe fun r => mret (.ret r)
theorem ds_ret (h : DE X Wx e fe) : DS X Wx (.Return (some e) pos) (sRet fe) :=
  ⟨ps_imp (ps_ret h.pe) fun D σ H ⟨W, B, ρ, s, a⟩ => ⟨W, B, ρ, s, (a.bindE fun _ => evo_ret _).mono fun W1 H1 r ρ1 _ _ a1 v hv => a1.here v hv⟩, evo_bind h.evo fun _ => evo_ret _⟩
theorem ds_retN : DS X Wx (.Return none pos) (mret (.ret (.frz .non))) := ⟨ps_imp ps_retN fun D σ H ⟨W, B, ρ, s, a⟩ => a.here .non ⟨s, rfl⟩, evo_ret _⟩
theorem ds_if {ce : Expr} {a b : List Stmt} (hc : DT X Wx ce c) (h1 : DSs X Wx a f) (h2 : DSs X Wx b g) : DS X Wx (.If ce a b pos) (fIf c f g) := by
  refine ⟨ps_imp (ps_if hc.pt h1.pss h2.pss) fun D σ H ⟨W, B, ρ, s, a⟩ => ⟨W, B, ρ, s, (a.bindE fun k => by cases k; exact h2.evo; exact h1.evo).mono fun W1 H1 k ρ1 _ _ a1 s1 => ?_⟩, evo_if hc.evo h1.evo h2.evo⟩
  cases k with
  | true => exact ⟨W1, B, ρ1, s1, a1⟩
  | false => exact ⟨W1, B, ρ1, s1, a1⟩
/-- name = value -/
def slotOf : R → Slot
  | .frz d => .frz d
  | .own d => .own d
def setSl (i : Nat) (r : R) : M Fl := fun ρ =>
  match ρ[i]? with
  | some (.lent _) => none
  | some _ => some (.ok .next (ρ.set i (slotOf r)))
  | none => none
theorem evo_setSl {i : Nat} {r : R} : EvoF (setSl i r) := fun ρ o e => by
  unfold setSl at e
  split at e
  · cases e
  · rename_i s hs q
    cases e
    exact .set q hs (fun d z => by cases r <;> cases z) (fun d z => by cases r <;> cases z)
  · cases e
/-- a name gets a result -/
theorem St.store {W B : AP} {σ : L2.St} {H : Hp} {ρ : Env} {v : V} {r : R} {i : Nat} (hv : VOk W B σ H ρ v r) (hi : i < ρ.length) : St W B (σ.set i (some v)) H (ρ.set i (slotOf r)) := by
  have s := hv.st
  have hσ : i < σ.length := by rw [s.len]; exact hi
  refine ⟨by simp [s.len], fun j t k => ?_, s.dom, s.dis, fun j k t t' a hjk p q w1 w2 x1 x2 => ?_⟩
  · by_cases hj : i = j
    · subst hj
      rw [List.getElem?_set_self hi] at k
      rw [sv_set _ hσ]
      cases k
      cases r with
      | frz d => exact ⟨v, rfl, hv.2⟩
      | own d =>
        obtain ⟨a, e, wa, _, t, _⟩ := hv
        exact ⟨a, by rw [e], wa, t⟩
    · rw [List.getElem?_set_ne hj] at k
      rw [sv_set_ne _ hj]
      exact s.slot j t k
  · have key : ∀ (l : Nat) (t : Slot), (ρ.set i (slotOf r))[l]? = some t → t.wr = true → sv (σ.set i (some v)) l = some (.ref a) → i ≠ l → ρ[l]? = some t ∧ sv σ l = some (.ref a) := fun l t y w x n => by
      rw [List.getElem?_set_ne n] at y
      rw [sv_set_ne _ n] at x
      exact ⟨y, x⟩
    have one : ∀ (l : Nat) (t t2 : Slot), i ≠ l → (ρ.set i (slotOf r))[i]? = some t2 → t2.wr = true → sv (σ.set i (some v)) i = some (.ref a) → (ρ.set i (slotOf r))[l]? = some t → t.wr = true → sv (σ.set i (some v)) l = some (.ref a) → False := fun l t t2 n y w x y2 w2 x2 => by
      obtain ⟨z1, z2⟩ := key l t y2 w2 x2 n
      rw [List.getElem?_set_self hi] at y
      cases y
      cases r with
      | frz d => cases w
      | own d =>
        obtain ⟨b, e, wb, _, _, hn⟩ := hv
        rw [sv_set _ hσ, e] at x
        cases x
        exact hn l t z1 w2 z2
    by_cases h1 : i = j
    · subst h1
      exact one k t' t hjk p w1 x1 q w2 x2
    · by_cases h2 : i = k
      · subst h2
        exact one j t t' h1 q w2 x2 p w1 x1
      · obtain ⟨a1, a2⟩ := key j t p w1 x1 h1
        obtain ⟨b1, b2⟩ := key k t' q w2 x2 h2
        exact s.apart j k t t' a hjk a1 b1 w1 w2 a2 b2
def sAsg (i : Nat) (fe : M R) : M Fl := mbind fe fun r => setSl i r
theorem asg_ok {mg : Str → Option Value} {W B : AP} {σ : L2.St} {H : Hp} {ρ : Env} {i : Nat} {D : Ends} {v : V} {r : R} (a : AfterS mg Wx W B σ H (setSl i r ρ) D) (hv : VOk W B σ H ρ v r) : D.nx (σ.set i (some v)) H := by
  unfold setSl at a
  split at a
  · exact a.elim
  · rename_i t ht q
    have hi : i < ρ.length := (List.getElem?_eq_some_iff.mp q).1
    refine a W (σ.set i (some v)) H .refl (fun j d h => ?_) (St.store hv hi)
    by_cases hj : i = j
    · subst hj
      rw [List.getElem?_set_self hi] at h
      cases r <;> rcases h with h | h <;> cases h
    · rw [sv_set_ne _ hj]
  · exact a.elim
theorem ds_asg {i : Nat} {x : Str} {pos' : Pos} (hN : X.N.Nodup) (hi : X.N[i]? = some x) (hx : Loc X.env.scope x) (h : DE X Wx e fe) (hs : swapsWith e (some (.Name x pos')) pos.line X.env = pure false := by rfl) (hf : X.fn x = true ∨ X.env.scope.names.lookup x = some .local := by first | exact .inl rfl | exact .inr rfl | assumption) :
    DS X Wx (.Assign [.Name x pos'] e pos) (sAsg i fe) :=
  ⟨ps_imp (ps_set hN hi hx h.pe hs hf) fun D σ H ⟨W, B, ρ, s, a⟩ => ⟨W, B, ρ, s, (a.bindE fun _ => evo_setSl).mono fun W1 H1 r ρ1 _ _ a1 v hv => asg_ok a1 hv⟩, evo_bind h.evo fun _ => evo_setSl⟩
end
end Dz
/-! Dz 5: targets, loops, comprehensions. -/
namespace Dz
open PySem PySem.Spec PyProof.Rows L2

/-! ### targets -/
inductive Tg where
  | nm (i : Nat) | tp (ts : List Tg)
mutual
def setTg : Tg → D → M Unit
  | .nm i, d => mbind (setSl i (.frz d)) fun _ => mret ()
  | .tp ts, .tup ds => setTgs ts ds
  | .tp ts, .tpl ds => setTgs ts ds
  | .tp _, _ => fun _ => none
def setTgs : List Tg → List D → M Unit
  | [], [] => mret ()
  | t :: ts, d :: ds => mbind (setTg t d) fun _ => setTgs ts ds
  | _, _ => fun _ => none
end
mutual
def gOf (K : PySem.W.Frag) : Tg → TG
  | .nm i => gName i
  | .tp ts => gTup K ts.length (gsOf K ts)
def gsOf (K : PySem.W.Frag) : List Tg → TGs
  | [] => gNil
  | t :: ts => gCons (gOf K t) (gsOf K ts)
end
mutual
theorem evo_setTg : ∀ (t : Tg) (d : D), EvoF (setTg t d)
  | .nm i, d => evo_bind evo_setSl fun _ => evo_ret _
  | .tp ts, .tup ds => evo_setTgs ts ds
  | .tp ts, .tpl ds => evo_setTgs ts ds
  | .tp _, .non => fun _ _ z => nomatch z
  | .tp _, .bl _ => fun _ _ z => nomatch z
  | .tp _, .int _ => fun _ _ z => nomatch z
  | .tp _, .str _ => fun _ _ z => nomatch z
  | .tp _, .lst _ => fun _ _ z => nomatch z
  | .tp _, .dK _ _ => fun _ _ z => nomatch z
  | .tp _, .dT _ _ => fun _ _ z => nomatch z
  | .tp _, .scr _ => fun _ _ z => nomatch z
theorem evo_setTgs : ∀ (ts : List Tg) (ds : List D), EvoF (setTgs ts ds)
  | [], [] => evo_ret _
  | t :: ts, d :: ds => evo_bind (evo_setTg t d) fun _ => evo_setTgs ts ds
  | [], _ :: _ => fun _ _ z => nomatch z
  | _ :: _, [] => fun _ _ z => nomatch z
end
theorem setSl_ok {i : Nat} {r : R} {ρ : Env} {x : Res Fl} (h : setSl i r ρ = some x) : i < ρ.length ∧ x = .ok .next (ρ.set i (slotOf r)) ∧ ∀ d, ρ[i]? ≠ some (Slot.lent d) := by
  unfold setSl at h
  split at h
  · cases h
  · rename_i t ht q
    cases h
    exact ⟨(List.getElem?_eq_some_iff.mp q).1, rfl, fun d z => by rw [q] at z; exact ht d (Option.some.inj z)⟩
  · cases h
theorem kp_set {σ : L2.St} {ρ : Env} {i : Nat} {v : Option V} {r : R} (hi : i < ρ.length) : Kp σ (σ.set i v) (ρ.set i (slotOf r)) := fun j d h => by
  by_cases hj : i = j
  · subst hj
    rw [List.getElem?_set_self hi] at h
    cases r <;> rcases h with h | h <;> cases h
  · rw [sv_set_ne _ hj]
mutual
/-- what the storing gives -/
theorem setTg_ok {K : PySem.W.Frag} : ∀ (t : Tg) (d : D) {W B : AP} {σ : L2.St} {H : Hp} {ρ ρ' : Env} {v : V} {Q : L2.St → Hp → Prop}, setTg t d ρ = some (.ok () ρ') → St W B σ H ρ → Rep (Eo W B) H d v →
    (∀ σ', St W B σ' H ρ' → Kp σ σ' ρ' → (∀ i, (∀ j, t = .nm j → i ≠ j) → True) → Q σ' H) → gOf K t v σ H Q
  | .nm i, d, W, B, σ, H, ρ, ρ', v, Q, h, s, r, q => by
    have h : mbind (setSl i (.frz d)) (fun _ => mret ()) ρ = some (.ok () ρ') := h
    unfold mbind at h
    cases e : setSl i (.frz d) ρ with
    | none => rw [e] at h; cases h
    | some x =>
      rw [e] at h
      obtain ⟨hi, ex, _⟩ := setSl_ok e
      subst ex
      cases h
      exact q _ (St.store (r := .frz d) ⟨s, r⟩ hi) (kp_set hi) fun _ _ => trivial
  | .tp ts, .tup ds, W, B, σ, H, ρ, ρ', v, Q, h, s, r, q => by
    obtain ⟨a, vs, ev, hp, _, rs⟩ := r
    obtain ⟨hl, k⟩ := setTgs_ok (K := K) ts ds (Q := Q) h s rs fun σ' s' k => q σ' s' k fun _ _ => trivial
    exact ⟨a, vs, ev, hp.sq, hl, k⟩
  | .tp ts, .tpl ds, W, B, σ, H, ρ, ρ', v, Q, h, s, r, q => by
    obtain ⟨a, vs, ev, hp, _, rs⟩ := r
    obtain ⟨hl, k⟩ := setTgs_ok (K := K) ts ds (Q := Q) h s rs fun σ' s' k => q σ' s' k fun _ _ => trivial
    exact ⟨a, vs, ev, SqT.of hp, hl, k⟩
  | .tp _, .non, _, _, _, _, _, _, _, _, h, _, _, _ => nomatch h
  | .tp _, .bl _, _, _, _, _, _, _, _, _, h, _, _, _ => nomatch h
  | .tp _, .int _, _, _, _, _, _, _, _, _, h, _, _, _ => nomatch h
  | .tp _, .str _, _, _, _, _, _, _, _, _, h, _, _, _ => nomatch h
  | .tp _, .lst _, _, _, _, _, _, _, _, _, h, _, _, _ => nomatch h
  | .tp _, .dK _ _, _, _, _, _, _, _, _, _, h, _, _, _ => nomatch h
  | .tp _, .dT _ _, _, _, _, _, _, _, _, _, h, _, _, _ => nomatch h
  | .tp _, .scr _, _, _, _, _, _, _, _, _, h, _, _, _ => nomatch h
theorem setTgs_ok {K : PySem.W.Frag} : ∀ (ts : List Tg) (ds : List D) {W B : AP} {σ : L2.St} {H : Hp} {ρ ρ' : Env} {vs : List V} {Q : L2.St → Hp → Prop}, setTgs ts ds ρ = some (.ok () ρ') → St W B σ H ρ → Reps (Eo W B) H ds vs →
    (∀ σ', St W B σ' H ρ' → Kp σ σ' ρ' → Q σ' H) → vs.length = ts.length ∧ gsOf K ts vs σ H Q
  | [], [], W, B, σ, H, ρ, ρ', vs, Q, h, s, r, q => by
    cases h
    rw [show vs = [] from r]
    exact ⟨rfl, rfl, q _ s .refl⟩
  | t :: ts, d :: ds, W, B, σ, H, ρ, ρ', vs, Q, h, s, ⟨v, r, e, p, rs⟩, q => by
    have h : mbind (setTg t d) (fun _ => setTgs ts ds) ρ = some (.ok () ρ') := h
    unfold mbind at h
    cases e1 : setTg t d ρ with
    | none => rw [e1] at h; cases h
    | some x =>
      rw [e1] at h
      cases x with
      | err _ _ => cases h
      | ok u ρ1 =>
        have h : setTgs ts ds ρ1 = some (.ok () ρ') := h
        have ev : Evo ρ1 ρ' := evo_setTgs ts ds ρ1 _ h
        have key : ∀ (σ : L2.St), St W B σ H ρ1 → ∀ {Q : L2.St → Hp → Prop}, (∀ σ', St W B σ' H ρ' → Kp σ σ' ρ' → Q σ' H) → r.length = ts.length ∧ gsOf K ts r σ H Q := fun σ1 s1 {Q} q1 => setTgs_ok (K := K) ts ds h s1 rs q1
        subst e
        refine ⟨?_, v, r, rfl, setTg_ok (K := K) t d e1 s p fun σ1 s1 k1 _ => (key σ1 s1 fun σ2 s2 k2 => q σ2 s2 (k1.trans ev k2)).2⟩
        have z : ∃ σ1, St W B σ1 H ρ1 := by
          have z : gOf K t v σ H fun σ' _ => St W B σ' H ρ1 := setTg_ok (K := K) t d e1 s p fun σ1 s1 _ _ => s1
          exact gOf_any t z
        obtain ⟨σ1, s1⟩ := z
        rw [List.length_cons, List.length_cons, (key σ1 s1 (Q := fun _ _ => True) fun _ _ _ => trivial).1]
  | [], _ :: _, _, _, _, _, _, _, _, _, h, _, _, _ => nomatch h
  | _ :: _, [], _, _, _, _, _, _, _, _, h, _, _, _ => nomatch h
/-- a target's storing ends -/
theorem gOf_any {K : PySem.W.Frag} : ∀ (t : Tg) {v : V} {σ : L2.St} {H : Hp} {P : L2.St → Prop}, gOf K t v σ H (fun σ' _ => P σ') → ∃ σ', P σ'
  | .nm i, _, σ, _, P, h => ⟨_, h⟩
  | .tp ts, _, σ, _, P, ⟨_, _, _, _, _, h⟩ => gsOf_any ts h
theorem gsOf_any {K : PySem.W.Frag} : ∀ (ts : List Tg) {vs : List V} {σ : L2.St} {H : Hp} {P : L2.St → Prop}, gsOf K ts vs σ H (fun σ' _ => P σ') → ∃ σ', P σ'
  | [], _, σ, _, P, h => ⟨_, h.2⟩
  | t :: ts, _, σ, H, P, ⟨_, _, _, h⟩ => by
    obtain ⟨σ1, h1⟩ := gOf_any (P := fun σ' => ∃ σ'', P σ'') t (gOf_mono t h fun σ' _ h => gsOf_any ts h)
    exact h1
theorem gOf_mono {K : PySem.W.Frag} : ∀ (t : Tg) {v : V} {σ : L2.St} {H : Hp} {P P' : L2.St → Hp → Prop}, gOf K t v σ H P → (∀ σ' H', P σ' H' → P' σ' H') → gOf K t v σ H P'
  | .nm i, _, σ, _, P, P', h, i' => i' _ _ h
  | .tp ts, _, σ, _, P, P', ⟨a, xs, e, q, l, h⟩, i' => ⟨a, xs, e, q, l, gsOf_mono ts h i'⟩
theorem gsOf_mono {K : PySem.W.Frag} : ∀ (ts : List Tg) {vs : List V} {σ : L2.St} {H : Hp} {P P' : L2.St → Hp → Prop}, gsOf K ts vs σ H P → (∀ σ' H', P σ' H' → P' σ' H') → gsOf K ts vs σ H P'
  | [], _, σ, _, P, P', h, i' => ⟨h.1, i' _ _ h.2⟩
  | t :: ts, _, σ, H, P, P', ⟨v, r, e, h⟩, i' => ⟨v, r, e, gOf_mono t h fun σ' H' k => gsOf_mono ts k i'⟩
end
end Dz
/-! Dz 6: unpacking, for, while, comprehensions. -/
namespace Dz
open PySem PySem.Spec PyProof.Rows L2

theorem setTg_gives {K : PySem.W.Frag} {t : Tg} {d : D} {W B : AP} {σ : L2.St} {H : Hp} {ρ ρ' : Env} {v : V} {Q : L2.St → Hp → Prop} (h : setTg t d ρ = some (.ok () ρ')) (s : St W B σ H ρ) (r : Rep (Eo W B) H d v)
    (q : ∀ σ', St W B σ' H ρ' → Kp σ σ' ρ' → Q σ' H) : gOf K t v σ H Q := setTg_ok t d h s r fun σ' s' k _ => q σ' s' k
mutual
theorem setTg_noerr : ∀ (t : Tg) (d : D) {ρ : Env} {e : Exc} {ρ' : Env}, setTg t d ρ ≠ some (.err e ρ')
  | .nm i, d, ρ, e, ρ' => fun h => by
    have h : mbind (setSl i (.frz d)) (fun _ => mret ()) ρ = some (.err e ρ') := h
    unfold mbind at h
    cases e1 : setSl i (.frz d) ρ with
    | none => rw [e1] at h; cases h
    | some x =>
      obtain ⟨_, ex, _⟩ := setSl_ok e1
      rw [e1, ex] at h
      cases h
  | .tp ts, .tup ds, _, _, _ => setTgs_noerr ts ds
  | .tp ts, .tpl ds, _, _, _ => setTgs_noerr ts ds
  | .tp _, .non, _, _, _ => fun h => nomatch h
  | .tp _, .bl _, _, _, _ => fun h => nomatch h
  | .tp _, .int _, _, _, _ => fun h => nomatch h
  | .tp _, .str _, _, _, _ => fun h => nomatch h
  | .tp _, .lst _, _, _, _ => fun h => nomatch h
  | .tp _, .dK _ _, _, _, _ => fun h => nomatch h
  | .tp _, .dT _ _, _, _, _ => fun h => nomatch h
  | .tp _, .scr _, _, _, _ => fun h => nomatch h
theorem setTgs_noerr : ∀ (ts : List Tg) (ds : List D) {ρ : Env} {e : Exc} {ρ' : Env}, setTgs ts ds ρ ≠ some (.err e ρ')
  | [], [], _, _, _ => fun h => nomatch h
  | t :: ts, d :: ds, ρ, e, ρ' => fun h => by
    have h : mbind (setTg t d) (fun _ => setTgs ts ds) ρ = some (.err e ρ') := h
    unfold mbind at h
    cases e1 : setTg t d ρ with
    | none => rw [e1] at h; cases h
    | some x =>
      rw [e1] at h
      cases x with
      | err e2 ρ2 => exact setTg_noerr t d e1
      | ok u ρ1 => exact setTgs_noerr ts ds h
  | [], _ :: _, _, _, _ => fun h => nomatch h
  | _ :: _, [], _, _, _ => fun h => nomatch h
end
theorem setTg_case {t : Tg} {d : D} {ρ : Env} {x : Res Unit} (h : setTg t d ρ = some x) : ∃ ρ', setTg t d ρ = some (.ok () ρ') ∧ x = .ok () ρ' := by
  cases x with
  | ok u ρ' => exact ⟨ρ', h, rfl⟩
  | err e ρ' => exact (setTg_noerr t d h).elim
section
variable {mg : Str → Option Value} {Wx : WX} {W B : AP} {σ : L2.St} {H : Hp}
/-- the same, told from a later state -/
theorem AfterS.shift {W1 : AP} {σ1 : L2.St} {H1 : Hp} {ρ1 : Env} {o : Option (Res Fl)} {D : Ends} (h : AfterS mg Wx W B σ H o D) (f1 : Fr W H W1 H1) (k1 : Kp σ σ1 ρ1) (ev : ∀ r, o = some r → Evo ρ1 r.env) : AfterS mg Wx W1 B σ1 H1 o D := by
  cases o with
  | none => exact h
  | some r =>
    have ev := ev r rfl
    cases r with
    | err e ρ' => exact fun W' σ' H' c d f2 k s x => h W' σ' H' c d (f1.trans f2) (k1.trans ev k) s x
    | ok b ρ' => exact fun W' σ' H' f2 k => h W' σ' H' (f1.trans f2) (k1.trans ev k)
end
section
variable {X : Cx} {Wx : WX} {st : Stmt} {sts : List Stmt} {e tg iter : Expr} {fe : M R} {f g : M Fl} {c : M Bool} {pos : Pos} {t : Tg}
structure DG (X : Cx) (tg : Expr) (t : Tg) : Prop where
  pg : PG X tg (gOf X.K t)
structure DGs (X : Cx) (tgs : List Expr) (ts : List Tg) : Prop where
  pgs : PGs X tgs (gsOf X.K ts)
theorem dg_name {i : Nat} {x : Str} (hN : X.N.Nodup) (hi : X.N[i]? = some x) (hx : Loc X.env.scope x) (hf : X.fn x = true ∨ X.env.scope.names.lookup x = some .local := by first | exact .inl rfl | exact .inr rfl | assumption) : DG X (.Name x pos) (.nm i) := ⟨pg_name hN hi hx hf⟩
theorem dgs_nil : DGs X [] [] := ⟨pgs_nil⟩
theorem dgs_cons {es : List Expr} {ts : List Tg} (h1 : DG X e t) (h2 : DGs X es ts) (hs : (assignEach (e :: es) X.env).map (·.2) = assign e X.env :: (assignEach es X.env).map (·.2) := by rfl) : DGs X (e :: es) (t :: ts) := ⟨pgs_cons h1.pg h2.pgs hs⟩
theorem dg_tup {es : List Expr} {k : Nat} {ts : List Tg} (hc : X.calm = true) (h : DGs X es ts) (hn : (assignEach es X.env).length = ts.length := by rfl) (hst : (assignEach es X.env).findIdx? (·.1) = none := by rfl) : DG X (.Tuple es k pos) (.tp ts) := ⟨pg_tup hc h.pgs hn hst⟩
/-- a, b = a tuple -/
def sUnp (t : Tg) (fe : M R) : M Fl := mbind fe fun r => mbind (setTg t r.d) fun _ => mret .next
theorem evo_unp {d : D} : EvoF (mbind (setTg t d) fun _ => mret Fl.next) := evo_bind (evo_setTg t d) fun _ => evo_ret _
theorem ds_unp (hg : DG X tg t) (he : DE X Wx e fe) (hs : swapsWithSole [tg] e pos.line X.env = pure false := by rfl) (hw : swappedStores [tg] e X.env = pure none := by rfl)
    (h1 : (assignEach [tg] X.env).map (·.2) = [assign tg X.env] := by rfl) : DS X Wx (.Assign [tg] e pos) (sUnp t fe) := by
  refine ⟨ps_imp (ps_asg he.pe hg.pg hs hw h1) fun D σ H ⟨W, B, ρ, s, a⟩ => ⟨W, B, ρ, s, (a.bindE fun r => evo_unp).mono fun W1 H1 r ρ1 _ _ a1 v hv => ?_⟩, evo_bind he.evo fun r => evo_unp⟩
  obtain ⟨W0, hW, s0, r0⟩ := hv.any
  unfold mbind at a1
  cases q : setTg t r.d ρ1 with
  | none => rw [q] at a1; exact a1.elim
  | some x =>
    obtain ⟨ρ2, q2, ex⟩ := setTg_case q
    rw [q, ex] at a1
    exact setTg_gives q2 s0 r0 fun σ' s' k => a1 W0 σ' H1 (.less hW) k s'

/-! ### what is walked -/
/-- later heaps: what is not ours stands; J yields what stands for the items -/
def ItOk (J : It) (W B : AP) (H : Hp) (ds : List D) : Prop := ∀ W' H' i, Fr W H W' H' → (∀ a, W' a ∨ B a → H' a ≠ none) →
  (ds.length ≤ i → J.stop i H') ∧ ∀ d, ds[i]? = some d → J.go i H' ∧ ∀ x H'', J.yld i H' x H'' → (H'' = H' ∨ ∃ T o, H' T = none ∧ H'' = upd H' T o) ∧ Rep (Eo W' B) H'' d x
def rdI (mg : Str → Option Value) (Wx : WX) (src : M (List D)) : TI := fun σ H R => ∃ W B ρ, St W B σ H ρ ∧ After mg Wx W B σ H (src ρ) fun W1 H1 ds ρ1 => ∀ J W0, (∀ a, W0 a → W1 a) → St W0 B σ H1 ρ1 → ItOk J W0 B H1 ds → R J H1
structure DI (X : Cx) (Wx : WX) (tg iter : Expr) (src : M (List D)) : Prop where
  pi : PI X tg iter (rdI X.mg Wx src)
  evo : EvoF src
theorem pi_imp {wi wi' : TI} (h : PI X tg iter wi) (i : ∀ σ H R, wi' σ H R → wi σ H R) : PI X tg iter wi' := ⟨fun pins s σ H R I q => h.run pins s σ H R I (i σ H R q)⟩
theorem St.new' {W B : AP} {σ : L2.St} {H H'' : Hp} {ρ : Env} (s : St W B σ H ρ) (h : H'' = H ∨ ∃ T o, H T = none ∧ H'' = upd H T o) : St W B σ H'' ρ := by
  rcases h with h | ⟨T, o, n, h⟩
  · rw [h]; exact s
  · rw [h]; exact s.new n
theorem Fr.new' {W : AP} {H H'' : Hp} (h : H'' = H ∨ ∃ T o, H T = none ∧ H'' = upd H T o) : Fr W H W H'' := by
  rcases h with h | ⟨T, o, n, h⟩
  · rw [h]; exact .refl
  · rw [h]; exact .new n
/-- the items of a value -/
def itemsD : D → Option (List D)
  | .lst ds => some ds
  | .tup ds => some ds
  | .scr ns => some (ns.map .int)
  | .str x => some (x.cps.toList.map fun c => .str ⟨#[c]⟩)
  | _ => none
def seqD : D → Option (List D)
  | .lst ds => some ds
  | .tup ds => some ds
  | .scr ns => some (ns.map .int)
  | _ => none
/-- a value walked: a name that owns it lets it go -/
def fSrc (g : D → Option (List D)) (f : M R) : M (List D) := mbind f fun r => mopt (g r.d)
/-- a borrowed name walked -/
def fSrcB (g : D → Option (List D)) (i : Nat) : M (List D) := fun ρ =>
  match ρ[i]? with
  | some (.bor d) => mopt (g d) ρ
  | some (.frz d) => mopt (g d) ρ
  | _ => none
theorem evo_srcB {g : D → Option (List D)} {i : Nat} : EvoF (fSrcB g i) := fun ρ o e => by
  unfold fSrcB at e
  split at e
  · exact evo_opt _ _ _ e
  · exact evo_opt _ _ _ e
  · cases e
theorem itok_seq {K : PySem.W.Frag} {W B : AP} {H : Hp} {a : Addr} {vs : List V} {ds : List D} (na : ¬ W a) (hp : H a = some (.lst vs)) (r : Reps (Eo W B) H ds vs) : ItOk (Itl K a) W B H ds := fun W' H' i f _ => by
  have hq : H' a = some (.lst vs) := f.keep a _ hp na
  refine ⟨fun hi => ⟨vs, SqL.of hq, by rw [r.length]; exact hi⟩, fun d hd => ?_⟩
  obtain ⟨x, hx, rx⟩ := r.get hd
  refine ⟨⟨vs, x, SqL.of hq, hx⟩, fun y H'' ⟨e, k⟩ => ⟨.inl e, ?_⟩⟩
  have e2 := k vs (SqL.of hq)
  rw [hx] at e2
  cases e2
  rw [e]
  exact rx.fr f
theorem itok_tup {K : PySem.W.Frag} {W B : AP} {H : Hp} {a : Addr} {vs : List V} {ds : List D} (na : ¬ W a) (hp : TupZ H a vs) (r : Reps (Eo W B) H ds vs) : ItOk (Itt K a) W B H ds := fun W' H' i f _ => by
  have hq : TupZ H' a vs := hp.keep f.keep na
  refine ⟨fun hi => ⟨vs, hq.sq, by rw [r.length]; exact hi⟩, fun d hd => ?_⟩
  obtain ⟨x, hx, rx⟩ := r.get hd
  refine ⟨⟨vs, x, hq.sq, hx⟩, fun y H'' ⟨e, k⟩ => ⟨.inl e, ?_⟩⟩
  have e2 := k vs hq.sq
  rw [hx] at e2
  cases e2
  rw [e]
  exact rx.fr f
theorem itok_scr {K : PySem.W.Frag} {W B : AP} {H : Hp} {a : Addr} {ns : List Int} (na : ¬ W a) (hp : Rd H a (.lst (ns.map V.int))) : ItOk (Itl K a) W B H (ns.map .int) := fun W' H' i f _ => by
  have hq : Rd H' a (.lst (ns.map V.int)) := rd_keep f.keep hp na
  refine ⟨fun hi => ⟨_, .inl hq, by simpa using hi⟩, fun d hd => ?_⟩
  rw [List.getElem?_map] at hd
  cases q : ns[i]? with
  | none => rw [q] at hd; cases hd
  | some n =>
    rw [q] at hd
    cases hd
    refine ⟨⟨_, .int n, .inl hq, by rw [List.getElem?_map, q]; rfl⟩, fun y H'' ⟨e, k⟩ => ⟨.inl e, ?_⟩⟩
    have e2 := k _ (.inl hq)
    rw [List.getElem?_map, q] at e2
    cases e2
    rfl
theorem rdI_seq {mg : Str → Option Value} {f : M R} {σ : L2.St} {H : Hp} {R : It → Hp → Prop} {K : PySem.W.Frag} (h : rdI mg Wx (fSrc seqD f) σ H R) :
    rdE mg Wx f σ H fun x H1 => ∃ a, x = .ref a ∧ ((∃ xs, SqL K H1 a xs) ∧ R (Itl K a) H1 ∨ (∃ xs, SqT K H1 a xs) ∧ R (Itt K a) H1) := by
  obtain ⟨W, B, ρ, s, a⟩ := h
  refine ⟨W, B, ρ, s, (After.bind a).mono fun W1 H1 r ρ1 _ _ a1 v hv => ?_⟩
  obtain ⟨ds, e, a2⟩ := a1.opt
  obtain ⟨W0, hW, s0, r0⟩ := hv.any
  have a2 := a2 W1 H1 .refl
  generalize r.d = d at e r0
  cases d with
  | lst xs =>
    cases e
    obtain ⟨p, vs, rfl, hp, np, rs⟩ := r0
    exact ⟨p, rfl, .inl ⟨⟨vs, SqL.of hp⟩, a2 _ W0 hW s0 (itok_seq (fun z => np (.inl z)) hp rs)⟩⟩
  | tup xs =>
    cases e
    obtain ⟨p, vs, rfl, hp, np, rs⟩ := r0
    exact ⟨p, rfl, .inr ⟨⟨vs, hp.sq⟩, a2 _ W0 hW s0 (itok_tup (fun z => np (.inl z)) hp rs)⟩⟩
  | scr ns =>
    cases e
    obtain ⟨p, rfl, hp, np⟩ := r0
    exact ⟨p, rfl, .inl ⟨⟨_, .inl hp⟩, a2 _ W0 hW s0 (itok_scr (fun z => np (.inl z)) hp)⟩⟩
  | _ => cases e
/-- a list or a tuple -/
theorem pi_seq {l : Expr} {tl : TE} (hl : PE X l tl) : PI X tg l (fun σ H R => tl σ H fun x H1 => ∃ a, x = .ref a ∧ ((∃ xs, SqL X.K H1 a xs) ∧ R (Itl X.K a) H1 ∨ (∃ xs, SqT X.K H1 a xs) ∧ R (Itt X.K a) H1)) := by
  refine ⟨fun pins s σ H R I h => ?_⟩
  refine thn (hl.run pins s σ H _ I h) fun v s1 ⟨x, H1, I1, r1, q1⟩ => ?_
  obtain ⟨a, e, q⟩ := q1
  subst e
  cases r1
  rcases q with ⟨⟨xs, hq⟩, q⟩ | ⟨⟨xs, hq⟩, q⟩
  · obtain ⟨its, rv, p, hz⟩ := I1.list hq
    refine wpAny_pyIter_list p.isList ?_
    refine ⟨s1.heap.objs.size, [s1.heap.objs.size], _, _, H1, rfl, I1.kept (t' := s1.toks) fun b o e => Heap.get?_push_of_some _ e, turn_list a _, ⟨_, Heap.get?_push_size _ rfl, rfl, rfl⟩, fun b hb => ?_, q⟩
    have e : b = s1.heap.objs.size := by simpa using hb
    subst e
    exact I1.fpOk (Nat.le_refl _) (I1.hok.fresh (Nat.le_refl _))
  · obtain ⟨its, rv, p, hz⟩ := I1.tuple hq
    refine wpAny_pyIter_tuple (show s1.heap.IsTuple a its.toArray from p) ?_
    refine ⟨s1.heap.objs.size, [s1.heap.objs.size], _, _, H1, rfl, I1.kept (t' := s1.toks) fun b o e => Heap.get?_push_of_some _ e, turn_tuple a _, ⟨_, Heap.get?_push_size _ rfl, rfl, rfl⟩, fun b hb => ?_, q⟩
    have e : b = s1.heap.objs.size := by simpa using hb
    subst e
    exact I1.fpOk (Nat.le_refl _) (I1.hok.fresh (Nat.le_refl _))
theorem di_seq (h : DE X Wx iter fe) : DI X Wx tg iter (fSrc seqD fe) := ⟨pi_imp (pi_seq h.pe) fun σ H R q => rdI_seq q, evo_bind h.evo fun _ => evo_opt _⟩
theorem di_seqB {i : Nat} (h : PE X iter (tVar i)) : DI X Wx tg iter (fSrcB seqD i) := by
  refine ⟨pi_imp (pi_seq h) fun σ H R ⟨W, B, ρ, s, a⟩ => ?_, evo_srcB⟩
  unfold fSrcB at a
  split at a
  · rename_i d e1
    obtain ⟨p, e2, bp, t⟩ := s.slot i _ e1
    obtain ⟨ds, e, a2⟩ := a.opt
    have a2 := a2 W H .refl
    refine ⟨.ref p, sv_some e2, p, rfl, ?_⟩
    cases d with
    | lst xs =>
      cases e
      obtain ⟨vs, hp, rs⟩ := t
      exact .inl ⟨⟨vs, SqL.of hp⟩, a2 _ W (fun _ z => z) s (itok_seq (fun z => s.dis p z bp) hp rs)⟩
    | _ => first | exact t.elim | cases e
  · rename_i d e1
    obtain ⟨x, e2, r0⟩ := s.slot i _ e1
    obtain ⟨ds, e, a2⟩ := a.opt
    have a2 := a2 W H .refl
    refine ⟨x, sv_some e2, ?_⟩
    cases d with
    | lst xs =>
      cases e
      obtain ⟨p, vs, rfl, hp, np, rs⟩ := r0
      exact ⟨p, rfl, .inl ⟨⟨vs, SqL.of hp⟩, a2 _ W (fun _ z => z) s (itok_seq (fun z => np (.inl z)) hp rs)⟩⟩
    | tup xs =>
      cases e
      obtain ⟨p, vs, rfl, hp, np, rs⟩ := r0
      exact ⟨p, rfl, .inr ⟨⟨vs, hp.sq⟩, a2 _ W (fun _ z => z) s (itok_tup (fun z => np (.inl z)) hp rs)⟩⟩
    | scr ns =>
      cases e
      obtain ⟨p, rfl, hp, np⟩ := r0
      exact ⟨p, rfl, .inl ⟨⟨_, .inl hp⟩, a2 _ W (fun _ z => z) s (itok_scr (fun z => np (.inl z)) hp)⟩⟩
    | _ => cases e
  · exact a.elim
def strsOf (x : Str) : List D := x.cps.toList.map fun c => .str ⟨#[c]⟩
def strD : D → Option (List D)
  | .str x => some (strsOf x)
  | _ => none
theorem itok_str {W B : AP} {H : Hp} {x : Str} : ItOk (Its x) W B H (strsOf x) := fun W' H' i f _ => by
  refine ⟨fun hi => by unfold strsOf at hi; rw [List.length_map] at hi; show x.cps.size ≤ i; simpa using hi, fun d hd => ?_⟩
  unfold strsOf at hd
  rw [List.getElem?_map] at hd
  cases q : x.cps.toList[i]? with
  | none => rw [q] at hd; cases hd
  | some c =>
    rw [q] at hd
    cases hd
    refine ⟨?_, fun y H'' ⟨e, c', e2, e3⟩ => ⟨.inl e, ?_⟩⟩
    · have := (List.getElem?_eq_some_iff.mp q).1
      show i < x.cps.size
      simpa using this
    · have e4 : x.cps.toList[i]? = some c' := by simpa using e2
      rw [q] at e4
      cases e4
      rw [e3]
      rfl
/-- a text, sign by sign -/
theorem di_str (h : DE X Wx iter fe) : DI X Wx tg iter (fSrc strD fe) := by
  refine ⟨pi_imp (pi_str h.pe) fun σ H R ⟨W, B, ρ, s, a⟩ => ⟨W, B, ρ, s, (After.bind a).mono fun W1 H1 r ρ1 _ _ a1 v hv => ?_⟩, evo_bind h.evo fun _ => evo_opt _⟩
  obtain ⟨ds, e, a2⟩ := a1.opt
  obtain ⟨W0, hW, s0, r0⟩ := hv.any
  have a2 := a2 W1 H1 .refl
  generalize r.d = d at e r0
  cases d with
  | str x =>
    cases e
    exact ⟨x, r0, a2 _ W0 hW s0 itok_str⟩
  | _ => cases e
/-- lo, lo + 1, .. -/
def rangeL (lo : Int) (n : Nat) : List D := (List.range n).map fun i => .int (lo + (i : Nat))
def rng1 : List D → Option (List D)
  | [.int j] => if -(2 ^ 62) ≤ j ∧ j < 2 ^ 62 then some (rangeL 0 j.toNat) else none
  | _ => none
def rng2 : List D → Option (List D)
  | [.int i, .int j] => if -(2 ^ 62) ≤ i ∧ i < 2 ^ 62 ∧ -(2 ^ 62) ≤ j ∧ j < 2 ^ 62 then some (rangeL i (j - i).toNat) else none
  | _ => none
def fRng (g : List D → Option (List D)) (os : List Opd) : M (List D) := mbind (evs os) fun ds => mopt (g ds)
theorem itok_rng {W B : AP} {H : Hp} {lo : Int} {n : Nat} : ItOk (Itr lo n) W B H (rangeL lo n) := fun W' H' i f _ => by
  refine ⟨fun hi => by unfold rangeL at hi; show n ≤ i; simpa using hi, fun d hd => ?_⟩
  unfold rangeL at hd
  rw [List.getElem?_map] at hd
  by_cases hi : i < n
  · rw [List.getElem?_range hi] at hd
    cases hd
    exact ⟨hi, fun y H'' ⟨e, e2⟩ => ⟨.inl e, by rw [e2]; rfl⟩⟩
  · rw [List.getElem?_eq_none (by simpa using hi)] at hd
    cases hd
theorem mono_rdOs {mg : Str → Option Value} {os : List Opd} {σ : L2.St} {H : Hp} {Q Q' : List V → Hp → Prop} (q : rdOs mg Wx os σ H Q) (i : ∀ v H, Q v H → Q' v H) : rdOs mg Wx os σ H Q' := by
  obtain ⟨W, B, ρ, s, a⟩ := q
  exact ⟨W, B, ρ, s, a.mono fun W' H' ds ρ' _ _ k vs s' r => i vs H' (k vs s' r)⟩
theorem di_range1 {a : Expr} {o : Opd} {p : Pos} (hg : Gl X "range") (hm : X.mg "range" = none) (ha : DOs X Wx [a] [o]) (hs : starEach [a] X.env = [(false, eval a X.env)] := by rfl) : DI X Wx tg (.Call (.Name "range" p) [a] [] pos) (fRng rng1 [o]) := by
  refine ⟨pi_imp (pi_range1 hg hm ha.pa hs) fun σ H R ⟨W, B, ρ, s, a⟩ => ⟨W, B, ρ, s, (After.bind a).mono fun W1 H1 ds ρ1 _ _ a1 vs s1 rs => ?_⟩, evo_bind (evo_evs ha.evo) fun _ => evo_opt _⟩
  obtain ⟨is, e, a2⟩ := a1.opt
  have a2 := a2 W1 H1 .refl
  unfold rng1 at e
  split at e
  · split at e
    · rename_i hz
      cases e
      obtain ⟨x, _, rfl, px, z⟩ := rs
      rw [show _ = [] from z, px.int]
      exact ⟨_, rfl, hz.1, hz.2, a2 _ W1 (fun _ z => z) s1 itok_rng⟩
    · cases e
  · cases e
theorem di_range2 {a b : Expr} {o o2 : Opd} {p : Pos} (hg : Gl X "range") (hm : X.mg "range" = none) (ha : DOs X Wx [a, b] [o, o2]) (hs : starEach [a, b] X.env = [(false, eval a X.env), (false, eval b X.env)] := by rfl) (hs2 : starEach [b] X.env = [(false, eval b X.env)] := by rfl) : DI X Wx tg (.Call (.Name "range" p) [a, b] [] pos) (fRng rng2 [o, o2]) := by
  refine ⟨pi_imp (pi_range2 hg hm ha.pa hs hs2) fun σ H R ⟨W, B, ρ, s, a⟩ => ⟨W, B, ρ, s, (After.bind a).mono fun W1 H1 ds ρ1 _ _ a1 vs s1 rs => ?_⟩, evo_bind (evo_evs ha.evo) fun _ => evo_opt _⟩
  obtain ⟨is, e, a2⟩ := a1.opt
  have a2 := a2 W1 H1 .refl
  unfold rng2 at e
  split at e
  · split at e
    · rename_i hz
      cases e
      obtain ⟨x, _, rfl, px, y, _, rfl, py, z⟩ := rs
      rw [show _ = [] from z, px.int, py.int]
      exact ⟨_, _, rfl, hz, a2 _ W1 (fun _ z => z) s1 itok_rng⟩
    · cases e
  · cases e

/-! ### for -/
def forL (t : Tg) (body : M Fl) : List D → M Fl
  | [] => mret .next
  | d :: ds => mbind (setTg t d) fun _ => mbind body fun fl => match fl with
    | .next => forL t body ds
    | .cont => forL t body ds
    | .brk => mret .next
    | .ret r => mret (.ret r)
theorem evo_forL {body : M Fl} (hb : EvoF body) : ∀ ds, EvoF (forL t body ds)
  | [] => evo_ret _
  | d :: ds => evo_bind (evo_setTg t d) fun _ => evo_bind hb fun fl => by
    cases fl <;> first | exact evo_forL hb ds | exact evo_ret _
def sFor (t : Tg) (src : M (List D)) (body : M Fl) : M Fl := mbind src fun ds => forL t body ds
theorem drop_get {α : Type} {l : List α} {i : Nat} {x : α} (h : l[i]? = some x) : l.drop i = x :: l.drop (i + 1) := by
  obtain ⟨hi, e⟩ := List.getElem?_eq_some_iff.mp h
  rw [List.drop_eq_getElem_cons hi, e]
theorem ds_for {src : M (List D)} {body : List Stmt} {fb : M Fl} (hp : PassesOwn (model X.prog X.w) X.A X.env X.xe) (hc : X.calm = true) (hi : DI X Wx tg iter src) (hg : DG X tg t) (hb : DSs X Wx body fb)
    (hs : ∀ x, foldedSetIterable iter X.env x = pure x := by intro _; rfl) : DS X Wx (.For tg iter body [] pos) (sFor t src fb) := by
  refine ⟨ps_imp (ps_for hp hc hi.pi hg.pg hb.pss hs) fun D σ H ⟨W, B, ρ, s, a⟩ => ⟨W, B, ρ, s, (a.bindE fun ds => evo_forL hb.evo ds).mono fun W1 H1 ds ρ1 _ _ a1 J W0 hW s0 it => ?_⟩, evo_bind hi.evo fun ds => evo_forL hb.evo ds⟩
  have evL : ∀ ds, EvoF (forL t fb ds) := evo_forL hb.evo
  refine ⟨fun i m σ' H' => i ≤ ds.length ∧ m = ds.length - i ∧ ∃ W' ρ', St W' B σ' H' ρ' ∧ Fr W0 H1 W' H' ∧ AfterS X.mg Wx W' B σ' H' (forL t fb (ds.drop i) ρ') D, ⟨_, Nat.zero_le _, rfl, W0, ρ1, s0, .refl, a1.shift (.less hW) .refl fun r q => evL _ _ _ q⟩, ?_⟩
  rintro i m σ' H' ⟨hi', rfl, W', ρ', s', f', a'⟩
  obtain ⟨k1, k2⟩ := it W' H' i f' s'.dom
  cases q : ds[i]? with
  | none =>
    have hle : ds.length ≤ i := List.getElem?_eq_none_iff.mp q
    rw [List.drop_eq_nil_of_le hle] at a'
    exact .inl ⟨k1 hle, a'.here s'⟩
  | some d =>
    obtain ⟨go, yl⟩ := k2 d q
    have hlt : i < ds.length := (List.getElem?_eq_some_iff.mp q).1
    refine .inr ⟨go, fun σ2 H2 => ∃ W2 ρ2, St W2 B σ2 H2 ρ2 ∧ Fr W0 H1 W2 H2 ∧ AfterS X.mg Wx W2 B σ2 H2 (forL t fb (ds.drop (i + 1)) ρ2) D, fun σ2 H2 ⟨W2, ρ2, s2, f2, a2⟩ => ⟨ds.length - (i + 1), by omega, hlt, rfl, W2, ρ2, s2, f2, a2⟩, fun x H'' y => ?_⟩
    obtain ⟨nw, rx⟩ := yl x H'' y
    have s'' := s'.new' nw
    rw [drop_get q] at a'
    have a' : AfterS X.mg Wx W' B σ' H' (mbind (setTg t d) (fun _ => mbind fb fun fl => match fl with
      | .next => forL t fb (ds.drop (i + 1))
      | .cont => forL t fb (ds.drop (i + 1))
      | .brk => mret .next
      | .ret r => mret (.ret r)) ρ') D := a'
    have evK : ∀ fl : Fl, EvoF (match fl with
      | .next => forL t fb (ds.drop (i + 1))
      | .cont => forL t fb (ds.drop (i + 1))
      | .brk => mret .next
      | .ret r => mret (.ret r)) := fun fl => by cases fl <;> first | exact evL _ | exact evo_ret _
    unfold mbind at a'
    cases q2 : setTg t d ρ' with
    | none => rw [q2] at a'; exact a'.elim
    | some z =>
      obtain ⟨ρ2, q3, ez⟩ := setTg_case q2
      rw [q2, ez] at a'
      refine setTg_gives q3 s'' rx fun σ2 s2 kp2 => ?_
      have a2 := AfterS.shift (σ1 := σ2) (ρ1 := ρ2) (H1 := H'') (W1 := W') (show AfterS X.mg Wx W' B σ' H' ((mbind fb fun fl => match fl with
        | .next => forL t fb (ds.drop (i + 1))
        | .cont => forL t fb (ds.drop (i + 1))
        | .brk => mret .next
        | .ret r => mret (.ret r)) ρ2) D from a') (Fr.new' nw) kp2 fun r q => evo_bind hb.evo evK _ _ q
      refine ⟨W', B, ρ2, s2, ?_⟩
      -- the body, then what is left
      unfold mbind at a2
      cases q4 : fb ρ2 with
      | none => rw [q4] at a2; exact a2.elim
      | some z2 =>
        rw [q4] at a2
        cases z2 with
        | err e ρ3 => exact a2
        | ok fl ρ3 =>
          have f2 : Fr W0 H1 W' H'' := f'.trans (Fr.new' nw)
          refine fun W3 σ3 H3 f3 k3 => ?_
          cases fl with
          | next => exact fun s3 => ⟨W3, ρ3, s3, f2.trans f3, AfterS.shift a2 f3 k3 fun r q => evL _ _ _ q⟩
          | cont => exact fun s3 => ⟨W3, ρ3, s3, f2.trans f3, AfterS.shift a2 f3 k3 fun r q => evL _ _ _ q⟩
          | brk => exact fun s3 => a2 W3 σ3 H3 f3 k3 s3
          | ret r => exact a2 W3 σ3 H3 f3 k3

/-! ### while -/
def whileN (c : M Bool) (body : M Fl) : Nat → M Fl
  | 0 => fun _ => none
  | n + 1 => mbind c fun k => if k = true then mbind body fun fl => (match fl with
    | .next => whileN c body n
    | .cont => whileN c body n
    | .brk => mret .next
    | .ret r => mret (.ret r)) else mret .next
theorem evo_whileN {body : M Fl} (hc : EvoF c) (hb : EvoF body) : ∀ n, EvoF (whileN c body n)
  | 0 => fun _ _ z => nomatch z
  | n + 1 => evo_bind hc fun k => by
    cases k with
    | false => exact evo_ret _
    | true => exact evo_bind hb fun fl => by cases fl <;> first | exact evo_whileN hc hb n | exact evo_ret _
open Classical in
/-- a while that ends: by as many turns as it takes -/
noncomputable def sWhile (c : M Bool) (body : M Fl) : M Fl := fun ρ => if h : ∃ n r, whileN c body n ρ = some r then some (Classical.choose (Classical.choose_spec h)) else none
theorem sWhile_some {c : M Bool} {body : M Fl} {ρ : Env} {r : Res Fl} (h : sWhile c body ρ = some r) : ∃ n, whileN c body n ρ = some r := by
  unfold sWhile at h
  split at h
  · rename_i q
    cases h
    exact ⟨_, Classical.choose_spec (Classical.choose_spec q)⟩
  · cases h
theorem whileN_succ {c : M Bool} {body : M Fl} : ∀ {n : Nat} {ρ : Env} {r : Res Fl}, whileN c body n ρ = some r → whileN c body (n + 1) ρ = some r
  | 0, _, _, h => nomatch h
  | n + 1, ρ, r, h => by
    have h : mbind c (fun k => if k = true then mbind body fun fl => (match fl with
      | .next => whileN c body n
      | .cont => whileN c body n
      | .brk => mret .next
      | .ret r => mret (.ret r)) else mret .next) ρ = some r := h
    show mbind c (fun k => if k = true then mbind body fun fl => (match fl with
      | .next => whileN c body (n + 1)
      | .cont => whileN c body (n + 1)
      | .brk => mret .next
      | .ret r => mret (.ret r)) else mret .next) ρ = some r
    unfold mbind at h ⊢
    cases q : c ρ with
    | none => rw [q] at h; exact h
    | some x =>
      rw [q] at h
      cases x with
      | err e ρ1 => exact h
      | ok k ρ1 =>
        cases k with
        | false => exact h
        | true =>
          simp only [if_true] at h ⊢
          cases q2 : body ρ1 with
          | none => rw [q2] at h; exact h
          | some y =>
            rw [q2] at h
            cases y with
            | err e ρ2 => exact h
            | ok fl ρ2 =>
              cases fl with
              | next => exact whileN_succ (n := n) h
              | cont => exact whileN_succ (n := n) h
              | brk => exact h
              | ret r => exact h
theorem whileN_add {c : M Bool} {body : M Fl} {n : Nat} {ρ : Env} {r : Res Fl} (h : whileN c body n ρ = some r) : ∀ k, whileN c body (n + k) ρ = some r
  | 0 => h
  | k + 1 => whileN_succ (whileN_add h k)
theorem sWhile_eq {c : M Bool} {body : M Fl} {ρ : Env} {r : Res Fl} {n : Nat} (h : whileN c body n ρ = some r) : sWhile c body ρ = some r := by
  have q : ∃ n r, whileN c body n ρ = some r := ⟨n, r, h⟩
  have e : sWhile c body ρ = some (Classical.choose (Classical.choose_spec q)) := by unfold sWhile; rw [dif_pos q]
  have z := Classical.choose_spec (Classical.choose_spec q)
  have z2 := whileN_add z n
  have z3 := whileN_add h (Classical.choose q)
  rw [Nat.add_comm] at z3
  rw [z2] at z3
  rw [e, z3]
theorem evo_while {body : M Fl} (hc : EvoF c) (hb : EvoF body) : EvoF (sWhile c body) := fun ρ o e => by
  obtain ⟨n, h⟩ := sWhile_some e
  exact evo_whileN hc hb n ρ o h
theorem ds_while {ce : Expr} {body : List Stmt} {fb : M Fl} (hp : PassesOwn (model X.prog X.w) X.A X.env X.xe) (hc : DT X Wx ce c) (hb : DSs X Wx body fb) : DS X Wx (.While ce body [] pos) (sWhile c fb) := by
  refine ⟨ps_imp (ps_while hp hc.pt hb.pss) fun D σ H ⟨W, B, ρ, s, a⟩ => ?_, evo_while hc.evo hb.evo⟩
  have evW := evo_whileN hc.evo hb.evo
  have start : ∃ n, AfterS X.mg Wx W B σ H (whileN c fb n ρ) D := by
    cases q : sWhile c fb ρ with
    | none => rw [q] at a; exact a.elim
    | some r =>
      obtain ⟨n, h⟩ := sWhile_some q
      rw [q] at a
      exact ⟨n, by rw [h]; exact a⟩
  obtain ⟨n0, a0⟩ := start
  refine ⟨fun m σ' H' => ∃ W' ρ', St W' B σ' H' ρ' ∧ AfterS X.mg Wx W' B σ' H' (whileN c fb m ρ') D, ⟨n0, W, ρ, s, a0⟩, ?_⟩
  rintro m σ' H' ⟨W', ρ', s', a'⟩
  cases m with
  | zero => exact a'.elim
  | succ n =>
    have evK : ∀ fl : Fl, EvoF (match fl with
      | .next => whileN c fb n
      | .cont => whileN c fb n
      | .brk => mret .next
      | .ret r => mret (.ret r)) := fun fl => by cases fl <;> first | exact evW _ | exact evo_ret _
    have a' : AfterS X.mg Wx W' B σ' H' (mbind c (fun k => if k = true then mbind fb fun fl => (match fl with
      | .next => whileN c fb n
      | .cont => whileN c fb n
      | .brk => mret .next
      | .ret r => mret (.ret r)) else mret .next) ρ') D := a'
    refine ⟨W', B, ρ', s', (a'.bindE fun k => by cases k; exact evo_ret _; exact evo_bind hb.evo evK).mono fun W1 H1 k ρ1 _ f1 a1 s1 => ?_⟩
    cases k with
    | false => exact a1.here s1
    | true =>
      refine (if_pos rfl).mpr ?_
      refine ⟨fun σ2 H2 => ∃ W2 ρ2, St W2 B σ2 H2 ρ2 ∧ AfterS X.mg Wx W2 B σ2 H2 (whileN c fb n ρ2) D, fun σ2 H2 q => ⟨n, Nat.lt_succ_self n, q⟩, W1, B, ρ1, s1, ?_⟩
      have a1 : AfterS X.mg Wx W1 B σ' H1 (mbind fb (fun fl => match fl with
        | .next => whileN c fb n
        | .cont => whileN c fb n
        | .brk => mret .next
        | .ret r => mret (.ret r)) ρ1) D := a1
      refine a1.bindS evK fun fl ρ2 W2 σ2 H2 a2 => ?_
      cases fl with
      | next => exact fun s2 => ⟨W2, ρ2, s2, a2⟩
      | cont => exact fun s2 => ⟨W2, ρ2, s2, a2⟩
      | brk => exact a2.here
      | ret r => exact a2.here
end
end Dz
/-! Dz 7: list comprehensions; lists changed in place. -/
namespace Dz
open PySem PySem.Spec PyProof.Rows L2

/-- nothing is raised -/
abbrev W0 : WX := fun _ _ _ _ => False
def wipeE (ρ : Env) : List Nat → Env
  | [] => ρ
  | i :: is => (wipeE ρ is).set i .emp
def calmSl : Slot → Bool
  | .emp => true
  | .frz _ => true
  | _ => false
def wipeOk (ρ : Env) (is : List Nat) : Bool := is.all fun i => match ρ[i]? with
  | some s => calmSl s
  | none => false
/-- the slots is as they stood in ρ, the others as they stand now -/
def backE (ρ ρ' : Env) : List Nat → Env
  | [] => ρ'
  | i :: is => (backE ρ ρ' is).set i (ρ.getD i .emp)
theorem wipeE_len (ρ : Env) : ∀ is, (wipeE ρ is).length = ρ.length
  | [] => rfl
  | i :: is => by show ((wipeE ρ is).set i .emp).length = _; rw [List.length_set, wipeE_len ρ is]
theorem wipeE_out {ρ : Env} {j : Nat} : ∀ {is : List Nat}, j ∉ is → (wipeE ρ is)[j]? = ρ[j]?
  | [], _ => rfl
  | i :: is, h => by
    show ((wipeE ρ is).set i .emp)[j]? = _
    rw [List.getElem?_set_ne (fun z => h (by simp [z])), wipeE_out fun z => h (by simp [z])]
theorem wipeE_in {ρ : Env} {j : Nat} : ∀ {is : List Nat}, j ∈ is → j < ρ.length → (wipeE ρ is)[j]? = some .emp
  | i :: is, h, hl => by
    show ((wipeE ρ is).set i .emp)[j]? = _
    by_cases e : i = j
    · subst e; rw [List.getElem?_set_self (by rw [wipeE_len]; exact hl)]
    · rw [List.getElem?_set_ne e]
      exact wipeE_in ((List.mem_cons.mp h).resolve_left fun z => e z.symm) hl
theorem backE_len (ρ ρ' : Env) : ∀ is, (backE ρ ρ' is).length = ρ'.length
  | [] => rfl
  | i :: is => by show ((backE ρ ρ' is).set i _).length = _; rw [List.length_set, backE_len ρ ρ' is]
theorem backE_out {ρ ρ' : Env} {j : Nat} : ∀ {is : List Nat}, j ∉ is → (backE ρ ρ' is)[j]? = ρ'[j]?
  | [], _ => rfl
  | i :: is, h => by
    show ((backE ρ ρ' is).set i _)[j]? = _
    rw [List.getElem?_set_ne (fun z => h (by simp [z])), backE_out fun z => h (by simp [z])]
theorem backE_in {ρ ρ' : Env} {j : Nat} : ∀ {is : List Nat}, j ∈ is → j < ρ'.length → (backE ρ ρ' is)[j]? = some (ρ.getD j .emp)
  | i :: is, h, hl => by
    show ((backE ρ ρ' is).set i _)[j]? = _
    by_cases e : i = j
    · subst e; rw [List.getElem?_set_self (by rw [backE_len]; exact hl)]
    · rw [List.getElem?_set_ne e]
      exact backE_in ((List.mem_cons.mp h).resolve_left fun z => e z.symm) hl
theorem sv_wipe_out {σ : L2.St} {j : Nat} {is : List Nat} (h : j ∉ is) : sv (wipe σ is) j = sv σ j := by
  unfold sv
  rw [List.getD_eq_getElem?_getD, List.getD_eq_getElem?_getD, wipe_out h]
theorem St.wipe {W B : AP} {σ : L2.St} {H : Hp} {ρ : Env} (s : St W B σ H ρ) (is : List Nat) : St W B (L2.wipe σ is) H (wipeE ρ is) := by
  have key : ∀ (i : Nat) (t : Slot), (wipeE ρ is)[i]? = some t → t = .emp ∨ (i ∉ is ∧ ρ[i]? = some t) := fun i t e => by
    by_cases h : i ∈ is
    · have hl : i < ρ.length := by rw [← wipeE_len ρ is]; exact (List.getElem?_eq_some_iff.mp e).1
      rw [wipeE_in h hl] at e
      exact .inl (Option.some.inj e).symm
    · rw [wipeE_out h] at e
      exact .inr ⟨h, e⟩
  refine ⟨by rw [wipe_length, wipeE_len]; exact s.len, fun i t e => ?_, s.dom, s.dis, fun i j t t' a hij p q w1 w2 x1 x2 => ?_⟩
  · rcases key i t e with z | ⟨n, e'⟩
    · subst z; trivial
    · rw [sv_wipe_out n]; exact s.slot i t e'
  · rcases key i t p with z | ⟨n1, p'⟩
    · subst z; cases w1
    · rcases key j t' q with z | ⟨n2, q'⟩
      · subst z; cases w2
      · rw [sv_wipe_out n1] at x1
        rw [sv_wipe_out n2] at x2
        exact s.apart i j t t' a hij p' q' w1 w2 x1 x2
/-- one turn after another -/
def lcL (t : Tg) (is : List Nat) (cond : M Bool) (elt : M R) : List D → List D → M (List D)
  | [], acc => mret acc
  | d :: ds, acc => mbind (setTg t d) fun _ => mbind cond fun k =>
      if k = true then mbind elt fun r => mbind (mopt (if acc.length < sizeLine then some () else none)) fun _ => fun ρ => lcL t is cond elt ds (acc ++ [r.d]) (wipeE ρ is)
      else fun ρ => lcL t is cond elt ds acc (wipeE ρ is)
def noErr {α : Type} : Option (Res α) → Option (α × Env)
  | some (.ok a ρ) => some (a, ρ)
  | _ => none
def fLc (t : Tg) (is : List Nat) (src : M (List D)) (cond : M Bool) (elt : M R) : M R := mbind src fun items => fun ρ =>
  if wipeOk ρ is = true then
    match noErr (lcL t is cond elt items [] (wipeE ρ is)) with
    | some (acc, ρ') => some (.ok (.own (.lst acc)) (backE ρ ρ' is))
    | none => none
  else none
theorem mbind_ok {α β : Type} {f : M α} {g : α → M β} {ρ ρ' : Env} {b : β} (h : mbind f g ρ = some (.ok b ρ')) : ∃ a ρ1, f ρ = some (.ok a ρ1) ∧ g a ρ1 = some (.ok b ρ') := by
  unfold mbind at h
  cases q : f ρ with
  | none => rw [q] at h; cases h
  | some x =>
    rw [q] at h
    cases x with
    | err e ρ1 => cases h
    | ok a ρ1 => exact ⟨a, ρ1, rfl, h⟩
/-- what is not wiped goes on as it may -/
structure EvoX (is : List Nat) (ρ ρ' : Env) : Prop where
  len : ρ'.length = ρ.length
  bor : ∀ (i : Nat) (d : D), i ∉ is → ρ'[i]? = some (Slot.bor d) → ρ[i]? = some (Slot.bor d)
  lent : ∀ (i : Nat) (d : D), i ∉ is → ρ[i]? = some (Slot.lent d) → ∃ d', ρ'[i]? = some (Slot.lent d')
  tnel : ∀ (i : Nat) (d : D), i ∉ is → ρ'[i]? = some (Slot.lent d) → ∃ d', ρ[i]? = some (Slot.lent d')
theorem Evo.x {is : List Nat} {ρ ρ' : Env} (e : Evo ρ ρ') : EvoX is ρ ρ' := ⟨e.len, fun i d _ => e.bor i d, fun i d _ => e.lent i d, fun i d _ => e.tnel i d⟩
theorem EvoX.trans {is : List Nat} {ρ ρ1 ρ2 : Env} (p : EvoX is ρ ρ1) (q : EvoX is ρ1 ρ2) : EvoX is ρ ρ2 :=
  ⟨q.len.trans p.len, fun i d h e => p.bor i d h (q.bor i d h e), fun i d h e => let ⟨d1, e1⟩ := p.lent i d h e; q.lent i d1 h e1, fun i d h e => let ⟨d1, e1⟩ := q.tnel i d h e; p.tnel i d1 h e1⟩
theorem EvoX.wipe {is : List Nat} {ρ : Env} : EvoX is ρ (wipeE ρ is) := ⟨wipeE_len _ _, fun i d h e => by rwa [wipeE_out h] at e, fun i d h e => ⟨d, by rwa [wipeE_out h]⟩, fun i d h e => ⟨d, by rwa [wipeE_out h] at e⟩⟩
theorem evo_wipe_lcL {t : Tg} {is : List Nat} {cond : M Bool} {elt : M R} (hc : EvoF cond) (he : EvoF elt) : ∀ (ds acc : List D) (ρ ρ' : Env) (r : List D), lcL t is cond elt ds acc ρ = some (.ok r ρ') → EvoX is ρ ρ'
  | [], acc, ρ, ρ', r, h => by
    cases h
    exact (Evo.refl ρ).x
  | d :: ds, acc, ρ, ρ', r, h => by
    obtain ⟨u, ρ1, q1, h⟩ := mbind_ok (show mbind (setTg t d) _ ρ = _ from h)
    obtain ⟨k, ρ2, q2, h⟩ := mbind_ok h
    have ev := (evo_setTg t d ρ _ q1).trans (hc ρ1 _ q2)
    cases k with
    | false => exact (ev.x.trans EvoX.wipe).trans (evo_wipe_lcL hc he ds acc _ ρ' r h)
    | true =>
      obtain ⟨y, ρ3, q3, h3⟩ := mbind_ok (show mbind elt _ ρ2 = _ from h)
      obtain ⟨_, ρ4, q4, h4⟩ := mbind_ok h3
      have ev := ev.trans (he ρ2 _ q3)
      have e4 : ρ4 = ρ3 := by
        unfold mopt at q4
        split at q4 <;> cases q4
        rfl
      subst e4
      exact (ev.x.trans EvoX.wipe).trans (evo_wipe_lcL hc he ds _ _ ρ' r h4)
theorem noErr_some {α : Type} {o : Option (Res α)} {a : α} {ρ : Env} (h : noErr o = some (a, ρ)) : o = some (.ok a ρ) := by
  unfold noErr at h
  split at h
  · cases h; rfl
  · cases h
theorem evo_lc {t : Tg} {is : List Nat} {src : M (List D)} {cond : M Bool} {elt : M R} (hs : EvoF src) (hc : EvoF cond) (he : EvoF elt) : EvoF (fLc t is src cond elt) := evo_bind hs fun items ρ o h => by
  have h : (if wipeOk ρ is = true then
    match noErr (lcL t is cond elt items [] (wipeE ρ is)) with
    | some (acc, ρ') => some (Res.ok (R.own (.lst acc)) (backE ρ ρ' is))
    | none => none
  else none) = some o := h
  split at h
  · rename_i hw
    split at h
    · rename_i acc ρ' q
      cases h
      have E := (EvoX.wipe (is := is) (ρ := ρ)).trans (evo_wipe_lcL hc he items [] _ _ _ (noErr_some q))
      have calm : ∀ i ∈ is, ∃ s, ρ[i]? = some s ∧ calmSl s = true := fun i hi => by
        have := List.all_eq_true.mp hw i hi
        split at this
        · rename_i s e; exact ⟨s, e, this⟩
        · cases this
      refine ⟨by show (backE ρ ρ' is).length = _; rw [backE_len, E.len], fun i d e => ?_, fun i d e => ?_, fun i d e => ?_⟩
      · have e : (backE ρ ρ' is)[i]? = some (Slot.bor d) := e
        by_cases hi : i ∈ is
        · obtain ⟨s, es, cs⟩ := calm i hi
          have hl2 := (List.getElem?_eq_some_iff.mp es).1
          rw [backE_in hi (by rw [E.len]; exact hl2), List.getD_eq_getElem?_getD, es] at e
          cases e
          cases cs
        · rw [backE_out hi] at e
          exact E.bor i d hi e
      · show ∃ d', (backE ρ ρ' is)[i]? = some (Slot.lent d')
        by_cases hi : i ∈ is
        · obtain ⟨s, es, cs⟩ := calm i hi
          rw [es] at e
          cases e
          cases cs
        · rw [backE_out hi]
          exact E.lent i d hi e
      · have e : (backE ρ ρ' is)[i]? = some (Slot.lent d) := e
        by_cases hi : i ∈ is
        · obtain ⟨s, es, cs⟩ := calm i hi
          have hl2 := (List.getElem?_eq_some_iff.mp es).1
          rw [backE_in hi (by rw [E.len]; exact hl2), List.getD_eq_getElem?_getD, es] at e
          cases e
          cases cs
        · rw [backE_out hi] at e
          exact E.tnel i d hi e
    · cases h
  · cases h
/-- what was put aside is ours again, with what it holds now -/
theorem VOk.put {W B : AP} {σ : L2.St} {H : Hp} {ρ : Env} {a : Addr} {ds : List D} {vs : List V} (s : St W (Pl B a) σ H ρ) (hb : ∀ (i : Nat) (d : D), ρ[i]? = some (Slot.bor d) → sv σ i ≠ some (.ref a)) (nb : ¬ B a)
    (r : Reps (Eo W (Pl B a)) H ds vs) : VOk (Pl W a) B σ (upd H a (.lst vs)) ρ (.ref a) (.own (.lst ds)) := by
  have na : ¬ W a := fun z => s.dis a z (.inr rfl)
  have hE : ∀ b, Eo (Pl W a) B b → Eo W (Pl B a) b := fun b z => by
    rcases z with (z | z) | z
    · exact .inl z
    · exact .inr (.inr z)
    · exact .inr (.inl z)
  have hk : ∀ b o, H b = some o → ¬ Eo W (Pl B a) b → upd H a (.lst vs) b = some o := fun b o e n => by
    rw [upd_ne (fun z => n (.inr (.inr z)))]; exact e
  have hN : ∀ b, Eo (Pl W a) B b → Eo W (Pl B a) b ∨ H b = none := fun b z => .inl (hE b z)
  have keepW : ∀ b o, H b = some o → ¬ (fun c => c = a) b → upd H a (.lst vs) b = some o := fun b o e n => by rw [upd_ne n]; exact e
  have sub : ∀ b, (fun c => c = a) b → Eo W (Pl B a) b := fun b z => .inr (.inr z)
  refine ⟨a, rfl, .inr rfl, ⟨s.len, fun i t e => ?_, fun b z => ?_, fun b w q => ?_, s.apart⟩, ⟨_, upd_same, Reps.mono hN hk _ _ r⟩, fun i t e w ev => ?_⟩
  · have q := s.slot i t e
    cases t with
    | emp => trivial
    | frz d => obtain ⟨x, e1, k⟩ := q; exact ⟨x, e1, Rep.mono hN hk _ _ k⟩
    | own d => obtain ⟨x, e1, w, k⟩ := q; exact ⟨x, e1, .inl w, k.mono (M := fun c => c = a) hN keepW sub fun (z : x = a) => na (z ▸ w)⟩
    | lent d => obtain ⟨x, e1, w, k⟩ := q; exact ⟨x, e1, .inl w, k.mono (M := fun c => c = a) hN keepW sub fun (z : x = a) => na (z ▸ w)⟩
    | bor d =>
      obtain ⟨x, e1, w, k⟩ := q
      have hx : x ≠ a := fun z => hb i d e (by rw [e1, z])
      exact ⟨x, e1, w.resolve_right hx, k.mono (M := fun c => c = a) hN keepW sub hx⟩
  · by_cases hba : b = a
    · subst hba; rw [upd_same]; simp
    · rw [upd_ne hba]
      exact s.dom b (hE b z)
  · rcases w with w | w
    · exact s.dis b w (.inl q)
    · subst w; exact nb q
  · obtain ⟨c, d', _, e1, wc, _⟩ := s.wr_at e w
    rw [ev] at e1
    cases e1
    exact na wc
theorem upd_self' {H : Hp} {a : Addr} {o : HO} (h : H a = some o) : upd H a o = H := by
  funext b
  unfold upd
  split
  · rename_i e; rw [e, h]
  · rfl
theorem Fr.regain {W W1 : AP} {H H1 : Hp} {a : Addr} {o : HO} (f : Fr W H W1 H1) (h : H a = none) : Fr W H (Pl W1 a) (upd H1 a o) := by
  refine ⟨fun b u e n => ?_, fun b z => ?_⟩
  · rw [upd_ne (ne_of_none e h)]; exact f.keep b u e n
  · rcases z with z | z
    · exact f.sub b z
    · exact .inr (by rw [z]; exact h)
theorem VOk.wipe {W B : AP} {σ : L2.St} {H : Hp} {ρ : Env} {v : V} {d : D} (h : VOk W B σ H ρ v (.own d)) (is : List Nat) : VOk W B (L2.wipe σ is) H (wipeE ρ is) v (.own d) := by
  obtain ⟨a, e, wa, s, t, hn⟩ := h
  refine ⟨a, e, wa, s.wipe is, t, fun i t e w => ?_⟩
  by_cases hi : i ∈ is
  · have hl : i < ρ.length := by rw [← wipeE_len ρ is]; exact (List.getElem?_eq_some_iff.mp e).1
    rw [wipeE_in hi hl] at e
    cases e
    cases w
  · rw [wipeE_out hi] at e
    rw [sv_wipe_out hi]
    exact hn i t e w
section
variable {X : Cx} {Wx : WX} {elt tg iter : Expr} {ifs : List Expr} {pos : Pos} {t : Tg} {src : M (List D)} {cond : M Bool} {fe : M R}
structure DTs (X : Cx) (Wx : WX) (ifs : List Expr) (f : M Bool) : Prop where
  pts : PTs X ifs (rdT X.mg Wx f)
  evo : EvoF f
theorem dts_nil : DTs X Wx [] (mret true) := ⟨⟨fun pins s σ H Q I ⟨W, B, ρ, st, a⟩ => pts_nil.run pins s σ H Q I (a.here st)⟩, evo_ret _⟩
theorem dts_one {c : Expr} (h : DT X Wx c cond) : DTs X Wx [c] cond := ⟨pts_one h.pt, h.evo⟩
theorem After.noErr {mg : Str → Option Value} {α : Type} {W B : AP} {σ : L2.St} {H : Hp} {o : Option (Res α)} {Q : AP → Hp → α → Env → Prop} {a : α} {ρ : Env} (e : o = some (.ok a ρ)) (h : ∀ W' H', Fr W H W' H' → Q W' H' a ρ) : After mg W0 W B σ H o Q := by
  rw [e]; exact h
theorem Fr.parks {W W1 : AP} {H : Hp} (h : ∀ a, W1 a → W a) : Fr W H W1 H := .less h
theorem tgSlots_ok {is : List Nat} {σ : L2.St} {K : PySem.W.Frag} : True := trivial
mutual
/-- the slots that a target stores to -/
def tgIn (is : List Nat) : Tg → Bool
  | .nm i => is.contains i
  | .tp ts => tgsIn is ts
def tgsIn (is : List Nat) : List Tg → Bool
  | [] => true
  | t :: ts => tgIn is t && tgsIn is ts
end
theorem wipe_set_in {σ : L2.St} {v : Option V} {i : Nat} : ∀ {is : List Nat}, i ∈ is → L2.wipe (σ.set i v) is = L2.wipe σ is
  | is, h => by
    apply List.ext_getElem?
    intro j
    by_cases hj : j ∈ is
    · have e : ∀ τ : L2.St, j < τ.length → (L2.wipe τ is)[j]? = some none := fun τ hl => by
        have hl2 : j < (L2.wipe τ is).length := by rw [wipe_length]; exact hl
        rw [List.getElem?_eq_getElem hl2]
        congr 1
        cases q : (L2.wipe τ is)[j] with
        | none => rfl
        | some x =>
          have : (L2.wipe τ is)[j]? = some (some x) := by rw [List.getElem?_eq_getElem hl2, q]
          exact absurd hj (wipe_some this).2
      by_cases hl : j < σ.length
      · rw [e σ hl, e (σ.set i v) (by rw [List.length_set]; exact hl)]
      · rw [List.getElem?_eq_none (by rw [wipe_length, List.length_set]; omega), List.getElem?_eq_none (by rw [wipe_length]; omega)]
    · rw [wipe_out hj, wipe_out hj, List.getElem?_set_ne (fun z => hj (by rw [← z]; exact h))]
mutual
theorem gOf_wipe {K : PySem.W.Frag} {is : List Nat} : ∀ (t : Tg) {v : V} {σ : L2.St} {H : Hp} {P : L2.St → Hp → Prop}, tgIn is t = true → gOf K t v σ H P → gOf K t v σ H fun σ' H' => L2.wipe σ' is = L2.wipe σ is ∧ P σ' H'
  | .nm i, v, σ, H, P, hi, h => ⟨wipe_set_in (by simpa [tgIn] using hi), h⟩
  | .tp ts, v, σ, H, P, hi, ⟨a, xs, e, q, l, h⟩ => ⟨a, xs, e, q, l, gsOf_wipe ts hi h⟩
theorem gsOf_wipe {K : PySem.W.Frag} {is : List Nat} : ∀ (ts : List Tg) {vs : List V} {σ : L2.St} {H : Hp} {P : L2.St → Hp → Prop}, tgsIn is ts = true → gsOf K ts vs σ H P → gsOf K ts vs σ H fun σ' H' => L2.wipe σ' is = L2.wipe σ is ∧ P σ' H'
  | [], vs, σ, H, P, _, h => ⟨h.1, rfl, h.2⟩
  | t :: ts, vs, σ, H, P, hi, ⟨v, r, e, h⟩ => by
    obtain ⟨h1, h2⟩ := Bool.and_eq_true_iff.mp (show (tgIn is t && tgsIn is ts) = true from hi)
    refine ⟨v, r, e, gOf_mono t (gOf_wipe t h1 h) fun σ1 H1 ⟨w1, k⟩ => gsOf_mono ts (gsOf_wipe ts h2 k) fun σ2 H2 ⟨w2, k2⟩ => ⟨w2.trans w1, k2⟩⟩
end
/-- one more at the list's end, turn by turn -/
theorem lc_turns {mg : Str → Option Value} {K : PySem.W.Frag} {is : List Nat} {W00 B : AP} {σ : L2.St} {H1 : Hp} {ρ1 ρF : Env} {J : It} {ds accF : List D} {Q : VK} (hin : tgIn is t = true) (hec : EvoF cond) (hee : EvoF fe) (s0 : St W00 B σ H1 ρ1)
    (it : ItOk J W00 B H1 ds) (run : lcL t is cond fe ds [] (wipeE ρ1 is) = some (.ok accF ρF))
    (fin : ∀ (W' : AP) (H' : Hp) (D : Addr), Fr W00 H1 W' H' → H1 D = none → VOk W' B (L2.wipe σ is) H' ρF (.ref D) (.own (.lst accF)) → Q (.ref D) H') :
    ∀ D, H1 D = none → ∃ Wv : Nat → Nat → Hp → Prop, (∃ m, Wv 0 m (upd H1 D (.lst []))) ∧ ∀ i m H, Wv i m H → (J.stop i H ∧ Q (.ref D) H) ∨ (J.go i H ∧ ∃ Nx : Hp → Prop, (∀ H', Nx H' → ∃ m', m' < m ∧ Wv (i + 1) m' H') ∧ ∀ x H', J.yld i H x H' → gOf K t x (L2.wipe σ is) H' fun σ2 H2 => L2.wipe σ2 is = L2.wipe σ is ∧ rdT mg W0 cond σ2 H2 fun b H3 =>
      if b = true then rdE mg W0 fe σ2 H3 fun y H4 => ∃ acc, H4 D = some (.lst acc) ∧ acc.length < sizeLine ∧ Nx (upd H4 D (.lst (acc ++ [y]))) else Nx H3) := by
  intro D hD
  have wv : L2.wipe (L2.wipe σ is) is = L2.wipe σ is := by
    apply List.ext_getElem?
    intro j
    by_cases hj : j ∈ is
    · have e : ∀ τ : L2.St, j < τ.length → (L2.wipe τ is)[j]? = some none := fun τ hl => by
        have hl2 : j < (L2.wipe τ is).length := by rw [wipe_length]; exact hl
        rw [List.getElem?_eq_getElem hl2]
        congr 1
        cases q : (L2.wipe τ is)[j] with
        | none => rfl
        | some x =>
          have : (L2.wipe τ is)[j]? = some (some x) := by rw [List.getElem?_eq_getElem hl2, q]
          exact absurd hj (wipe_some this).2
      by_cases hl : j < σ.length
      · rw [e σ hl, e (L2.wipe σ is) (by rw [wipe_length]; exact hl)]
      · rw [List.getElem?_eq_none (by rw [wipe_length, wipe_length]; omega), List.getElem?_eq_none (by rw [wipe_length]; omega)]
    · rw [wipe_out hj]
  refine ⟨fun i m H => i ≤ ds.length ∧ m = ds.length - i ∧ ∃ W' ρ' acc, Fr W00 H1 W' H ∧ VOk W' B (L2.wipe σ is) H ρ' (.ref D) (.own (.lst acc)) ∧ lcL t is cond fe (ds.drop i) acc ρ' = some (.ok accF ρF), ⟨_, Nat.zero_le _, rfl, _, wipeE ρ1 is, [], Fr.newW hD, vok_lst (s0.wipe is) rfl hD, run⟩, ?_⟩
  rintro i m H ⟨hi, rfl, W', ρ', acc, f', vk, rn⟩
  obtain ⟨k1, k2⟩ := it W' H i f' vk.st.dom
  cases q : ds[i]? with
  | none =>
    have hle : ds.length ≤ i := List.getElem?_eq_none_iff.mp q
    rw [List.drop_eq_nil_of_le hle] at rn
    cases rn
    exact .inl ⟨k1 hle, fin W' H D f' hD vk⟩
  | some d =>
    obtain ⟨go, yl⟩ := k2 d q
    have hlt : i < ds.length := (List.getElem?_eq_some_iff.mp q).1
    refine .inr ⟨go, fun H' => ∃ W' ρ' acc, Fr W00 H1 W' H' ∧ VOk W' B (L2.wipe σ is) H' ρ' (.ref D) (.own (.lst acc)) ∧ lcL t is cond fe (ds.drop (i + 1)) acc ρ' = some (.ok accF ρF), fun H' ⟨W2, ρ2, acc2, z⟩ => ⟨ds.length - (i + 1), by omega, hlt, rfl, W2, ρ2, acc2, z⟩, fun x H'' y => ?_⟩
    obtain ⟨nw, rx⟩ := yl x H'' y
    -- the new list is put aside
    obtain ⟨a, ea, wa, s', tp, hn⟩ := vk
    cases ea
    have nbD : ¬ B D := fun z => s0.dom D (.inr z) hD
    have sA : St (Mi W' D) (Pl B D) (L2.wipe σ is) H ρ' := s'.aside wa hn (fun _ z => .inl z) (fun _ z => z)
    have hE : ∀ b, Eo (Mi W' D) (Pl B D) b → Eo W' B b := fun b z => by
      rcases z with z | z | z
      · exact .inl z.1
      · exact .inr z
      · subst z; exact .inl wa
    obtain ⟨vs, hpD, rs⟩ := tp
    have rsA : Reps (Eo (Mi W' D) (Pl B D)) H acc vs := rs.less hE
    have hbA : ∀ (j : Nat) (d : Dz.D), ρ'[j]? = some (Slot.bor d) → sv (L2.wipe σ is) j ≠ some (.ref D) := fun j d e ev => by
      obtain ⟨c, e1, bc, _⟩ := s'.slot j _ e
      rw [ev] at e1
      cases e1
      exact nbD bc
    have s2 := sA.new' nw
    have fN : Fr (Mi W' D) H (Mi W' D) H'' := Fr.new' nw
    have fA : Fr W00 H1 (Mi W' D) H'' := (f'.trans (.less fun b z => z.1)).trans fN
    have rxA : Rep (Eo (Mi W' D) (Pl B D)) H'' d x := rx.less hE
    have hpD2 : H'' D = some (.lst vs) := fN.keep D _ hpD fun z => z.2 rfl
    have rsA2 := rsA.fr fN
    rw [drop_get q] at rn
    obtain ⟨u, ρ2, q1, rn⟩ := mbind_ok (show mbind (setTg t d) _ ρ' = _ from rn)
    obtain ⟨k, ρ3, q2, rn⟩ := mbind_ok rn
    have evT := evo_setTg t d ρ' _ q1
    have evC := hec ρ2 _ q2
    refine gOf_mono t (gOf_wipe t hin (setTg_gives (K := K) (Q := fun σ2 H2 => H2 = H'' ∧ St (Mi W' D) (Pl B D) σ2 H'' ρ2 ∧ Kp (L2.wipe σ is) σ2 ρ2) q1 s2 rxA fun σ2 sT kT => ⟨rfl, sT, kT⟩)) fun σ2 H2 ⟨w2, e2, sT, kT⟩ => ?_
    subst e2
    have w2 : L2.wipe σ2 is = L2.wipe σ is := w2.trans wv
    refine ⟨w2, Mi W' D, Pl B D, ρ2, sT, ?_⟩
    rw [q2]
    refine fun W3 H3 f3 s3 => ?_
    have back : ∀ {ρ4 : Env}, Evo ρ2 ρ4 → ∀ (j : Nat) (d : Dz.D), ρ4[j]? = some (Slot.bor d) → sv σ2 j ≠ some (.ref D) := fun {ρ4} ev j d e => by
      have e2 := ev.bor j d e
      rw [kT j d (.inl e2)]
      exact hbA j d (evT.bor j d e2)
    cases k with
    | false =>
      have f03 := fA.trans f3
      have hp3 : H3 D = some (.lst vs) := f3.keep D _ hpD2 fun z => z.2 rfl
      have p := (VOk.put s3 (back evC) nbD (rsA2.fr f3)).wipe is
      rw [upd_self' hp3, w2] at p
      refine ⟨Pl W3 D, wipeE ρ3 is, acc, ?_, p, rn⟩
      have := Fr.regain (o := .lst vs) f03 hD
      rwa [upd_self' hp3] at this
    | true =>
      obtain ⟨y, ρ4, q3, rn3⟩ := mbind_ok (show mbind fe _ ρ3 = _ from rn)
      obtain ⟨_, ρ5, q4, rn4⟩ := mbind_ok rn3
      have hz : acc.length < sizeLine ∧ ρ5 = ρ4 := by
        unfold mopt at q4
        split at q4
        · rename_i hz
          split at hz
          · rename_i h; cases q4; exact ⟨h, rfl⟩
          · cases hz
        · cases q4
      obtain ⟨hz, e5⟩ := hz
      subst e5
      have evE := hee ρ3 _ q3
      refine ⟨W3, Pl B D, ρ3, s3, ?_⟩
      rw [q3]
      refine fun W4 H4 f4 yv hv => ?_
      obtain ⟨W5, hW5, s5, r5⟩ := hv.any
      have f25 := (f3.trans f4).trans (.less hW5)
      have hp4 : H4 D = some (.lst vs) := (f3.trans f4).keep D _ hpD2 fun z => z.2 rfl
      have rs5 := rsA2.fr f25
      refine ⟨vs, hp4, by rw [rs5.length]; exact hz, Pl W5 D, wipeE ρ5 is, acc ++ [y.d], Fr.regain (fA.trans f25) hD, ?_, rn4⟩
      have p := (VOk.put s5 (back (evC.trans evE)) nbD (rs5.append (Reps.one r5))).wipe is
      rwa [w2] at p
theorem St.back {W B : AP} {σ : L2.St} {H H1 : Hp} {ρ ρ' : Env} {is : List Nat} {W0' : AP} (hw : wipeOk ρ is = true) (s0 : St W0' B σ H1 ρ) (f : Fr W0' H1 W H) (s : St W B (L2.wipe σ is) H ρ') : St W B σ H (backE ρ ρ' is) := by
  have hl : ρ'.length = ρ.length := by rw [← s.len, wipe_length, s0.len]
  have calm : ∀ i ∈ is, ∃ s, ρ[i]? = some s ∧ calmSl s = true := fun i hi => by
    have := List.all_eq_true.mp hw i hi
    split at this
    · rename_i s e; exact ⟨s, e, this⟩
    · cases this
  have key : ∀ (i : Nat) (t : Slot), (backE ρ ρ' is)[i]? = some t → (i ∈ is ∧ ρ[i]? = some t ∧ calmSl t = true) ∨ (i ∉ is ∧ ρ'[i]? = some t) := fun i t e => by
    by_cases hi : i ∈ is
    · obtain ⟨u, es, cs⟩ := calm i hi
      have hl2 := (List.getElem?_eq_some_iff.mp es).1
      rw [backE_in hi (by rw [hl]; exact hl2), List.getD_eq_getElem?_getD, es] at e
      cases e
      exact .inl ⟨hi, es, cs⟩
    · rw [backE_out hi] at e
      exact .inr ⟨hi, e⟩
  refine ⟨by rw [backE_len, hl]; exact s0.len, fun i t e => ?_, s.dom, s.dis, fun i j t t' a hij p q w1 w2 x1 x2 => ?_⟩
  · rcases key i t e with ⟨hi, e', cs⟩ | ⟨hi, e'⟩
    · have q := s0.slot i t e'
      cases t with
      | emp => trivial
      | frz d => obtain ⟨x, e1, r⟩ := q; exact ⟨x, e1, r.fr f⟩
      | own d => cases cs
      | bor d => cases cs
      | lent d => cases cs
    · have q := s.slot i t e'
      rwa [sv_wipe_out hi] at q
  · rcases key i t p with ⟨_, _, cs⟩ | ⟨hi, p'⟩
    · cases t <;> cases w1 <;> cases cs
    · rcases key j t' q with ⟨_, _, cs⟩ | ⟨hj, q'⟩
      · cases t' <;> cases w2 <;> cases cs
      · exact s.apart i j t t' a hij p' q' w1 w2 (by rw [sv_wipe_out hi]; exact x1) (by rw [sv_wipe_out hj]; exact x2)
theorem rdE_lc {mg : Str → Option Value} {K : PySem.W.Frag} {is : List Nat} (hin : tgIn is t = true) (hec : EvoF cond) (hee : EvoF fe) {σ : L2.St} {H : Hp} {Q : VK} (h : rdE mg Wx (fLc t is src cond fe) σ H Q) :
    tLc (rdI mg Wx src) (gOf K t) (rdT mg W0 cond) (rdE mg W0 fe) is σ H Q := by
  obtain ⟨W, B, ρ, s, a⟩ := h
  refine ⟨W, B, ρ, s, (After.bind a).mono fun W1 H1 ds ρ1 _ _ a1 J W00 hW s0 it => ?_⟩
  have a1 : After mg Wx W1 B σ H1 (if wipeOk ρ1 is = true then
    match noErr (lcL t is cond fe ds [] (wipeE ρ1 is)) with
    | some (acc, ρ') => some (Res.ok (R.own (.lst acc)) (backE ρ1 ρ' is))
    | none => none
  else none) _ := a1
  split at a1
  · rename_i hw
    split at a1
    · rename_i acc ρF q
      refine lc_turns (mg := mg) (K := K) hin hec hee s0 it (noErr_some q) fun W' H' D f hD vk => ?_
      obtain ⟨b, eb, wb, sb, tb, hn⟩ := vk
      cases eb
      refine a1 W' H' ((Fr.less hW).trans f) (.ref D) ⟨D, rfl, wb, s0.back hw f sb, tb, fun i t e w => ?_⟩
      by_cases hi : i ∈ is
      · have := List.all_eq_true.mp hw i hi
        split at this
        · rename_i u es
          have hl2 := (List.getElem?_eq_some_iff.mp es).1
          rw [backE_in hi (by rw [← sb.len, wipe_length, s0.len]; exact hl2), List.getD_eq_getElem?_getD, es] at e
          cases e
          cases u <;> cases w <;> cases this
        · cases this
      · rw [backE_out hi] at e
        have := hn i t e w
        rwa [sv_wipe_out hi] at this
    · exact a1.elim
  · exact a1.elim
/-- a comprehension as a value -/
theorem de_lc {scope : Scope} {own : List (Str × Nat)} (hc : X.calm = true) (hN : X.N.Nodup) (hi : DI X Wx tg iter src) (ok : BlkOk X.N X.env.scope scope own) (hin : tgIn (own.map (·.2)) t = true)
    (hg : ∀ (s : Shared) (H : Hp) (C : Addr) (cl : List (Str × Addr)) (fp : List Addr), DG (X.blk s H scope (compEnvC scope cl C X.env) fp) tg t) (ht : ∀ (s : Shared) (H : Hp) (C : Addr) (cl : List (Str × Addr)) (fp : List Addr), DTs (X.blk s H scope (compEnvC scope cl C X.env) fp) W0 ifs cond)
    (he : ∀ (s : Shared) (H : Hp) (C : Addr) (cl : List (Str × Addr)) (fp : List Addr), DE (X.blk s H scope (compEnvC scope cl C X.env) fp) W0 elt fe) (hs : ∀ x, foldedSetIterable iter X.env x = pure x := by intro _; rfl) :
    DE X Wx (.ListComp elt [⟨tg, iter, ifs, 0⟩] scope pos) (fLc t (own.map (·.2)) src cond fe) := by
  have ev1 : EvoF cond := (ht X.s_0 X.H_0 0 [] []).evo
  have ev2 : EvoF fe := (he X.s_0 X.H_0 0 [] []).evo
  exact ⟨pe_imp (pe_lc (g := gOf X.K t) (tt := rdT X.mg W0 cond) (te := rdE X.mg W0 fe) hc hN hi.pi ok (fun s H C cl fp => (hg s H C cl fp).pg) (fun s H C cl fp => (ht s H C cl fp).pts) (fun s H C cl fp => (he s H C cl fp).pe) hs) fun σ H Q q => rdE_lc (K := X.K) hin ev1 ev2 q, evo_lc hi.evo ev1 ev2⟩
/-- name = a comprehension, on one row -/
theorem ds_setLc {i : Nat} {y : Str} {py spos : Pos} {scope : Scope} {own : List (Str × Nat)} (hc : X.calm = true) (hN : X.N.Nodup) (hy : X.N[i]? = some y) (hyl : X.env.scope.names.lookup y = some .local)
    (hsw : swapsWith (.ListComp elt [⟨tg, iter, ifs, 0⟩] scope pos) (some (.Name y py)) spos.line X.env = pure true) (hi : DI X Wx tg iter src) (ok : BlkOk X.N X.env.scope scope own) (hin : tgIn (own.map (·.2)) t = true)
    (hg : ∀ (s : Shared) (H : Hp) (C : Addr) (cl : List (Str × Addr)) (fp : List Addr), DG (X.blk s H scope (compEnvC scope cl C X.env) fp) tg t) (ht : ∀ (s : Shared) (H : Hp) (C : Addr) (cl : List (Str × Addr)) (fp : List Addr), DTs (X.blk s H scope (compEnvC scope cl C X.env) fp) W0 ifs cond)
    (he : ∀ (s : Shared) (H : Hp) (C : Addr) (cl : List (Str × Addr)) (fp : List Addr), DE (X.blk s H scope (compEnvC scope cl C X.env) fp) W0 elt fe) (hs : ∀ x, foldedSetIterable iter X.env x = pure x := by intro _; rfl) :
    DS X Wx (.Assign [.Name y py] (.ListComp elt [⟨tg, iter, ifs, 0⟩] scope pos) spos) (sAsg i (fLc t (own.map (·.2)) src cond fe)) := by
  have ev1 : EvoF cond := (ht X.s_0 X.H_0 0 [] []).evo
  have ev2 : EvoF fe := (he X.s_0 X.H_0 0 [] []).evo
  refine ⟨ps_imp (ps_setLc (g := gOf X.K t) (tt := rdT X.mg W0 cond) (te := rdE X.mg W0 fe) hc hN hy hyl hsw hi.pi ok (fun s H C cl fp => (hg s H C cl fp).pg) (fun s H C cl fp => (ht s H C cl fp).pts) (fun s H C cl fp => (he s H C cl fp).pe) hs) fun D σ H ⟨W, B, ρ, s, a⟩ => ?_, evo_bind (evo_lc hi.evo ev1 ev2) fun _ => evo_setSl⟩
  have q : rdE X.mg Wx (fLc t (own.map (·.2)) src cond fe) σ H fun x H1 => gName i x σ H1 D.nx := ⟨W, B, ρ, s, (a.bindE fun _ => evo_setSl).mono fun W1 H1 r ρ1 _ _ a1 v hv => asg_ok a1 hv⟩
  exact rdE_lc (K := X.K) hin ev1 ev2 q
end
end Dz
/-! Dz 8: defs and their calls. -/
namespace Dz
open PySem PySem.Spec PyProof.Rows L2

/-- what a def's call comes to; ps: the parameters as they stand behind it (of those lent, what they hold then) -/
inductive CRes where
  | ret (r : R) (ps : List Slot) | exc (e : Exc) (ps : List Slot)
abbrev Fn := List Slot → Option CRes
def outP : Slot → Slot → Slot
  | .lent _, .lent d => .lent d
  | p, _ => p
def outPs (ps : List Slot) (ρ' : Env) : List Slot := List.zipWith outP ps ρ'
/-- a def by its body's semantic function; n: all its names -/
def runF (n : Nat) (body : M Fl) : Fn := fun ps =>
  match body (ps ++ List.replicate (n - ps.length) .emp) with
  | some (.ok (.ret r) ρ') => some (.ret r (outPs ps ρ'))
  | some (.ok .next ρ') => some (.ret (.frz .non) (outPs ps ρ'))
  | some (.ok _ _) => none
  | some (.err e ρ') => some (.exc e (outPs ps ρ'))
  | none => none
def noOwn : Slot → Bool
  | .frz _ => true
  | .bor _ => true
  | .lent _ => true
  | _ => false
/-- the lent ones, and they alone, may hold something else -/
structure Lk (ps ps' : List Slot) : Prop where
  len : ps'.length = ps.length
  lent : ∀ (k : Nat) (d : D), ps[k]? = some (Slot.lent d) → ∃ d', ps'[k]? = some (Slot.lent d')
  same : ∀ (k : Nat) (s : Slot), ps'[k]? = some s → (∃ d d', ps[k]? = some (Slot.lent d) ∧ s = .lent d') ∨ (ps[k]? = some s ∧ ∀ d, s ≠ .lent d)
def spD (mg : Str → Option Value) (m : Fn) : Sp := fun vs H Q E => ∃ (W B : AP) (ps : List Slot), St W B (vs.map some) H ps ∧ (∀ s ∈ ps, noOwn s = true) ∧ match m ps with
  | none => False
  | some (.ret r ps') => ∀ W' H' v, Fr W H W' H' → Lk ps ps' → VOk W' B (vs.map some) H' ps' v r → Q v H'
  | some (.exc e ps') => ∀ W' H' c d, Fr W H W' H' → Lk ps ps' → St W' B (vs.map some) H' ps' → XRep mg (Eo W' B) H' e c d → E c d H'
theorem outPs_get {ps : List Slot} {ρ' : Env} {i : Nat} {s : Slot} (hl : ps.length ≤ ρ'.length) (h : (outPs ps ρ')[i]? = some s) (h1 : ∀ (j : Nat) (d : D), ps[j]? = some (Slot.lent d) → ∃ d', ρ'[j]? = some (Slot.lent d')) :
    (ps[i]? = some s ∧ ∀ d, s ≠ .lent d) ∨ ∃ d d', ps[i]? = some (Slot.lent d) ∧ s = .lent d' ∧ ρ'[i]? = some (Slot.lent d') := by
  unfold outPs at h
  rw [List.getElem?_zipWith] at h
  cases e1 : ps[i]? with
  | none => rw [e1] at h; cases h
  | some p =>
    cases e2 : ρ'[i]? with
    | none =>
      have := (List.getElem?_eq_some_iff.mp e1).1
      have := List.getElem?_eq_none_iff.mp e2
      omega
    | some q =>
      rw [e1, e2] at h
      have h : outP p q = s := Option.some.inj h
      cases p with
      | lent d =>
        obtain ⟨d', e3⟩ := h1 i d e1
        rw [e2] at e3
        cases e3
        exact .inr ⟨d, d', rfl, h.symm, rfl⟩
      | emp => subst h; exact .inl ⟨rfl, fun d z => nomatch z⟩
      | frz d => subst h; exact .inl ⟨rfl, fun d z => nomatch z⟩
      | own d => subst h; exact .inl ⟨rfl, fun d z => nomatch z⟩
      | bor d => subst h; exact .inl ⟨rfl, fun d z => nomatch z⟩
theorem outPs_len {ps : List Slot} {ρ' : Env} (hl : ps.length ≤ ρ'.length) : (outPs ps ρ').length = ps.length := by
  unfold outPs
  rw [List.length_zipWith]
  omega
theorem outPs_lk {ps : List Slot} {ρ' : Env} (hl : ps.length ≤ ρ'.length) (h1 : ∀ (j : Nat) (d : D), ps[j]? = some (Slot.lent d) → ∃ d', ρ'[j]? = some (Slot.lent d')) : Lk ps (outPs ps ρ') := by
  refine ⟨outPs_len hl, fun k d e => ?_, fun k s e => ?_⟩
  · obtain ⟨d', e'⟩ := h1 k d e
    refine ⟨d', ?_⟩
    unfold outPs
    rw [List.getElem?_zipWith, e, e']
    rfl
  · rcases outPs_get hl e h1 with z | ⟨d, d', z, q, _⟩
    · exact .inr z
    · exact .inl ⟨d, d', z, q⟩
theorem sv_map {vs : List V} {i : Nat} {v : V} (h : vs[i]? = some v) : sv (vs.map some) i = some v := sv_of (by rw [List.getElem?_map, h]; rfl)
theorem sv_start {N : List Str} {vs : List V} {i : Nat} (h : i < vs.length) : sv (L2.start N vs) i = sv (vs.map some) i := by
  unfold sv L2.start
  rw [List.getD_eq_getElem?_getD, List.getD_eq_getElem?_getD, List.getElem?_append_left (by simpa using h)]
theorem sv_lt {σ : L2.St} {i : Nat} {v : V} (h : sv σ i = some v) : i < σ.length := (List.getElem?_eq_some_iff.mp (sv_some h)).1
/-- the state at a def's entry -/
theorem St.entry {W B : AP} {H : Hp} {ps : List Slot} {vs : List V} {N : List Str} (s : St W B (vs.map some) H ps) (hl : ps.length ≤ N.length) : St W B (L2.start N vs) H (ps ++ List.replicate (N.length - ps.length) .emp) := by
  have hv : vs.length = ps.length := by have := s.len; simpa using this
  have key : ∀ (i : Nat) (t : Slot), (ps ++ List.replicate (N.length - ps.length) Slot.emp)[i]? = some t → t = .emp ∨ (i < ps.length ∧ ps[i]? = some t) := fun i t e => by
    by_cases hi : i < ps.length
    · rw [List.getElem?_append_left hi] at e; exact .inr ⟨hi, e⟩
    · rw [List.getElem?_append_right (by omega), List.getElem?_replicate] at e
      split at e
      · cases e; exact .inl rfl
      · cases e
  refine ⟨?_, fun i t e => ?_, s.dom, s.dis, fun i j t t' a hij p q w1 w2 x1 x2 => ?_⟩
  · unfold L2.start
    simp [hv]
  · rcases key i t e with z | ⟨hi, e'⟩
    · subst z; trivial
    · rw [sv_start (by omega)]; exact s.slot i t e'
  · rcases key i t p with z | ⟨hi, p'⟩
    · subst z; cases w1
    · rcases key j t' q with z | ⟨hj, q'⟩
      · subst z; cases w2
      · rw [sv_start (by omega)] at x1 x2
        exact s.apart i j t t' a hij p' q' w1 w2 x1 x2
/-- .. and at its end, of the parameters alone -/
theorem St.exit {W B W' : AP} {H H' : Hp} {ps : List Slot} {vs : List V} {N : List Str} {σ' : L2.St} {ρ' : Env} (s : St W B (vs.map some) H ps) (hl : ps.length ≤ N.length) (no : ∀ t ∈ ps, noOwn t = true) (f : Fr W H W' H') (ev : Evo (ps ++ List.replicate (N.length - ps.length) .emp) ρ') (k : Kp (L2.start N vs) σ' ρ') (s' : St W' B σ' H' ρ') :
    St W' B (vs.map some) H' (outPs ps ρ') ∧ Lk ps (outPs ps ρ') ∧ ∀ (i : Nat) (t : Slot), (outPs ps ρ')[i]? = some t → t.wr = true → ∃ d, t = .lent d ∧ ρ'[i]? = some t ∧ sv σ' i = sv (vs.map some) i := by
  have hv : vs.length = ps.length := by have := s.len; simpa using this
  have hlen : ps.length ≤ ρ'.length := by rw [ev.len]; simp
  have L1 : ∀ (j : Nat) (d : D), ps[j]? = some (Slot.lent d) → ∃ d', ρ'[j]? = some (Slot.lent d') := fun j d e => ev.lent j d (by rw [List.getElem?_append_left (List.getElem?_eq_some_iff.mp e).1]; exact e)
  have key := fun (i : Nat) (t : Slot) (h : (outPs ps ρ')[i]? = some t) => outPs_get hlen h L1
  have wrs : ∀ (i : Nat) (t : Slot), (outPs ps ρ')[i]? = some t → t.wr = true → ∃ d, t = .lent d ∧ ρ'[i]? = some t ∧ sv σ' i = sv (vs.map some) i := fun i t e w => by
    rcases key i t e with ⟨e1, n⟩ | ⟨d, d', e1, rfl, e2⟩
    · have := no t (List.mem_of_getElem? e1)
      cases t with
      | emp => cases w
      | frz d => cases w
      | bor d => cases w
      | own d => cases this
      | lent d => exact absurd rfl (n d)
    · refine ⟨d', rfl, e2, ?_⟩
      rw [k i d' (.inr e2)]
      exact sv_start (by rw [hv]; exact (List.getElem?_eq_some_iff.mp e1).1)
  refine ⟨⟨by rw [outPs_len hlen, s.len], fun i t e => ?_, s'.dom, s'.dis, fun i j t t' a hij p q w1 w2 x1 x2 => ?_⟩, outPs_lk hlen L1, wrs⟩
  · rcases key i t e with ⟨e1, n⟩ | ⟨d, d', e1, rfl, e2⟩
    · have q := s.slot i t e1
      cases t with
      | emp => trivial
      | frz d => obtain ⟨x, e1, r⟩ := q; exact ⟨x, e1, r.fr f⟩
      | bor d => obtain ⟨x, e1, w, r⟩ := q; exact ⟨x, e1, w, r.fr f fun z => s.dis x z w⟩
      | own d => exact absurd (no _ (List.mem_of_getElem? e1)) (by simp [noOwn])
      | lent d => exact absurd rfl (n d)
    · obtain ⟨x, e3, w, r⟩ := s'.slot i _ e2
      refine ⟨x, ?_, w, r⟩
      rw [← e3, k i d' (.inr e2)]
      exact (sv_start (by rw [hv]; exact (List.getElem?_eq_some_iff.mp e1).1)).symm
  · obtain ⟨_, _, p', y1⟩ := wrs i t p w1
    obtain ⟨_, _, q', y2⟩ := wrs j t' q w2
    exact s'.apart i j t t' a hij p' q' w1 w2 (by rw [y1]; exact x1) (by rw [y2]; exact x2)
/-- A DEF BY ITS BODY -/
theorem body_ok {X : Cx} {N : List Str} {E : XK} {body : List Stmt} {fb : M Fl} {vs : List V} {H : Hp} {Q : VK} {n : Nat} (hn : N.length = n) (hb : DSs X (fun c d _ H' => E c d H') body fb) (h : spD X.mg (runF n fb) vs H Q E) (hl : vs.length ≤ N.length) :
    rdS X.mg (fun c d _ H' => E c d H') fb { nx := fun _ H' => Q .non H', rt := Q } (L2.start N vs) H := by
  subst hn
  obtain ⟨W, B, ps, s, no, m⟩ := h
  have hv : vs.length = ps.length := by have := s.len; simpa using this
  have hl : ps.length ≤ N.length := by omega
  refine ⟨W, B, _, s.entry hl, ?_⟩
  unfold runF at m
  cases q : fb (ps ++ List.replicate (N.length - ps.length) .emp) with
  | none => rw [q] at m; exact m
  | some x =>
    have ev := hb.evo _ _ q
    rw [q] at m
    cases x with
    | err e ρ' =>
      refine fun W' σ' H' c d f k s' xr => ?_
      obtain ⟨s1, lk, _⟩ := s.exit hl no f ev k s'
      exact m W' H' c d f lk s1 xr
    | ok fl ρ' =>
      cases fl with
      | brk => exact m.elim
      | cont => exact m.elim
      | next =>
        refine fun W' σ' H' f k s' => ?_
        obtain ⟨s1, lk, _⟩ := s.exit hl no f ev k s'
        exact m W' H' .non f lk ⟨s1, rfl⟩
      | ret r =>
        refine fun W' σ' H' f k v hv => ?_
        obtain ⟨s1, lk, wrs⟩ := s.exit hl no f ev k hv.st
        refine m W' H' v f lk ?_
        cases r with
        | frz d => exact ⟨s1, hv.2⟩
        | own d =>
          obtain ⟨a, e, wa, s', t, hn⟩ := hv
          refine ⟨a, e, wa, s1, t, fun i u e1 w e2 => ?_⟩
          obtain ⟨_, _, e3, e4⟩ := wrs i u e1 w
          exact hn i u e3 w (by rw [e4]; exact e2)

/-! ### arguments -/
inductive CA where
  | val (f : M R) | bor (i : Nat) | lent (i : Nat)
def CA.Evo : CA → Prop
  | .val f => EvoF f
  | _ => True
def borSl : Slot → Option Slot
  | .emp => none
  | .frz d => some (.frz d)
  | .own d => some (.bor d)
  | .bor d => some (.bor d)
  | .lent d => some (.bor d)
def lentSl : Slot → Option Slot
  | .own d => some (.lent d)
  | .lent d => some (.lent d)
  | _ => none
def slAt (g : Slot → Option Slot) (i : Nat) (ρ : Env) : Option Slot :=
  match ρ[i]? with
  | some s => g s
  | none => none
def getC (g : Slot → Option Slot) (i : Nat) (ps : List Slot) : M (List Slot) := fun ρ =>
  match slAt g i ρ with
  | some s => some (.ok (s :: ps) ρ)
  | none => none
theorem evo_getC {g : Slot → Option Slot} {i : Nat} {ps : List Slot} : EvoF (getC g i ps) := fun ρ o e => by
  unfold getC at e
  split at e
  · cases e; exact .refl _
  · cases e
def evC : List CA → M (List Slot)
  | [] => mret []
  | .val f :: cs => mbind f fun r => mbind (evC cs) fun ps => mret (.frz r.d :: ps)
  | .bor i :: cs => mbind (needSl i) fun _ => mbind (evC cs) fun ps => getC borSl i ps
  | .lent i :: cs => mbind (needSl i) fun _ => mbind (evC cs) fun ps => getC lentSl i ps
theorem evo_evC : ∀ {cs : List CA}, (∀ c ∈ cs, c.Evo) → EvoF (evC cs)
  | [], _ => evo_ret _
  | .val f :: cs, h => evo_bind (h _ List.mem_cons_self) fun _ => evo_bind (evo_evC fun o z => h o (List.mem_cons_of_mem _ z)) fun _ => evo_ret _
  | .bor i :: cs, h => evo_bind evo_needSl fun _ => evo_bind (evo_evC fun o z => h o (List.mem_cons_of_mem _ z)) fun _ => evo_getC
  | .lent i :: cs, h => evo_bind evo_needSl fun _ => evo_bind (evo_evC fun o z => h o (List.mem_cons_of_mem _ z)) fun _ => evo_getC
/-- the arguments' values -/
def ArgsAt (W B : AP) (σ : L2.St) (H : Hp) (ρ : Env) : List CA → List Slot → List V → Prop
  | [], ps, vs => ps = [] ∧ vs = []
  | .val _ :: cs, ps, vs => ∃ d v ps' vs', ps = .frz d :: ps' ∧ vs = v :: vs' ∧ Rep (Eo W B) H d v ∧ ArgsAt W B σ H ρ cs ps' vs'
  | .bor i :: cs, ps, vs => ∃ s v ps' vs', ps = s :: ps' ∧ vs = v :: vs' ∧ sv σ i = some v ∧ slAt borSl i ρ = some s ∧ ArgsAt W B σ H ρ cs ps' vs'
  | .lent i :: cs, ps, vs => ∃ s v ps' vs', ps = s :: ps' ∧ vs = v :: vs' ∧ sv σ i = some v ∧ slAt lentSl i ρ = some s ∧ ArgsAt W B σ H ρ cs ps' vs'
def rdC (mg : Str → Option Value) (Wx : WX) (cs : List CA) : TA := fun σ H Q => ∃ W B ρ, St W B σ H ρ ∧ After mg Wx W B σ H (evC cs ρ) fun W' H' ps ρ' => ∀ vs, St W' B σ H' ρ' → ArgsAt W' B σ H' ρ' cs ps vs → Q vs H'
def rdCA (mg : Str → Option Value) (Wx : WX) : CA → TE
  | .val f => rdE mg Wx f
  | .bor i => tVar i
  | .lent i => tVar i
section
variable {X : Cx} {Wx : WX} {e : Expr} {es : List Expr} {pos p : Pos}
def DA (X : Cx) (Wx : WX) (e : Expr) : CA → Prop
  | .val f => DE X Wx e f
  | .bor i => PE X e (tVar i)
  | .lent i => PE X e (tVar i)
theorem DA.pe {c : CA} (h : DA X Wx e c) : PE X e (rdCA X.mg Wx c) := by
  cases c with
  | val f => exact DE.pe h
  | bor i => exact h
  | lent i => exact h
theorem DA.evo {c : CA} (h : DA X Wx e c) : c.Evo := by
  cases c with
  | val f => exact DE.evo h
  | bor i => trivial
  | lent i => trivial
theorem rdC_cons {mg : Str → Option Value} {c : CA} {cs : List CA} (hc : c.Evo) {σ : L2.St} {H : Hp} {Q : List V → Hp → Prop} (h : rdC mg Wx (c :: cs) σ H Q) :
    rdCA mg Wx c σ H fun x H1 => rdC mg Wx cs σ H1 fun xs H2 => Q (x :: xs) H2 := by
  obtain ⟨W, B, ρ, s, a⟩ := h
  have sl : ∀ (g : Slot → Option Slot) (i : Nat), (∀ W' H' ps ρ' vs s v, slAt g i ρ' = some s → sv σ i = some v → ArgsAt W' B σ H' ρ' cs ps vs → ArgsAt W' B σ H' ρ' (c :: cs) (s :: ps) (v :: vs)) →
      After mg Wx W B σ H (mbind (needSl i) (fun _ => mbind (evC cs) fun ps => getC g i ps) ρ) (fun W' H' ps ρ' => ∀ vs, St W' B σ H' ρ' → ArgsAt W' B σ H' ρ' (c :: cs) ps vs → Q vs H') → tVar i σ H fun x H1 => rdC mg Wx cs σ H1 fun xs H2 => Q (x :: xs) H2 := fun g i hA a => by
    have a := After.bind a
    unfold needSl at a
    split at a
    · rename_i d e
      obtain ⟨v, e1, _⟩ := s.at e
      refine ⟨v, sv_some e1, W, B, ρ, s, After.mono (After.bind a.here) fun W2 H2 ds ρ2 e2 fr2 a2 vs s2 r2 => ?_⟩
      unfold getC at a2
      split at a2
      · rename_i t e3
        exact a2.here (v :: vs) s2 (hA _ _ _ _ _ _ _ e3 e1 r2)
      · exact a2.elim
    · exact a.elim
  cases c with
  | val f =>
    refine ⟨W, B, ρ, s, After.mono (After.bind a) fun W1 H1 r ρ1 e1 fr1 a1 v hv => ?_⟩
    obtain ⟨W0', hW, s1, r1⟩ := hv.any
    refine ⟨W0', B, ρ1, s1, After.mono (After.bind (a1.sub hW)) fun W2 H2 ps ρ2 e2 fr2 a2 vs s2 r2 => ?_⟩
    exact a2.here (v :: vs) s2 ⟨r.d, v, ps, vs, rfl, rfl, r1.fr fr2, r2⟩
  | bor i => exact sl borSl i (fun _ _ _ _ _ s v e1 e2 r => ⟨s, v, _, _, rfl, rfl, e2, e1, r⟩) a
  | lent i => exact sl lentSl i (fun _ _ _ _ _ s v e1 e2 r => ⟨s, v, _, _, rfl, rfl, e2, e1, r⟩) a
structure DCs (X : Cx) (Wx : WX) (es : List Expr) (cs : List CA) : Prop where
  pa : PA X es (rdC X.mg Wx cs)
  evo : ∀ c ∈ cs, c.Evo
theorem dcs_nil : DCs X Wx [] [] := ⟨pa_imp pa_nil fun _ _ _ ⟨W, B, ρ, s, a⟩ => a.here [] s ⟨rfl, rfl⟩, fun _ z => (List.not_mem_nil z).elim⟩
theorem dcs_cons {c : CA} {cs : List CA} (h1 : DA X Wx e c) (h2 : DCs X Wx es cs) (hs : starEach (e :: es) X.env = (false, eval e X.env) :: starEach es X.env := by rfl) : DCs X Wx (e :: es) (c :: cs) :=
  ⟨pa_imp (pa_cons h1.pe h2.pa hs) fun _ _ _ h => rdC_cons h1.evo h, fun z hz => by
    rcases List.mem_cons.mp hz with e | k
    · rw [e]; exact h1.evo
    · exact h2.evo z k⟩
end
end Dz
/-! Dz 9: the call. -/
namespace Dz
open PySem PySem.Spec PyProof.Rows L2

def clash : CA → CA → Bool
  | .lent i, .lent j => i == j
  | .lent i, .bor j => i == j
  | .bor i, .lent j => i == j
  | _, _ => false
def okCA (cs : List CA) : Bool := (List.range cs.length).all fun k => (List.range cs.length).all fun l => k == l || !(match cs[k]?, cs[l]? with
  | some c, some d => clash c d
  | _, _ => false)
theorem okCA_ne {cs : List CA} (h : okCA cs = true) {k l : Nat} {c d : CA} (hk : cs[k]? = some c) (hl : cs[l]? = some d) (hne : k ≠ l) : clash c d = false := by
  have h1 := List.all_eq_true.mp h k (List.mem_range.mpr (List.getElem?_eq_some_iff.mp hk).1)
  have h2 := List.all_eq_true.mp h1 l (List.mem_range.mpr (List.getElem?_eq_some_iff.mp hl).1)
  rw [hk, hl] at h2
  have e : (k == l) = false := by simpa using hne
  rw [e, Bool.false_or] at h2
  simpa using h2
def relent (ρ : Env) (i : Nat) (d : D) : Slot := match ρ[i]? with
  | some (.own _) => .own d
  | some (.lent _) => .lent d
  | _ => .emp
def putC : List CA → List Slot → Env → Env
  | .lent i :: cs, .lent d :: ps, ρ => putC cs ps (ρ.set i (relent ρ i d))
  | _ :: cs, _ :: ps, ρ => putC cs ps ρ
  | _, _, ρ => ρ
def callM (m : Fn) (cs : List CA) (ps : List Slot) : M R := fun ρ =>
  match m ps with
  | none => none
  | some (.ret r ps') => some (.ok r (putC cs ps' ρ))
  | some (.exc e ps') => some (.err e (putC cs ps' ρ))
def fCall (m : Fn) (cs : List CA) : M R := mbind (evC cs) fun ps => callM m cs ps
def LOk (cs : List CA) (ρ : Env) : Prop := ∀ (k j : Nat), cs[k]? = some (CA.lent j) → (∃ d, ρ[j]? = some (Slot.own d)) ∨ ∃ d, ρ[j]? = some (Slot.lent d)
theorem LOk.tail {c : CA} {cs : List CA} {ρ : Env} (h : LOk (c :: cs) ρ) : LOk cs ρ := fun k j e => h (k + 1) j (by simpa using e)
theorem putC_get : ∀ (cs : List CA) (ps : List Slot) (ρ : Env) (i : Nat) (s : Slot), LOk cs ρ → (putC cs ps ρ)[i]? = some s →
    (ρ[i]? = some s ∧ ∀ (k : Nat) (d : D), cs[k]? = some (CA.lent i) → ps[k]? ≠ some (Slot.lent d)) ∨ ∃ (k : Nat) (d : D), cs[k]? = some (CA.lent i) ∧ ps[k]? = some (Slot.lent d) ∧ ((s = .own d ∧ ∃ d0, ρ[i]? = some (Slot.own d0)) ∨ (s = .lent d ∧ ∃ d0, ρ[i]? = some (Slot.lent d0)))
  | [], ps, ρ, i, s, hL, h => by
    have h : ρ[i]? = some s := by cases ps <;> exact h
    exact .inl ⟨h, fun k d e => by simp at e⟩
  | c :: cs, [], ρ, i, s, hL, h => by
    have h : ρ[i]? = some s := by cases c <;> exact h
    exact .inl ⟨h, fun k d _ e => by simp at e⟩
  | c :: cs, p :: ps, ρ, i, s, hL, h => by
    by_cases hcp : ∃ j d, c = .lent j ∧ p = .lent d
    · obtain ⟨j, d, rfl, rfl⟩ := hcp
      have h : (putC cs ps (ρ.set j (relent ρ j d)))[i]? = some s := h
      have hj := hL 0 j (by simp)
      have hjl : j < ρ.length := by rcases hj with ⟨_, hj⟩ | ⟨_, hj⟩ <;> exact (List.getElem?_eq_some_iff.mp hj).1
      have at_j : (ρ.set j (relent ρ j d))[j]? = some (relent ρ j d) := List.getElem?_set_self hjl
      have rel : ((∃ d0, ρ[j]? = some (Slot.own d0)) ∧ relent ρ j d = .own d) ∨ ((∃ d0, ρ[j]? = some (Slot.lent d0)) ∧ relent ρ j d = .lent d) := by
        unfold relent
        rcases hj with ⟨d0, hj⟩ | ⟨d0, hj⟩ <;> rw [hj]
        · exact .inl ⟨⟨d0, rfl⟩, rfl⟩
        · exact .inr ⟨⟨d0, rfl⟩, rfl⟩
      have hL' : LOk cs (ρ.set j (relent ρ j d)) := fun k l e => by
        by_cases hl : j = l
        · subst hl
          rw [at_j]
          rcases rel with ⟨_, e⟩ | ⟨_, e⟩ <;> rw [e]
          · exact .inl ⟨d, rfl⟩
          · exact .inr ⟨d, rfl⟩
        · rw [List.getElem?_set_ne hl]
          exact hL.tail k l e
      rcases putC_get cs ps _ i s hL' h with ⟨e1, n⟩ | ⟨k, x, e1, e2, q⟩
      · by_cases hi : j = i
        · subst hi
          rw [at_j] at e1
          refine .inr ⟨0, d, by simp, by simp, ?_⟩
          rcases rel with ⟨e0, e⟩ | ⟨e0, e⟩ <;> rw [e] at e1 <;> cases e1
          · exact .inl ⟨rfl, e0⟩
          · exact .inr ⟨rfl, e0⟩
        · rw [List.getElem?_set_ne hi] at e1
          refine .inl ⟨e1, fun k d' e => ?_⟩
          cases k with
          | zero => simp at e; exact absurd e hi
          | succ k => simpa using n k d' (by simpa using e)
      · refine .inr ⟨k + 1, x, by simpa using e1, by simpa using e2, ?_⟩
        by_cases hi : j = i
        · subst hi
          rw [at_j] at q
          rcases rel with ⟨e0, e⟩ | ⟨e0, e⟩ <;> rw [e] at q
          · rcases q with ⟨q, _⟩ | ⟨_, _, q⟩
            · exact .inl ⟨q, e0⟩
            · cases q
          · rcases q with ⟨_, _, q⟩ | ⟨q, _⟩
            · cases q
            · exact .inr ⟨q, e0⟩
        · rw [List.getElem?_set_ne hi] at q
          exact q
    · have h : (putC cs ps ρ)[i]? = some s := by
        cases c with
        | lent j =>
          cases p with
          | lent d => exact absurd ⟨j, d, rfl, rfl⟩ hcp
          | _ => exact h
        | _ => exact h
      rcases putC_get cs ps ρ i s hL.tail h with ⟨e1, n⟩ | ⟨k, x, e1, e2, q⟩
      · refine .inl ⟨e1, fun k d e1 e2 => ?_⟩
        cases k with
        | zero => simp at e1 e2; exact hcp ⟨i, d, e1, e2⟩
        | succ k => exact n k d (by simpa using e1) (by simpa using e2)
      · exact .inr ⟨k + 1, x, by simpa using e1, by simpa using e2, q⟩
theorem putC_len : ∀ (cs : List CA) (ps : List Slot) (ρ : Env), (putC cs ps ρ).length = ρ.length
  | [], ps, ρ => by cases ps <;> rfl
  | c :: cs, [], ρ => by cases c <;> rfl
  | c :: cs, p :: ps, ρ => by
    cases c with
    | lent j =>
      cases p with
      | lent d =>
        show (putC cs ps _).length = _
        rw [putC_len cs ps, List.length_set]
      | _ => exact putC_len cs ps ρ
    | _ => exact putC_len cs ps ρ
/-- the arguments by their places -/
theorem args_get {W B : AP} {σ : L2.St} {H : Hp} {ρ : Env} : ∀ {cs : List CA} {ps : List Slot} {vs : List V}, ArgsAt W B σ H ρ cs ps vs → ps.length = cs.length ∧ vs.length = cs.length ∧ ∀ (k : Nat) (s : Slot), ps[k]? = some s → ∃ c v, cs[k]? = some c ∧ vs[k]? = some v ∧
      match c with
      | .val _ => ∃ d, s = .frz d ∧ Rep (Eo W B) H d v
      | .bor i => sv σ i = some v ∧ slAt borSl i ρ = some s
      | .lent i => sv σ i = some v ∧ slAt lentSl i ρ = some s
  | [], ps, vs, ⟨e1, e2⟩ => by subst e1 e2; exact ⟨rfl, rfl, fun k s e => by simp at e⟩
  | .val f :: cs, ps, vs, ⟨d, v, ps', vs', e1, e2, r, A⟩ => by
    subst e1 e2
    obtain ⟨l1, l2, g⟩ := args_get A
    refine ⟨by simp [l1], by simp [l2], fun k s e => ?_⟩
    cases k with
    | zero => simp at e; exact ⟨.val f, v, by simp, by simp, d, e.symm, r⟩
    | succ k => obtain ⟨c, u, h1, h2, h3⟩ := g k s (by simpa using e); exact ⟨c, u, by simpa using h1, by simpa using h2, h3⟩
  | .bor i :: cs, ps, vs, ⟨t, v, ps', vs', e1, e2, r1, r2, A⟩ => by
    subst e1 e2
    obtain ⟨l1, l2, g⟩ := args_get A
    refine ⟨by simp [l1], by simp [l2], fun k s e => ?_⟩
    cases k with
    | zero => simp at e; subst e; exact ⟨.bor i, v, by simp, by simp, r1, r2⟩
    | succ k => obtain ⟨c, u, h1, h2, h3⟩ := g k s (by simpa using e); exact ⟨c, u, by simpa using h1, by simpa using h2, h3⟩
  | .lent i :: cs, ps, vs, ⟨t, v, ps', vs', e1, e2, r1, r2, A⟩ => by
    subst e1 e2
    obtain ⟨l1, l2, g⟩ := args_get A
    refine ⟨by simp [l1], by simp [l2], fun k s e => ?_⟩
    cases k with
    | zero => simp at e; subst e; exact ⟨.lent i, v, by simp, by simp, r1, r2⟩
    | succ k => obtain ⟨c, u, h1, h2, h3⟩ := g k s (by simpa using e); exact ⟨c, u, by simpa using h1, by simpa using h2, h3⟩
theorem lent_at {σ : L2.St} {ρ : Env} {i : Nat} {s : Slot} (h : slAt lentSl i ρ = some s) : ∃ d, s = .lent d ∧ (ρ[i]? = some (Slot.own d) ∨ ρ[i]? = some (Slot.lent d)) := by
  unfold slAt at h
  split at h
  · rename_i t e
    unfold lentSl at h
    split at h
    · cases h; exact ⟨_, rfl, .inl e⟩
    · cases h; exact ⟨_, rfl, .inr e⟩
    · cases h
  · cases h
section
variable {W B : AP} {σ : L2.St} {H : Hp} {ρ : Env} {cs : List CA} {ps : List Slot} {vs : List V}
/-- what the callee may write; what it may not -/
def Wc (σ : L2.St) (cs : List CA) : AP := fun a => ∃ k i : Nat, cs[k]? = some (CA.lent i) ∧ sv σ i = some (.ref a)
def Bc (W B : AP) (σ : L2.St) (cs : List CA) : AP := fun a => Eo W B a ∧ ¬ Wc σ cs a
theorem args_lok (A : ArgsAt W B σ H ρ cs ps vs) : LOk cs ρ := fun k j e => by
  obtain ⟨l1, l2, g⟩ := args_get A
  have hk : k < ps.length := by rw [l1]; exact (List.getElem?_eq_some_iff.mp e).1
  obtain ⟨c, v, e1, e2, q⟩ := g k _ (List.getElem?_eq_getElem hk)
  rw [e] at e1
  cases e1
  obtain ⟨d, _, z⟩ := lent_at (σ := σ) q.2
  rcases z with z | z
  · exact .inl ⟨d, z⟩
  · exact .inr ⟨d, z⟩
theorem wc_w (s : St W B σ H ρ) (A : ArgsAt W B σ H ρ cs ps vs) {a : Addr} (h : Wc σ cs a) : W a := by
  obtain ⟨k, i, e, ev⟩ := h
  rcases args_lok A k i e with ⟨d, z⟩ | ⟨d, z⟩
  · obtain ⟨x, e1, w, _⟩ := s.slot i _ z
    rw [ev] at e1
    cases e1
    exact w
  · obtain ⟨x, e1, w, _⟩ := s.slot i _ z
    rw [ev] at e1
    cases e1
    exact w
/-- the callee's entry -/
theorem St.into (s : St W B σ H ρ) (A : ArgsAt W B σ H ρ cs ps vs) (ok : okCA cs = true) : St (Wc σ cs) (Bc W B σ cs) (vs.map some) H ps ∧ ∀ t ∈ ps, noOwn t = true := by
  obtain ⟨l1, l2, g⟩ := args_get A
  have hE : ∀ a, Eo (Wc σ cs) (Bc W B σ cs) a → Eo W B a := fun a z => z.elim (fun k => .inl (wc_w s A k)) fun k => k.1
  have isL : ∀ (k : Nat) (t : Slot), ps[k]? = some t → t.wr = true → ∃ i v d, cs[k]? = some (CA.lent i) ∧ vs[k]? = some v ∧ sv σ i = some v ∧ t = .lent d ∧ (ρ[i]? = some (Slot.own d) ∨ ρ[i]? = some (Slot.lent d)) := fun k t e w => by
    obtain ⟨c, v, e1, e2, q⟩ := g k t e
    cases c with
    | val f => obtain ⟨d, e3, _⟩ := q; subst e3; cases w
    | bor i =>
      obtain ⟨q1, q2⟩ := q
      unfold slAt at q2
      split at q2
      · rename_i u _
        cases u <;> cases q2 <;> cases w
      · cases q2
    | lent i =>
      obtain ⟨d, e3, z⟩ := lent_at (σ := σ) q.2
      exact ⟨i, v, d, e1, e2, q.1, e3, z⟩
  refine ⟨⟨by simp [l1, l2], fun k t e => ?_, fun a z => s.dom a (hE a z), fun a w b => b.2 w, fun k l t t' a hkl p q w1 w2 x1 x2 => ?_⟩, fun t ht => ?_⟩
  · obtain ⟨c, v, e1, e2, q⟩ := g k t e
    rw [sv_map e2]
    cases c with
    | val f => obtain ⟨d, e3, r⟩ := q; subst e3; exact ⟨v, rfl, r.less hE⟩
    | bor i =>
      obtain ⟨q1, q2⟩ := q
      unfold slAt at q2
      split at q2
      · rename_i u eu
        have su := s.slot i u eu
        rw [q1] at su
        have nwc : ∀ a, v = .ref a → u.wr = true → ¬ Wc σ cs a := fun a ea wu ⟨k2, i2, e3, e4⟩ => by
          by_cases hi : i = i2
          · subst hi
            have hne : k ≠ k2 := fun z => by subst z; rw [e1] at e3; cases e3
            have := okCA_ne ok e1 e3 hne
            simp [clash] at this
          · have hu2 : ∃ u2, ρ[i2]? = some u2 ∧ u2.wr = true := by
              rcases args_lok A k2 i2 e3 with ⟨d, z⟩ | ⟨d, z⟩
              · exact ⟨_, z, rfl⟩
              · exact ⟨_, z, rfl⟩
            obtain ⟨u2, e5, w2⟩ := hu2
            exact s.apart i i2 u u2 a hi eu e5 wu w2 (by rw [q1, ea]) e4
        cases u with
        | emp => cases q2
        | frz d => cases q2; obtain ⟨x, ex, r⟩ := su; cases ex; exact ⟨v, rfl, r.less hE⟩
        | own d => cases q2; obtain ⟨x, ex, w, r⟩ := su; cases ex; exact ⟨x, rfl, ⟨.inl w, nwc x rfl rfl⟩, r.less hE⟩
        | lent d => cases q2; obtain ⟨x, ex, w, r⟩ := su; cases ex; exact ⟨x, rfl, ⟨.inl w, nwc x rfl rfl⟩, r.less hE⟩
        | bor d => cases q2; obtain ⟨x, ex, w, r⟩ := su; cases ex; exact ⟨x, rfl, ⟨.inr w, fun z => s.dis x (wc_w s A z) w⟩, r.less hE⟩
      · cases q2
    | lent i =>
      obtain ⟨d, e3, z⟩ := lent_at (σ := σ) q.2
      subst e3
      rcases z with z | z
      · obtain ⟨x, ex, w, r⟩ := s.slot i _ z
        have ex2 : some v = some (V.ref x) := by rw [← q.1]; exact ex
        cases ex2
        exact ⟨x, rfl, ⟨k, i, e1, ex⟩, r.less hE⟩
      · obtain ⟨x, ex, w, r⟩ := s.slot i _ z
        have ex2 : some v = some (V.ref x) := by rw [← q.1]; exact ex
        cases ex2
        exact ⟨x, rfl, ⟨k, i, e1, ex⟩, r.less hE⟩
  · obtain ⟨i, v, d, c1, v1, y1, _, z1⟩ := isL k t p w1
    obtain ⟨j, u, d', c2, v2, y2, _, z2⟩ := isL l t' q w2
    rw [sv_map v1] at x1
    rw [sv_map v2] at x2
    cases x1
    cases x2
    have hij : i ≠ j := fun z => by
      subst z
      have := okCA_ne ok c1 c2 hkl
      simp [clash] at this
    have wr1 : ∃ t1, ρ[i]? = some t1 ∧ t1.wr = true := by rcases z1 with z | z <;> exact ⟨_, z, rfl⟩
    have wr2 : ∃ t1, ρ[j]? = some t1 ∧ t1.wr = true := by rcases z2 with z | z <;> exact ⟨_, z, rfl⟩
    obtain ⟨t1, a1, b1⟩ := wr1
    obtain ⟨t2, a2, b2⟩ := wr2
    exact s.apart i j t1 t2 a hij a1 a2 b1 b2 y1 y2
  · obtain ⟨k, hk⟩ := List.getElem?_of_mem ht
    obtain ⟨c, v, e1, e2, q⟩ := g k t hk
    cases c with
    | val f => obtain ⟨d, e3, _⟩ := q; subst e3; rfl
    | bor i =>
      obtain ⟨q1, q2⟩ := q
      unfold slAt at q2
      split at q2
      · rename_i u _
        cases u <;> cases q2 <;> rfl
      · cases q2
    | lent i => obtain ⟨d, e3, _⟩ := lent_at (σ := σ) q.2; subst e3; rfl
/-- behind the call: the caller's names; Wn: our objects then (perhaps one more, new) -/
theorem St.outof (s : St W B σ H ρ) (A : ArgsAt W B σ H ρ cs ps vs) (ok : okCA cs = true) {W' : AP} {H' : Hp} {ps' : List Slot} (lk : Lk ps ps') (f : Fr (Wc σ cs) H W' H') (s' : St W' (Bc W B σ cs) (vs.map some) H' ps') {Wn : AP} (hWn : ∀ a, W a → Wn a) (hnW : ∀ a, Wn a → W a ∨ (W' a ∧ H a = none)) :
    St Wn B σ H' (putC cs ps' ρ) ∧ ∀ a, Eo W B a → Eo W' (Bc W B σ cs) a := by
  obtain ⟨l1, l2, g⟩ := args_get A
  -- each lent object is the callee's to the end
  have lent' : ∀ (k i : Nat), cs[k]? = some (CA.lent i) → ∃ d v a, ps'[k]? = some (Slot.lent d) ∧ vs[k]? = some v ∧ v = .ref a ∧ sv σ i = some (.ref a) ∧ W' a ∧ Top (Eo W' (Bc W B σ cs)) H' a d := fun k i e => by
    have hk : k < ps.length := by rw [l1]; exact (List.getElem?_eq_some_iff.mp e).1
    obtain ⟨c, v, e1, e2, q⟩ := g k _ (List.getElem?_eq_getElem hk)
    rw [e] at e1
    cases e1
    obtain ⟨d, e3, _⟩ := lent_at (σ := σ) q.2
    obtain ⟨d', e4⟩ := lk.lent k d (by rw [List.getElem?_eq_getElem hk, e3])
    obtain ⟨a, e5, w, t⟩ := s'.slot k _ e4
    rw [sv_map e2] at e5
    cases e5
    exact ⟨d', _, a, e4, e2, rfl, q.1, w, t⟩
  have sub : ∀ a, Eo W B a → Eo W' (Bc W B σ cs) a := fun a z => by
    by_cases hw : Wc σ cs a
    · obtain ⟨k, i, e, ev⟩ := hw
      obtain ⟨d, v, a', _, _, _, e2, w, _⟩ := lent' k i e
      rw [ev] at e2
      cases e2
      exact .inl w
    · exact .inr ⟨z, hw⟩
  have hN : ∀ a, Eo Wn B a → Eo W B a ∨ H a = none := fun a z => by
    rcases z with z | z
    · rcases hnW a z with k | k
      · exact .inl (.inl k)
      · exact .inr k.2
    · exact .inl (.inr z)
  have kO : ∀ a o, H a = some o → ¬ Eo W B a → H' a = some o := fun a o e n => f.keep a o e fun z => n (.inl (wc_w s A z))
  have hN' : ∀ a, Eo Wn B a → Eo W' (Bc W B σ cs) a := fun a z => by
    rcases z with z | z
    · rcases hnW a z with k | k
      · exact sub a (.inl k)
      · exact .inl k.1
    · exact sub a (.inr z)
  have key := fun (i : Nat) (t : Slot) (h : (putC cs ps' ρ)[i]? = some t) => putC_get cs ps' ρ i t (args_lok A) h
  -- what was not lent
  have notl : ∀ (i : Nat), (∀ (k : Nat) (d : D), cs[k]? = some (CA.lent i) → ps'[k]? ≠ some (Slot.lent d)) → ∀ k, cs[k]? ≠ some (CA.lent i) := fun i n k e => by
    obtain ⟨d, _, _, e4, _⟩ := lent' k i e
    exact n k d e e4
  refine ⟨⟨by rw [putC_len]; exact s.len, fun i t e => ?_, fun a z => ?_, fun a w b => ?_, fun i j t t' a hij p q w1 w2 x1 x2 => ?_⟩, sub⟩
  · rcases key i t e with ⟨e1, n⟩ | ⟨k, d, e1, e2, q⟩
    · have nl := notl i n
      have nwc : ∀ a, sv σ i = some (.ref a) → t.wr = true → ¬ Wc σ cs a := fun a ea wt ⟨k2, i2, e3, e4⟩ => by
        have hi : i ≠ i2 := fun z => by subst z; exact nl k2 e3
        have hu2 : ∃ u2, ρ[i2]? = some u2 ∧ u2.wr = true := by
          rcases args_lok A k2 i2 e3 with ⟨d, z⟩ | ⟨d, z⟩
          · exact ⟨_, z, rfl⟩
          · exact ⟨_, z, rfl⟩
        obtain ⟨u2, e5, w2⟩ := hu2
        exact s.apart i i2 t u2 a hi e1 e5 wt w2 ea e4
      have q := s.slot i t e1
      cases t with
      | emp => trivial
      | frz d => obtain ⟨x, ex, r⟩ := q; exact ⟨x, ex, Rep.mono hN kO _ _ r⟩
      | own d => obtain ⟨x, ex, w, r⟩ := q; exact ⟨x, ex, hWn x w, r.mono (M := Wc σ cs) hN f.keep (fun b z => .inl (wc_w s A z)) (nwc x ex rfl)⟩
      | lent d => obtain ⟨x, ex, w, r⟩ := q; exact ⟨x, ex, hWn x w, r.mono (M := Wc σ cs) hN f.keep (fun b z => .inl (wc_w s A z)) (nwc x ex rfl)⟩
      | bor d => obtain ⟨x, ex, w, r⟩ := q; exact ⟨x, ex, w, r.mono (M := Wc σ cs) hN f.keep (fun b z => .inl (wc_w s A z)) fun z => s.dis x (wc_w s A z) w⟩
    · obtain ⟨d2, v, a, e4, e5, e6, e7, w, tp⟩ := lent' k i e1
      rw [e2] at e4
      cases e4
      have wa : W a := wc_w s A ⟨k, i, e1, e7⟩
      rcases q with ⟨q, _⟩ | ⟨q, _⟩ <;> subst q
      · exact ⟨a, e7, hWn a wa, tp.less hN'⟩
      · exact ⟨a, e7, hWn a wa, tp.less hN'⟩
  · exact s'.dom a (hN' a z)
  · rcases hnW a w with k | k
    · exact s.dis a k b
    · exact s.dom a (.inr b) k.2
  · have old : ∀ (i : Nat) (t : Slot), (putC cs ps' ρ)[i]? = some t → t.wr = true → ∃ t0, ρ[i]? = some t0 ∧ t0.wr = true := fun i t e w => by
      rcases key i t e with ⟨e1, n⟩ | ⟨k, d, e1, e2, q⟩
      · exact ⟨t, e1, w⟩
      · rcases q with ⟨_, d0, z⟩ | ⟨_, d0, z⟩ <;> exact ⟨_, z, rfl⟩
    obtain ⟨t1, a1, b1⟩ := old i t p w1
    obtain ⟨t2, a2, b2⟩ := old j t' q w2
    exact s.apart i j t1 t2 a hij a1 a2 b1 b2 x1 x2
end
/-- a def that may be called by its name -/
structure Callee (P : Program) (w : World) (K : PySem.W.Frag) (mg : Str → Option Value) (base : Heap) (k : Nat) (x : Str) (m : Fn) : Prop where
  ex : ∃ (f : Addr) (fd : FuncData) (ps : List Str), FnOk P w K mg base (L2.CX P w) k f fd ps (spD mg m) ∧ mg x = some (.ref f) ∧ PySem.W.keepIn K (.ref f) = true ∧ Binds K fd ps []
section
variable {X : Cx} {Wx : WX} {e : Expr} {es : List Expr} {pos p : Pos} {cs : List CA} {m : Fn} {x : Str} {k j : Nat}
theorem evo_call (hc : ∀ c ∈ cs, c.Evo) (hl : ∀ (ps : List Slot) (ρ ρ' : Env), evC cs ρ = some (.ok ps ρ') → LOk cs ρ') : EvoF (fCall m cs) := fun ρ o h => by
  unfold fCall mbind at h
  cases q : evC cs ρ with
  | none => rw [q] at h; cases h
  | some y =>
    have ev := evo_evC hc _ _ q
    rw [q] at h
    cases y with
    | err e ρ1 => cases h; exact ev
    | ok ps ρ1 =>
      have lok := hl ps ρ ρ1 q
      have step : ∀ ps', Evo ρ1 (putC cs ps' ρ1) := fun ps' => by
        have key := fun (i : Nat) (t : Slot) (h : (putC cs ps' ρ1)[i]? = some t) => putC_get cs ps' ρ1 i t lok h
        refine ⟨putC_len _ _ _, fun i d e => ?_, fun i d e => ?_, fun i d e => ?_⟩
        · rcases key i _ e with ⟨e1, _⟩ | ⟨_, _, _, _, q⟩
          · exact e1
          · rcases q with ⟨q, _⟩ | ⟨q, _⟩ <;> cases q
        · have hi : i < (putC cs ps' ρ1).length := by rw [putC_len]; exact (List.getElem?_eq_some_iff.mp e).1
          rcases key i _ (List.getElem?_eq_getElem hi) with ⟨e1, _⟩ | ⟨_, d', _, _, q⟩
          · rw [e] at e1; exact ⟨d, by rw [List.getElem?_eq_getElem hi, ← Option.some.inj e1]⟩
          · rcases q with ⟨_, d0, q⟩ | ⟨q, _⟩
            · rw [e] at q; cases q
            · exact ⟨d', by rw [List.getElem?_eq_getElem hi, q]⟩
        · rcases key i _ e with ⟨e1, _⟩ | ⟨_, _, _, _, q⟩
          · exact ⟨d, e1⟩
          · rcases q with ⟨q, _⟩ | ⟨_, d0, q⟩
            · cases q
            · exact ⟨d0, q⟩
      have h : callM m cs ps ρ1 = some o := h
      unfold callM at h
      split at h
      · cases h
      · cases h; exact ev.trans (step _)
      · cases h; exact ev.trans (step _)
theorem evC_lok : ∀ {cs : List CA}, (∀ c ∈ cs, c.Evo) → ∀ {ps : List Slot} {ρ ρ' : Env}, evC cs ρ = some (.ok ps ρ') → LOk cs ρ'
  | [], _, ps, ρ, ρ', _ => fun k j e => by simp at e
  | .val f :: cs, hc, ps, ρ, ρ', h => by
    obtain ⟨r, ρ1, q1, h⟩ := mbind_ok (show mbind f _ ρ = _ from h)
    obtain ⟨ps1, ρ2, q2, h⟩ := mbind_ok h
    cases h
    have := evC_lok (fun c z => hc c (List.mem_cons_of_mem _ z)) q2
    intro k j e
    cases k with
    | zero => simp at e
    | succ k => exact this k j (by simpa using e)
  | .bor i :: cs, hc, ps, ρ, ρ', h => by
    obtain ⟨r, ρ1, q1, h⟩ := mbind_ok (show mbind (needSl i) _ ρ = _ from h)
    obtain ⟨ps1, ρ2, q2, h⟩ := mbind_ok h
    have e2 : ρ' = ρ2 := by
      unfold getC at h
      split at h <;> cases h
      rfl
    subst e2
    have := evC_lok (fun c z => hc c (List.mem_cons_of_mem _ z)) q2
    intro k j e
    cases k with
    | zero => simp at e
    | succ k => exact this k j (by simpa using e)
  | .lent i :: cs, hc, ps, ρ, ρ', h => by
    obtain ⟨r, ρ1, q1, h⟩ := mbind_ok (show mbind (needSl i) _ ρ = _ from h)
    obtain ⟨ps1, ρ2, q2, h⟩ := mbind_ok h
    unfold getC at h
    split at h
    · rename_i s es
      cases h
      have := evC_lok (fun c z => hc c (List.mem_cons_of_mem _ z)) q2
      intro k j e
      cases k with
      | zero =>
        simp at e
        subst e
        obtain ⟨d, _, z⟩ := lent_at (σ := []) es
        rcases z with z | z
        · exact .inl ⟨d, z⟩
        · exact .inr ⟨d, z⟩
      | succ k => exact this k j (by simpa using e)
    · cases h
theorem rd_call {mg : Str → Option Value} {σ : L2.St} {H : Hp} {Q : VK} (ok : okCA cs = true) (h : rdE mg Wx (fCall m cs) σ H Q) : rdC mg Wx cs σ H fun vs H1 => spD mg m (vs ++ []) H1 Q (fun c d H => Wx c d σ H) := by
  obtain ⟨W, B, ρ, s, a⟩ := h
  refine ⟨W, B, ρ, s, (After.bind a).mono fun W1 H1 ps1 ρ1 _ _ a1 vs s1 A => ?_⟩
  show spD mg m (vs ++ []) H1 Q (fun c d H => Wx c d σ H)
  rw [List.append_nil]
  obtain ⟨sI, no⟩ := s1.into A ok
  refine ⟨_, _, ps1, sI, no, ?_⟩
  have a1 : After mg Wx W1 B σ H1 (callM m cs ps1 ρ1) _ := a1
  unfold callM at a1
  have wcw : ∀ a, Wc σ cs a → W1 a := fun a z => wc_w s1 A z
  cases q : m ps1 with
  | none => rw [q] at a1; exact a1.elim
  | some y =>
    rw [q] at a1
    cases y with
    | exc ex ps' =>
      refine fun W' H' c d fr lk s' xr => ?_
      obtain ⟨so, sub⟩ := s1.outof A ok lk fr s' (Wn := W1) (fun _ z => z) fun a z => .inl z
      exact a1 W1 H' c d ⟨fun a o e n => fr.keep a o e fun z => n (wcw a z), fun a z => .inl z⟩ so (xr.less sub)
    | ret r ps' =>
      refine fun W' H' v fr lk hv => ?_
      cases r with
      | frz d =>
        obtain ⟨so, sub⟩ := s1.outof A ok lk fr hv.1 (Wn := W1) (fun _ z => z) fun a z => .inl z
        exact a1 W1 H' ⟨fun a o e n => fr.keep a o e fun z => n (wcw a z), fun a z => .inl z⟩ v ⟨so, hv.2.less sub⟩
      | own d =>
        obtain ⟨a, ea, wa, s', t, hn⟩ := hv
        have nwc : ¬ Wc σ cs a := fun ⟨k2, i2, e3, e4⟩ => by
          obtain ⟨l1, l2, g⟩ := args_get A
          have hk2 : k2 < ps1.length := by rw [l1]; exact (List.getElem?_eq_some_iff.mp e3).1
          obtain ⟨c2, v2, e5, e6, q2⟩ := g k2 _ (List.getElem?_eq_getElem hk2)
          rw [e3] at e5
          cases e5
          obtain ⟨d2, e7, _⟩ := lent_at (σ := σ) q2.2
          obtain ⟨d3, e8⟩ := lk.lent k2 d2 (by rw [List.getElem?_eq_getElem hk2, e7])
          refine hn k2 _ e8 rfl ?_
          rw [sv_map e6, ← q2.1]
          exact e4
        have new : H1 a = none := (fr.sub a wa).resolve_left nwc
        obtain ⟨so, sub⟩ := s1.outof A ok lk fr s' (Wn := Pl W1 a) (fun _ z => .inl z) fun b z => z.elim .inl fun k => .inr ⟨by rw [k]; exact wa, by rw [k]; exact new⟩
        have sub2 : ∀ b, Eo (Pl W1 a) B b → Eo W' (Bc W1 B σ cs) b := fun b z => by
          rcases z with (z | z) | z
          · exact sub b (.inl z)
          · rw [z]; exact .inl wa
          · exact sub b (.inr z)
        refine a1 (Pl W1 a) H' ⟨fun b o e n => fr.keep b o e fun z => n (wcw b z), fun b z => z.elim .inl fun k => .inr (by rw [k]; exact new)⟩ v ⟨a, ea, .inr rfl, so, t.less sub2, fun i u e w e2 => ?_⟩
        obtain ⟨b, d2, _, e3, wb, _⟩ : ∃ b d2, u.cont = some d2 ∧ sv σ i = some (.ref b) ∧ W1 b ∧ True := by
          rcases putC_get cs ps' ρ1 i u (args_lok A) e with ⟨e1, _⟩ | ⟨_, d2, _, _, q⟩
          · obtain ⟨b, d2, z1, z2, z3, _⟩ := s1.wr_at e1 w
            exact ⟨b, d2, z1, z2, z3, trivial⟩
          · rcases q with ⟨q, d0, z⟩ | ⟨q, d0, z⟩
            · obtain ⟨b, _, _, z2, z3, _⟩ := s1.wr_at z rfl
              exact ⟨b, d2, by rw [q]; rfl, z2, z3, trivial⟩
            · obtain ⟨b, _, _, z2, z3, _⟩ := s1.wr_at z rfl
              exact ⟨b, d2, by rw [q]; rfl, z2, z3, trivial⟩
        rw [e2] at e3
        cases e3
        exact s1.dom a (.inl wb) new
/-- THE CALL -/
theorem de_call (c : Callee X.prog X.w X.K X.mg X.base k x m) (hr : Room j X.A) (hk : k ≤ j) (tk : Takes X Wx) (hg : Gl X x) (ha : DCs X Wx (e :: es) cs) (ok : okCA cs = true := by rfl) (hdb : (x == ("__debug__" : Str)) = false := by decide)
    (he : starEach (e :: es) X.env = (false, eval e X.env) :: starEach es X.env := by rfl) (hpl : (backTo pos (starEach es X.env)).any (·.1) = false := by rfl) : DE X Wx (.Call (.Name x p) (e :: es) [] pos) (fCall m cs) := by
  obtain ⟨f, fd, ps, F, hm, kp, hb⟩ := c.ex
  exact ⟨pe_imp (pe_callSD (E := fun σ c d H => Wx c d σ H) F (hr.mono hk) hg hm kp hb .nil (fun σ => L2.passAt tk σ) ha.pa hdb he hpl) fun σ H Q q => rd_call ok q, evo_call ha.evo fun ps ρ ρ' h => evC_lok ha.evo h⟩
end
end Dz
/-! Dz 10: built-ins by name, subscripts, slices, methods. -/
namespace Dz
open PySem PySem.Spec PyProof.Rows L2

theorem callR_or {X : Cx} {f : Value} {r r' : List V → Hp → VK → Prop} (h : CallR X f r) (h' : CallR X f r') : CallR X f (fun xs H Q => r xs H Q ∨ r' xs H Q) := by
  intro pins s σ H xs us Q I rs q
  rcases q with q | q
  · exact h pins s σ H xs us Q I rs q
  · exact h' pins s σ H xs us Q I rs q
/-- what a rule by values gives, on data -/
def VRL (r : List V → Hp → VK → Prop) (g : List D → Option R) : Prop := ∀ (W B : AP) (σ : L2.St) (H : Hp) (ρ : Env) (vs : List V) (ds : List D) (res : R) (Q : VK), St W B σ H ρ → PReps (Eo W B) H ds vs → g ds = some res →
  (∀ W' H' v, Fr W H W' H' → VOk W' B σ H' ρ v res → Q v H') → r vs H Q
def fL (os : List Opd) (g : List D → Option R) : M R := mbind (evs os) fun ds => mopt (g ds)
section
variable {X : Cx} {Wx : WX} {a b e o : Expr} {es : List Expr} {os : List Opd} {o1 o2 : Opd} {pos p apos : Pos} {g : List D → Option R} {r : List V → Hp → VK → Prop} {x : Str} {fid T : String}
theorem evo_fL (h : ∀ o ∈ os, o.Evo) : EvoF (fL os g) := evo_bind (evo_evs h) fun _ => evo_opt _
theorem rdL {mg : Str → Option Value} (hr : VRL r g) {σ : L2.St} {H : Hp} {Q : VK} (h : rdE mg Wx (fL os g) σ H Q) : rdOs mg Wx os σ H fun vs H1 => r vs H1 Q := by
  obtain ⟨W, B, ρ, s, a⟩ := h
  refine ⟨W, B, ρ, s, (After.bind a).mono fun W1 H1 ds ρ1 _ _ a1 vs s1 rs => ?_⟩
  obtain ⟨res, k, a2⟩ := a1.opt
  exact hr W1 B σ H1 ρ1 vs ds res Q s1 rs k fun W2 H2 v f hv => a2 W2 H2 f v hv
theorem de_callB (hc : CallR X (.builtin fid) r) (hr : VRL r g) (hg : Gl X x) (hm : X.mg x = none) (hv : bootBuiltins x = some (.builtin fid)) (ha : DOs X Wx (e :: es) os) (hn : x ≠ "__name__" := by decide) (hdb : (x == ("__debug__" : Str)) = false := by decide)
    (he : starEach (e :: es) X.env = (false, eval e X.env) :: starEach es X.env := by rfl) (hpl : (backTo pos (starEach es X.env)).any (·.1) = false := by rfl) : DE X Wx (.Call (.Name x p) (e :: es) [] pos) (fL os g) :=
  ⟨pe_imp (pe_callB hc hg hm hv ha.pa hn hdb he hpl) fun _ _ _ q => rdL hr q, evo_fL ha.evo⟩
theorem de_callTy (hc : CallR X (.type T) r) (hr : VRL r g) (hg : Gl X x) (hm : X.mg x = none) (hv : bootBuiltins x = some (.type T)) (ha : DOs X Wx (e :: es) os) (hn : x ≠ "__name__" := by decide) (hdb : (x == ("__debug__" : Str)) = false := by decide)
    (he : starEach (e :: es) X.env = (false, eval e X.env) :: starEach es X.env := by rfl) (hpl : (backTo pos (starEach es X.env)).any (·.1) = false := by rfl) : DE X Wx (.Call (.Name x p) (e :: es) [] pos) (fL os g) :=
  ⟨pe_imp (pe_callTy hc hg hm hv ha.pa hn hdb he hpl) fun _ _ _ q => rdL hr q, evo_fL ha.evo⟩
theorem preps1 {N : AP} {H : Hp} {d : D} {vs : List V} (h : PReps N H [d] vs) : ∃ v, vs = [v] ∧ PRep N H d v := by
  obtain ⟨v, _, rfl, p, z⟩ := h
  exact ⟨v, by rw [show _ = [] from z], p⟩
theorem preps2 {N : AP} {H : Hp} {d e : D} {vs : List V} (h : PReps N H [d, e] vs) : ∃ v w, vs = [v, w] ∧ PRep N H d v ∧ PRep N H e w := by
  obtain ⟨v, _, rfl, p, w, _, rfl, q, z⟩ := h
  exact ⟨v, w, by rw [show _ = [] from z], p, q⟩
/-! #### len -/
def rLenA (K : PySem.W.Frag) : List V → Hp → VK → Prop := fun xs H Q => (∃ x n, xs = [x] ∧ LenV K x H n ∧ Q (.int n) H) ∨ (∃ a kvs, xs = [.ref a] ∧ Rd H a (.dK kvs) ∧ Q (.int kvs.length) H)
theorem call_lenK : CallR X (.builtin "len") (fun xs H Q => ∃ a kvs, xs = [.ref a] ∧ Rd H a (.dK kvs) ∧ Q (.int kvs.length) H) := by
  intro pins s σ H xs us Q I rs ⟨a, kvs, e, q, h⟩
  subst e
  obtain ⟨u, rfl, ru⟩ := vals1 rs
  cases ru
  exact d_len I q fun t s' I' => ⟨.int kvs.length, H, I', ⟨t, rfl⟩, h⟩
def lenD : List D → Option R
  | [.str x] => if x.length ≤ sizeLine then some (.frz (.int x.length)) else none
  | [.tup ds] => some (.frz (.int ds.length))
  | [.lst ds] => some (.frz (.int ds.length))
  | [.scr ns] => some (.frz (.int ns.length))
  | [.dK ks _] => some (.frz (.int ks.length))
  | _ => none
theorem vl_len {K : PySem.W.Frag} : VRL (rLenA K) lenD := by
  intro W B σ H ρ vs ds res Q s rs hg hq
  unfold lenD at hg
  split at hg
  · split at hg
    · rename_i hz
      cases hg
      obtain ⟨v, rfl, p⟩ := preps1 rs
      rw [p.str]
      exact .inl ⟨_, _, rfl, ⟨hz, rfl⟩, hq W H _ .refl ⟨s, rfl⟩⟩
    · cases hg
  · cases hg
    obtain ⟨v, rfl, p⟩ := preps1 rs
    obtain ⟨q, ws, rfl, hp, _, r⟩ := p.tup
    exact .inl ⟨_, _, rfl, .inr ⟨ws, hp.sq, r.length.symm⟩, hq W H _ .refl ⟨s, rfl⟩⟩
  · cases hg
    obtain ⟨v, rfl, p⟩ := preps1 rs
    obtain ⟨q, ws, rfl, hp, r⟩ := p.lst
    exact .inl ⟨_, _, rfl, .inl ⟨ws, SqL.of hp, r.length.symm⟩, hq W H _ .refl ⟨s, rfl⟩⟩
  · cases hg
    obtain ⟨v, rfl, p⟩ := preps1 rs
    obtain ⟨q, rfl, hp⟩ := p.scr
    exact .inl ⟨_, _, rfl, .inl ⟨_, .inl hp, (List.length_map _).symm⟩, hq W H _ .refl ⟨s, rfl⟩⟩
  · cases hg
    obtain ⟨v, rfl, p⟩ := preps1 rs
    obtain ⟨q, kvs, rfl, hp, rfl, r⟩ := p.dK
    refine .inr ⟨q, kvs, rfl, .inl hp, ?_⟩
    rw [List.length_map] at hq
    exact hq W H _ .refl ⟨s, rfl⟩
  · cases hg
theorem de_len (hg : Gl X "len") (hm : X.mg "len" = none) (ha : DOs X Wx [e] os) (he : starEach [e] X.env = (false, eval e X.env) :: starEach [] X.env := by rfl) : DE X Wx (.Call (.Name "len" p) [e] [] pos) (fL os lenD) :=
  de_callB (callR_or call_len call_lenK) vl_len hg hm PySem.boot_len ha (he := he)
/-! #### whole numbers of a list; min, max, sum, all, any -/
def intsD : List D → Option (List Int)
  | [] => some []
  | .int i :: ds => (intsD ds).map (i :: ·)
  | _ :: _ => none
theorem intsD_rep {N : AP} {H : Hp} : ∀ {ds : List D} {ns : List Int} {vs : List V}, intsD ds = some ns → Reps N H ds vs → vs = ns.map V.int
  | [], ns, vs, h, r => by cases h; exact r
  | .int i :: ds, ns, vs, h, ⟨v, w, e, p, r⟩ => by
    unfold intsD at h
    cases q : intsD ds with
    | none => rw [q] at h; cases h
    | some ms =>
      rw [q] at h
      cases h
      rw [e, show v = .int i from p, intsD_rep q r]
      rfl
  | .non :: _, _, _, h, _ => nomatch h
  | .bl _ :: _, _, _, h, _ => nomatch h
  | .str _ :: _, _, _, h, _ => nomatch h
  | .tup _ :: _, _, _, h, _ => nomatch h
  | .lst _ :: _, _, _, h, _ => nomatch h
  | .dK _ _ :: _, _, _, h, _ => nomatch h
  | .dT _ _ :: _, _, _, h, _ => nomatch h
  | .scr _ :: _, _, _, h, _ => nomatch h
  | .tpl _ :: _, _, _, h, _ => nomatch h
theorem intsD_map : ∀ ns : List Int, intsD (ns.map .int) = some ns
  | [] => rfl
  | n :: ns => by rw [List.map_cons, intsD, intsD_map ns]; rfl
def blsD : List D → Option (List Bool)
  | [] => some []
  | .bl i :: ds => (blsD ds).map (i :: ·)
  | _ :: _ => none
theorem blsD_rep {N : AP} {H : Hp} : ∀ {ds : List D} {ns : List Bool} {vs : List V}, blsD ds = some ns → Reps N H ds vs → vs = ns.map V.bl
  | [], ns, vs, h, r => by cases h; exact r
  | .bl i :: ds, ns, vs, h, ⟨v, w, e, p, r⟩ => by
    unfold blsD at h
    cases q : blsD ds with
    | none => rw [q] at h; cases h
    | some ms =>
      rw [q] at h
      cases h
      rw [e, show v = .bl i from p, blsD_rep q r]
      rfl
  | .non :: _, _, _, h, _ => nomatch h
  | .int _ :: _, _, _, h, _ => nomatch h
  | .str _ :: _, _, _, h, _ => nomatch h
  | .tup _ :: _, _, _, h, _ => nomatch h
  | .lst _ :: _, _, _, h, _ => nomatch h
  | .dK _ _ :: _, _, _, h, _ => nomatch h
  | .dT _ _ :: _, _, _, h, _ => nomatch h
  | .scr _ :: _, _, _, h, _ => nomatch h
  | .tpl _ :: _, _, _, h, _ => nomatch h
theorem blsD_map : ∀ ns : List Bool, blsD (ns.map .bl) = some ns
  | [] => rfl
  | n :: ns => by rw [List.map_cons, blsD, blsD_map ns]; rfl
def strsD : List D → Option (List Str)
  | [] => some []
  | .str i :: ds => (strsD ds).map (i :: ·)
  | _ :: _ => none
theorem strsD_rep {N : AP} {H : Hp} : ∀ {ds : List D} {ns : List Str} {vs : List V}, strsD ds = some ns → Reps N H ds vs → vs = ns.map V.str
  | [], ns, vs, h, r => by cases h; exact r
  | .str i :: ds, ns, vs, h, ⟨v, w, e, p, r⟩ => by
    unfold strsD at h
    cases q : strsD ds with
    | none => rw [q] at h; cases h
    | some ms =>
      rw [q] at h
      cases h
      rw [e, show v = .str i from p, strsD_rep q r]
      rfl
  | .non :: _, _, _, h, _ => nomatch h
  | .int _ :: _, _, _, h, _ => nomatch h
  | .bl _ :: _, _, _, h, _ => nomatch h
  | .tup _ :: _, _, _, h, _ => nomatch h
  | .lst _ :: _, _, _, h, _ => nomatch h
  | .dK _ _ :: _, _, _, h, _ => nomatch h
  | .dT _ _ :: _, _, _, h, _ => nomatch h
  | .scr _ :: _, _, _, h, _ => nomatch h
  | .tpl _ :: _, _, _, h, _ => nomatch h
theorem strsD_map : ∀ ns : List Str, strsD (ns.map .str) = some ns
  | [] => rfl
  | n :: ns => by rw [List.map_cons, strsD, strsD_map ns]; rfl
def maxL : List Int → Int
  | [] => 0
  | [n] => n
  | n :: m :: ns => if n ≤ maxL (m :: ns) then maxL (m :: ns) else n
def minL : List Int → Int
  | [] => 0
  | [n] => n
  | n :: m :: ns => if minL (m :: ns) ≤ n then minL (m :: ns) else n
theorem maxL_spec : ∀ {ns : List Int}, 0 < ns.length → maxL ns ∈ ns ∧ ∀ y ∈ ns, y ≤ maxL ns
  | [], h => by simp at h
  | [n], _ => ⟨by simp [maxL], fun y hy => by simp at hy; rw [hy]; exact Int.le_refl _⟩
  | n :: m :: ns, _ => by
    obtain ⟨h1, h2⟩ := maxL_spec (ns := m :: ns) (by simp)
    unfold maxL
    split
    · rename_i h
      exact ⟨List.mem_cons_of_mem _ h1, fun y hy => by
        rcases List.mem_cons.mp hy with e | hy
        · rw [e]; exact h
        · exact h2 y hy⟩
    · rename_i h
      exact ⟨List.mem_cons_self, fun y hy => by
        rcases List.mem_cons.mp hy with e | hy
        · rw [e]; exact Int.le_refl _
        · have := h2 y hy; omega⟩
theorem minL_spec : ∀ {ns : List Int}, 0 < ns.length → minL ns ∈ ns ∧ ∀ y ∈ ns, minL ns ≤ y
  | [], h => by simp at h
  | [n], _ => ⟨by simp [minL], fun y hy => by simp at hy; rw [hy]; exact Int.le_refl _⟩
  | n :: m :: ns, _ => by
    obtain ⟨h1, h2⟩ := minL_spec (ns := m :: ns) (by simp)
    unfold minL
    split
    · rename_i h
      exact ⟨List.mem_cons_of_mem _ h1, fun y hy => by
        rcases List.mem_cons.mp hy with e | hy
        · rw [e]; exact h
        · exact h2 y hy⟩
    · rename_i h
      exact ⟨List.mem_cons_self, fun y hy => by
        rcases List.mem_cons.mp hy with e | hy
        · rw [e]; exact Int.le_refl _
        · have := h2 y hy; omega⟩
def maxD : List D → Option R
  | [.int i, .int j] => some (.frz (.int (if j > i then j else i)))
  | [.lst ds] => match intsD ds with
    | some (n :: ns) => some (.frz (.int (maxL (n :: ns))))
    | _ => none
  | _ => none
def minD : List D → Option R
  | [.int i, .int j] => some (.frz (.int (if j < i then j else i)))
  | [.lst ds] => match intsD ds with
    | some (n :: ns) => some (.frz (.int (minL (n :: ns))))
    | _ => none
  | _ => none
theorem vl_max {K : PySem.W.Frag} : VRL (fun xs H Q => (∃ i j, xs = [.int i, .int j] ∧ Q (.int (if j > i then j else i)) H) ∨ rMax K xs H Q) maxD := by
  intro W B σ H ρ vs ds res Q s rs hg hq
  unfold maxD at hg
  split at hg
  · cases hg
    obtain ⟨v, w, rfl, p1, p2⟩ := preps2 rs
    rw [p1.int, p2.int]
    exact .inl ⟨_, _, rfl, hq W H _ .refl ⟨s, rfl⟩⟩
  · split at hg
    · rename_i n ns q
      cases hg
      obtain ⟨v, rfl, p⟩ := preps1 rs
      obtain ⟨a, ws, rfl, hp, r⟩ := p.lst
      have e := intsD_rep q r
      subst e
      refine .inr ⟨a, n :: ns, rfl, SqL.of hp, by simp, fun m hm hle => ?_⟩
      obtain ⟨h1, h2⟩ := maxL_spec (ns := n :: ns) (by simp)
      have e : m = maxL (n :: ns) := Int.le_antisymm (h2 m hm) (hle _ h1)
      rw [e]
      exact hq W H _ .refl ⟨s, rfl⟩
    · cases hg
  · cases hg
theorem vl_min {K : PySem.W.Frag} : VRL (fun xs H Q => (∃ i j, xs = [.int i, .int j] ∧ Q (.int (if j < i then j else i)) H) ∨ rMin K xs H Q) minD := by
  intro W B σ H ρ vs ds res Q s rs hg hq
  unfold minD at hg
  split at hg
  · cases hg
    obtain ⟨v, w, rfl, p1, p2⟩ := preps2 rs
    rw [p1.int, p2.int]
    exact .inl ⟨_, _, rfl, hq W H _ .refl ⟨s, rfl⟩⟩
  · split at hg
    · rename_i n ns q
      cases hg
      obtain ⟨v, rfl, p⟩ := preps1 rs
      obtain ⟨a, ws, rfl, hp, r⟩ := p.lst
      have e := intsD_rep q r
      subst e
      refine .inr ⟨a, n :: ns, rfl, SqL.of hp, by simp, fun m hm hle => ?_⟩
      obtain ⟨h1, h2⟩ := minL_spec (ns := n :: ns) (by simp)
      have e : m = minL (n :: ns) := Int.le_antisymm (hle _ h1) (h2 m hm)
      rw [e]
      exact hq W H _ .refl ⟨s, rfl⟩
    · cases hg
  · cases hg
def sumD : List D → Option R
  | [.lst ds] => (intsD ds).map fun ns => .frz (.int ns.sum)
  | [.scr ns] => some (.frz (.int ns.sum))
  | _ => none
theorem vl_sum {K : PySem.W.Frag} : VRL (rSum K) sumD := by
  intro W B σ H ρ vs ds res Q s rs hg hq
  unfold sumD at hg
  split at hg
  · rename_i xs
    cases q : intsD xs with
    | none => rw [q] at hg; cases hg
    | some ns =>
      rw [q] at hg
      cases hg
      obtain ⟨v, rfl, p⟩ := preps1 rs
      obtain ⟨a, ws, rfl, hp, r⟩ := p.lst
      have e := intsD_rep q r
      subst e
      exact ⟨a, ns, rfl, SqL.of hp, hq W H _ .refl ⟨s, rfl⟩⟩
  · cases hg
    obtain ⟨v, rfl, p⟩ := preps1 rs
    obtain ⟨a, rfl, hp⟩ := p.scr
    exact ⟨a, _, rfl, .inl hp, hq W H _ .refl ⟨s, rfl⟩⟩
  · cases hg
def allD : List D → Option R
  | [.lst ds] => (blsD ds).map fun ns => .frz (.bl (ns.all fun b => b))
  | _ => none
def anyD : List D → Option R
  | [.lst ds] => (blsD ds).map fun ns => .frz (.bl (ns.any fun b => b))
  | _ => none
theorem vl_all {K : PySem.W.Frag} : VRL (rAll K) allD := by
  intro W B σ H ρ vs ds res Q s rs hg hq
  unfold allD at hg
  split at hg
  · rename_i xs
    cases q : blsD xs with
    | none => rw [q] at hg; cases hg
    | some ns =>
      rw [q] at hg
      cases hg
      obtain ⟨v, rfl, p⟩ := preps1 rs
      obtain ⟨a, ws, rfl, hp, r⟩ := p.lst
      have e := blsD_rep q r
      subst e
      exact ⟨a, ns, rfl, SqL.of hp, hq W H _ .refl ⟨s, rfl⟩⟩
  · cases hg
theorem vl_any {K : PySem.W.Frag} : VRL (rAny K) anyD := by
  intro W B σ H ρ vs ds res Q s rs hg hq
  unfold anyD at hg
  split at hg
  · rename_i xs
    cases q : blsD xs with
    | none => rw [q] at hg; cases hg
    | some ns =>
      rw [q] at hg
      cases hg
      obtain ⟨v, rfl, p⟩ := preps1 rs
      obtain ⟨a, ws, rfl, hp, r⟩ := p.lst
      have e := blsD_rep q r
      subst e
      exact ⟨a, ns, rfl, SqL.of hp, hq W H _ .refl ⟨s, rfl⟩⟩
  · cases hg
def absD : List D → Option R
  | [.int i] => some (.frz (.int (if i < 0 then -i else i)))
  | _ => none
theorem vl_abs : VRL (fun xs H Q => ∃ i, xs = [.int i] ∧ Q (.int (if i < 0 then -i else i)) H) absD := by
  intro W B σ H ρ vs ds res Q s rs hg hq
  unfold absD at hg
  split at hg
  · cases hg
    obtain ⟨v, rfl, p⟩ := preps1 rs
    rw [p.int]
    exact ⟨_, rfl, hq W H _ .refl ⟨s, rfl⟩⟩
  · cases hg
def intD : List D → Option R
  | [.int i] => some (.frz (.int i))
  | [.bl k] => some (.frz (.int (if k then 1 else 0)))
  | _ => none
theorem vl_int : VRL (fun xs H Q => (∃ i, xs = [.int i] ∧ Q (.int i) H) ∨ ∃ k, xs = [.bl k] ∧ Q (.int (if k then 1 else 0)) H) intD := by
  intro W B σ H ρ vs ds res Q s rs hg hq
  unfold intD at hg
  split at hg
  · cases hg
    obtain ⟨v, rfl, p⟩ := preps1 rs
    rw [p.int]
    exact .inl ⟨_, rfl, hq W H _ .refl ⟨s, rfl⟩⟩
  · cases hg
    obtain ⟨v, rfl, p⟩ := preps1 rs
    rw [p.bl]
    exact .inr ⟨_, rfl, hq W H _ .refl ⟨s, rfl⟩⟩
  · cases hg
def strDm : List D → Option R
  | [.int i] => if i.natAbs.log2 < 1920 then some (.frz (.str (toString i))) else none
  | _ => none
theorem vl_str : VRL (fun xs H Q => ∃ i, xs = [.int i] ∧ i.natAbs.log2 < 1920 ∧ Q (.str (toString i)) H) strDm := by
  intro W B σ H ρ vs ds res Q s rs hg hq
  unfold strDm at hg
  split at hg
  · split at hg
    · rename_i hz
      cases hg
      obtain ⟨v, rfl, p⟩ := preps1 rs
      rw [p.int]
      exact ⟨_, rfl, hz, hq W H _ .refl ⟨s, rfl⟩⟩
    · cases hg
  · cases hg
/-! #### tuple(x), list(x) -/
def tupleD : List D → Option R
  | [.lst ds] => some (.frz (.tup ds))
  | [.tup ds] => some (.frz (.tup ds))
  | _ => none
theorem vl_tuple {K : PySem.W.Frag} : VRL (fun xs H Q => ∃ p ys, xs = [.ref p] ∧ ((SqL K H p ys ∧ NewT H ys Q) ∨ (SqT K H p ys ∧ Q (.ref p) H))) tupleD := by
  intro W B σ H ρ vs ds res Q s rs hg hq
  unfold tupleD at hg
  split at hg
  · cases hg
    obtain ⟨v, rfl, p⟩ := preps1 rs
    obtain ⟨a, ws, rfl, hp, r⟩ := p.lst
    exact ⟨a, ws, rfl, .inl ⟨SqL.of hp, fun t o ht hd => hq W _ _ (Fr.new ht) (vok_tup hd s r ht)⟩⟩
  · cases hg
    obtain ⟨v, rfl, p⟩ := preps1 rs
    obtain ⟨a, ws, rfl, hp, na, r⟩ := p.tup
    exact ⟨a, ws, rfl, .inr ⟨hp.sq, hq W H _ .refl ⟨s, a, ws, rfl, hp, na, r⟩⟩⟩
  · cases hg
def listD : List D → Option R
  | [.lst ds] => some (.own (.lst ds))
  | [.tup ds] => some (.own (.lst ds))
  | [.scr ns] => some (.own (.lst (ns.map .int)))
  | _ => none
theorem ints_reps {N : AP} {H : Hp} : ∀ ns : List Int, Reps N H (ns.map .int) (ns.map V.int)
  | [] => rfl
  | n :: ns => ⟨.int n, ns.map V.int, rfl, rfl, ints_reps ns⟩
theorem vl_list {K : PySem.W.Frag} : VRL (fun xs H Q => ∃ p ys, xs = [.ref p] ∧ (SqL K H p ys ∨ SqT K H p ys) ∧ ∀ l, H l = none → Q (.ref l) (upd H l (.lst ys))) listD := by
  intro W B σ H ρ vs ds res Q s rs hg hq
  unfold listD at hg
  split at hg
  · cases hg
    obtain ⟨v, rfl, p⟩ := preps1 rs
    obtain ⟨a, ws, rfl, hp, r⟩ := p.lst
    exact ⟨a, ws, rfl, .inl (SqL.of hp), fun t ht => hq _ _ _ (Fr.newW ht) (vok_lst s r ht)⟩
  · cases hg
    obtain ⟨v, rfl, p⟩ := preps1 rs
    obtain ⟨a, ws, rfl, hp, na, r⟩ := p.tup
    exact ⟨a, ws, rfl, .inr hp.sq, fun t ht => hq _ _ _ (Fr.newW ht) (vok_lst s r ht)⟩
  · cases hg
    obtain ⟨v, rfl, p⟩ := preps1 rs
    obtain ⟨a, rfl, hp⟩ := p.scr
    exact ⟨a, _, rfl, .inl (.inl hp), fun t ht => hq _ _ _ (Fr.newW ht) (vok_lst s (ints_reps _) ht)⟩
  · cases hg

/-! ### subscripts -/
def getD1 : D → D → Option R
  | .lst ds, .int i => (L2.atI ds i).map .frz
  | .tup ds, .int i => (L2.atI ds i).map .frz
  | .scr ns, .int i => (L2.atI ns i).map fun n => .frz (.int n)
  | .str x, .int i => if x.length ≤ sizeLine then (L2.atI x.cps.toList i).map fun c => .frz (.str ⟨#[c]⟩) else none
  | _, _ => none
theorem reps_atI {N : AP} {H : Hp} {ds : List D} {vs : List V} {i : Int} {d : D} (r : Reps N H ds vs) (h : L2.atI ds i = some d) : ∃ v, L2.atI vs i = some v ∧ Rep N H d v := by
  unfold L2.atI at h ⊢
  rw [r.length]
  cases q : ixN ds.length i with
  | none => rw [q] at h; cases h
  | some j =>
    rw [q] at h
    exact r.get h
theorem vr_get {K : PySem.W.Frag} : VR2 (rIx K) getD1 := by
  intro W B σ H ρ x y a b res Q s hx hy hg hq
  unfold getD1 at hg
  split at hg
  · rename_i ds i
    cases q : L2.atI ds i with
    | none => rw [q] at hg; cases hg
    | some d =>
      rw [q] at hg
      cases hg
      obtain ⟨p, ws, rfl, hp, r⟩ := hx.lst
      obtain ⟨v, hv, rv⟩ := reps_atI r q
      exact .inl ⟨p, ws, i, v, rfl, hy.int, SqL.of hp, hv, hq W H _ .refl ⟨s, rv⟩⟩
  · rename_i ds i
    cases q : L2.atI ds i with
    | none => rw [q] at hg; cases hg
    | some d =>
      rw [q] at hg
      cases hg
      obtain ⟨p, ws, rfl, hp, _, r⟩ := hx.tup
      obtain ⟨v, hv, rv⟩ := reps_atI r q
      exact .inr (.inl ⟨p, ws, i, v, rfl, hy.int, hp.sq, hv, hq W H _ .refl ⟨s, rv⟩⟩)
  · rename_i ns i
    cases q : L2.atI ns i with
    | none => rw [q] at hg; cases hg
    | some d =>
      rw [q] at hg
      cases hg
      obtain ⟨p, rfl, hp⟩ := hx.scr
      refine .inl ⟨p, _, i, .int d, rfl, hy.int, .inl hp, ?_, hq W H _ .refl ⟨s, rfl⟩⟩
      unfold L2.atI at q ⊢
      rw [List.length_map]
      cases k : ixN ns.length i with
      | none => rw [k] at q; cases q
      | some j =>
        rw [k] at q
        have q : ns[j]? = some d := q
        show (ns.map V.int)[j]? = some (.int d)
        rw [List.getElem?_map, q]
        rfl
  · rename_i z i
    split at hg
    · rename_i hz
      cases q : L2.atI z.cps.toList i with
      | none => rw [q] at hg; cases hg
      | some c =>
        rw [q] at hg
        cases hg
        exact .inr (.inr ⟨z, i, c, hx.str, hy.int, hz, q, hq W H _ .refl ⟨s, rfl⟩⟩)
    · cases hg
  · cases hg
theorem de_ix (h1 : DO X Wx a o1) (h2 : DO X Wx b o2) (hs : PlainIx b := by exact fun _ _ => rfl) : DE X Wx (.Subscript a b pos) (f2 o1 o2 getD1) :=
  ⟨pe_imp (pe_ix ix_seq h1.pe h2.pe hs) fun _ _ _ h => rd2 vr_get h1.evo h2.evo h, evo_f2 h1.evo h2.evo⟩
/-! ### slices -/
def needInt : R → M R
  | .frz (.int i) => mret (.frz (.int i))
  | _ => fun _ => none
theorem evo_needInt (r : R) : EvoF (needInt r) := by
  cases r with
  | frz d =>
    cases d with
    | int i => exact evo_ret _
    | _ => exact fun _ _ e => nomatch e
  | own d => exact fun _ _ e => nomatch e
/-- a whole number for sure -/
def fI (f : M R) : M R := mbind f needInt
theorem evo_fI {f : M R} (h : EvoF f) : EvoF (fI f) := evo_bind h evo_needInt
theorem rd_fI {mg : Str → Option Value} {f : M R} {σ : L2.St} {H : Hp} {Q : VK} (h : rdE mg Wx (fI f) σ H Q) : rdE mg Wx f σ H fun v H1 => ∃ i, v = .int i ∧ Q (.int i) H1 := by
  obtain ⟨W, B, ρ, s, a⟩ := h
  refine ⟨W, B, ρ, s, (After.bind a).mono fun W1 H1 r ρ1 _ _ a1 v hv => ?_⟩
  cases r with
  | own d => exact a1.elim
  | frz d =>
    cases d with
    | int i =>
      obtain ⟨s1, rv⟩ := hv
      have e : v = .int i := rv
      exact ⟨i, e, After.here a1 _ ⟨s1, rfl⟩⟩
    | _ => exact a1.elim
theorem mono_rdE {mg : Str → Option Value} {f : M R} {σ : L2.St} {H : Hp} {Q Q' : VK} (h : rdE mg Wx f σ H Q) (hq : ∀ v H', Q v H' → Q' v H') : rdE mg Wx f σ H Q' := by
  obtain ⟨W, B, ρ, s, a⟩ := h
  exact ⟨W, B, ρ, s, a.mono fun W' H' r ρ' _ _ k v hv => hq v H' (k v hv)⟩
inductive Pt where
  | no | op (f : M R)
def rdP (mg : Str → Option Value) (Wx : WX) : Pt → TO
  | .no => tNoPart
  | .op f => tPart (rdE mg Wx f)
def DP (X : Cx) (Wx : WX) : Option Expr → Pt → Prop
  | none, .no => True
  | some e, .op f => DE X Wx e f
  | _, _ => False
theorem DP.po {eo : Option Expr} {p : Pt} (h : DP X Wx eo p) : PO X eo (rdP X.mg Wx p) := by
  cases eo with
  | none =>
    cases p with
    | no => exact po_none
    | op o => exact h.elim
  | some e =>
    cases p with
    | no => exact h.elim
    | op o => exact po_some (DE.pe h)
def Pt.opds : Pt → List Opd
  | .no => []
  | .op f => [.ev (fI f)]
theorem DP.evo {eo : Option Expr} {p : Pt} (h : DP X Wx eo p) : ∀ o ∈ p.opds, o.Evo := by
  intro o z
  cases p with
  | no => exact (List.not_mem_nil z).elim
  | op f =>
    cases eo with
    | none => exact h.elim
    | some e => rcases List.mem_cons.mp z with e | z; exact e ▸ evo_fI (DE.evo h); exact (List.not_mem_nil z).elim
def cutD (xs : List D) (lo hi : Option Int) : List D := (xs.drop (HT.sIx xs.length 0 lo)).take (HT.sIx xs.length xs.length hi - HT.sIx xs.length 0 lo)
def cutI (xs : List Int) (lo hi : Option Int) : List Int := (xs.drop (HT.sIx xs.length 0 lo)).take (HT.sIx xs.length xs.length hi - HT.sIx xs.length 0 lo)
def sliceD (lo hi : Option Int) : D → Option R
  | .lst ds => some (.own (.lst (cutD ds lo hi)))
  | .tup ds => some (.frz (.tup (cutD ds lo hi)))
  | .scr ns => some (.own (.lst ((cutI ns lo hi).map .int)))
  | .str x => if x.length ≤ sizeLine then some (.frz (.str (cutS x lo hi))) else none
  | _ => none
/-- the parts' numbers out of the operands' data -/
def partsD : Pt → Pt → List D → Option (Option Int × Option Int)
  | .no, .no, [] => some (none, none)
  | .op _, .no, [.int i] => some (some i, none)
  | .no, .op _, [.int j] => some (none, some j)
  | .op _, .op _, [.int i, .int j] => some (some i, some j)
  | _, _, _ => none
theorem parts00 {ds : List D} {a b : Option Int} (h : partsD .no .no ds = some (a, b)) : ds = [] ∧ a = none ∧ b = none := by
  cases ds with
  | nil => cases h; exact ⟨rfl, rfl, rfl⟩
  | cons _ _ => cases h
theorem parts10 {f : M R} {ds : List D} {a b : Option Int} (h : partsD (.op f) .no ds = some (a, b)) : ∃ i, ds = [.int i] ∧ a = some i ∧ b = none := by
  match ds, h with
  | [.int i], h => cases h; exact ⟨i, rfl, rfl, rfl⟩
theorem parts01 {f : M R} {ds : List D} {a b : Option Int} (h : partsD .no (.op f) ds = some (a, b)) : ∃ i, ds = [.int i] ∧ a = none ∧ b = some i := by
  match ds, h with
  | [.int i], h => cases h; exact ⟨i, rfl, rfl, rfl⟩
theorem parts11 {f g : M R} {ds : List D} {a b : Option Int} (h : partsD (.op f) (.op g) ds = some (a, b)) : ∃ i j, ds = [.int i, .int j] ∧ a = some i ∧ b = some j := by
  match ds, h with
  | [.int i, .int j], h => cases h; exact ⟨i, j, rfl, rfl, rfl⟩
def sliceL (l u : Pt) : List D → Option R
  | d :: ds => match partsD l u ds with
    | some (lo, hi) => sliceD lo hi d
    | none => none
  | [] => none
theorem cut_reps {N : AP} {H : Hp} {ds : List D} {vs : List V} {lo hi : Option Int} (r : Reps N H ds vs) : Reps N H (cutD ds lo hi) (cutV vs lo hi) := by
  unfold cutD cutV
  rw [r.length]
  exact (r.drop _).take _
theorem cut_ints (ns : List Int) (lo hi : Option Int) : cutV (ns.map V.int) lo hi = (cutI ns lo hi).map V.int := by
  unfold cutV cutI
  rw [List.length_map, ← List.map_drop, ← List.map_take]
def rSlA (K : PySem.W.Frag) : V → Option Int → Option Int → Hp → VK → Prop := fun x lo hi H Q => rSlL K x lo hi H Q ∨ rSlZ K x lo hi H Q ∨ rSlS x lo hi H Q
theorem sl_all : SlR X (rSlA X.K) := sl_list.or (sl_tupZ.or sl_str)
theorem slice_ok {K : PySem.W.Frag} {W B : AP} {σ : L2.St} {H : Hp} {ρ : Env} {x : V} {d : D} {lo hi : Option Int} {res : R} {Q : VK} (s : St W B σ H ρ) (hx : PRep (Eo W B) H d x) (hg : sliceD lo hi d = some res)
    (hq : ∀ W' H' v, Fr W H W' H' → VOk W' B σ H' ρ v res → Q v H') : rSlA K x lo hi H Q := by
  unfold sliceD at hg
  split at hg
  · cases hg
    obtain ⟨p, ws, rfl, hp, r⟩ := hx.lst
    exact .inl ⟨p, ws, rfl, SqL.of hp, fun t ht => hq _ _ _ (Fr.newW ht) (vok_lst s (cut_reps r) ht)⟩
  · rename_i ds
    cases hg
    obtain ⟨p, ws, rfl, hp, np, r⟩ := hx.tup
    refine .inr (.inl ⟨p, ws, rfl, hp.sq, fun hw => ?_, fun _ t o ht hd => hq _ _ _ (Fr.new ht) (vok_tup hd s (cut_reps r) ht)⟩)
    have e : cutD ds lo hi = ds := by
      unfold cutD
      rw [r.length] at hw
      rw [hw.1, hw.2]
      simp
    rw [e] at hq
    exact hq W H _ .refl ⟨s, p, ws, rfl, hp, np, r⟩
  · cases hg
    obtain ⟨p, rfl, hp⟩ := hx.scr
    refine .inl ⟨p, _, rfl, .inl hp, fun t ht => ?_⟩
    rw [cut_ints]
    exact hq _ _ _ (Fr.newW ht) (vok_lst s (ints_reps _) ht)
  · split at hg
    · rename_i hz
      cases hg
      exact .inr (.inr ⟨_, hx.str, hz, hq W H _ .refl ⟨s, rfl⟩⟩)
    · cases hg
  · cases hg
theorem de_slice {lo hi : Option Expr} {l u : Pt} {p2 : Pos} (h1 : DO X Wx a o1) (h2 : DP X Wx lo l) (h3 : DP X Wx hi u) : DE X Wx (.Subscript a (.Slice lo hi none p2) pos) (fL (o1 :: (l.opds ++ u.opds)) (sliceL l u)) := by
  have evl : ∀ o ∈ l.opds ++ u.opds, o.Evo := fun o z => (List.mem_append.mp z).elim (h2.evo o) (h3.evo o)
  have evo : ∀ o ∈ o1 :: (l.opds ++ u.opds), o.Evo := fun o z => by
    rcases List.mem_cons.mp z with e | z
    · rw [e]; exact h1.evo
    · exact evl o z
  refine ⟨pe_imp (pe_slice sl_all h1.pe h2.po h3.po) fun σ H Q ⟨W, B, ρ, s, a⟩ => ?_, evo_fL evo⟩
  have q : rdOs X.mg Wx (o1 :: (l.opds ++ u.opds)) σ H fun vs H1 => ∃ x ds lo' hi' ws, vs = x :: ws ∧ partsD l u ds = some (lo', hi') ∧ (∃ N, PReps N H1 ds ws) ∧ rSlA X.K x lo' hi' H1 Q := by
    refine ⟨W, B, ρ, s, (After.bind a).mono fun W1 H1 ds ρ1 _ _ a1 vs s1 rs => ?_⟩
    obtain ⟨res, k, a2⟩ := a1.opt
    cases ds with
    | nil => cases k
    | cons d ds' =>
      cases e : partsD l u ds' with
      | none => simp [sliceL, e] at k
      | some lh =>
        simp only [sliceL, e] at k
        obtain ⟨x, ws, rfl, px, pw⟩ := rs
        exact ⟨x, ds', lh.1, lh.2, ws, rfl, e, ⟨_, pw⟩, slice_ok s1 px k fun W2 H2 v f hv => a2 W2 H2 f v hv⟩
  refine mono_rdO (rdOs_cons h1.evo evl q) fun x H1 q => ?_
  cases l with
  | no =>
    cases u with
    | no =>
      obtain ⟨x', ds, lo', hi', ws, e, e2, ⟨N, pr⟩, k⟩ := rdOs_nil q
      cases e
      obtain ⟨rfl, rfl, rfl⟩ := parts00 e2
      exact k
    | op o =>
      refine mono_rdE (rd_fI (rdOs_cons (os := []) (o := .ev (fI o)) (h3.evo _ List.mem_cons_self) (fun _ z => (List.not_mem_nil z).elim) q)) fun y H2 ⟨i, ey, q⟩ => ?_
      obtain ⟨x', ds, lo', hi', ws, e, e2, ⟨N, pr⟩, k⟩ := rdOs_nil q
      cases e
      obtain ⟨j, rfl, rfl, rfl⟩ := parts01 e2
      obtain ⟨v, ev, p⟩ := preps1 pr
      cases ev
      have p := p.int
      cases p
      exact ⟨_, ey, k⟩
  | op ol =>
    cases u with
    | no =>
      refine mono_rdE (rd_fI (rdOs_cons (os := []) (o := .ev (fI ol)) (h2.evo _ List.mem_cons_self) (fun _ z => (List.not_mem_nil z).elim) q)) fun y H2 ⟨i, ey, q⟩ => ?_
      obtain ⟨x', ds, lo', hi', ws, e, e2, ⟨N, pr⟩, k⟩ := rdOs_nil q
      cases e
      obtain ⟨j, rfl, rfl, rfl⟩ := parts10 e2
      obtain ⟨v, ev, p⟩ := preps1 pr
      cases ev
      have p := p.int
      cases p
      exact ⟨_, ey, k⟩
    | op o =>
      refine mono_rdE (rd_fI (rdOs_cons (o := .ev (fI ol)) (h2.evo _ List.mem_cons_self) (evo1 (h3.evo _ List.mem_cons_self)) q)) fun y H2 ⟨i, ey, q⟩ => ⟨i, ey, ?_⟩
      refine mono_rdE (rd_fI (rdOs_cons (os := []) (o := .ev (fI o)) (h3.evo _ List.mem_cons_self) (fun _ z => (List.not_mem_nil z).elim) q)) fun z H3 ⟨j, ez, q⟩ => ⟨j, ez, ?_⟩
      obtain ⟨x', ds, lo', hi', ws, e, e2, ⟨N, pr⟩, k⟩ := rdOs_nil q
      cases e
      obtain ⟨i', j', rfl, rfl, rfl⟩ := parts11 e2
      obtain ⟨v, w, ev, p1, p2⟩ := preps2 pr
      cases ev
      have p1 := p1.int
      have p2 := p2.int
      cases p1
      cases p2
      exact k
end
end Dz
/-! Dz 11: isinstance of built-in types, join; what changes an object that a name owns or has on loan. -/
namespace Dz
open PySem PySem.Spec PyProof.Rows L2
theorem boot_isi : bootBuiltins "isinstance" = some (.builtin "isinstance") := by decide +kernel
theorem boot_max : bootBuiltins "max" = some (.builtin "max") := by decide +kernel
theorem boot_min : bootBuiltins "min" = some (.builtin "min") := by decide +kernel
theorem boot_sum : bootBuiltins "sum" = some (.builtin "sum") := by decide +kernel
theorem boot_all : bootBuiltins "all" = some (.builtin "all") := by decide +kernel
theorem boot_any : bootBuiltins "any" = some (.builtin "any") := by decide +kernel
theorem boot_abs : bootBuiltins "abs" = some (.builtin "abs") := by decide +kernel
theorem boot_sorted : bootBuiltins "sorted" = some (.builtin "sorted") := by decide +kernel
theorem boot_repr : bootBuiltins "repr" = some (.builtin "repr") := by decide +kernel
/-! ### isinstance -/
inductive Ty where
  | str | tup | bl | int | lst
def Ty.nm : Ty → String
  | .str => "str"
  | .tup => "tuple"
  | .bl => "bool"
  | .int => "int"
  | .lst => "list"
def isT : Ty → D → Option Bool
  | .str, .str _ => some true
  | .tup, .tup _ => some true
  | .bl, .bl _ => some true
  | .int, .int _ => some true
  | .int, .bl _ => some true
  | .lst, .lst _ => some true
  | .lst, .scr _ => some true
  | _, .tpl _ => none
  | _, _ => some false
def kTy : D → String
  | .non => "NoneType"
  | .bl _ => "bool"
  | .int _ => "int"
  | .str _ => "str"
  | .tup _ => "tuple"
  | .tpl _ => "tuple"
  | .lst _ => "list"
  | .scr _ => "list"
  | .dK _ _ => "dict"
  | .dT _ _ => "dict"
def allTys : List String := ["NoneType", "bool", "int", "str", "tuple", "list", "dict"]
def isS (a : String) : Ty → Bool
  | .str => a == "str"
  | .tup => a == "tuple"
  | .bl => a == "bool"
  | .int => a == "int" || a == "bool"
  | .lst => a == "list"
theorem kit_all : ∀ a ∈ allTys, (kitB a "str" = some (isS a .str) ∧ kitB a "tuple" = some (isS a .tup) ∧ kitB a "bool" = some (isS a .bl) ∧ kitB a "int" = some (isS a .int) ∧ kitB a "list" = some (isS a .lst)) := by
  decide +kernel
theorem kit_at (d : D) (T : Ty) : kitB (kTy d) T.nm = some (isS (kTy d) T) := by
  have h := kit_all (kTy d) (by cases d <;> simp [kTy, allTys])
  obtain ⟨h1, h2, h3, h4, h5⟩ := h
  cases T
  · exact h1
  · exact h2
  · exact h3
  · exact h4
  · exact h5
theorem isT_s (d : D) (T : Ty) (b : Bool) (h : isT T d = some b) : isS (kTy d) T = b := by
  cases T <;> cases d <;> simp [isT, isS, kTy] at h ⊢ <;> first | exact h | (subst h; decide) | skip
theorem tyx {K : PySem.W.Frag} {N : AP} {H : Hp} {d : D} {v : V} (h : PRep N H d v) : TyX K H v (.type (kTy d)) := by
  cases d with
  | non => rw [show v = .non from h.elim id fun ⟨a, _, z⟩ => z.elim]; exact .base .non
  | bl b => rw [h.bl]; exact .base (.bl b)
  | int b => rw [h.int]; exact .base (.int b)
  | str b => rw [h.str]; exact .base (.str b)
  | tup ds =>
    obtain ⟨a, vs, rfl, ⟨o, e, _⟩, _⟩ := h.tup
    exact .fTuple e
  | tpl ds =>
    rcases h with ⟨a, vs, rfl, e, _, _⟩ | ⟨a, e, h⟩
    · exact .base (.tup e)
    · exact h.elim
  | lst ds =>
    obtain ⟨a, vs, rfl, e, _⟩ := h.lst
    exact .base (.lst e)
  | scr ns =>
    obtain ⟨a, rfl, e⟩ := h.scr
    rcases e with e | ⟨o, e⟩
    · exact .base (.lst e)
    · exact .base (.frz e)
  | dK ks ds =>
    obtain ⟨a, kvs, rfl, e, _⟩ := h.dK
    exact .base (.dK e)
  | dT ks ds =>
    obtain ⟨a, kvs, rfl, e, _⟩ := h.dT
    exact .base (.dT e)
section
variable {X : Cx} {Wx : WX} {a b e : Expr} {es : List Expr} {o1 o2 : Opd} {pos p p2 : Pos} {x : Str} {fe : M R} {fs : List (M R)}
def isiD (T : Ty) (d : D) : Option R := (isT T d).map fun k => .frz (.bl k)
theorem vr_isi {K : PySem.W.Frag} {T : Ty} : VR1 (fun x H Q => rIsi K [x, .ty T.nm] H Q) (isiD T) := by
  intro W B σ H ρ v d res Q s r hg hq
  unfold isiD at hg
  cases q : isT T d with
  | none => rw [q] at hg; cases hg
  | some k =>
    rw [q] at hg
    cases hg
    exact ⟨v, _, _, _, _, rfl, .ty _, tyx r, (kit_ty (kit_at d T)).trans (congrArg some (isT_s d T k q)), hq W H _ .refl ⟨s, rfl⟩⟩
theorem de_isi {T : Ty} (hg : Gl X "isinstance") (hm : X.mg "isinstance" = none) (hgx : Gl X x) (hmx : X.mg x = none) (hvx : bootBuiltins x = some (.type T.nm)) (h1 : DO X Wx a o1)
    (hs1 : starEach [.Name x p2] X.env = (false, eval (.Name x p2) X.env) :: starEach [] X.env := by rfl) (hs : starEach [a, .Name x p2] X.env = (false, eval a X.env) :: starEach [.Name x p2] X.env := by rfl)
    (hpl : (backTo pos (starEach [.Name x p2] X.env)).any (·.1) = false := by rfl) (hn : x ≠ "__name__" := by decide) (hd : (x == ("__debug__" : Str)) = false := by decide) :
    DE X Wx (.Call (.Name "isinstance" p) [a, .Name x p2] [] pos) (f1 o1 (isiD T)) :=
  ⟨pe_imp (pe_callB call_isi hg hm boot_isi (pa_cons h1.pe (pa_cons (pe_bltn hgx hmx hvx (v := .ty T.nm) rfl hn hd) pa_nil hs1) hs) (by decide) (by decide) hs hpl) fun _ _ _ q => rd1 vr_isi h1.evo q, evo_f1 h1.evo⟩
/-! ### join -/
def joinX (x : Str) : D → Option R
  | .lst ds => match strsD ds with
    | some ys => if (ys.map (·.length)).sum + ys.length * x.length ≤ 16777216 then some (.frz (.str (Txt.join x ys))) else none
    | none => none
  | .tup ds => match strsD ds with
    | some ys => if (ys.map (·.length)).sum + ys.length * x.length ≤ 16777216 then some (.frz (.str (Txt.join x ys))) else none
    | none => none
  | _ => none
theorem vr_join {K : PySem.W.Frag} {x : Str} : VR1 (fun y H Q => ∃ p, ∃ ys : List Str, y = .ref p ∧ (SqL K H p (ys.map V.str) ∨ SqT K H p (ys.map V.str)) ∧ (ys.map (·.length)).sum + ys.length * x.length ≤ 16777216 ∧ Q (.str (Txt.join x ys)) H) (joinX x) := by
  intro W B σ H ρ v d res Q s r hg hq
  unfold joinX at hg
  split at hg
  · split at hg
    · rename_i ys q
      split at hg
      · rename_i hz
        cases hg
        obtain ⟨p, ws, rfl, hp, rr⟩ := r.lst
        have e := strsD_rep q rr
        subst e
        exact ⟨p, ys, rfl, .inl (SqL.of hp), hz, hq W H _ .refl ⟨s, rfl⟩⟩
      · cases hg
    · cases hg
  · split at hg
    · rename_i ys q
      split at hg
      · rename_i hz
        cases hg
        obtain ⟨p, ws, rfl, hp, _, rr⟩ := r.tup
        have e := strsD_rep q rr
        subst e
        exact ⟨p, ys, rfl, .inr hp.sq, hz, hq W H _ .refl ⟨s, rfl⟩⟩
      · cases hg
    · cases hg
  · cases hg
/-- the text ahead of the point, then what it is called with -/
def jK (o2 : Opd) : R → M R
  | .frz (.str x) => f1 o2 (joinX x)
  | _ => fun _ => none
theorem evo_jK (h : o2.Evo) (r : R) : EvoF (jK o2 r) := by
  cases r with
  | own d => exact fun _ _ z => nomatch z
  | frz d =>
    cases d with
    | str x => exact evo_f1 h
    | _ => exact fun _ _ z => nomatch z
def fJoin (fe : M R) (o2 : Opd) : M R := mbind fe (jK o2)
theorem de_join {apos : Pos} (h1 : DE X Wx a fe) (h2 : DO X Wx b o2) (hs : starEach [b] X.env = [(false, eval b X.env)] := by rfl) (hbase : attributeBase a "join" X.env (eval a X.env) = eval a X.env := by rfl) (hline : (apos.endLine == pos.line) = true := by rfl) :
    DE X Wx (.Call (.Attribute a "join" apos) [b] [] pos) (fJoin fe o2) := by
  refine ⟨pe_imp (pe_join h1.pe h2.pe hs hbase hline) fun σ H Q ⟨W, B, ρ, s, a⟩ => ?_, evo_bind h1.evo fun r => evo_jK h2.evo r⟩
  refine ⟨W, B, ρ, s, (After.bind a).mono fun W1 H1 r ρ1 _ _ a1 v hv => ?_⟩
  cases r with
  | own d => exact a1.elim
  | frz d =>
    cases d with
    | str x =>
      obtain ⟨s1, rv⟩ := hv
      have e : v = .str x := rv
      have k : rdE X.mg Wx (f1 o2 (joinX x)) σ H1 Q := ⟨W1, B, ρ1, s1, a1⟩
      exact ⟨⟨x, e⟩, mono_rdO (rd1 vr_join h2.evo k) fun y H2 ⟨p, ys, ey, q1, q2, q3⟩ => ⟨x, p, ys, e, by rw [ey], q1, q2, q3⟩⟩
    | _ => exact a1.elim
end
end Dz
/-! Dz 12: what changes an object that a name owns or has on loan. -/
namespace Dz
open PySem PySem.Spec PyProof.Rows L2
theorem Fr.upd {W : AP} {H : Hp} {a : Addr} {o : HO} (wa : W a) : Fr W H W (upd H a o) := ⟨fun b u e n => by rw [upd_ne (fun z => n (by rw [z]; exact wa))]; exact e, fun _ z => .inl z⟩
theorem St.mut {W B : AP} {σ : L2.St} {H : Hp} {ρ : Env} (s : St W B σ H ρ) {i : Nat} {t t' : Slot} {a : Addr} {o : HO} (e : ρ[i]? = some t) (hw : t.wr = true) (ev : sv σ i = some (.ref a)) (wa : W a) (hw' : t'.wr = true)
    (hs : SlotOk W B (upd H a o) (some (.ref a)) t') : St W B σ (upd H a o) (ρ.set i t') := by
  have hi : i < ρ.length := (List.getElem?_eq_some_iff.mp e).1
  have fr : Fr W H W (upd H a o) := Fr.upd wa
  have keepA : ∀ b u, H b = some u → ¬ (fun c => c = a) b → upd H a o b = some u := fun b u k n => by rw [upd_ne n]; exact k
  have sub : ∀ b, (fun c => c = a) b → Eo W B b := fun b z => .inl (z ▸ wa)
  refine ⟨by rw [List.length_set]; exact s.len, fun j v k => ?_, fun b z => ?_, s.dis, fun j k v v' b hjk p q w1 w2 x1 x2 => ?_⟩
  · by_cases hj : i = j
    · subst hj
      rw [List.getElem?_set_self hi] at k
      cases k
      rw [ev]
      exact hs
    · rw [List.getElem?_set_ne hj] at k
      have q := s.slot j v k
      cases v with
      | emp => trivial
      | frz d => obtain ⟨x, e1, r⟩ := q; exact ⟨x, e1, r.fr fr⟩
      | own d =>
        obtain ⟨c, e1, w, r⟩ := q
        exact ⟨c, e1, w, r.mono (M := fun c => c = a) (fun _ z => .inl z) keepA sub fun (z : c = a) => s.apart i j t _ a hj e k hw rfl ev (by rw [e1, z])⟩
      | lent d =>
        obtain ⟨c, e1, w, r⟩ := q
        exact ⟨c, e1, w, r.mono (M := fun c => c = a) (fun _ z => .inl z) keepA sub fun (z : c = a) => s.apart i j t _ a hj e k hw rfl ev (by rw [e1, z])⟩
      | bor d =>
        obtain ⟨c, e1, w, r⟩ := q
        exact ⟨c, e1, w, r.mono (M := fun c => c = a) (fun _ z => .inl z) keepA sub fun (z : c = a) => s.dis a wa (z ▸ w)⟩
  · have q := s.dom b z
    unfold upd
    split
    · simp
    · exact q
  · have hne : ∀ (l : Nat) (x : Slot), (ρ.set i t')[l]? = some x → x.wr = true → ∃ y : Slot, ρ[l]? = some y ∧ y.wr = true := fun l x y wx => by
      by_cases hl : i = l
      · subst hl
        exact ⟨t, e, hw⟩
      · rw [List.getElem?_set_ne hl] at y
        exact ⟨x, y, wx⟩
    obtain ⟨y1, p1, p2⟩ := hne j v p w1
    obtain ⟨y2, q1, q2⟩ := hne k v' q w2
    exact s.apart j k y1 y2 b hjk p1 q1 p2 q2 x1 x2
theorem AfterS.sub {mg : Str → Option Value} {Wx : WX} {W W0 B : AP} {σ : L2.St} {H : Hp} {o : Option (Res Fl)} {D : Ends} (h : AfterS mg Wx W B σ H o D) (hW : ∀ a, W0 a → W a) : AfterS mg Wx W0 B σ H o D := by
  cases o with
  | none => exact h
  | some r =>
    cases r with
    | err e ρ' => exact fun W' σ' H' c d f k s x => h W' σ' H' c d ((Fr.less hW).trans f) k s x
    | ok a ρ' => exact fun W' σ' H' f k => h W' σ' H' ((Fr.less hW).trans f) k
/-! ### the change of what a name has -/
def mutM (i : Nat) (g : D → Option (D × D)) : M R := fun ρ =>
  match ρ[i]? with
  | some (.own d) => match g d with
    | some (d', r) => some (.ok (.frz r) (ρ.set i (.own d')))
    | none => none
  | some (.lent d) => match g d with
    | some (d', r) => some (.ok (.frz r) (ρ.set i (.lent d')))
    | none => none
  | _ => none
theorem evo_lent {ρ : Env} {i : Nat} {d d' : D} (e : ρ[i]? = some (.lent d)) : Evo ρ (ρ.set i (.lent d')) := by
  have hi : i < ρ.length := (List.getElem?_eq_some_iff.mp e).1
  refine ⟨by simp, fun j x k => ?_, fun j x k => ?_, fun j x k => ?_⟩
  · by_cases q : i = j
    · subst q; rw [List.getElem?_set_self hi] at k; cases k
    · rw [List.getElem?_set_ne q] at k; exact k
  · by_cases q : i = j
    · subst q; exact ⟨d', by rw [List.getElem?_set_self hi]⟩
    · exact ⟨x, by rw [List.getElem?_set_ne q]; exact k⟩
  · by_cases q : i = j
    · subst q; exact ⟨d, e⟩
    · rw [List.getElem?_set_ne q] at k; exact ⟨x, k⟩
theorem evo_mutM {i : Nat} {g : D → Option (D × D)} : EvoF (mutM i g) := fun ρ o h => by
  unfold mutM at h
  split at h
  · rename_i d e
    split at h
    · cases h
      exact .set e (fun _ z => nomatch z) (fun _ z => nomatch z) (fun _ z => nomatch z)
    · cases h
  · rename_i d e
    split at h
    · cases h
      exact evo_lent e
    · cases h
  · cases h
theorem mutM_ok {mg : Str → Option Value} {Wx : WX} {W B : AP} {σ : L2.St} {H : Hp} {ρ : Env} {i : Nat} {g : D → Option (D × D)} {Q : AP → Hp → R → Env → Prop} (s : St W B σ H ρ) (a : After mg Wx W B σ H (mutM i g ρ) Q) :
    ∃ c d d' r, sv σ i = some (.ref c) ∧ W c ∧ Top (Eo W B) H c d ∧ g d = some (d', r) ∧ ∀ o, Top (Eo W B) (upd H c o) c d' → ∃ ρ', St W B σ (upd H c o) ρ' ∧ Q W (upd H c o) (.frz r) ρ' := by
  unfold mutM at a
  split at a
  · rename_i d e
    split at a
    · rename_i d' r k
      obtain ⟨c, e1, wc, t⟩ := s.slot i _ e
      exact ⟨c, d, d', r, e1, wc, t, k, fun o tp => ⟨_, s.mut (t' := .own d') e rfl e1 wc rfl ⟨c, rfl, wc, tp⟩, a W _ (Fr.upd wc)⟩⟩
    · exact a.elim
  · rename_i d e
    split at a
    · rename_i d' r k
      obtain ⟨c, e1, wc, t⟩ := s.slot i _ e
      exact ⟨c, d, d', r, e1, wc, t, k, fun o tp => ⟨_, s.mut (t' := .lent d') e rfl e1 wc rfl ⟨c, rfl, wc, tp⟩, a W _ (Fr.upd wc)⟩⟩
    · exact a.elim
  · exact a.elim
/-- the name's object is a list (or, k, a dictionary) that may be written -/
def isLs : D → Bool
  | .lst _ => true
  | _ => false
def needW (i : Nat) (k : D → Bool) : M Unit := fun ρ =>
  match ρ[i]? with
  | some (.own d) => if k d then some (.ok () ρ) else none
  | some (.lent d) => if k d then some (.ok () ρ) else none
  | _ => none
theorem evo_needW {i : Nat} {k : D → Bool} : EvoF (needW i k) := fun ρ o h => by
  unfold needW at h
  split at h
  · split at h
    · cases h; exact .refl _
    · cases h
  · split at h
    · cases h; exact .refl _
    · cases h
  · cases h
theorem needW_ok {mg : Str → Option Value} {Wx : WX} {W B : AP} {σ : L2.St} {H : Hp} {ρ : Env} {i : Nat} {k : D → Bool} {Q : AP → Hp → Unit → Env → Prop} (s : St W B σ H ρ) (a : After mg Wx W B σ H (needW i k ρ) Q) :
    ∃ c d, sv σ i = some (.ref c) ∧ W c ∧ Top (Eo W B) H c d ∧ k d = true ∧ Q W H () ρ := by
  unfold needW at a
  split at a
  · rename_i d e
    split at a
    · rename_i hk
      obtain ⟨c, e1, wc, t⟩ := s.slot i _ e
      exact ⟨c, d, e1, wc, t, hk, a.here⟩
    · exact a.elim
  · rename_i d e
    split at a
    · rename_i hk
      obtain ⟨c, e1, wc, t⟩ := s.slot i _ e
      exact ⟨c, d, e1, wc, t, hk, a.here⟩
    · exact a.elim
  · exact a.elim
/-- what a method does to the object, by the data of its arguments -/
def VRM (r : V → List V → Hp → VK → Prop) (g : List D → D → Option (D × D)) : Prop := ∀ (W B : AP) (H : Hp) (a : Addr) (vs : List V) (ds : List D) (d d' r' : D) (Q : VK), W a → Top (Eo W B) H a d → Reps (Eo W B) H ds vs → g ds d = some (d', r') →
  (∀ o v, Top (Eo W B) (upd H a o) a d' → Rep (Eo W B) (upd H a o) r' v → Q v (upd H a o)) → r (.ref a) vs H Q
/-- arguments that are only looked at -/
def VRMo (r : V → List V → Hp → VK → Prop) (g : List D → D → Option (D × D)) : Prop := ∀ (W B : AP) (H : Hp) (a : Addr) (vs : List V) (ds : List D) (d d' r' : D) (Q : VK), W a → Top (Eo W B) H a d → PReps (Eo W B) H ds vs → g ds d = some (d', r') →
  (∀ o v, Top (Eo W B) (upd H a o) a d' → Rep (Eo W B) (upd H a o) r' v → Q v (upd H a o)) → r (.ref a) vs H Q
def fMut (i : Nat) (fs : List (M R)) (g : List D → D → Option (D × D)) : M R := mbind (needW i isLs) fun _ => mbind (evF fs) fun ds => mutM i (g ds)
def fMutO (i : Nat) (os : List Opd) (g : List D → D → Option (D × D)) : M R := mbind (needW i isLs) fun _ => mbind (evs os) fun ds => mutM i (g ds)
theorem Top.isL {N : AP} {H : Hp} {c : Addr} {d : D} (t : Top N H c d) (h : isLs d = true) : ∃ ds vs, d = .lst ds ∧ H c = some (.lst vs) ∧ Reps N H ds vs := by
  cases d with
  | lst ds => obtain ⟨vs, e, r⟩ := t; exact ⟨ds, vs, rfl, e, r⟩
  | _ => cases h
section
variable {X : Cx} {Wx : WX} {o e : Expr} {es : List Expr} {os : List Opd} {apos pos : Pos} {x : Str} {fe : M R} {fs : List (M R)} {name : Str} {fid : String} {r : V → List V → Hp → VK → Prop} {g : List D → D → Option (D × D)} {i : Nat}
theorem rd_mut (hr : VRM r g) {K : PySem.W.Frag} {mg : Str → Option Value} {σ : L2.St} {H : Hp} {Q : VK} (h : rdE mg Wx (fMut i fs g) σ H Q) :
    ∃ v, σ[i]? = some (some v) ∧ tyV K "list" v H ∧ rdF mg Wx fs σ H fun vs H2 => r v vs H2 Q := by
  obtain ⟨W, B, ρ, s, a⟩ := h
  obtain ⟨c, d, e1, wc, t, hl, a1⟩ := needW_ok s (After.bind a)
  obtain ⟨ds, vs, rfl, hc, _⟩ := t.isL hl
  refine ⟨.ref c, sv_some e1, .inl ⟨rfl, vs, .inl (.inl hc)⟩, W, B, ρ, s, (After.bind a1).mono fun W1 H1 ds1 ρ1 _ _ a2 vs1 s1 rs => ?_⟩
  obtain ⟨c', d2, d', r', e2, wc', t2, k, nx⟩ := mutM_ok s1 a2
  rw [e1] at e2
  cases e2
  refine hr W1 B H1 c vs1 ds1 d2 d' r' Q wc' t2 rs k fun o v tp rv => ?_
  obtain ⟨ρ', s', q⟩ := nx o tp
  exact q v ⟨s', rv⟩
theorem rd_mutO (hr : VRMo r g) {K : PySem.W.Frag} {mg : Str → Option Value} {σ : L2.St} {H : Hp} {Q : VK} (h : rdE mg Wx (fMutO i os g) σ H Q) :
    ∃ v, σ[i]? = some (some v) ∧ tyV K "list" v H ∧ rdOs mg Wx os σ H fun vs H2 => r v vs H2 Q := by
  obtain ⟨W, B, ρ, s, a⟩ := h
  obtain ⟨c, d, e1, wc, t, hl, a1⟩ := needW_ok s (After.bind a)
  obtain ⟨ds, vs, rfl, hc, _⟩ := t.isL hl
  refine ⟨.ref c, sv_some e1, .inl ⟨rfl, vs, .inl (.inl hc)⟩, W, B, ρ, s, (After.bind a1).mono fun W1 H1 ds1 ρ1 _ _ a2 vs1 s1 rs => ?_⟩
  obtain ⟨c', d2, d', r', e2, wc', t2, k, nx⟩ := mutM_ok s1 a2
  rw [e1] at e2
  cases e2
  refine hr W1 B H1 c vs1 ds1 d2 d' r' Q wc' t2 rs k fun o v tp rv => ?_
  obtain ⟨ρ', s', q⟩ := nx o tp
  exact q v ⟨s', rv⟩
theorem evo_mut (h : ∀ f ∈ fs, EvoF f) : EvoF (fMut i fs g) := evo_bind evo_needW fun _ => evo_bind (evo_evF h) fun _ => evo_mutM
theorem evo_mutO (h : ∀ o ∈ os, o.Evo) : EvoF (fMutO i os g) := evo_bind evo_needW fun _ => evo_bind (evo_evs h) fun _ => evo_mutM
theorem de_mut (slot : PySem.Slot "list" name fid) (hty : typeOf (.builtin fid) = pure (.type "method_descriptor")) (hm : MtR X fid r) (hr : VRM r g) (ho : PE X o (tVar i)) (ha : DF X Wx (e :: es) fs)
    (hbase : attributeBase o name X.env (eval o X.env) = eval o X.env := by rfl)
    (hfew : ((backTo pos (starEach (e :: es) X.env)).all (fun x => !x.1) && (backToKw pos (keywordEach [] X.env)).all (fun x => x.1.isSome)
      && decide ((e :: es).length + ([] : List Keyword).length + (if ([] : List Keyword).isEmpty then 0 else 1) < 30)) = true := by rfl)
    (hline : (apos.endLine == pos.line) = true := by rfl) (hs : starEach (e :: es) X.env = (false, eval e X.env) :: starEach es X.env := by rfl) (hplain : (backTo pos (starEach es X.env)).any (·.1) = false := by rfl) :
    DE X Wx (.Call (.Attribute o name apos) (e :: es) [] pos) (fMut i fs g) :=
  ⟨pe_imp (pe_bm PySem.F.plainAttrs_list slot hty hm ho ha.pa hbase hfew hline hs hplain) fun _ _ _ q => rd_mut hr q, evo_mut ha.evo⟩
theorem de_mutO (slot : PySem.Slot "list" name fid) (hty : typeOf (.builtin fid) = pure (.type "method_descriptor")) (hm : MtR X fid r) (hr : VRMo r g) (ho : PE X o (tVar i)) (ha : DOs X Wx (e :: es) os)
    (hbase : attributeBase o name X.env (eval o X.env) = eval o X.env := by rfl)
    (hfew : ((backTo pos (starEach (e :: es) X.env)).all (fun x => !x.1) && (backToKw pos (keywordEach [] X.env)).all (fun x => x.1.isSome)
      && decide ((e :: es).length + ([] : List Keyword).length + (if ([] : List Keyword).isEmpty then 0 else 1) < 30)) = true := by rfl)
    (hline : (apos.endLine == pos.line) = true := by rfl) (hs : starEach (e :: es) X.env = (false, eval e X.env) :: starEach es X.env := by rfl) (hplain : (backTo pos (starEach es X.env)).any (·.1) = false := by rfl) :
    DE X Wx (.Call (.Attribute o name apos) (e :: es) [] pos) (fMutO i os g) :=
  ⟨pe_imp (pe_bm PySem.F.plainAttrs_list slot hty hm ho ha.pa hbase hfew hline hs hplain) fun _ _ _ q => rd_mutO hr q, evo_mutO ha.evo⟩
theorem rdF_nil {mg : Str → Option Value} {σ : L2.St} {H : Hp} {Q : List V → Hp → Prop} (h : rdF mg Wx [] σ H Q) : Q [] H := by
  obtain ⟨W, B, ρ, s, a⟩ := h
  exact a.here [] s rfl
theorem de_mut0 (slot : PySem.Slot "list" name fid) (hty : typeOf (.builtin fid) = pure (.type "method_descriptor")) (hm : MtR X fid r) (hr : VRM r g) (ho : PE X o (tVar i))
    (hbase : attributeBase o name X.env (eval o X.env) = eval o X.env := by rfl) (hline : (apos.endLine == pos.line) = true := by rfl) :
    DE X Wx (.Call (.Attribute o name apos) [] [] pos) (fMut i [] g) :=
  ⟨pe_imp (pe_bm0 PySem.F.plainAttrs_list slot hty hm ho hbase hline) fun _ _ _ q => let ⟨v, e, t, k⟩ := rd_mut hr q; ⟨v, e, t, rdF_nil k⟩, evo_mut fun _ z => nomatch z⟩
/-! #### append, extend, pop, clear -/
def appD : List D → D → Option (D × D)
  | [v], .lst xs => if xs.length < sizeLine then some (.lst (xs ++ [v]), .non) else none
  | _, _ => none
theorem Reps.snoc {N : AP} {H : Hp} {ds ds2 : List D} {vs vs2 : List V} (h : Reps N H ds vs) (k : Reps N H ds2 vs2) : Reps N H (ds ++ ds2) (vs ++ vs2) := by
  induction ds generalizing vs with
  | nil => rw [show vs = [] from h]; exact k
  | cons d ds ih => obtain ⟨v, r, rfl, p, q⟩ := h; exact ⟨v, r ++ vs2, rfl, p, ih q⟩
theorem vrm_append : VRM rAppend appD := by
  intro W B H a vs ds d d' r' Q wa t rs hg hq
  unfold appD at hg
  split at hg
  · rename_i v xs
    split at hg
    · rename_i hz
      cases hg
      obtain ⟨ws, e, r⟩ := t
      obtain ⟨y, _, rfl, p, z⟩ := rs
      rw [show _ = [] from z]
      exact ⟨a, ws, y, rfl, rfl, e, by rw [r.length]; exact hz, hq _ _ ⟨_, upd_same, (Reps.snoc r (show Reps (Eo W B) H [v] [y] from ⟨y, [], rfl, p, rfl⟩)).fr (Fr.upd wa)⟩ rfl⟩
    · cases hg
  · cases hg
theorem de_append (ho : PE X o (tVar i)) (ha : DF X Wx [e] fs) (hbase : attributeBase o "append" X.env (eval o X.env) = eval o X.env := by rfl)
    (hfew : ((backTo pos (starEach [e] X.env)).all (fun x => !x.1) && (backToKw pos (keywordEach [] X.env)).all (fun x => x.1.isSome)
      && decide ([e].length + ([] : List Keyword).length + (if ([] : List Keyword).isEmpty then 0 else 1) < 30)) = true := by rfl)
    (hline : (apos.endLine == pos.line) = true := by rfl) (hs : starEach [e] X.env = (false, eval e X.env) :: starEach [] X.env := by rfl) :
    DE X Wx (.Call (.Attribute o "append" apos) [e] [] pos) (fMut i fs appD) := de_mut PySem.F.slot_list_append PySem.F.type_list_append mt_append vrm_append ho ha hbase hfew hline hs
def extD : List D → D → Option (D × D)
  | [.lst ys], .lst xs => if xs.length + ys.length ≤ sizeLine then some (.lst (xs ++ ys), .non) else none
  | _, _ => none
theorem vrm_extend : VRMo rExtend extD := by
  intro W B H a vs ds d d' r' Q wa t rs hg hq
  unfold extD at hg
  split at hg
  · rename_i ys xs
    split at hg
    · rename_i hz
      cases hg
      obtain ⟨ws, e, r⟩ := t
      obtain ⟨v, rfl, p⟩ := preps1 rs
      obtain ⟨b, us, rfl, hb, r2⟩ := p.lst
      exact ⟨a, b, ws, us, rfl, rfl, e, hb, by rw [r.length, r2.length]; exact hz, hq _ _ ⟨_, upd_same, (Reps.snoc r r2).fr (Fr.upd wa)⟩ rfl⟩
    · cases hg
  · cases hg
theorem de_extend (ho : PE X o (tVar i)) (ha : DOs X Wx [e] os) (hbase : attributeBase o "extend" X.env (eval o X.env) = eval o X.env := by rfl)
    (hfew : ((backTo pos (starEach [e] X.env)).all (fun x => !x.1) && (backToKw pos (keywordEach [] X.env)).all (fun x => x.1.isSome)
      && decide ([e].length + ([] : List Keyword).length + (if ([] : List Keyword).isEmpty then 0 else 1) < 30)) = true := by rfl)
    (hline : (apos.endLine == pos.line) = true := by rfl) (hs : starEach [e] X.env = (false, eval e X.env) :: starEach [] X.env := by rfl) :
    DE X Wx (.Call (.Attribute o "extend" apos) [e] [] pos) (fMutO i os extD) := de_mutO PySem.F.slot_list_extend PySem.F.type_list_extend mt_extend vrm_extend ho ha hbase hfew hline hs
def popD : List D → D → Option (D × D)
  | [], .lst xs => match xs[xs.length - 1]? with
    | some v => some (.lst xs.dropLast, v)
    | none => none
  | _, _ => none
theorem vrm_pop : VRM rPop popD := by
  intro W B H a vs ds d d' r' Q wa t rs hg hq
  unfold popD at hg
  split at hg
  · rename_i xs
    split at hg
    · rename_i v hv
      cases hg
      obtain ⟨ws, e, r⟩ := t
      rw [show vs = [] from rs]
      obtain ⟨y, ey, ry⟩ := r.get hv
      refine ⟨a, ws, y, rfl, rfl, e, by rw [r.length]; exact ey, hq _ _ ⟨_, upd_same, ?_⟩ (ry.fr (Fr.upd wa))⟩
      rw [List.dropLast_eq_take, List.dropLast_eq_take, r.length]
      exact (r.take _).fr (Fr.upd wa)
    · cases hg
  · cases hg
theorem de_pop (ho : PE X o (tVar i)) (hbase : attributeBase o "pop" X.env (eval o X.env) = eval o X.env := by rfl) (hline : (apos.endLine == pos.line) = true := by rfl) :
    DE X Wx (.Call (.Attribute o "pop" apos) [] [] pos) (fMut i [] popD) := de_mut0 PySem.F.slot_list_pop PySem.F.type_list_pop mt_pop vrm_pop ho hbase hline
def popAtD : List D → D → Option (D × D)
  | [.int i], .lst xs => if -(2 ^ 63) ≤ i ∧ i < 2 ^ 63 then match seqIndex? i xs.length with
    | some k => match xs[k]? with
      | some v => some (.lst (xs.eraseIdx k), v)
      | none => none
    | none => none
    else none
  | _, _ => none
theorem Reps.erase {N : AP} {H : Hp} : ∀ {ds : List D} {vs : List V} (k : Nat), Reps N H ds vs → Reps N H (ds.eraseIdx k) (vs.eraseIdx k)
  | [], _, _, h => by rw [show _ = [] from h]; exact rfl
  | d :: ds, _, 0, ⟨v, r, e, p, q⟩ => by rw [e]; exact q
  | d :: ds, _, k + 1, ⟨v, r, e, p, q⟩ => by rw [e]; exact ⟨v, r.eraseIdx k, rfl, p, Reps.erase k q⟩
theorem vrm_popAt : VRM rPopAt popAtD := by
  intro W B H a vs ds d d' r' Q wa t rs hg hq
  unfold popAtD at hg
  split at hg
  · rename_i i xs
    split at hg
    · rename_i hz
      split at hg
      · rename_i k hk
        split at hg
        · rename_i v hv
          cases hg
          obtain ⟨ws, e, r⟩ := t
          obtain ⟨y, _, rfl, p, z⟩ := rs
          rw [show _ = [] from z, show y = .int i from p]
          obtain ⟨u, eu, ru⟩ := r.get hv
          exact ⟨a, ws, i, k, u, rfl, rfl, e, hz.1, hz.2, by rw [r.length]; exact hk, eu, hq _ _ ⟨_, upd_same, (r.erase k).fr (Fr.upd wa)⟩ (ru.fr (Fr.upd wa))⟩
        · cases hg
      · cases hg
    · cases hg
  · cases hg
theorem de_popAt (ho : PE X o (tVar i)) (ha : DF X Wx [e] fs) (hbase : attributeBase o "pop" X.env (eval o X.env) = eval o X.env := by rfl)
    (hfew : ((backTo pos (starEach [e] X.env)).all (fun x => !x.1) && (backToKw pos (keywordEach [] X.env)).all (fun x => x.1.isSome)
      && decide ([e].length + ([] : List Keyword).length + (if ([] : List Keyword).isEmpty then 0 else 1) < 30)) = true := by rfl)
    (hline : (apos.endLine == pos.line) = true := by rfl) (hs : starEach [e] X.env = (false, eval e X.env) :: starEach [] X.env := by rfl) :
    DE X Wx (.Call (.Attribute o "pop" apos) [e] [] pos) (fMut i fs popAtD) := de_mut PySem.F.slot_list_pop PySem.F.type_list_pop mt_popAt vrm_popAt ho ha hbase hfew hline hs
/-! ### a store at a place; name += -/
def VRP (r : V → V → V → Hp → (Hp → Prop) → Prop) (g : D → D → D → Option D) : Prop := ∀ (W B : AP) (H : Hp) (a : Addr) (jv ev : V) (d d' j x : D) (Q : Hp → Prop), W a → Top (Eo W B) H a d → PRep (Eo W B) H j jv → Rep (Eo W B) H x ev → g j x d = some d' →
  (∀ o, Top (Eo W B) (upd H a o) a d' → Q (upd H a o)) → r (.ref a) jv ev H Q
def putD1 (g : D → D → D → Option D) (x : D) : List D → D → Option (D × D)
  | [j], d => (g j x d).map fun d' => (d', .non)
  | _, _ => none
def sPut (i : Nat) (o : Opd) (fe : M R) (g : D → D → D → Option D) : M Fl := mbind fe fun r => mbind (needSl i) fun _ => mbind (evs [o]) fun ds => mbind (mutM i (putD1 g r.d ds)) fun _ => mret .next
theorem evo_put {oj : Opd} {g : D → D → D → Option D} {d : D} (h : oj.Evo) : EvoF (mbind (needSl i) fun _ => mbind (evs [oj]) fun ds => mbind (mutM i (putD1 g d ds)) fun _ => mret Fl.next) :=
  evo_bind evo_needSl fun _ => evo_bind (evo_evs fun o z => by rcases List.mem_cons.mp z with e | z; exact e ▸ h; exact (List.not_mem_nil z).elim) fun _ => evo_bind evo_mutM fun _ => evo_ret _
theorem ds_put {j : Expr} {oj : Opd} {rp : V → V → V → Hp → (Hp → Prop) → Prop} {gp : D → D → D → Option D} {tpos : Pos} (hp : PSet X rp) (hr : VRP rp gp) (he : DE X Wx e fe) (ho : PE X o (tVar i)) (hj : DO X Wx j oj)
    (hs : swapsWithSole [.Subscript o j tpos] e pos.line X.env = pure false := by rfl) (hw : swappedStores [.Subscript o j tpos] e X.env = pure none := by rfl)
    (h1 : (assignEach [.Subscript o j tpos] X.env).map (·.2) = [assign (.Subscript o j tpos) X.env] := by rfl)
    (ha : ∀ v, assign (.Subscript o j tpos) X.env v = (do
      let ov ← holding [v] (eval o X.env)
      let iv ← holding [v, ov] (eval j X.env)
      standAt tpos
      holding [v, ov, iv] (setItem ov iv v)
      release [v, ov, iv] []) := by intro _; rfl) : DS X Wx (.Assign [.Subscript o j tpos] e pos) (sPut i oj fe gp) := by
  refine ⟨ps_imp (ps_asg he.pe (pg_sub ho hj.pe hp ha) hs hw h1) fun D σ H ⟨W, B, ρ, s, a⟩ => ?_, evo_bind he.evo fun r => evo_put hj.evo⟩
  refine ⟨W, B, ρ, s, (a.bindE fun r => evo_put hj.evo).mono fun W1 H1 r ρ1 _ _ a1 v hv => ?_⟩
  obtain ⟨W0, hW, s1, rv⟩ := hv.any
  have a1 := AfterS.sub a1 hW
  have a2 := a1.bindE fun _ => evo_bind (evo_evs fun o z => by rcases List.mem_cons.mp z with e | z; exact e ▸ hj.evo; exact (List.not_mem_nil z).elim) fun _ => evo_bind evo_mutM fun _ => evo_ret _
  unfold needSl at a2
  split at a2
  · rename_i d0 e0
    obtain ⟨v0, ev0, _⟩ := s1.at e0
    have a3 := a2.here
    have k : rdOs X.mg Wx [oj] σ H1 fun vs H2 => ∃ jv, vs = [jv] ∧ rp v0 jv v H2 fun H3 => D.nx σ H3 := by
      refine ⟨W0, B, ρ1, s1, (a3.bindE fun _ => evo_bind evo_mutM fun _ => evo_ret _).mono fun W2 H2 ds ρ2 _ fr2 a4 vs s2 prs => ?_⟩
      obtain ⟨c, d, d', r', e2, wc, t, kg, nx⟩ := mutM_ok s2 (a4.bindE fun _ => evo_ret _)
      rw [ev0] at e2
      cases e2
      cases ds with
      | nil => cases kg
      | cons jd ds =>
        cases ds with
        | cons _ _ => cases kg
        | nil =>
          obtain ⟨jv, rfl, pj⟩ := preps1 prs
          have kg : (gp jd r.d d).map (fun d' => (d', Dz.D.non)) = some (d', r') := kg
          cases eg : gp jd r.d d with
          | none => rw [eg] at kg; cases kg
          | some dd =>
            rw [eg] at kg
            cases kg
            refine ⟨jv, rfl, hr W2 B H2 c jv v d d' jd r.d _ wc t pj (rv.fr fr2) eg fun o tp => ?_⟩
            obtain ⟨ρ', s', q⟩ := nx o tp
            exact q.here s'
    refine ⟨v0, sv_some ev0, mono_rdO (rdOs_cons hj.evo (fun _ z => (List.not_mem_nil z).elim) k) fun jv H2 q => ?_⟩
    obtain ⟨jv', e, q⟩ := rdOs_nil q
    cases e
    exact q
  · exact a2.elim
def setLD : D → D → D → Option D
  | .int i, x, .lst xs => (ixN xs.length i).map fun j => .lst (xs.set j x)
  | _, _, _ => none
theorem Reps.setAt {N : AP} {H : Hp} : ∀ {ds : List D} {vs : List V} {d : D} {v : V} (k : Nat), Reps N H ds vs → Rep N H d v → Reps N H (ds.set k d) (vs.set k v)
  | [], _, _, _, _, h, _ => by rw [show _ = [] from h]; exact rfl
  | _ :: ds, _, d, v, 0, ⟨w, r, e, p, q⟩, h => by rw [e]; exact ⟨v, r, rfl, h, q⟩
  | _ :: ds, _, d, v, k + 1, ⟨w, r, e, p, q⟩, h => by rw [e]; exact ⟨w, r.set k v, rfl, p, Reps.setAt k q h⟩
theorem vrp_setL : VRP rSetL setLD := by
  intro W B H a jv ev d d' j x Q wa t pj rx hg hq
  unfold setLD at hg
  split at hg
  · rename_i i xs
    cases e : ixN xs.length i with
    | none => rw [e] at hg; cases hg
    | some k =>
      rw [e] at hg
      cases hg
      obtain ⟨ws, eh, r⟩ := t
      exact ⟨a, ws, i, k, rfl, pj.int, eh, by rw [r.length]; exact e, hq _ ⟨_, upd_same, (r.setAt k rx).fr (Fr.upd wa)⟩⟩
  · cases hg
def isInt : D → Option Int
  | .int i => some i
  | _ => none
def getI (i : Nat) : M Int := fun ρ =>
  match ρ[i]? with
  | some (.frz (.int n)) => some (.ok n ρ)
  | _ => none
theorem evo_getI {i : Nat} : EvoF (getI i) := fun ρ o h => by
  unfold getI at h
  split at h
  · cases h; exact .refl _
  · cases h
/-- a count goes up -/
def sInc (i : Nat) (o : Opd) : M Fl := mbind (getI i) fun n => mbind (f1 o fun d => (isInt d).map fun m => .frz (.int (n + m))) fun r => setSl i r
end
end Dz
/-! Dz 13: a def from its body; the law's end. -/
namespace Dz
open PySem PySem.Spec PyProof.Rows L2
/-- a def of a parameters, n names in all -/
def fnA (a n : Nat) (body : M Fl) : Fn := fun ps => if ps.length = a then runF n body ps else none
section
variable {P : Program} {w : World} {K : PySem.W.Frag} {mg : Str → Option Value} {base : Heap} {N ps : List Str} {qual x : Str} {scope : Scope} {f : Addr} {fd : FuncData} {cdv : Value} {A : Around} {outer : List Env} {s : Shared} {H : Hp} {E : XK} {params : Arguments} {body : List Stmt}
abbrev cxF (P : Program) (w : World) (K : PySem.W.Frag) (mg : Str → Option Value) (base : Heap) (N : List Str) (qual : Str) (scope : Scope) (f : Addr) (cdv : Value) (A : Around) (outer : List PySem.Env) (s : Shared) (H : Hp) (E : XK) : Cx :=
  cxOf (L2.CX P w) P w K mg base N qual scope f cdv A outer s H E
abbrev wxF (E : XK) : WX := fun c d _ H' => E c d H'
theorem takes_cx {outer : List PySem.Env} : Takes (cxF P w K mg base N qual scope f cdv A outer s H E) (wxF E) := takes_of rfl rfl rfl rfl
theorem owns_cx {outer : List PySem.Env} : PassesOwn (model P w) (cxF P w K mg base N qual scope f cdv A outer s H E).A (cxF P w K mg base N qual scope f cdv A outer s H E).env (cxF P w K mg base N qual scope f cdv A outer s H E).xe := passes_of rfl
theorem spD_arity {a n : Nat} {fb : M Fl} {vs : List V} {Q : VK} (h : spD mg (fnA a n fb) vs H Q E) : vs.length = a ∧ spD mg (runF n fb) vs H Q E := by
  obtain ⟨W, B, ps, s, no, m⟩ := h
  by_cases hl : ps.length = a
  · have e : fnA a n fb ps = runF n fb ps := if_pos hl
    rw [e] at m
    refine ⟨?_, W, B, ps, s, no, m⟩
    have := s.len
    simp at this
    omega
  · have e : fnA a n fb ps = none := if_neg hl
    rw [e] at m
    exact m.elim
theorem fnok_of {a n k : Nat} {fb : M Fl} (F : FunD K x qual params body scope [] [] f fd) (S : FnScope N ps scope) (hn : N.length = n) (ha : ps.length = a)
    (h : ∀ (cdv : Value) (A : Around) (outer : List PySem.Env) (s : Shared) (H : Hp) (E : XK), Room k (A.deeper (envOfC qual scope s.heap.objs.size f cdv)) → DSs (cxF P w K mg base N qual scope f cdv A outer s H E) (wxF E) body fb) :
    FnOk P w K mg base (L2.CX P w) (k + 1) f fd ps (spD mg (fnA a n fb)) := by
  refine F.ok S (fun vs H Q E h => ha ▸ (spD_arity h).1) fun cdv A outer s H vs Q E hr hsp => ?_
  obtain ⟨hl, hsp⟩ := spD_arity hsp
  have hd := h cdv A outer s H E hr
  refine ⟨_, hd.pss, body_ok (X := cxF P w K mg base N qual scope f cdv A outer s H E) hn hd hsp ?_⟩
  have := congrArg List.length S.pre
  rw [List.length_take] at this
  omega
theorem callee_of {a n k : Nat} {fb : M Fl} (F : FunD K x qual params body scope [] [] f fd) (S : FnScope N ps scope) (hm : mg x = some (.ref f)) (hn : N.length = n) (ha : ps.length = a) (hb : Binds K fd ps [])
    (h : ∀ (cdv : Value) (A : Around) (outer : List PySem.Env) (s : Shared) (H : Hp) (E : XK), Room k (A.deeper (envOfC qual scope s.heap.objs.size f cdv)) → DSs (cxF P w K mg base N qual scope f cdv A outer s H E) (wxF E) body fb) :
    Callee P w K mg base (k + 1) x (fnA a n fb) := ⟨f, fd, ps, fnok_of F S hn ha h, hm, F.kp, hb⟩
end
/-! ### the law's end -/
theorem walk_ofC {l : PySem.W.OpenLaw} {n k : Nat} {q : Program} {loose : List Str} {XP : (Str → Option Value) → Heap → Prop} {YP : World → Heap → Prop} {d : DefRec} {x : Str}
    (hn : l.most = some n) (hn2 : n ≤ sizeLine) (hdf : d.params.defaults = []) (hr : Room k callerA)
    (F : ∀ (w : World) (mg : Str → Option Value) (fa : Addr) (h : Heap), YP w h → h.Ns mainGlobals mg → mg d.name = some (.ref fa) →
      ∃ (K : PySem.W.Frag) (fd : FuncData) (sp : Sp), K.In h ∧ (∀ (s : Shared) (u : Value), BindsTo s fd ⟨[u], []⟩ [(x, u)]) ∧
        (∀ (H : Hp) (a : Addr) (ns : List Int), ns.length ≤ n → SqL K H a (ns.map V.int) → sp [.ref a] H (fun v _ => v = .bl true) fun _ _ _ => False) ∧
        ∀ base : Heap, K.In base → base.Ns mainGlobals mg → FnOk l.prog w K mg base (L2.CX l.prog w) k fa fd [x] sp) :
    PySem.W.WalkO q loose XP YP l.row.toRowW d [] (fun f vs => PySem.call f vs) := by
  refine Att.attach_call hn hdf fun w s₀ s₁ mg mb fa o pm cd doc a vs ns G Y ho hd hcd hmg hobj hints hlen hg => ?_
  obtain ⟨K, fd, sp, KX, hb, hsp, hF⟩ := F w mg fa _ Y G.T.g hmg
  refine law_call KX G.T.g G.T.b G.T.builtins G.T.nolimit hg hobj hints (Nat.le_trans hlen hn2) hr hF hb (fun H hO hS => hsp H a ns hlen hS) fun H e s' h => ?_
  obtain ⟨_, _, _, _, _, _, _, _, _, _, _, _, z⟩ := h
  exact z
/-! ### the hook: what the heap says behind the top, and that no list is part of what is read -/
def noL (K : PySem.W.Frag) : Bool := K.all fun p => !(p.2.cls == Value.type "list")
theorem noL_at {K : PySem.W.Frag} {a : Addr} {o : Obj} (h : noL K = true) (e : K.lookup a = some o) : o.cls ≠ .type "list" := by
  have hm : (a, o) ∈ K := by
    clear h
    induction K with
    | nil => cases e
    | cons p K ih =>
      obtain ⟨b, u⟩ := p
      by_cases hb : a = b
      · subst hb
        rw [List.lookup_cons_self] at e
        cases e
        exact List.mem_cons_self
      · have : (a == b) = false := beq_false_of_ne hb
        rw [List.lookup_cons, this] at e
        exact List.mem_cons_of_mem _ (ih e)
  have q := List.all_eq_true.mp h _ hm
  intro z
  rw [z] at q
  simp at q
/-- what is read, without lists -/
def frZ (g : Addr → Option Obj) (as : List Addr) : PySem.W.Frag := (He.frG g as).filter fun p => !(p.2.cls == Value.type "list")
theorem frG_mem {g : Addr → Option Obj} {as : List Addr} {p : Addr × Obj} (h : p ∈ He.frG g as) : g p.1 = some p.2 := by
  unfold He.frG at h
  obtain ⟨a, _, e⟩ := List.mem_filterMap.mp h
  cases q : g a with
  | none => rw [q] at e; cases e
  | some o => rw [q] at e; cases e; exact q
theorem lookup_mem {K : PySem.W.Frag} {a : Addr} {o : Obj} (e : K.lookup a = some o) : (a, o) ∈ K := by
  induction K with
  | nil => cases e
  | cons p K ih =>
    obtain ⟨b, u⟩ := p
    by_cases hb : a = b
    · subst hb
      rw [List.lookup_cons_self] at e
      cases e
      exact List.mem_cons_self
    · have : (a == b) = false := beq_false_of_ne hb
      rw [List.lookup_cons, this] at e
      exact List.mem_cons_of_mem _ (ih e)
theorem frZ_in {as : List Addr} {h : Heap} : (frZ h.get? as).In h := fun _ _ e => frG_mem (p := (_, _)) (List.mem_filter.mp (lookup_mem e)).1
theorem frZ_noL {g : Addr → Option Obj} {as : List Addr} : noL (frZ g as) = true := List.all_eq_true.mpr fun p hp => (List.mem_filter.mp hp).2
def obsZG (n : Nat) (fa : List He.Fa) (fn : List He.DefD) (g : Addr → Option Obj) : He.AlD := He.obsD fa fn (frZ g (He.asD g n))
def SaysZ (fa : List He.Fa) (fn : List He.DefD) (K : PySem.W.Frag) : Prop := He.SaysD fa fn K ∧ noL K = true
def hookZ (n : Nat) (fa : List He.Fa) (fn : List He.DefD) : PySem.W.Hook where
  α := He.AlD
  obs := fun s => obsZG n fa fn s.heap.get?
  val := fun _ => He.valD fn
  says := fun _ h => ∃ K : PySem.W.Frag, K.In h ∧ SaysZ fa fn K
  of := fun _ _ e => ⟨_, frZ_in, e, frZ_noL⟩
  keeps := fun _ _ _ ⟨K, hK, c⟩ k => ⟨K, PySem.W.Frag.In.keeps hK k, c⟩
theorem obsZG_eq {n : Nat} {fa : List He.Fa} {fn : List He.DefD} {g : Addr → Option Obj} {s : Shared} (h : ∀ a, g a = s.heap.get? a) : obsZG n fa fn g = (hookZ n fa fn).obs s := by
  have e : g = s.heap.get? := funext h
  rw [e] <;> rfl
/-- the law's def, given its script -/
theorem law_says {mg : Str → Option Value} {m : Fn} {K : PySem.W.Frag} {H : Hp} {a : Addr} {ns : List Int} (hS : SqL K H a (ns.map V.int)) (hk : noL K = true) (hm : ∃ ps', m [.frz (.scr ns)] = some (.ret (.frz (.bl true)) ps')) :
    spD mg m [.ref a] H (fun v _ => v = .bl true) fun _ _ _ => False := by
  obtain ⟨ps', hm⟩ := hm
  refine ⟨fun _ => False, fun _ => False, [.frz (.scr ns)], ⟨rfl, fun i t e => ?_, fun _ z => (z.elim id id : False).elim, fun _ z => z.elim, fun i j s t b hij e1 e2 w1 w2 => ?_⟩, fun s z => by rcases List.mem_cons.mp z with e | z; exact e ▸ rfl; exact (List.not_mem_nil z).elim, ?_⟩
  · cases i with
    | zero =>
      cases e
      refine ⟨.ref a, rfl, a, rfl, ?_, fun z => z.elim id id⟩
      rcases hS with h | ⟨o, its, n, h, c, _⟩
      · exact h
      · exact absurd c (noL_at hk h)
    | succ i => simp at e
  · cases i with
    | zero => cases e1; cases w1
    | succ i => simp at e1
  · rw [hm]
    exact fun W' H' v _ _ hv => hv.2
end Dz
/-! Dz 14: the words that a generated text uses. -/
namespace Dz
open PySem PySem.Spec PyProof.Rows L2
section
variable {X : Cx} {Wx : WX} {a b e : Expr} {es : List Expr} {os : List Opd} {o1 o2 : Opd} {pos p p2 : Pos} {x : Str} {fe : M R} {fs : List (M R)} {i : Nat}
theorem do_ev {f : M R} (h : DE X Wx e f) : DO X Wx e (.ev f) := h
theorem do_sl (h : PE X e (tVar i)) : DO X Wx e (.sl i) := h
theorem da_val {f : M R} (h : DE X Wx e f) : DA X Wx e (.val f) := h
theorem da_bor (h : PE X e (tVar i)) : DA X Wx e (.bor i) := h
theorem da_lent (h : PE X e (tVar i)) : DA X Wx e (.lent i) := h
theorem dp_no : DP X Wx none .no := trivial
theorem dp_op {f : M R} (h : DE X Wx e f) : DP X Wx (some e) (.op f) := h
theorem u64 {j : Nat} {A : Around} (h : Room j A) : A.units + 64 < cLine := by have := h.un; omega
theorem u65 {j : Nat} {A : Around} (h : Room j A) : A.units + 65 < cLine := by have := h.un; omega
theorem u1 {j : Nat} {A : Around} (h : Room j A) : A.units + 1 < cLine := by have := h.un; omega
theorem de_max (hc : X.calm = true) (hg : Gl X "max") (hm : X.mg "max" = none) (ha : DOs X Wx (e :: es) os)
    (he : starEach (e :: es) X.env = (false, eval e X.env) :: starEach es X.env := by rfl) (hpl : (backTo pos (starEach es X.env)).any (·.1) = false := by rfl) : DE X Wx (.Call (.Name "max" p) (e :: es) [] pos) (fL os maxD) :=
  de_callB (callR_or (call_max2 hc) (cr_max hc)) vl_max hg hm boot_max ha (by decide) (by decide) he hpl
theorem de_min (hc : X.calm = true) (hg : Gl X "min") (hm : X.mg "min" = none) (ha : DOs X Wx (e :: es) os)
    (he : starEach (e :: es) X.env = (false, eval e X.env) :: starEach es X.env := by rfl) (hpl : (backTo pos (starEach es X.env)).any (·.1) = false := by rfl) : DE X Wx (.Call (.Name "min" p) (e :: es) [] pos) (fL os minD) :=
  de_callB (callR_or (call_min2 hc) (cr_min hc)) vl_min hg hm boot_min ha (by decide) (by decide) he hpl
theorem de_sum (hc : X.calm = true) (hg : Gl X "sum") (hm : X.mg "sum" = none) (ha : DOs X Wx (e :: es) os)
    (he : starEach (e :: es) X.env = (false, eval e X.env) :: starEach es X.env := by rfl) (hpl : (backTo pos (starEach es X.env)).any (·.1) = false := by rfl) : DE X Wx (.Call (.Name "sum" p) (e :: es) [] pos) (fL os sumD) :=
  de_callB (cr_sum hc) vl_sum hg hm boot_sum ha (by decide) (by decide) he hpl
theorem de_all (hc : X.calm = true) (hg : Gl X "all") (hm : X.mg "all" = none) (ha : DOs X Wx (e :: es) os)
    (he : starEach (e :: es) X.env = (false, eval e X.env) :: starEach es X.env := by rfl) (hpl : (backTo pos (starEach es X.env)).any (·.1) = false := by rfl) : DE X Wx (.Call (.Name "all" p) (e :: es) [] pos) (fL os allD) :=
  de_callB (cr_all hc) vl_all hg hm boot_all ha (by decide) (by decide) he hpl
theorem de_any (hc : X.calm = true) (hg : Gl X "any") (hm : X.mg "any" = none) (ha : DOs X Wx (e :: es) os)
    (he : starEach (e :: es) X.env = (false, eval e X.env) :: starEach es X.env := by rfl) (hpl : (backTo pos (starEach es X.env)).any (·.1) = false := by rfl) : DE X Wx (.Call (.Name "any" p) (e :: es) [] pos) (fL os anyD) :=
  de_callB (cr_any hc) vl_any hg hm boot_any ha (by decide) (by decide) he hpl
theorem de_abs (hc : X.calm = true) (hg : Gl X "abs") (hm : X.mg "abs" = none) (ha : DOs X Wx (e :: es) os)
    (he : starEach (e :: es) X.env = (false, eval e X.env) :: starEach es X.env := by rfl) (hpl : (backTo pos (starEach es X.env)).any (·.1) = false := by rfl) : DE X Wx (.Call (.Name "abs" p) (e :: es) [] pos) (fL os absD) :=
  de_callB call_abs vl_abs hg hm boot_abs ha (by decide) (by decide) he hpl
theorem de_intC (hc : X.calm = true) (hg : Gl X "int") (hm : X.mg "int" = none) (ha : DOs X Wx (e :: es) os)
    (he : starEach (e :: es) X.env = (false, eval e X.env) :: starEach es X.env := by rfl) (hpl : (backTo pos (starEach es X.env)).any (·.1) = false := by rfl) : DE X Wx (.Call (.Name "int" p) (e :: es) [] pos) (fL os intD) :=
  de_callTy call_int1 vl_int hg hm boot_int ha (by decide) (by decide) he hpl
theorem de_strC (hc : X.calm = true) (hg : Gl X "str") (hm : X.mg "str" = none) (ha : DOs X Wx (e :: es) os)
    (he : starEach (e :: es) X.env = (false, eval e X.env) :: starEach es X.env := by rfl) (hpl : (backTo pos (starEach es X.env)).any (·.1) = false := by rfl) : DE X Wx (.Call (.Name "str" p) (e :: es) [] pos) (fL os strDm) :=
  de_callTy call_str_int vl_str hg hm boot_str ha (by decide) (by decide) he hpl
theorem de_tupleC (hc : X.calm = true) (hg : Gl X "tuple") (hm : X.mg "tuple" = none) (ha : DOs X Wx (e :: es) os)
    (he : starEach (e :: es) X.env = (false, eval e X.env) :: starEach es X.env := by rfl) (hpl : (backTo pos (starEach es X.env)).any (·.1) = false := by rfl) : DE X Wx (.Call (.Name "tuple" p) (e :: es) [] pos) (fL os tupleD) :=
  de_callTy call_tupleZ vl_tuple hg hm boot_tuple ha (by decide) (by decide) he hpl
theorem de_listC (hc : X.calm = true) (hg : Gl X "list") (hm : X.mg "list" = none) (ha : DOs X Wx (e :: es) os)
    (he : starEach (e :: es) X.env = (false, eval e X.env) :: starEach es X.env := by rfl) (hpl : (backTo pos (starEach es X.env)).any (·.1) = false := by rfl) : DE X Wx (.Call (.Name "list" p) (e :: es) [] pos) (fL os listD) :=
  de_callTy call_list_of vl_list hg hm boot_list ha (by decide) (by decide) he hpl
/-! ### a call with a value of its own lent out: the name at i is no name of the program -/
def wipe1 {α : Type} (i : Nat) (g : M α) : M α := fun ρ =>
  match g ρ with
  | some (.ok a ρ') => some (.ok a (ρ'.set i .emp))
  | some (.err e ρ') => some (.err e (ρ'.set i .emp))
  | none => none
def putT (i : Nat) (r : R) : M Unit := fun ρ =>
  match r, ρ[i]? with
  | .own d, some .emp => some (.ok () (ρ.set i (.own d)))
  | _, _ => none
def isEmp (ρ : Env) (i : Nat) : Bool :=
  match ρ[i]? with
  | some .emp => true
  | _ => false
def fCallT (i : Nat) (m : Fn) (f : M R) (cs : List CA) : M R := fun ρ =>
  if isEmp ρ i then mbind f (fun r => wipe1 i (mbind (putT i r) fun _ => fCall m (.lent i :: cs))) ρ else none
theorem isEmp_at {ρ : Env} {i : Nat} (h : isEmp ρ i = true) : ρ[i]? = some .emp := by
  unfold isEmp at h
  split at h
  · assumption
  · cases h
theorem putT_ok {i : Nat} {r : R} {ρ : Env} {o : Res Unit} (h : putT i r ρ = some o) : ∃ d, r = .own d ∧ ρ[i]? = some .emp ∧ o = .ok () (ρ.set i (.own d)) := by
  unfold putT at h
  split at h
  · rename_i d e
    cases h
    exact ⟨d, rfl, e, rfl⟩
  · cases h
theorem Evo.unT {ρ ρ1 : Env} {i : Nat} {d : D} (e : ρ[i]? = some .emp) (h : Evo (ρ.set i (.own d)) ρ1) : Evo ρ (ρ1.set i .emp) := by
  have hi : i < ρ.length := (List.getElem?_eq_some_iff.mp e).1
  have h0 : Evo ρ (ρ.set i (.own d)) := .set e (fun _ z => nomatch z) (fun _ z => nomatch z) (fun _ z => nomatch z)
  have h1 := h0.trans h
  have hl : i < ρ1.length := by rw [h1.len]; exact hi
  refine h1.trans (.set (List.getElem?_eq_getElem hl) (fun d' z => ?_) (fun _ z => nomatch z) (fun _ z => nomatch z))
  obtain ⟨d2, e2⟩ := h1.tnel i d' (by rw [List.getElem?_eq_getElem hl, z])
  rw [e] at e2
  cases e2
theorem evo_callT {m : Fn} {f : M R} {cs : List CA} (hf : EvoF f) (hc : ∀ c ∈ cs, c.Evo) : EvoF (fCallT i m f cs) := fun ρ o h => by
  unfold fCallT at h
  split at h
  · refine evo_bind (g := fun r => wipe1 i (mbind (putT i r) fun _ => fCall m (.lent i :: cs))) hf (fun r ρ1 o1 h1 => ?_) ρ o h
    have hc' : ∀ c ∈ CA.lent i :: cs, c.Evo := fun c z => by
      rcases List.mem_cons.mp z with e | z
      · rw [e]; trivial
      · exact hc c z
    unfold wipe1 at h1
    cases q : mbind (putT i r) (fun _ => fCall m (.lent i :: cs)) ρ1 with
    | none => rw [q] at h1; cases h1
    | some y =>
      rw [q] at h1
      unfold mbind at q
      cases q2 : putT i r ρ1 with
      | none => rw [q2] at q; cases q
      | some z =>
        obtain ⟨d, er, e, ez⟩ := putT_ok q2
        rw [q2, ez] at q
        have ev := (evo_call hc' fun ps ρ ρ' h => evC_lok hc' h) _ _ q
        cases y with
        | ok a ρ' => cases h1; exact Evo.unT e ev
        | err x ρ' => cases h1; exact Evo.unT e ev
  · cases h
theorem St.unhide {W B : AP} {σ : L2.St} {H : Hp} {ρ : Env} {v : Option V} (h : St W B (σ.set i v) H ρ) : St W B σ H (ρ.set i .emp) := by
  have key : ∀ (j : Nat) (t : Slot), (ρ.set i .emp)[j]? = some t → (t = .emp) ∨ (i ≠ j ∧ ρ[j]? = some t) := fun j t e => by
    by_cases hj : i = j
    · subst hj
      have hl : i < ρ.length := by have := (List.getElem?_eq_some_iff.mp e).1; simpa using this
      rw [List.getElem?_set_self hl] at e
      cases e
      exact .inl rfl
    · rw [List.getElem?_set_ne hj] at e
      exact .inr ⟨hj, e⟩
  refine ⟨by have := h.len; simpa using this, fun j t e => ?_, h.dom, h.dis, fun j k t t' a hjk p q w1 w2 x1 x2 => ?_⟩
  · rcases key j t e with z | ⟨hj, e⟩
    · rw [z]; trivial
    · have q := h.slot j t e
      rwa [sv_set_ne _ hj] at q
  · rcases key j t p with z | ⟨h1, p⟩
    · rw [z] at w1; cases w1
    · rcases key k t' q with z | ⟨h2, q⟩
      · rw [z] at w2; cases w2
      · exact h.apart j k t t' a hjk p q w1 w2 (by rw [sv_set_ne _ h1]; exact x1) (by rw [sv_set_ne _ h2]; exact x2)
theorem St.hide {W B : AP} {σ : L2.St} {H : Hp} {ρ : Env} {v : Option V} (h : St W B σ H (ρ.set i .emp)) : True := trivial
theorem VOk.unhide {W B : AP} {σ : L2.St} {H : Hp} {ρ : Env} {v : V} {u : Option V} {r : R} (h : VOk W B (σ.set i u) H ρ v r) : VOk W B σ H (ρ.set i .emp) v r := by
  cases r with
  | frz d => exact ⟨h.1.unhide, h.2⟩
  | own d =>
    obtain ⟨a, e, wa, s, t, hn⟩ := h
    refine ⟨a, e, wa, s.unhide, t, fun j t e w => ?_⟩
    by_cases hj : i = j
    · subst hj
      have hl : i < ρ.length := by have := (List.getElem?_eq_some_iff.mp e).1; simpa using this
      rw [List.getElem?_set_self hl] at e
      cases e
      cases w
    · rw [List.getElem?_set_ne hj] at e
      have := hn j t e w
      rwa [sv_set_ne _ hj] at this
theorem spD_mono {mg : Str → Option Value} {m : Fn} {vs : List V} {H : Hp} {Q : VK} {E E' : XK} (h : spD mg m vs H Q E) (he : ∀ c d H, E c d H → E' c d H) : spD mg m vs H Q E' := by
  obtain ⟨W, B, ps, s, no, k⟩ := h
  refine ⟨W, B, ps, s, no, ?_⟩
  cases q : m ps with
  | none => rw [q] at k; exact k
  | some y =>
    rw [q] at k
    cases y with
    | ret r ps' => exact k
    | exc e ps' => exact fun W' H' c d f lk s' x => he _ _ _ (k W' H' c d f lk s' x)
theorem rd_callT {mg : Str → Option Value} {m : Fn} {f : M R} {cs : List CA} {σ : L2.St} {H : Hp} {Q : VK} (hc : ∀ c ∈ cs, c.Evo) (ok : okCA (.lent i :: cs) = true) (hw : ∀ c d σ σ' H, Wx c d σ H → Wx c d σ' H) (h : rdE mg Wx (fCallT i m f cs) σ H Q) :
    rdE mg Wx f σ H fun v H1 => rdC mg Wx cs (σ.set i (some v)) H1 fun vs H2 => spD mg m ((v :: vs) ++ []) H2 Q (fun c d H => Wx c d σ H) := by
  obtain ⟨W, B, ρ, s, a⟩ := h
  refine ⟨W, B, ρ, s, ?_⟩
  unfold fCallT at a
  split at a
  · refine (After.bind a).mono fun W1 H1 r ρ1 e1 fr a1 v hv => ?_
    unfold wipe1 at a1
    have a2 : After mg Wx W1 B (σ.set i (some v)) H1 (mbind (putT i r) (fun _ => fCall m (.lent i :: cs)) ρ1) fun W' H' r' ρ' => ∀ u, VOk W' B (σ.set i (some v)) H' ρ' u r' → Q u H' := by
      cases q : mbind (putT i r) (fun _ => fCall m (.lent i :: cs)) ρ1 with
      | none => rw [q] at a1; exact a1.elim
      | some y =>
        rw [q] at a1
        cases y with
        | ok r' ρ' => exact fun W' H' f' u hu => a1 W' H' f' u hu.unhide
        | err e ρ' => exact fun W' H' c d f' s' x => hw _ _ _ _ _ (a1 W' H' c d f' s'.unhide x)
    have a3 := After.bind a2
    cases q2 : putT i r ρ1 with
    | none => rw [q2] at a3; exact a3.elim
    | some z =>
      obtain ⟨d, er, e, ez⟩ := putT_ok q2
      rw [q2, ez] at a3
      subst er
      have hi : i < ρ1.length := (List.getElem?_eq_some_iff.mp e).1
      have st := St.store (i := i) hv hi
      have hσ : i < σ.length := by rw [hv.st.len]; exact hi
      have k := rd_call (m := m) ok (⟨W1, B, _, st, After.here a3⟩ : rdE mg Wx (fCall m (.lent i :: cs)) (σ.set i (some v)) H1 Q)
      obtain ⟨x, ex, k⟩ := rdC_cons (c := .lent i) trivial k
      have : x = v := by
        have := sv_set (σ := σ) (i := i) (some v) hσ
        have e2 := sv_of ex
        rw [this] at e2
        cases e2
        rfl
      subst this
      obtain ⟨W2, B2, ρ2, s2, k⟩ := k
      exact ⟨W2, B2, ρ2, s2, k.mono fun W3 H3 ps ρ3 _ _ k vs s3 A => spD_mono (k vs s3 A) fun c d H => hw _ _ _ _ _⟩
  · exact a.elim
theorem inv_hidden {pins : List (Addr × Obj)} {σ : L2.St} {H : Hp} {s : Shared} {v : Option V} {z : Str} (I : Inv X pins σ H s) (hz : X.N[i]? = some z) (hv : ¬ Vis X.env.scope z) : Inv X pins (σ.set i v) H s := by
  obtain ⟨m, hn, hl⟩ := I.loc
  refine ⟨I.ok, I.os, I.bare, I.base, ⟨m, hn, fun j x u e1 e2 vis => ?_⟩, I.cell, I.free, I.freeC, I.pin, I.hok, by rw [List.length_set]; exact I.len⟩
  by_cases hj : i = j
  · subst hj
    rw [hz] at e1
    cases e1
    exact absurd vis hv
  · rw [List.getElem?_set_ne hj] at e2
    exact hl j x u e1 e2 vis
theorem set_back {σ : L2.St} {v : Option V} (h : i < σ.length) : (σ.set i v).set i (σ.getD i none) = σ := by
  rw [List.set_set]
  apply List.ext_getElem?
  intro j
  by_cases hj : i = j
  · subst hj
    rw [List.getElem?_set_self h, List.getD_eq_getElem?_getD, List.getElem?_eq_getElem h]
    rfl
  · rw [List.getElem?_set_ne hj]
theorem pa_consH {te : TE} {ta : TA} {z : Str} (hz : X.N[i]? = some z) (hv : ¬ Vis X.env.scope z) (h1 : PE X e te) (h2 : PA X es ta) (hs : starEach (e :: es) X.env = (false, eval e X.env) :: starEach es X.env := by rfl) :
    PA X (e :: es) (fun σ H Q => te σ H fun x H1 => ta (σ.set i (some x)) H1 fun xs H2 => Q (x :: xs) H2) := by
  refine ⟨fun pos pins s σ H Q I h => ?_⟩
  rw [hs]
  show wpAny _ _ (spliced ((false, eval e X.env) :: backTo pos (starEach es X.env))) _ _ s
  refine Calls.spliced_cons (thn (h1.run pins s σ H _ I h) fun u s1 ⟨x, H1, I1, r1, q1⟩ => ?_)
  refine thn (h2.run pos pins s1 _ H1 _ (inv_hidden I1 hz hv) q1) fun us s2 ⟨xs, H2, I2, r2, q2⟩ => ⟨x :: xs, H2, ?_, .cons r1 r2, q2⟩
  have hl : i < σ.length := by rw [I1.len]; exact (List.getElem?_eq_some_iff.mp hz).1
  have := inv_hidden (v := σ.getD i none) I2 hz hv
  rwa [set_back hl] at this
theorem hid_of {sc : Scope} {z : Str} (h : sc.names.lookup z = none) : ¬ Vis sc z := fun v => by
  rcases v with v | v | v <;> rw [h] at v <;> cases v
theorem de_callT {m : Fn} {f : M R} {cs : List CA} {z : Str} {k j : Nat} (c : Callee X.prog X.w X.K X.mg X.base k x m) (hr : Room j X.A) (hk : k ≤ j) (tk : Takes X Wx) (hg : Gl X x) (hz : X.N[i]? = some z) (hv : ¬ Vis X.env.scope z) (hw : ∀ c d σ σ' H, Wx c d σ H → Wx c d σ' H)
    (h1 : DE X Wx a f) (ha : DCs X Wx es cs) (ok : okCA (.lent i :: cs) = true := by rfl) (hdb : (x == ("__debug__" : Str)) = false := by decide)
    (he : starEach (a :: es) X.env = (false, eval a X.env) :: starEach es X.env := by rfl) (hpl : (backTo pos (starEach es X.env)).any (·.1) = false := by rfl) : DE X Wx (.Call (.Name x p) (a :: es) [] pos) (fCallT i m f cs) := by
  obtain ⟨g, fd, ps, F, hm, kp, hb⟩ := c.ex
  exact ⟨pe_imp (pe_callSD (E := fun σ c d H => Wx c d σ H) F (hr.mono hk) hg hm kp hb .nil (fun σ => L2.passAt tk σ) (pa_consH hz hv h1.pe ha.pa he) hdb he hpl) fun σ H Q q => rd_callT ha.evo ok hw q, evo_callT h1.evo ha.evo⟩
end
end Dz
/-! Dz 15: how the semantic functions are reckoned with (no program in sight). -/
namespace Dz
open PySem PySem.Spec PyProof.Rows L2
/-- f ends well, so that Q -/
def Ok0 {α : Type} (f : M α) (ρ : Env) (Q : α → Env → Prop) : Prop := ∃ a ρ', f ρ = some (.ok a ρ') ∧ Q a ρ'
def COk0 (m : Fn) (ps : List Slot) (Q : R → List Slot → Prop) : Prop := ∃ r ps', m ps = some (.ret r ps') ∧ Q r ps'
theorem Ok0.mono {α : Type} {f : M α} {ρ : Env} {Q Q' : α → Env → Prop} (h : Ok0 f ρ Q) (hq : ∀ a ρ', Q a ρ' → Q' a ρ') : Ok0 f ρ Q' := let ⟨a, ρ', e, q⟩ := h; ⟨a, ρ', e, hq a ρ' q⟩
theorem COk0.mono {m : Fn} {ps : List Slot} {Q Q' : R → List Slot → Prop} (h : COk0 m ps Q) (hq : ∀ a ρ', Q a ρ' → Q' a ρ') : COk0 m ps Q' := let ⟨a, ρ', e, q⟩ := h; ⟨a, ρ', e, hq a ρ' q⟩
section
variable {α β : Type} {ρ : Env}
@[simp ↓] theorem ok0_bind {f : M α} {g : α → M β} {Q : β → Env → Prop} : Ok0 (mbind f g) ρ Q ↔ Ok0 f ρ fun a ρ' => Ok0 (g a) ρ' Q := by
  constructor
  · rintro ⟨b, ρ2, e, q⟩
    obtain ⟨a, ρ1, e1, e2⟩ := mbind_ok e
    exact ⟨a, ρ1, e1, b, ρ2, e2, q⟩
  · rintro ⟨a, ρ1, e1, b, ρ2, e2, q⟩
    refine ⟨b, ρ2, ?_, q⟩
    unfold mbind
    rw [e1]
    exact e2
@[simp ↓] theorem ok0_ret {a : α} {Q : α → Env → Prop} : Ok0 (mret a) ρ Q ↔ Q a ρ := by
  constructor
  · rintro ⟨b, ρ2, e, q⟩
    cases e
    exact q
  · exact fun q => ⟨a, ρ, rfl, q⟩
@[simp ↓] theorem ok0_opt {o : Option α} {Q : α → Env → Prop} : Ok0 (mopt o) ρ Q ↔ ∃ a, o = some a ∧ Q a ρ := by
  constructor
  · rintro ⟨b, ρ2, e, q⟩
    cases o with
    | none => cases e
    | some a => cases e; exact ⟨b, rfl, q⟩
  · rintro ⟨a, e, q⟩
    subst e
    exact ⟨a, ρ, rfl, q⟩
@[simp ↓] theorem ok0_none {Q : α → Env → Prop} : Ok0 (fun _ => none) ρ Q ↔ False := ⟨fun ⟨_, _, e, _⟩ => (nomatch e), False.elim⟩
theorem ok0_is {f : M α} {a : α} {ρ' : Env} {Q : α → Env → Prop} (e : f ρ = some (.ok a ρ')) : Ok0 f ρ Q ↔ Q a ρ' := by
  constructor
  · rintro ⟨b, ρ2, e2, q⟩
    rw [e] at e2
    cases e2
    exact q
  · exact fun q => ⟨a, ρ', e, q⟩
theorem ok0_not {f : M α} {Q : α → Env → Prop} (e : f ρ = none) : Ok0 f ρ Q ↔ False := ⟨fun ⟨_, _, e2, _⟩ => (by rw [e] at e2; cases e2), False.elim⟩
@[simp ↓] theorem ok0_fIf {c : M Bool} {f g : M α} {Q : α → Env → Prop} : Ok0 (fIf c f g) ρ Q ↔ Ok0 c ρ fun k ρ' => if k = true then Ok0 f ρ' Q else Ok0 g ρ' Q := by
  unfold fIf
  rw [ok0_bind]
  constructor <;> rintro ⟨a, ρ1, e, q⟩ <;> refine ⟨a, ρ1, e, ?_⟩ <;> cases a <;> simpa using q
theorem ok0_ite {c : Bool} {f g : M α} {Q : α → Env → Prop} : Ok0 (if c = true then f else g) ρ Q ↔ if c = true then Ok0 f ρ Q else Ok0 g ρ Q := by cases c <;> simp
end
section
variable {ρ : Env}
@[simp ↓] theorem ok0_seq {f g : M Fl} {Q : Fl → Env → Prop} : Ok0 (sSeq f g) ρ Q ↔ Ok0 f ρ fun fl ρ' => match fl with
    | .next => Ok0 g ρ' Q
    | fl => Q fl ρ' := by
  unfold sSeq
  rw [ok0_bind]
  constructor <;> rintro ⟨a, ρ1, e, q⟩ <;> refine ⟨a, ρ1, e, ?_⟩ <;> cases a <;> simpa using q
@[simp ↓] theorem ok0_fC {d : D} {Q : R → Env → Prop} : Ok0 (fC d) ρ Q ↔ Q (.frz d) ρ := ok0_ret
@[simp ↓] theorem ok0_fName {i : Nat} {Q : R → Env → Prop} : Ok0 (fName i) ρ Q ↔ match ρ[i]? with
    | some (.frz d) => Q (.frz d) ρ
    | some (.own d) => Q (.frz d) (ρ.set i (.frz d))
    | _ => False := by
  cases h : ρ[i]? with
  | none => exact ok0_not (by unfold fName; rw [h])
  | some s => cases s <;> first | exact ok0_is (by unfold fName; rw [h]) | exact ok0_not (by unfold fName; rw [h])
@[simp ↓] theorem ok0_fMove {i : Nat} {Q : R → Env → Prop} : Ok0 (fMove i) ρ Q ↔ match ρ[i]? with
    | some (.frz d) => Q (.frz d) ρ
    | some (.own d) => Q (.own d) (ρ.set i .emp)
    | _ => False := by
  cases h : ρ[i]? with
  | none => exact ok0_not (by unfold fMove; rw [h])
  | some s => cases s <;> first | exact ok0_is (by unfold fMove; rw [h]) | exact ok0_not (by unfold fMove; rw [h])
@[simp ↓] theorem ok0_evs_nil {Q : List D → Env → Prop} : Ok0 (evs []) ρ Q ↔ Q [] ρ := ok0_ret
@[simp ↓] theorem ok0_evs_ev {f : M R} {os : List Opd} {Q : List D → Env → Prop} : Ok0 (evs (.ev f :: os)) ρ Q ↔ Ok0 f ρ fun r ρ1 => Ok0 (evs os) ρ1 fun ds ρ2 => Q (r.d :: ds) ρ2 := by
  show Ok0 (mbind f fun r => mbind (evs os) fun ds => mret (r.d :: ds)) ρ Q ↔ _
  simp
@[simp ↓] theorem ok0_evs_sl {i : Nat} {os : List Opd} {Q : List D → Env → Prop} : Ok0 (evs (.sl i :: os)) ρ Q ↔ (contAt ρ i).isSome = true ∧ Ok0 (evs os) ρ fun ds ρ2 => ∃ d, contAt ρ2 i = some d ∧ Q (d :: ds) ρ2 := by
  show Ok0 (mbind (needSl i) fun _ => mbind (evs os) fun ds => getSl i ds) ρ Q ↔ _
  rw [ok0_bind]
  constructor
  · rintro ⟨_, ρ1, e, q⟩
    unfold needSl at e
    split at e
    · rename_i d hd
      cases e
      refine ⟨by rw [hd]; rfl, ?_⟩
      refine (ok0_bind.mp q).mono fun ds ρ2 h => ?_
      obtain ⟨x, ρ3, e, h⟩ := h
      unfold getSl at e
      split at e
      · rename_i d2 hd2
        cases e
        exact ⟨d2, hd2, h⟩
      · cases e
    · cases e
  · rintro ⟨h1, q⟩
    obtain ⟨d, hd⟩ := Option.isSome_iff_exists.mp h1
    refine ⟨(), ρ, by unfold needSl; rw [hd], ok0_bind.mpr (q.mono fun ds ρ2 ⟨d2, hd2, h⟩ => ⟨d2 :: ds, ρ2, by unfold getSl; rw [hd2], h⟩)⟩
@[simp ↓] theorem ok0_f2 {o1 o2 : Opd} {g : D → D → Option R} {Q : R → Env → Prop} : Ok0 (f2 o1 o2 g) ρ Q ↔ Ok0 (evs [o1, o2]) ρ fun ds ρ' => ∃ r, ap2 g ds = some r ∧ Q r ρ' := by
  unfold f2
  simp only [ok0_bind, ok0_opt]
@[simp ↓] theorem ok0_f1 {o1 : Opd} {g : D → Option R} {Q : R → Env → Prop} : Ok0 (f1 o1 g) ρ Q ↔ Ok0 (evs [o1]) ρ fun ds ρ' => ∃ r, ap1 g ds = some r ∧ Q r ρ' := by
  unfold f1
  simp only [ok0_bind, ok0_opt]
@[simp ↓] theorem ok0_fL {os : List Opd} {g : List D → Option R} {Q : R → Env → Prop} : Ok0 (fL os g) ρ Q ↔ Ok0 (evs os) ρ fun ds ρ' => ∃ r, g ds = some r ∧ Q r ρ' := by
  unfold fL
  simp only [ok0_bind, ok0_opt]
@[simp] theorem ap2_eq {g : D → D → Option R} {a b : D} : ap2 g [a, b] = g a b := rfl
@[simp] theorem ap1_eq {g : D → Option R} {a : D} : ap1 g [a] = g a := rfl
@[simp] theorem rd_frz {d : D} : (R.frz d).d = d := rfl
@[simp] theorem rd_own {d : D} : (R.own d).d = d := rfl
@[simp] theorem slotOf_frz {d : D} : slotOf (.frz d) = .frz d := rfl
@[simp] theorem slotOf_own {d : D} : slotOf (.own d) = .own d := rfl
@[simp] theorem cont_frz {d : D} : (Slot.frz d).cont = some d := rfl
@[simp] theorem cont_own {d : D} : (Slot.own d).cont = some d := rfl
@[simp] theorem cont_bor {d : D} : (Slot.bor d).cont = some d := rfl
@[simp] theorem cont_lent {d : D} : (Slot.lent d).cont = some d := rfl
@[simp] theorem cont_emp : Slot.emp.cont = none := rfl
@[simp] theorem contAt_zero {s : Slot} {ρ : Env} : contAt (s :: ρ) 0 = s.cont := rfl
@[simp] theorem contAt_succ {s : Slot} {ρ : Env} {i : Nat} : contAt (s :: ρ) (i + 1) = contAt ρ i := by unfold contAt; rw [List.getElem?_cons_succ]
@[simp ↓] theorem ok0_fB {f : M R} {Q : Bool → Env → Prop} : Ok0 (fB f) ρ Q ↔ Ok0 f ρ fun r ρ' => ∃ k, asB r = some k ∧ Q k ρ' := by
  unfold fB
  simp only [ok0_bind, ok0_opt]
@[simp] theorem asB_frz {k : Bool} : asB (.frz (.bl k)) = some k := rfl
@[simp ↓] theorem ok0_fAnd {f g : M Bool} {Q : Bool → Env → Prop} : Ok0 (fAnd f g) ρ Q ↔ Ok0 f ρ fun c ρ' => if c = true then Ok0 g ρ' Q else Q false ρ' := by
  unfold fAnd
  rw [ok0_bind]
  constructor <;> rintro ⟨a, ρ1, e, q⟩ <;> refine ⟨a, ρ1, e, ?_⟩ <;> cases a <;> simpa using q
@[simp ↓] theorem ok0_fOr {f g : M Bool} {Q : Bool → Env → Prop} : Ok0 (fOr f g) ρ Q ↔ Ok0 f ρ fun c ρ' => if c = true then Q true ρ' else Ok0 g ρ' Q := by
  unfold fOr
  rw [ok0_bind]
  constructor <;> rintro ⟨a, ρ1, e, q⟩ <;> refine ⟨a, ρ1, e, ?_⟩ <;> cases a <;> simpa using q
@[simp ↓] theorem ok0_fNot {f : M Bool} {Q : Bool → Env → Prop} : Ok0 (fNot f) ρ Q ↔ Ok0 f ρ fun c ρ' => Q (!c) ρ' := by
  unfold fNot
  simp only [ok0_bind, ok0_ret]
@[simp ↓] theorem ok0_fAndV {f g : M R} {Q : R → Env → Prop} : Ok0 (fAndV f g) ρ Q ↔ Ok0 f ρ fun r ρ' => ∃ k, asB r = some k ∧ if k = true then Ok0 g ρ' Q else Q (.frz (.bl false)) ρ' := by
  unfold fAndV
  simp only [ok0_bind, ok0_fB]
  constructor <;> rintro ⟨a, ρ1, e, k, ek, q⟩ <;> refine ⟨a, ρ1, e, k, ek, ?_⟩ <;> cases k <;> simpa using q
@[simp ↓] theorem ok0_fOrV {f g : M R} {Q : R → Env → Prop} : Ok0 (fOrV f g) ρ Q ↔ Ok0 f ρ fun r ρ' => ∃ k, asB r = some k ∧ if k = true then Q (.frz (.bl true)) ρ' else Ok0 g ρ' Q := by
  unfold fOrV
  simp only [ok0_bind, ok0_fB]
  constructor <;> rintro ⟨a, ρ1, e, k, ek, q⟩ <;> refine ⟨a, ρ1, e, k, ek, ?_⟩ <;> cases k <;> simpa using q
@[simp ↓] theorem ok0_fNotV {f : M R} {Q : R → Env → Prop} : Ok0 (fNotV f) ρ Q ↔ Ok0 f ρ fun r ρ' => ∃ k, asB r = some k ∧ Q (.frz (.bl (!k))) ρ' := by
  unfold fNotV
  simp only [ok0_bind, ok0_fB, ok0_ret]
@[simp ↓] theorem ok0_evF_nil {Q : List D → Env → Prop} : Ok0 (evF []) ρ Q ↔ Q [] ρ := ok0_ret
@[simp ↓] theorem ok0_evF_cons {f : M R} {fs : List (M R)} {Q : List D → Env → Prop} : Ok0 (evF (f :: fs)) ρ Q ↔ Ok0 f ρ fun r ρ1 => Ok0 (evF fs) ρ1 fun ds ρ2 => Q (r.d :: ds) ρ2 := by
  show Ok0 (mbind f fun r => mbind (evF fs) fun ds => mret (r.d :: ds)) ρ Q ↔ _
  simp
@[simp ↓] theorem ok0_fTup {fs : List (M R)} {Q : R → Env → Prop} : Ok0 (fTup fs) ρ Q ↔ Ok0 (evF fs) ρ fun ds ρ' => ds.length ≤ sizeLine ∧ Q (.frz (.tup ds)) ρ' := by
  unfold fTup
  simp only [ok0_bind, ok0_opt]
  constructor <;> rintro ⟨a, ρ1, e, q⟩ <;> refine ⟨a, ρ1, e, ?_⟩
  · obtain ⟨r, er, q⟩ := q
    split at er
    · rename_i h; cases er; exact ⟨h, q⟩
    · cases er
  · exact ⟨_, if_pos q.1, q.2⟩
@[simp ↓] theorem ok0_fLst {fs : List (M R)} {Q : R → Env → Prop} : Ok0 (fLst fs) ρ Q ↔ Ok0 (evF fs) ρ fun ds ρ' => ds.length ≤ sizeLine ∧ Q (.own (.lst ds)) ρ' := by
  unfold fLst
  simp only [ok0_bind, ok0_opt]
  constructor <;> rintro ⟨a, ρ1, e, q⟩ <;> refine ⟨a, ρ1, e, ?_⟩
  · obtain ⟨r, er, q⟩ := q
    split at er
    · rename_i h; cases er; exact ⟨h, q⟩
    · cases er
  · exact ⟨_, if_pos q.1, q.2⟩
@[simp ↓] theorem ok0_fI {f : M R} {Q : R → Env → Prop} : Ok0 (fI f) ρ Q ↔ Ok0 f ρ fun r ρ' => ∃ i, r = .frz (.int i) ∧ Q (.frz (.int i)) ρ' := by
  unfold fI
  rw [ok0_bind]
  constructor <;> rintro ⟨a, ρ1, e, q⟩ <;> refine ⟨a, ρ1, e, ?_⟩
  · unfold needInt at q
    split at q
    · rename_i i; exact ⟨i, rfl, ok0_ret.mp q⟩
    · exact (ok0_none.mp q).elim
  · obtain ⟨i, rfl, q⟩ := q
    exact ok0_ret.mpr q
@[simp ↓] theorem ok0_sAsg {i : Nat} {f : M R} {Q : Fl → Env → Prop} : Ok0 (sAsg i f) ρ Q ↔ Ok0 f ρ fun r ρ' => Ok0 (setSl i r) ρ' Q := by
  unfold sAsg
  rw [ok0_bind]
@[simp ↓] theorem ok0_setSl {i : Nat} {r : R} {Q : Fl → Env → Prop} : Ok0 (setSl i r) ρ Q ↔ match ρ[i]? with
    | some (.lent _) => False
    | some _ => Q .next (ρ.set i (slotOf r))
    | none => False := by
  cases h : ρ[i]? with
  | none => exact ok0_not (by unfold setSl; rw [h])
  | some s => cases s <;> first | exact ok0_is (by unfold setSl; rw [h]) | exact ok0_not (by unfold setSl; rw [h])
@[simp ↓] theorem ok0_sRet {f : M R} {Q : Fl → Env → Prop} : Ok0 (sRet f) ρ Q ↔ Ok0 f ρ fun r ρ' => Q (.ret r) ρ' := by
  unfold sRet
  simp only [ok0_bind, ok0_ret]
@[simp ↓] theorem ok0_sExpr {f : M R} {Q : Fl → Env → Prop} : Ok0 (sExpr f) ρ Q ↔ Ok0 f ρ fun _ ρ' => Q .next ρ' := by
  unfold sExpr
  simp only [ok0_bind, ok0_ret]
@[simp ↓] theorem ok0_needSl {i : Nat} {Q : Unit → Env → Prop} : Ok0 (needSl i) ρ Q ↔ (contAt ρ i).isSome = true ∧ Q () ρ := by
  cases h : contAt ρ i with
  | none => rw [ok0_not (by unfold needSl; rw [h])]; simp
  | some d => rw [ok0_is (by unfold needSl; rw [h])]; simp
@[simp ↓] theorem ok0_needW {i : Nat} {k : D → Bool} {Q : Unit → Env → Prop} : Ok0 (needW i k) ρ Q ↔ match ρ[i]? with
    | some (.own d) => k d = true ∧ Q () ρ
    | some (.lent d) => k d = true ∧ Q () ρ
    | _ => False := by
  cases h : ρ[i]? with
  | none => exact ok0_not (by unfold needW; rw [h])
  | some s =>
    cases s with
    | own d =>
      show _ ↔ k d = true ∧ Q () ρ
      cases hk : k d with
      | true => rw [ok0_is (a := ()) (ρ' := ρ) (by unfold needW; rw [h]; exact if_pos hk)]; simp
      | false => rw [ok0_not (by unfold needW; rw [h]; exact if_neg (by rw [hk]; simp))]; simp
    | lent d =>
      show _ ↔ k d = true ∧ Q () ρ
      cases hk : k d with
      | true => rw [ok0_is (a := ()) (ρ' := ρ) (by unfold needW; rw [h]; exact if_pos hk)]; simp
      | false => rw [ok0_not (by unfold needW; rw [h]; exact if_neg (by rw [hk]; simp))]; simp
    | _ => exact ok0_not (by unfold needW; rw [h])
@[simp ↓] theorem ok0_mutM {i : Nat} {g : D → Option (D × D)} {Q : R → Env → Prop} : Ok0 (mutM i g) ρ Q ↔ match ρ[i]? with
    | some (.own d) => ∃ p, g d = some p ∧ Q (.frz p.2) (ρ.set i (.own p.1))
    | some (.lent d) => ∃ p, g d = some p ∧ Q (.frz p.2) (ρ.set i (.lent p.1))
    | _ => False := by
  cases h : ρ[i]? with
  | none => exact ok0_not (by unfold mutM; rw [h])
  | some s =>
    cases s with
    | own d =>
      show _ ↔ ∃ p, g d = some p ∧ Q (.frz p.2) (ρ.set i (.own p.1))
      cases hk : g d with
      | some p => rw [ok0_is (a := .frz p.2) (ρ' := ρ.set i (.own p.1)) (by unfold mutM; rw [h]; simp [hk])]; simp
      | none => rw [ok0_not (by unfold mutM; rw [h]; simp [hk])]; simp
    | lent d =>
      show _ ↔ ∃ p, g d = some p ∧ Q (.frz p.2) (ρ.set i (.lent p.1))
      cases hk : g d with
      | some p => rw [ok0_is (a := .frz p.2) (ρ' := ρ.set i (.lent p.1)) (by unfold mutM; rw [h]; simp [hk])]; simp
      | none => rw [ok0_not (by unfold mutM; rw [h]; simp [hk])]; simp
    | _ => exact ok0_not (by unfold mutM; rw [h])
@[simp ↓] theorem ok0_sPut {i : Nat} {o : Opd} {f : M R} {g : D → D → D → Option D} {Q : Fl → Env → Prop} : Ok0 (sPut i o f g) ρ Q ↔ Ok0 f ρ fun r ρ1 => (contAt ρ1 i).isSome = true ∧ Ok0 (evs [o]) ρ1 fun ds ρ2 => Ok0 (mutM i (putD1 g r.d ds)) ρ2 fun _ ρ3 => Q .next ρ3 := by
  unfold sPut
  simp only [ok0_bind, ok0_ret, ok0_needSl]
@[simp ↓] theorem ok0_fMut {i : Nat} {fs : List (M R)} {g : List D → D → Option (D × D)} {Q : R → Env → Prop} : Ok0 (fMut i fs g) ρ Q ↔ Ok0 (needW i isLs) ρ fun _ ρ1 => Ok0 (evF fs) ρ1 fun ds ρ2 => Ok0 (mutM i (g ds)) ρ2 Q := by
  unfold fMut
  simp only [ok0_bind]
@[simp ↓] theorem ok0_fMutO {i : Nat} {os : List Opd} {g : List D → D → Option (D × D)} {Q : R → Env → Prop} : Ok0 (fMutO i os g) ρ Q ↔ Ok0 (needW i isLs) ρ fun _ ρ1 => Ok0 (evs os) ρ1 fun ds ρ2 => Ok0 (mutM i (g ds)) ρ2 Q := by
  unfold fMutO
  simp only [ok0_bind]
@[simp] theorem putD1_eq {g : D → D → D → Option D} {x j d : D} : putD1 g x [j] d = (g j x d).map fun d' => (d', .non) := rfl
@[simp ↓] theorem ok0_fJoin {f : M R} {o : Opd} {Q : R → Env → Prop} : Ok0 (fJoin f o) ρ Q ↔ Ok0 f ρ fun r ρ1 => ∃ x, r = .frz (.str x) ∧ Ok0 (f1 o (joinX x)) ρ1 Q := by
  unfold fJoin
  rw [ok0_bind]
  constructor <;> rintro ⟨a, ρ1, e, q⟩ <;> refine ⟨a, ρ1, e, ?_⟩
  · unfold jK at q
    split at q
    · rename_i x; exact ⟨x, rfl, q⟩
    · exact (ok0_none.mp q).elim
  · obtain ⟨x, rfl, q⟩ := q
    exact q
@[simp ↓] theorem ok0_fCh {g g' : D → D → Option R} {o1 o2 o3 : Opd} {Q : R → Env → Prop} : Ok0 (fCh g g' o1 o2 o3) ρ Q ↔ Ok0 (evs [o1, o2]) ρ fun ds ρ1 => ∃ p, chB g ds = some p ∧ if p.2 = true then Ok0 (evs [o3]) ρ1 fun es ρ2 => ∃ r, ap1 (g' p.1) es = some r ∧ Q r ρ2 else Q (.frz (.bl false)) ρ1 := by
  unfold fCh
  simp only [ok0_bind, ok0_opt]
  constructor <;> rintro ⟨a, ρ1, e, p, ep, q⟩ <;> refine ⟨a, ρ1, e, p, ep, ?_⟩ <;> unfold chK at * <;> cases h : p.2 <;> simp_all
@[simp] theorem chB_eq {g : D → D → Option R} {i j : Int} : chB g [.int i, .int j] = ((g (.int i) (.int j)).bind asB).map fun k => (.int j, k) := rfl
/-! ### calls -/
@[simp ↓] theorem ok0_evC_nil {Q : List Slot → Env → Prop} : Ok0 (evC []) ρ Q ↔ Q [] ρ := ok0_ret
@[simp ↓] theorem ok0_evC_val {f : M R} {cs : List CA} {Q : List Slot → Env → Prop} : Ok0 (evC (.val f :: cs)) ρ Q ↔ Ok0 f ρ fun r ρ1 => Ok0 (evC cs) ρ1 fun ps ρ2 => Q (.frz r.d :: ps) ρ2 := by
  show Ok0 (mbind f fun r => mbind (evC cs) fun ps => mret (.frz r.d :: ps)) ρ Q ↔ _
  simp
@[simp ↓] theorem ok0_getC {g : Slot → Option Slot} {i : Nat} {ps : List Slot} {Q : List Slot → Env → Prop} : Ok0 (getC g i ps) ρ Q ↔ ∃ s, slAt g i ρ = some s ∧ Q (s :: ps) ρ := by
  cases h : slAt g i ρ with
  | none => rw [ok0_not (by unfold getC; rw [h])]; simp
  | some s => rw [ok0_is (by unfold getC; rw [h])]; simp
@[simp ↓] theorem ok0_evC_bor {i : Nat} {cs : List CA} {Q : List Slot → Env → Prop} : Ok0 (evC (.bor i :: cs)) ρ Q ↔ (contAt ρ i).isSome = true ∧ Ok0 (evC cs) ρ fun ps ρ2 => ∃ s, slAt borSl i ρ2 = some s ∧ Q (s :: ps) ρ2 := by
  show Ok0 (mbind (needSl i) fun _ => mbind (evC cs) fun ps => getC borSl i ps) ρ Q ↔ _
  simp
@[simp ↓] theorem ok0_evC_lent {i : Nat} {cs : List CA} {Q : List Slot → Env → Prop} : Ok0 (evC (.lent i :: cs)) ρ Q ↔ (contAt ρ i).isSome = true ∧ Ok0 (evC cs) ρ fun ps ρ2 => ∃ s, slAt lentSl i ρ2 = some s ∧ Q (s :: ps) ρ2 := by
  show Ok0 (mbind (needSl i) fun _ => mbind (evC cs) fun ps => getC lentSl i ps) ρ Q ↔ _
  simp
@[simp] theorem slAt_zero {g : Slot → Option Slot} {s : Slot} : slAt g 0 (s :: ρ) = g s := rfl
@[simp] theorem slAt_succ {g : Slot → Option Slot} {s : Slot} {i : Nat} : slAt g (i + 1) (s :: ρ) = slAt g i ρ := by unfold slAt; rw [List.getElem?_cons_succ]
@[simp] theorem borSl_frz {d : D} : borSl (.frz d) = some (.frz d) := rfl
@[simp] theorem borSl_own {d : D} : borSl (.own d) = some (.bor d) := rfl
@[simp] theorem borSl_bor {d : D} : borSl (.bor d) = some (.bor d) := rfl
@[simp] theorem borSl_lent {d : D} : borSl (.lent d) = some (.bor d) := rfl
@[simp] theorem lentSl_own {d : D} : lentSl (.own d) = some (.lent d) := rfl
@[simp] theorem lentSl_lent {d : D} : lentSl (.lent d) = some (.lent d) := rfl
theorem ok0_callM {m : Fn} {cs : List CA} {ps : List Slot} {Q : R → Env → Prop} : Ok0 (callM m cs ps) ρ Q ↔ COk0 m ps fun r ps' => Q r (putC cs ps' ρ) := by
  unfold COk0
  cases h : m ps with
  | none => rw [ok0_not (by unfold callM; rw [h])]; simp
  | some x =>
    cases x with
    | ret r ps' =>
      rw [ok0_is (by unfold callM; rw [h])]
      constructor
      · exact fun q => ⟨r, ps', rfl, q⟩
      · rintro ⟨_, _, e2, q⟩
        cases e2
        exact q
    | exc e ps' =>
      constructor
      · rintro ⟨_, _, e2, _⟩
        unfold callM at e2
        rw [h] at e2
        cases e2
      · rintro ⟨_, _, e2, _⟩
        cases e2
@[simp ↓] theorem ok0_fCall {m : Fn} {cs : List CA} {Q : R → Env → Prop} : Ok0 (fCall m cs) ρ Q ↔ Ok0 (evC cs) ρ fun ps ρ1 => COk0 m ps fun r ps' => Q r (putC cs ps' ρ1) := by
  unfold fCall
  simp only [ok0_bind, ok0_callM]
@[simp] theorem putC_nil {ps : List Slot} : putC [] ps ρ = ρ := by cases ps <;> rfl
@[simp] theorem putC_lent {i : Nat} {cs : List CA} {d : D} {ps : List Slot} : putC (.lent i :: cs) (.lent d :: ps) ρ = putC cs ps (ρ.set i (relent ρ i d)) := rfl
@[simp] theorem putC_val {f : M R} {cs : List CA} {s : Slot} {ps : List Slot} : putC (.val f :: cs) (s :: ps) ρ = putC cs ps ρ := rfl
@[simp] theorem putC_bor {i : Nat} {cs : List CA} {s : Slot} {ps : List Slot} : putC (.bor i :: cs) (s :: ps) ρ = putC cs ps ρ := rfl
@[simp] theorem relent_own0 {d d' : D} : relent (.own d' :: ρ) 0 d = .own d := rfl
@[simp] theorem relent_lent0 {d d' : D} : relent (.lent d' :: ρ) 0 d = .lent d := rfl
@[simp] theorem relent_succ {s : Slot} {i : Nat} {d : D} : relent (s :: ρ) (i + 1) d = relent ρ i d := by unfold relent; rw [List.getElem?_cons_succ]
@[simp] theorem isEmp_zero : isEmp (.emp :: ρ) 0 = true := rfl
@[simp] theorem isEmp_succ {s : Slot} {i : Nat} : isEmp (s :: ρ) (i + 1) = isEmp ρ i := by unfold isEmp; rw [List.getElem?_cons_succ]
theorem ok0_fCallT {i : Nat} {m : Fn} {f : M R} {cs : List CA} {Q : R → Env → Prop} (he : isEmp ρ i = true) (h : Ok0 f ρ fun r ρ1 => ∃ d, r = .own d ∧ isEmp ρ1 i = true ∧ Ok0 (fCall m (.lent i :: cs)) (ρ1.set i (.own d)) fun r ρ2 => Q r (ρ2.set i .emp)) :
    Ok0 (fCallT i m f cs) ρ Q := by
  obtain ⟨r, ρ1, e, d, rfl, h2, a, ρ2, e2, q⟩ := h
  refine ⟨a, ρ2.set i .emp, ?_, q⟩
  unfold fCallT
  rw [if_pos he]
  unfold mbind
  rw [e]
  show wipe1 i (mbind (putT i (.own d)) fun _ => fCall m (.lent i :: cs)) ρ1 = _
  unfold wipe1
  have k : putT i (.own d) ρ1 = some (.ok () (ρ1.set i (.own d))) := by unfold putT; rw [isEmp_at h2]
  have : mbind (putT i (.own d)) (fun _ => fCall m (.lent i :: cs)) ρ1 = some (.ok a ρ2) := by
    unfold mbind
    rw [k]
    exact e2
  rw [this]
/-- a def -/
theorem cok0_fnA {a n : Nat} {b : M Fl} {ps : List Slot} {Q : R → List Slot → Prop} (hl : ps.length = a) (h : Ok0 b (ps ++ List.replicate (n - a) .emp) fun fl ρ' => match fl with
    | .ret r => Q r (outPs ps ρ')
    | .next => Q (.frz .non) (outPs ps ρ')
    | _ => False) : COk0 (fnA a n b) ps Q := by
  obtain ⟨fl, ρ', e, q⟩ := h
  unfold COk0 fnA
  rw [if_pos hl]
  unfold runF
  rw [hl, e]
  cases fl with
  | ret r => exact ⟨r, _, rfl, q⟩
  | next => exact ⟨_, _, rfl, q⟩
  | brk => exact q.elim
  | cont => exact q.elim
@[simp] theorem outP_lent {d d' : D} : outP (.lent d) (.lent d') = .lent d' := rfl
@[simp] theorem outP_frz {d : D} {s : Slot} : outP (.frz d) s = .frz d := by cases s <;> rfl
@[simp] theorem outP_bor {d : D} {s : Slot} : outP (.bor d) s = .bor d := by cases s <;> rfl
@[simp] theorem outPs_nil {ρ : Env} : outPs [] ρ = [] := rfl
@[simp] theorem outPs_cons {p s : Slot} {ps : List Slot} {ρ : Env} : outPs (p :: ps) (s :: ρ) = outP p s :: outPs ps ρ := rfl
/-! ### targets, walks -/
@[simp ↓] theorem ok0_setTg_nm {i : Nat} {d : D} {Q : Unit → Env → Prop} : Ok0 (setTg (.nm i) d) ρ Q ↔ Ok0 (setSl i (.frz d)) ρ fun _ ρ' => Q () ρ' := by
  show Ok0 (mbind (setSl i (.frz d)) fun _ => mret ()) ρ Q ↔ _
  simp only [ok0_bind, ok0_ret]
@[simp ↓] theorem ok0_setTg_tp {ts : List Tg} {ds : List D} {Q : Unit → Env → Prop} : Ok0 (setTg (.tp ts) (.tup ds)) ρ Q ↔ Ok0 (setTgs ts ds) ρ Q := Iff.rfl
@[simp ↓] theorem ok0_setTg_tpl {ts : List Tg} {ds : List D} {Q : Unit → Env → Prop} : Ok0 (setTg (.tp ts) (.tpl ds)) ρ Q ↔ Ok0 (setTgs ts ds) ρ Q := Iff.rfl
@[simp ↓] theorem ok0_setTgs_nil {Q : Unit → Env → Prop} : Ok0 (setTgs [] []) ρ Q ↔ Q () ρ := ok0_ret
@[simp ↓] theorem ok0_setTgs_cons {t : Tg} {ts : List Tg} {d : D} {ds : List D} {Q : Unit → Env → Prop} : Ok0 (setTgs (t :: ts) (d :: ds)) ρ Q ↔ Ok0 (setTg t d) ρ fun _ ρ' => Ok0 (setTgs ts ds) ρ' Q := by
  show Ok0 (mbind (setTg t d) fun _ => setTgs ts ds) ρ Q ↔ _
  rw [ok0_bind]
@[simp ↓] theorem ok0_sUnp {t : Tg} {f : M R} {Q : Fl → Env → Prop} : Ok0 (sUnp t f) ρ Q ↔ Ok0 f ρ fun r ρ' => Ok0 (setTg t r.d) ρ' fun _ ρ2 => Q .next ρ2 := by
  unfold sUnp
  simp only [ok0_bind, ok0_ret]
@[simp ↓] theorem ok0_fSrc {g : D → Option (List D)} {f : M R} {Q : List D → Env → Prop} : Ok0 (fSrc g f) ρ Q ↔ Ok0 f ρ fun r ρ' => ∃ ds, g r.d = some ds ∧ Q ds ρ' := by
  unfold fSrc
  simp only [ok0_bind, ok0_opt]
@[simp ↓] theorem ok0_fSrcB {g : D → Option (List D)} {i : Nat} {Q : List D → Env → Prop} : Ok0 (fSrcB g i) ρ Q ↔ match ρ[i]? with
    | some (.bor d) => ∃ ds, g d = some ds ∧ Q ds ρ
    | some (.frz d) => ∃ ds, g d = some ds ∧ Q ds ρ
    | _ => False := by
  cases h : ρ[i]? with
  | none => exact ok0_not (by unfold fSrcB; rw [h])
  | some s =>
    cases s with
    | bor d =>
      have e : fSrcB g i ρ = mopt (g d) ρ := by unfold fSrcB; rw [h]
      show Ok0 _ _ _ ↔ ∃ ds, g d = some ds ∧ Q ds ρ
      rw [← ok0_opt]
      unfold Ok0
      rw [e]
    | frz d =>
      have e : fSrcB g i ρ = mopt (g d) ρ := by unfold fSrcB; rw [h]
      show Ok0 _ _ _ ↔ ∃ ds, g d = some ds ∧ Q ds ρ
      rw [← ok0_opt]
      unfold Ok0
      rw [e]
    | _ => exact ok0_not (by unfold fSrcB; rw [h])
@[simp ↓] theorem ok0_fRng {g : List D → Option (List D)} {os : List Opd} {Q : List D → Env → Prop} : Ok0 (fRng g os) ρ Q ↔ Ok0 (evs os) ρ fun ds ρ' => ∃ xs, g ds = some xs ∧ Q xs ρ' := by
  unfold fRng
  simp only [ok0_bind, ok0_opt]
/-- a walk with an invariant of what is still to come -/
theorem ok0_forL {t : Tg} {body : M Fl} {I : List D → Env → Prop} {Q : Fl → Env → Prop}
    (step : ∀ d ds ρ, I (d :: ds) ρ → Ok0 (setTg t d) ρ fun _ ρ1 => Ok0 body ρ1 fun fl ρ2 => match fl with
      | .next => I ds ρ2
      | .cont => I ds ρ2
      | .brk => Q .next ρ2
      | .ret r => Q (.ret r) ρ2) (fin : ∀ ρ, I [] ρ → Q .next ρ) : ∀ (ds : List D) (ρ : Env), I ds ρ → Ok0 (forL t body ds) ρ Q
  | [], ρ, h => ok0_ret.mpr (fin ρ h)
  | d :: ds, ρ, h => by
    show Ok0 (mbind (setTg t d) fun _ => mbind body fun fl => _) ρ Q
    rw [ok0_bind]
    refine (step d ds ρ h).mono fun _ ρ1 h1 => ?_
    rw [ok0_bind]
    refine h1.mono fun fl ρ2 h2 => ?_
    cases fl with
    | next => exact ok0_forL step fin ds ρ2 h2
    | cont => exact ok0_forL step fin ds ρ2 h2
    | brk => exact ok0_ret.mpr h2
    | ret r => exact ok0_ret.mpr h2
@[simp ↓] theorem ok0_sFor {t : Tg} {src : M (List D)} {body : M Fl} {Q : Fl → Env → Prop} : Ok0 (sFor t src body) ρ Q ↔ Ok0 src ρ fun ds ρ' => Ok0 (forL t body ds) ρ' Q := by
  unfold sFor
  rw [ok0_bind]
/-- a while with a measure -/
theorem ok0_while {c : M Bool} {body : M Fl} {I : Nat → Env → Prop} {Q : Fl → Env → Prop}
    (step : ∀ n ρ, I n ρ → Ok0 c ρ fun k ρ1 => if k = true then Ok0 body ρ1 fun fl ρ2 => (match fl with
      | .next => ∃ n', n' < n ∧ I n' ρ2
      | .cont => ∃ n', n' < n ∧ I n' ρ2
      | .brk => Q .next ρ2
      | .ret r => Q (.ret r) ρ2) else Q .next ρ1) : ∀ (n : Nat) (ρ : Env), I n ρ → Ok0 (sWhile c body) ρ Q := by
  have key : ∀ (n : Nat) (ρ : Env), I n ρ → Ok0 (whileN c body (n + 1)) ρ Q := fun n => by
    induction n using Nat.strongRecOn with
    | ind n ih =>
      intro ρ h
      show Ok0 (mbind c fun k => _) ρ Q
      rw [ok0_bind]
      refine (step n ρ h).mono fun k ρ1 h1 => ?_
      cases k with
      | false => exact ok0_ret.mpr h1
      | true =>
        show Ok0 (mbind body fun fl => _) ρ1 Q
        rw [ok0_bind]
        have h1 : Ok0 body ρ1 _ := h1
        refine h1.mono fun fl ρ2 h2 => ?_
        have go : (∃ n', n' < n ∧ I n' ρ2) → Ok0 (whileN c body n) ρ2 Q := fun ⟨n', hn, h3⟩ => by
          obtain ⟨a, ρ3, e, q⟩ := ih n' hn ρ2 h3
          have := whileN_add e (n - (n' + 1))
          rw [show n' + 1 + (n - (n' + 1)) = n by omega] at this
          exact ⟨a, ρ3, this, q⟩
        cases fl with
        | next => exact go h2
        | cont => exact go h2
        | brk => exact ok0_ret.mpr h2
        | ret r => exact ok0_ret.mpr h2
  intro n ρ h
  obtain ⟨a, ρ', e, q⟩ := key n ρ h
  exact ⟨a, ρ', sWhile_eq e, q⟩
/-! ### comprehensions -/
theorem ok0_lcL {t : Tg} {is : List Nat} {cond : M Bool} {elt : M R} {I : List D → List D → Env → Prop} {Q : List D → Env → Prop}
    (step : ∀ d ds acc ρ, I (d :: ds) acc ρ → Ok0 (setTg t d) ρ fun _ ρ1 => Ok0 cond ρ1 fun k ρ2 => if k = true then Ok0 elt ρ2 fun r ρ3 => acc.length < sizeLine ∧ I ds (acc ++ [r.d]) (wipeE ρ3 is) else I ds acc (wipeE ρ2 is)) (fin : ∀ acc ρ, I [] acc ρ → Q acc ρ) :
    ∀ (ds acc : List D) (ρ : Env), I ds acc ρ → Ok0 (lcL t is cond elt ds acc) ρ Q
  | [], acc, ρ, h => ok0_ret.mpr (fin acc ρ h)
  | d :: ds, acc, ρ, h => by
    show Ok0 (mbind (setTg t d) fun _ => mbind cond fun k => _) ρ Q
    rw [ok0_bind]
    refine (step d ds acc ρ h).mono fun _ ρ1 h1 => ?_
    rw [ok0_bind]
    refine h1.mono fun k ρ2 h2 => ?_
    cases k with
    | false => exact ok0_lcL step fin ds acc _ h2
    | true =>
      show Ok0 (mbind elt fun r => mbind (mopt (if acc.length < sizeLine then some () else none)) fun _ => fun ρ => lcL t is cond elt ds (acc ++ [r.d]) (wipeE ρ is)) ρ2 Q
      rw [ok0_bind]
      have h2 : Ok0 elt ρ2 _ := h2
      refine h2.mono fun r ρ3 ⟨hz, h3⟩ => ?_
      rw [ok0_bind, ok0_opt]
      exact ⟨(), if_pos hz, ok0_lcL step fin ds _ _ h3⟩
theorem ok0_fLc {t : Tg} {is : List Nat} {src : M (List D)} {cond : M Bool} {elt : M R} {Q : R → Env → Prop} (h : Ok0 src ρ fun ds ρ1 => wipeOk ρ1 is = true ∧ Ok0 (lcL t is cond elt ds []) (wipeE ρ1 is) fun acc ρ2 => Q (.own (.lst acc)) (backE ρ1 ρ2 is)) : Ok0 (fLc t is src cond elt) ρ Q := by
  obtain ⟨ds, ρ1, e, hw, acc, ρ2, e2, q⟩ := h
  refine ⟨_, _, ?_, q⟩
  unfold fLc mbind
  rw [e]
  show (if wipeOk ρ1 is = true then _ else _) = _
  rw [if_pos hw, e2]
  rfl
/-- a comprehension that changes nothing else -/
theorem ok0_lcMap {t : Tg} {is : List Nat} {cond : M Bool} {elt : M R} {ds : List D} {ρw : Env} {c : D → Bool} {e : D → D} {Q : List D → Env → Prop}
    (h : ∀ d ∈ ds, Ok0 (setTg t d) ρw fun _ ρ1 => Ok0 cond ρ1 fun k ρ2 => k = c d ∧ if k = true then Ok0 elt ρ2 fun r ρ3 => r.d = e d ∧ wipeE ρ3 is = ρw else wipeE ρ2 is = ρw)
    (hz : ds.length ≤ sizeLine) (hQ : Q ((ds.filter c).map e) ρw) : Ok0 (lcL t is cond elt ds []) ρw Q := by
  refine ok0_lcL (I := fun todo acc ρ => ρ = ρw ∧ ∃ done, ds = done ++ todo ∧ acc = (done.filter c).map e) (fun d todo acc ρ hI => ?_) (fun acc ρ hI => ?_) ds [] ρw ⟨rfl, [], rfl, rfl⟩
  · obtain ⟨rfl, done, hd, rfl⟩ := hI
    have hm : d ∈ ds := by rw [hd]; exact List.mem_append_right _ List.mem_cons_self
    refine (h d hm).mono fun _ ρ1 h1 => h1.mono fun k ρ2 ⟨hk, h2⟩ => ?_
    have hl : ((done.filter c).map e).length < sizeLine := by
      have h3 := List.length_filter_le c done
      have h4 := congrArg List.length hd
      rw [List.length_append, List.length_cons] at h4
      rw [List.length_map]
      omega
    cases k with
    | true =>
      have h2 : Ok0 elt ρ2 _ := h2
      refine h2.mono fun r ρ3 ⟨h5, h6⟩ => ⟨hl, h6, done ++ [d], by rw [hd, List.append_assoc]; rfl, ?_⟩
      rw [List.filter_append, List.map_append, List.filter_cons, if_pos hk.symm, h5]
      rfl
    | false =>
      refine ⟨h2, done ++ [d], by rw [hd, List.append_assoc]; rfl, ?_⟩
      rw [List.filter_append, List.filter_cons, if_neg (by rw [← hk]; simp)]
      simp
  · obtain ⟨rfl, done, hd, rfl⟩ := hI
    rw [List.append_nil] at hd
    rw [← hd]
    exact hQ
end
end Dz
/-! Dz 16: the same, stated so that simp works from the front and leaves what comes behind alone. -/
namespace Dz
open PySem PySem.Spec PyProof.Rows L2
/-- held as it stands (simp leaves x alone where something hangs on it) -/
def Dm {α : Type} (x : α) : Type := Unit
def Dm.mk {α : Type} {x : α} : Dm x := ()
/-- f ends well, so that Q -/
def Ok {α : Type} (f : M α) (ρ : Env) (Q : α → Env → Prop) (_u : Dm (f, Q) := Dm.mk) : Prop := Ok0 f ρ Q
def COk (m : Fn) (ps : List Slot) (Q : R → List Slot → Prop) (_u : Dm (m, Q) := Dm.mk) : Prop := COk0 m ps Q
theorem Ok.mono {α : Type} {f : M α} {ρ : Env} {Q Q' : α → Env → Prop} (h : Ok f ρ Q) (hq : ∀ a ρ', Q a ρ' → Q' a ρ') : Ok f ρ Q' := let ⟨a, ρ', e, q⟩ := h; ⟨a, ρ', e, hq a ρ' q⟩
theorem COk.mono {m : Fn} {ps : List Slot} {Q Q' : R → List Slot → Prop} (h : COk m ps Q) (hq : ∀ a ρ', Q a ρ' → Q' a ρ') : COk m ps Q' := let ⟨a, ρ', e, q⟩ := h; ⟨a, ρ', e, hq a ρ' q⟩
/-- a name that may be given something -/
def nl (s : Slot) : Prop := s = .emp ∨ (∃ d, s = .frz d) ∨ ∃ d, s = .own d
def wN (o : Option Slot) (P : Prop) : Prop := match o with
  | some .emp => P
  | some (.frz _) => P
  | some (.own _) => P
  | some (.bor _) => P
  | _ => False
@[simp] theorem wN_emp {P : Prop} : wN (some .emp) P ↔ P := Iff.rfl
@[simp] theorem wN_frz {P : Prop} {d : D} : wN (some (.frz d)) P ↔ P := Iff.rfl
@[simp] theorem wN_own {P : Prop} {d : D} : wN (some (.own d)) P ↔ P := Iff.rfl
@[simp] theorem wN_bor {P : Prop} {d : D} : wN (some (.bor d)) P ↔ P := Iff.rfl
theorem wN_nl {P : Prop} {s : Slot} (h : nl s) : wN (some s) P ↔ P := by rcases h with rfl | ⟨d, rfl⟩ | ⟨d, rfl⟩ <;> exact Iff.rfl
@[simp] theorem nl_emp : nl .emp := .inl rfl
@[simp] theorem nl_frz {d : D} : nl (.frz d) := .inr (.inl ⟨d, rfl⟩)
@[simp] theorem nl_own {d : D} : nl (.own d) := .inr (.inr ⟨d, rfl⟩)
/-- where there is something: so that P -/
def sN {α : Type} (o : Option α) (P : α → Prop) : Prop := ∃ a, o = some a ∧ P a
@[simp] theorem sN_some {α : Type} {a : α} {P : α → Prop} : sN (some a) P ↔ P a := ⟨fun ⟨_, e, h⟩ => by cases e; exact h, fun h => ⟨a, rfl, h⟩⟩
@[simp] theorem sN_none {α : Type} {P : α → Prop} : sN none P ↔ False := ⟨fun ⟨_, e, _⟩ => (nomatch e), False.elim⟩
@[simp] theorem sN_ite {α : Type} {c : Prop} [Decidable c] {a : α} {P : α → Prop} : sN (if c then some a else none) P ↔ c ∧ P a := by
  by_cases h : c
  · rw [if_pos h, sN_some]; exact ⟨fun k => ⟨h, k⟩, fun k => k.2⟩
  · rw [if_neg h, sN_none]; exact ⟨False.elim, fun k => h k.1⟩
@[simp] theorem sN_map {α β : Type} {o : Option α} {f : α → β} {P : β → Prop} : sN (o.map f) P ↔ sN o fun a => P (f a) := by
  cases o <;> simp
theorem sN_of {α : Type} {o : Option α} {a : α} {P : α → Prop} (e : o = some a) : sN o P ↔ P a := by rw [e, sN_some]
section
variable {α β : Type} {ρ : Env}
@[simp ↓] theorem ok_bind {f : M α} {g : α → M β} {Q : β → Env → Prop} : Ok (mbind f g) ρ Q ↔ Ok f ρ fun a ρ' => Ok (g a) ρ' Q := ok0_bind
@[simp ↓] theorem ok_ret {a : α} {Q : α → Env → Prop} : Ok (mret a) ρ Q ↔ Q a ρ := ok0_ret
@[simp ↓] theorem ok_opt {o : Option α} {Q : α → Env → Prop} : Ok (mopt o) ρ Q ↔ sN (o) fun a => Q a ρ := ok0_opt
@[simp ↓] theorem ok_none {Q : α → Env → Prop} : Ok (fun _ => none) ρ Q ↔ False := ok0_none
@[simp ↓] theorem ok_fIf {c : M Bool} {f g : M α} {Q : α → Env → Prop} : Ok (fIf c f g) ρ Q ↔ Ok c ρ fun k ρ' => if k = true then Ok f ρ' Q else Ok g ρ' Q := ok0_fIf
@[simp ↓] theorem ok_seq {f g : M Fl} {Q : Fl → Env → Prop} : Ok (sSeq f g) ρ Q ↔ Ok f ρ fun fl ρ' => match fl with
    | .next => Ok g ρ' Q
    | fl => Q fl ρ' := ok0_seq
@[simp ↓] theorem ok_fC {d : D} {Q : R → Env → Prop} : Ok (fC d) ρ Q ↔ Q (.frz d) ρ := ok0_fC
@[simp ↓] theorem ok_fName {i : Nat} {Q : R → Env → Prop} : Ok (fName i) ρ Q ↔ match ρ[i]? with
    | some (.frz d) => Q (.frz d) ρ
    | some (.own d) => Q (.frz d) (ρ.set i (.frz d))
    | _ => False := ok0_fName
@[simp ↓] theorem ok_fMove {i : Nat} {Q : R → Env → Prop} : Ok (fMove i) ρ Q ↔ match ρ[i]? with
    | some (.frz d) => Q (.frz d) ρ
    | some (.own d) => Q (.own d) (ρ.set i .emp)
    | _ => False := ok0_fMove
@[simp ↓] theorem ok_evs_nil {Q : List D → Env → Prop} : Ok (evs []) ρ Q ↔ Q [] ρ := ok0_evs_nil
@[simp ↓] theorem ok_evs_ev {f : M R} {os : List Opd} {Q : List D → Env → Prop} : Ok (evs (.ev f :: os)) ρ Q ↔ Ok f ρ fun r ρ1 => Ok (evs os) ρ1 fun ds ρ2 => Q (r.d :: ds) ρ2 := ok0_evs_ev
@[simp ↓] theorem ok_evs_sl {i : Nat} {os : List Opd} {Q : List D → Env → Prop} : Ok (evs (.sl i :: os)) ρ Q ↔ (contAt ρ i).isSome = true ∧ Ok (evs os) ρ fun ds ρ2 => sN (contAt ρ2 i) fun d => Q (d :: ds) ρ2 := ok0_evs_sl
@[simp ↓] theorem ok_f2 {o1 o2 : Opd} {g : D → D → Option R} {Q : R → Env → Prop} : Ok (f2 o1 o2 g) ρ Q ↔ Ok (evs [o1, o2]) ρ fun ds ρ' => sN (ap2 g ds) fun r => Q r ρ' := ok0_f2
@[simp ↓] theorem ok_f1 {o1 : Opd} {g : D → Option R} {Q : R → Env → Prop} : Ok (f1 o1 g) ρ Q ↔ Ok (evs [o1]) ρ fun ds ρ' => sN (ap1 g ds) fun r => Q r ρ' := ok0_f1
@[simp ↓] theorem ok_fL {os : List Opd} {g : List D → Option R} {Q : R → Env → Prop} : Ok (fL os g) ρ Q ↔ Ok (evs os) ρ fun ds ρ' => sN (g ds) fun r => Q r ρ' := ok0_fL
@[simp ↓] theorem ok_fB {f : M R} {Q : Bool → Env → Prop} : Ok (fB f) ρ Q ↔ Ok f ρ fun r ρ' => sN (asB r) fun k => Q k ρ' := ok0_fB
@[simp ↓] theorem ok_fAnd {f g : M Bool} {Q : Bool → Env → Prop} : Ok (fAnd f g) ρ Q ↔ Ok f ρ fun c ρ' => if c = true then Ok g ρ' Q else Q false ρ' := ok0_fAnd
@[simp ↓] theorem ok_fOr {f g : M Bool} {Q : Bool → Env → Prop} : Ok (fOr f g) ρ Q ↔ Ok f ρ fun c ρ' => if c = true then Q true ρ' else Ok g ρ' Q := ok0_fOr
@[simp ↓] theorem ok_fNot {f : M Bool} {Q : Bool → Env → Prop} : Ok (fNot f) ρ Q ↔ Ok f ρ fun c ρ' => Q (!c) ρ' := ok0_fNot
@[simp ↓] theorem ok_fAndV {f g : M R} {Q : R → Env → Prop} : Ok (fAndV f g) ρ Q ↔ Ok f ρ fun r ρ' => sN (asB r) fun k => if k = true then Ok g ρ' Q else Q (.frz (.bl false)) ρ' := ok0_fAndV
@[simp ↓] theorem ok_fOrV {f g : M R} {Q : R → Env → Prop} : Ok (fOrV f g) ρ Q ↔ Ok f ρ fun r ρ' => sN (asB r) fun k => if k = true then Q (.frz (.bl true)) ρ' else Ok g ρ' Q := ok0_fOrV
@[simp ↓] theorem ok_fNotV {f : M R} {Q : R → Env → Prop} : Ok (fNotV f) ρ Q ↔ Ok f ρ fun r ρ' => sN (asB r) fun k => Q (.frz (.bl (!k))) ρ' := ok0_fNotV
@[simp ↓] theorem ok_evF_nil {Q : List D → Env → Prop} : Ok (evF []) ρ Q ↔ Q [] ρ := ok0_evF_nil
@[simp ↓] theorem ok_evF_cons {f : M R} {fs : List (M R)} {Q : List D → Env → Prop} : Ok (evF (f :: fs)) ρ Q ↔ Ok f ρ fun r ρ1 => Ok (evF fs) ρ1 fun ds ρ2 => Q (r.d :: ds) ρ2 := ok0_evF_cons
@[simp ↓] theorem ok_fTup {fs : List (M R)} {Q : R → Env → Prop} : Ok (fTup fs) ρ Q ↔ Ok (evF fs) ρ fun ds ρ' => ds.length ≤ sizeLine ∧ Q (.frz (.tup ds)) ρ' := ok0_fTup
@[simp ↓] theorem ok_fLst {fs : List (M R)} {Q : R → Env → Prop} : Ok (fLst fs) ρ Q ↔ Ok (evF fs) ρ fun ds ρ' => ds.length ≤ sizeLine ∧ Q (.own (.lst ds)) ρ' := ok0_fLst
@[simp ↓] theorem ok_fI {f : M R} {Q : R → Env → Prop} : Ok (fI f) ρ Q ↔ Ok f ρ fun r ρ' => ∃ i, r = .frz (.int i) ∧ Q (.frz (.int i)) ρ' := ok0_fI
@[simp ↓] theorem ok_sAsg {i : Nat} {f : M R} {Q : Fl → Env → Prop} : Ok (sAsg i f) ρ Q ↔ Ok f ρ fun r ρ' => Ok (setSl i r) ρ' Q := ok0_sAsg
theorem ok_setSl0 {i : Nat} {r : R} {Q : Fl → Env → Prop} : Ok (setSl i r) ρ Q ↔ wN ρ[i]? (Q .next (ρ.set i (slotOf r))) := by
  refine Iff.trans ok0_setSl ?_
  cases ρ[i]? with
  | none => exact Iff.rfl
  | some s => cases s <;> exact Iff.rfl
@[simp ↓] theorem ok_setSl {i : Nat} {r : R} {Q : Fl → Env → Prop} : Ok (setSl i r) ρ Q ↔ wN ρ[i]? (Q .next (ρ.set i (slotOf r))) := ok_setSl0
@[simp ↓] theorem ok_sRet {f : M R} {Q : Fl → Env → Prop} : Ok (sRet f) ρ Q ↔ Ok f ρ fun r ρ' => Q (.ret r) ρ' := ok0_sRet
@[simp ↓] theorem ok_sExpr {f : M R} {Q : Fl → Env → Prop} : Ok (sExpr f) ρ Q ↔ Ok f ρ fun _ ρ' => Q .next ρ' := ok0_sExpr
@[simp ↓] theorem ok_needSl {i : Nat} {Q : Unit → Env → Prop} : Ok (needSl i) ρ Q ↔ (contAt ρ i).isSome = true ∧ Q () ρ := ok0_needSl
@[simp ↓] theorem ok_needW {i : Nat} {k : D → Bool} {Q : Unit → Env → Prop} : Ok (needW i k) ρ Q ↔ match ρ[i]? with
    | some (.own d) => k d = true ∧ Q () ρ
    | some (.lent d) => k d = true ∧ Q () ρ
    | _ => False := ok0_needW
@[simp ↓] theorem ok_mutM {i : Nat} {g : D → Option (D × D)} {Q : R → Env → Prop} : Ok (mutM i g) ρ Q ↔ match ρ[i]? with
    | some (.own d) => sN (g d) fun p => Q (.frz p.2) (ρ.set i (.own p.1))
    | some (.lent d) => sN (g d) fun p => Q (.frz p.2) (ρ.set i (.lent p.1))
    | _ => False := ok0_mutM
@[simp ↓] theorem ok_sPut {i : Nat} {o : Opd} {f : M R} {g : D → D → D → Option D} {Q : Fl → Env → Prop} : Ok (sPut i o f g) ρ Q ↔ Ok f ρ fun r ρ1 => (contAt ρ1 i).isSome = true ∧ Ok (evs [o]) ρ1 fun ds ρ2 => Ok (mutM i (putD1 g r.d ds)) ρ2 fun _ ρ3 => Q .next ρ3 := ok0_sPut
@[simp ↓] theorem ok_fMut {i : Nat} {fs : List (M R)} {g : List D → D → Option (D × D)} {Q : R → Env → Prop} : Ok (fMut i fs g) ρ Q ↔ Ok (needW i isLs) ρ fun _ ρ1 => Ok (evF fs) ρ1 fun ds ρ2 => Ok (mutM i (g ds)) ρ2 Q := ok0_fMut
@[simp ↓] theorem ok_fMutO {i : Nat} {os : List Opd} {g : List D → D → Option (D × D)} {Q : R → Env → Prop} : Ok (fMutO i os g) ρ Q ↔ Ok (needW i isLs) ρ fun _ ρ1 => Ok (evs os) ρ1 fun ds ρ2 => Ok (mutM i (g ds)) ρ2 Q := ok0_fMutO
@[simp ↓] theorem ok_fJoin {f : M R} {o : Opd} {Q : R → Env → Prop} : Ok (fJoin f o) ρ Q ↔ Ok f ρ fun r ρ1 => ∃ x, r = .frz (.str x) ∧ Ok (f1 o (joinX x)) ρ1 Q := ok0_fJoin
theorem ok_fCh0 {g g' : D → D → Option R} {o1 o2 o3 : Opd} {Q : R → Env → Prop} : Ok (fCh g g' o1 o2 o3) ρ Q ↔ Ok (evs [o1, o2]) ρ fun ds ρ1 => sN (chB g ds) fun p => if p.2 = true then Ok (evs [o3]) ρ1 (fun es ρ2 => sN (ap1 (g' p.1) es) fun r => Q r ρ2) else Q (.frz (.bl false)) ρ1 := ok0_fCh
@[simp ↓] theorem ok_evC_nil {Q : List Slot → Env → Prop} : Ok (evC []) ρ Q ↔ Q [] ρ := ok0_evC_nil
@[simp ↓] theorem ok_evC_val {f : M R} {cs : List CA} {Q : List Slot → Env → Prop} : Ok (evC (.val f :: cs)) ρ Q ↔ Ok f ρ fun r ρ1 => Ok (evC cs) ρ1 fun ps ρ2 => Q (.frz r.d :: ps) ρ2 := ok0_evC_val
@[simp ↓] theorem ok_getC {g : Slot → Option Slot} {i : Nat} {ps : List Slot} {Q : List Slot → Env → Prop} : Ok (getC g i ps) ρ Q ↔ sN (slAt g i ρ) fun s => Q (s :: ps) ρ := ok0_getC
@[simp ↓] theorem ok_evC_bor {i : Nat} {cs : List CA} {Q : List Slot → Env → Prop} : Ok (evC (.bor i :: cs)) ρ Q ↔ (contAt ρ i).isSome = true ∧ Ok (evC cs) ρ fun ps ρ2 => sN (slAt borSl i ρ2) fun s => Q (s :: ps) ρ2 := ok0_evC_bor
@[simp ↓] theorem ok_evC_lent {i : Nat} {cs : List CA} {Q : List Slot → Env → Prop} : Ok (evC (.lent i :: cs)) ρ Q ↔ (contAt ρ i).isSome = true ∧ Ok (evC cs) ρ fun ps ρ2 => sN (slAt lentSl i ρ2) fun s => Q (s :: ps) ρ2 := ok0_evC_lent
@[simp ↓] theorem ok_fCall {m : Fn} {cs : List CA} {Q : R → Env → Prop} : Ok (fCall m cs) ρ Q ↔ Ok (evC cs) ρ fun ps ρ1 => COk m ps fun r ps' => Q r (putC cs ps' ρ1) := ok0_fCall
@[simp ↓] theorem ok_setTg_nm {i : Nat} {d : D} {Q : Unit → Env → Prop} : Ok (setTg (.nm i) d) ρ Q ↔ Ok (setSl i (.frz d)) ρ fun _ ρ' => Q () ρ' := ok0_setTg_nm
@[simp ↓] theorem ok_setTg_tp {ts : List Tg} {ds : List D} {Q : Unit → Env → Prop} : Ok (setTg (.tp ts) (.tup ds)) ρ Q ↔ Ok (setTgs ts ds) ρ Q := ok0_setTg_tp
@[simp ↓] theorem ok_setTg_tpl {ts : List Tg} {ds : List D} {Q : Unit → Env → Prop} : Ok (setTg (.tp ts) (.tpl ds)) ρ Q ↔ Ok (setTgs ts ds) ρ Q := ok0_setTg_tpl
@[simp ↓] theorem ok_setTgs_nil {Q : Unit → Env → Prop} : Ok (setTgs [] []) ρ Q ↔ Q () ρ := ok0_setTgs_nil
@[simp ↓] theorem ok_setTgs_cons {t : Tg} {ts : List Tg} {d : D} {ds : List D} {Q : Unit → Env → Prop} : Ok (setTgs (t :: ts) (d :: ds)) ρ Q ↔ Ok (setTg t d) ρ fun _ ρ' => Ok (setTgs ts ds) ρ' Q := ok0_setTgs_cons
@[simp ↓] theorem ok_sUnp {t : Tg} {f : M R} {Q : Fl → Env → Prop} : Ok (sUnp t f) ρ Q ↔ Ok f ρ fun r ρ' => Ok (setTg t r.d) ρ' fun _ ρ2 => Q .next ρ2 := ok0_sUnp
@[simp ↓] theorem ok_fSrc {g : D → Option (List D)} {f : M R} {Q : List D → Env → Prop} : Ok (fSrc g f) ρ Q ↔ Ok f ρ fun r ρ' => sN (g r.d) fun ds => Q ds ρ' := ok0_fSrc
@[simp ↓] theorem ok_fSrcB {g : D → Option (List D)} {i : Nat} {Q : List D → Env → Prop} : Ok (fSrcB g i) ρ Q ↔ match ρ[i]? with
    | some (.bor d) => sN (g d) fun ds => Q ds ρ
    | some (.frz d) => sN (g d) fun ds => Q ds ρ
    | _ => False := ok0_fSrcB
@[simp ↓] theorem ok_fRng {g : List D → Option (List D)} {os : List Opd} {Q : List D → Env → Prop} : Ok (fRng g os) ρ Q ↔ Ok (evs os) ρ fun ds ρ' => sN (g ds) fun xs => Q xs ρ' := ok0_fRng
@[simp ↓] theorem ok_sFor {t : Tg} {src : M (List D)} {body : M Fl} {Q : Fl → Env → Prop} : Ok (sFor t src body) ρ Q ↔ Ok src ρ fun ds ρ' => Ok (forL t body ds) ρ' Q := ok0_sFor
def chN (o : Option (D × Bool)) (P : D → Bool → Prop) : Prop := sN (o) fun p => P p.1 p.2
@[simp] theorem chN_some {d : D} {k : Bool} {P : D → Bool → Prop} : chN (some (d, k)) P ↔ P d k := sN_some (a := (d, k)) (P := fun p => P p.1 p.2)
@[simp ↓] theorem ok_fCh {g g' : D → D → Option R} {o1 o2 o3 : Opd} {Q : R → Env → Prop} : Ok (fCh g g' o1 o2 o3) ρ Q ↔ Ok (evs [o1, o2]) ρ fun ds ρ1 => chN (chB g ds) fun d k => if k = true then Ok (evs [o3]) ρ1 fun es ρ2 => sN (ap1 (g' d) es) fun r => Q r ρ2 else Q (.frz (.bl false)) ρ1 := ok_fCh0
@[simp] theorem chB_le {i j : Int} : chB leD [.int i, .int j] = some (.int j, decide (i ≤ j)) := rfl
@[simp] theorem chB_lt {i j : Int} : chB ltD [.int i, .int j] = some (.int j, decide (i < j)) := rfl
theorem ok_is {f : M α} {a : α} {ρ' : Env} {Q : α → Env → Prop} (e : f ρ = some (.ok a ρ')) : Ok f ρ Q ↔ Q a ρ' := ok0_is e
theorem ok_fCallT {i : Nat} {m : Fn} {f : M R} {cs : List CA} {Q : R → Env → Prop} (he : isEmp ρ i = true) (h : Ok f ρ fun r ρ1 => ∃ d, r = .own d ∧ isEmp ρ1 i = true ∧ Ok (fCall m (.lent i :: cs)) (ρ1.set i (.own d)) fun r ρ2 => Q r (ρ2.set i .emp)) :
    Ok (fCallT i m f cs) ρ Q := ok0_fCallT he h
theorem cok_fnA {a n : Nat} {b : M Fl} {ps : List Slot} {Q : R → List Slot → Prop} (hl : ps.length = a) (h : Ok b (ps ++ List.replicate (n - a) .emp) fun fl ρ' => match fl with
    | .ret r => Q r (outPs ps ρ')
    | .next => Q (.frz .non) (outPs ps ρ')
    | _ => False) : COk (fnA a n b) ps Q := cok0_fnA hl h
theorem ok_forL {t : Tg} {body : M Fl} {I : List D → Env → Prop} {Q : Fl → Env → Prop}
    (step : ∀ d ds ρ, I (d :: ds) ρ → Ok (setTg t d) ρ fun _ ρ1 => Ok body ρ1 fun fl ρ2 => match fl with
      | .next => I ds ρ2
      | .cont => I ds ρ2
      | .brk => Q .next ρ2
      | .ret r => Q (.ret r) ρ2) (fin : ∀ ρ, I [] ρ → Q .next ρ) : ∀ (ds : List D) (ρ : Env), I ds ρ → Ok (forL t body ds) ρ Q := ok0_forL step fin
theorem ok_lcL {t : Tg} {is : List Nat} {cond : M Bool} {elt : M R} {I : List D → List D → Env → Prop} {Q : List D → Env → Prop}
    (step : ∀ d ds acc ρ, I (d :: ds) acc ρ → Ok (setTg t d) ρ fun _ ρ1 => Ok cond ρ1 fun k ρ2 => if k = true then Ok elt ρ2 fun r ρ3 => acc.length < sizeLine ∧ I ds (acc ++ [r.d]) (wipeE ρ3 is) else I ds acc (wipeE ρ2 is)) (fin : ∀ acc ρ, I [] acc ρ → Q acc ρ) :
    ∀ (ds acc : List D) (ρ : Env), I ds acc ρ → Ok (lcL t is cond elt ds acc) ρ Q := ok0_lcL step fin
theorem ok_while {c : M Bool} {body : M Fl} {I : Nat → Env → Prop} {Q : Fl → Env → Prop}
    (step : ∀ n ρ, I n ρ → Ok c ρ fun k ρ1 => if k = true then Ok body ρ1 fun fl ρ2 => (match fl with
      | .next => ∃ n', n' < n ∧ I n' ρ2
      | .cont => ∃ n', n' < n ∧ I n' ρ2
      | .brk => Q .next ρ2
      | .ret r => Q (.ret r) ρ2) else Q .next ρ1) : ∀ (n : Nat) (ρ : Env), I n ρ → Ok (sWhile c body) ρ Q := ok0_while step
theorem ok_fLc {t : Tg} {is : List Nat} {src : M (List D)} {cond : M Bool} {elt : M R} {Q : R → Env → Prop} (h : Ok src ρ fun ds ρ1 => wipeOk ρ1 is = true ∧ Ok (lcL t is cond elt ds []) (wipeE ρ1 is) fun acc ρ2 => Q (.own (.lst acc)) (backE ρ1 ρ2 is)) : Ok (fLc t is src cond elt) ρ Q := ok0_fLc h
theorem ok_lcMap {t : Tg} {is : List Nat} {cond : M Bool} {elt : M R} {ds : List D} {ρw : Env} {c : D → Bool} {e : D → D} {Q : List D → Env → Prop}
    (h : ∀ d ∈ ds, Ok (setTg t d) ρw fun _ ρ1 => Ok cond ρ1 fun k ρ2 => k = c d ∧ if k = true then Ok elt ρ2 fun r ρ3 => r.d = e d ∧ wipeE ρ3 is = ρw else wipeE ρ2 is = ρw)
    (hz : ds.length ≤ sizeLine) (hQ : Q ((ds.filter c).map e) ρw) : Ok (lcL t is cond elt ds []) ρw Q := ok0_lcMap h hz hQ
/-! ### numbers -/
theorem atI0 {α : Type} {x : α} {xs : List α} : L2.atI (x :: xs) 0 = some x := by
  simp [L2.atI, ixN]
theorem atI1 {α : Type} {x y : α} {xs : List α} : L2.atI (x :: y :: xs) 1 = some y := by
  have : (1 : Int) < ((xs.length + 1 + 1 : Nat) : Int) := by omega
  simp [L2.atI, ixN]
  rw [if_pos (by omega)]
  rfl
theorem atI2 {α : Type} {x y z : α} {xs : List α} : L2.atI (x :: y :: z :: xs) 2 = some z := by
  simp [L2.atI, ixN]
  rw [if_pos (by omega)]
  rfl
theorem mulOk_r {i j : Int} (h1 : -18446744073709551616 < j) (h2 : j < 18446744073709551616) : MulOk i j := .inl (.inr ⟨h1, h2⟩)
theorem mulOk_l {i j : Int} (h1 : -18446744073709551616 < i) (h2 : i < 18446744073709551616) : MulOk i j := .inl (.inl ⟨h1, h2⟩)
theorem cdivW {i j : Int} (h1 : 0 < j) (h2 : j < 18446744073709551616) : CDivW i j := by
  refine ⟨h1, ?_⟩
  have : j.natAbs < 2 ^ 64 := by omega
  have := (Nat.log2_lt (by omega : j.natAbs ≠ 0)).mpr this
  omega
@[simp] theorem eqB_int {i j : Int} : eqB (.int i) (.int j) = decide (i = j) := by
  show PyData.eqv (.int i) (.int j) = _
  simp only [PyData.eqv]
  by_cases h : i = j <;> simp [h]
@[simp] theorem eqB_bl {i j : Bool} : eqB (.bl i) (.bl j) = (i == j) := by
  show PyData.eqv (.bool i) (.bool j) = _
  cases i <;> cases j <;> simp [PyData.eqv]
@[simp] theorem eqB_str {i j : Str} : eqB (.str i) (.str j) = decide (i = j) := by
  show PyData.eqv (.str i) (.str j) = _
  simp only [PyData.eqv]
  by_cases h : i = j <;> simp [h]
@[simp] theorem okD_int {i : Int} : okD (.int i) = true := rfl
@[simp] theorem okD_bl {i : Bool} : okD (.bl i) = true := rfl
@[simp] theorem okD_str {i : Str} : okD (.str i) = PyData.strOk i := by
  unfold okD SeqAt.shaped py
  simp [PyData.canLay0, PyData.depth]
theorem join0_len (ys : List Str) : (Txt.join (Str.ofString "") ys).length = (ys.map (·.length)).sum := by
  rw [_root_.TL.join_eq]
  induction ys with
  | nil => rfl
  | cons x r ih =>
    cases r with
    | nil => simp [Str.join]
    | cons z r =>
      show (x ++ Str.ofString "" ++ Str.join (Str.ofString "") (z :: r)).length = _
      rw [Str.length_append, Str.length_append, ih]
      simp
      rfl
theorem atI_lt {α : Type} {xs : List α} {i : Int} (h0 : 0 ≤ i) (h1 : i < xs.length) : ∃ x, L2.atI xs i = some x := by
  unfold L2.atI ixN
  rw [if_pos h0, if_pos h1]
  exact ⟨xs[i.toNat]'(by omega), by simp [List.getElem?_eq_getElem (show i.toNat < xs.length by omega)]⟩
/-! ### operators at work -/
@[simp] theorem sizeLine_val : sizeLine = 16777216 := rfl
theorem mulOk_ite {i : Int} {b : Prop} [Decidable b] : MulOk i (if b then 1 else 0) := by
  by_cases h : b
  · rw [if_pos h]; exact mulOk_r (by decide) (by decide)
  · rw [if_neg h]; exact mulOk_r (by decide) (by decide)
@[simp] theorem addD_int {i j : Int} : addD (.int i) (.int j) = some (.frz (.int (i + j))) := rfl
@[simp] theorem addD_str {x y : Str} : addD (.str x) (.str y) = if x.length + y.length ≤ sizeLine then some (.frz (.str (x ++ y))) else none := rfl
@[simp] theorem addD_tup {x y : List D} : addD (.tup x) (.tup y) = if x.length + y.length ≤ sizeLine then some (.frz (.tup (x ++ y))) else none := rfl
@[simp] theorem addD_lst {x y : List D} : addD (.lst x) (.lst y) = if x.length + y.length ≤ sizeLine then some (.own (.lst (x ++ y))) else none := rfl
@[simp] theorem subD_int {i j : Int} : subD (.int i) (.int j) = some (.frz (.int (i - j))) := rfl
@[simp] theorem mulD_int {i j : Int} : mulD (.int i) (.int j) = if MulOk i j then some (.frz (.int (i * j))) else none := rfl
@[simp] theorem fdivD_int {i j : Int} : fdivD (.int i) (.int j) = if CDivW i j then some (.frz (.int (i / j))) else none := rfl
@[simp] theorem modD_int {i j : Int} : modD (.int i) (.int j) = if 0 < j then some (.frz (.int (i % j))) else none := rfl
theorem powD_int {i j : Int} : powD (.int i) (.int j) = if L2.CPow i j then some (.frz (.int (i ^ j.toNat))) else none := rfl
@[simp] theorem powD_lit {i j : Int} (h1 : 0 ≤ j) (h2 : j ≤ 1000000) (h3 : -18446744073709551616 < i) (h4 : i < 18446744073709551616) : powD (.int i) (.int j) = some (.frz (.int (i ^ j.toNat))) := if_pos ⟨h1, h2, by omega⟩
@[simp] theorem negD_int {i : Int} : negD (.int i) = some (.frz (.int (-i))) := rfl
@[simp] theorem ltD_int {i j : Int} : ltD (.int i) (.int j) = some (.frz (.bl (decide (i < j)))) := rfl
@[simp] theorem leD_int {i j : Int} : leD (.int i) (.int j) = some (.frz (.bl (decide (i ≤ j)))) := rfl
@[simp] theorem gtD_int {i j : Int} : gtD (.int i) (.int j) = some (.frz (.bl (decide (j < i)))) := rfl
@[simp] theorem geD_int {i j : Int} : geD (.int i) (.int j) = some (.frz (.bl (decide (j ≤ i)))) := rfl
@[simp] theorem eqD_int {i j : Int} : eqD (.int i) (.int j) = some (.frz (.bl (decide (i = j)))) := by simp [eqD]
@[simp] theorem neD_int {i j : Int} : neD (.int i) (.int j) = some (.frz (.bl (!decide (i = j)))) := by simp [neD]
@[simp] theorem eqD_bl {i j : Bool} : eqD (.bl i) (.bl j) = some (.frz (.bl (i == j))) := by simp [eqD]
@[simp] theorem neD_bl {i j : Bool} : neD (.bl i) (.bl j) = some (.frz (.bl (!(i == j)))) := by simp [neD]
@[simp] theorem lenD_lst {ds : List D} : lenD [.lst ds] = some (.frz (.int ds.length)) := rfl
@[simp] theorem lenD_tup {ds : List D} : lenD [.tup ds] = some (.frz (.int ds.length)) := rfl
@[simp] theorem lenD_scr {ns : List Int} : lenD [.scr ns] = some (.frz (.int ns.length)) := rfl
@[simp] theorem lenD_str {x : Str} : lenD [.str x] = if x.length ≤ sizeLine then some (.frz (.int x.length)) else none := rfl
@[simp] theorem intD_int {i : Int} : Dz.intD [.int i] = some (.frz (.int i)) := rfl
@[simp] theorem intD_bl {k : Bool} : Dz.intD [.bl k] = some (.frz (.int (if k then 1 else 0))) := rfl
@[simp] theorem maxD_two {i j : Int} : maxD [.int i, .int j] = some (.frz (.int (if j > i then j else i))) := rfl
@[simp] theorem minD_two {i j : Int} : minD [.int i, .int j] = some (.frz (.int (if j < i then j else i))) := rfl
@[simp] theorem getD1_lst {ds : List D} {i : Int} : getD1 (.lst ds) (.int i) = (L2.atI ds i).map .frz := rfl
@[simp] theorem getD1_tup {ds : List D} {i : Int} : getD1 (.tup ds) (.int i) = (L2.atI ds i).map .frz := rfl
@[simp] theorem getD1_scr {ns : List Int} {i : Int} : getD1 (.scr ns) (.int i) = (L2.atI ns i).map fun n => .frz (.int n) := rfl
@[simp] theorem getD1_str {x : Str} {i : Int} : getD1 (.str x) (.int i) = if x.length ≤ sizeLine then (L2.atI x.cps.toList i).map fun c => .frz (.str ⟨#[c]⟩) else none := rfl
@[simp] theorem setLD_at {i : Int} {x : D} {xs : List D} : setLD (.int i) x (.lst xs) = (L2.ixN xs.length i).map fun j => .lst (xs.set j x) := rfl
@[simp] theorem appD_at {v : D} {xs : List D} : appD [v] (.lst xs) = if xs.length < sizeLine then some (.lst (xs ++ [v]), .non) else none := rfl
theorem rng1_at {n : Int} (h1 : -4611686018427387904 ≤ n) (h2 : n < 4611686018427387904) : rng1 [.int n] = some (rangeL 0 n.toNat) := if_pos ⟨h1, h2⟩
theorem rng2_at {m n : Int} (h1 : -4611686018427387904 ≤ m) (h2 : m < 4611686018427387904) (h3 : -4611686018427387904 ≤ n) (h4 : n < 4611686018427387904) : rng2 [.int m, .int n] = some (rangeL m (n - m).toNat) := if_pos ⟨h1, h2, h3, h4⟩
@[simp] theorem seqD_lst {ds : List D} : seqD (.lst ds) = some ds := rfl
@[simp] theorem seqD_tup {ds : List D} : seqD (.tup ds) = some ds := rfl
@[simp] theorem seqD_scr {ns : List Int} : seqD (.scr ns) = some (ns.map .int) := rfl
@[simp] theorem strD_str {x : Str} : strD (.str x) = some (strsOf x) := rfl
@[simp] theorem isLs_lst {ds : List D} : isLs (.lst ds) = true := rfl
@[simp] theorem sliceL_00 {d : D} : sliceL .no .no [d] = sliceD none none d := rfl
@[simp] theorem sliceL_01 {f : M R} {d : D} {i : Int} : sliceL .no (.op f) [d, .int i] = sliceD none (some i) d := rfl
@[simp] theorem sliceL_10 {f : M R} {d : D} {i : Int} : sliceL (.op f) .no [d, .int i] = sliceD (some i) none d := rfl
@[simp] theorem sliceL_11 {f g : M R} {d : D} {i j : Int} : sliceL (.op f) (.op g) [d, .int i, .int j] = sliceD (some i) (some j) d := rfl
@[simp] theorem sliceD_lst {lo hi : Option Int} {ds : List D} : sliceD lo hi (.lst ds) = some (.own (.lst (cutD ds lo hi))) := rfl
@[simp] theorem sliceD_tup {lo hi : Option Int} {ds : List D} : sliceD lo hi (.tup ds) = some (.frz (.tup (cutD ds lo hi))) := rfl
@[simp] theorem sliceD_scr {lo hi : Option Int} {ns : List Int} : sliceD lo hi (.scr ns) = some (.own (.lst ((cutI ns lo hi).map .int))) := rfl
@[simp] theorem sliceD_str {lo hi : Option Int} {x : Str} : sliceD lo hi (.str x) = if x.length ≤ sizeLine then some (.frz (.str (L2.cutS x lo hi))) else none := rfl
@[simp] theorem allD_bls {ns : List Bool} : allD [.lst (ns.map .bl)] = some (.frz (.bl (ns.all fun b => b))) := by
  show (blsD (ns.map .bl)).map _ = _
  rw [blsD_map]
  rfl
@[simp] theorem anyD_bls {ns : List Bool} : anyD [.lst (ns.map .bl)] = some (.frz (.bl (ns.any fun b => b))) := by
  show (blsD (ns.map .bl)).map _ = _
  rw [blsD_map]
  rfl
end
end Dz
/-! Dz 17: what the plain laws share. -/
namespace Dz
open PySem
theorem strs_of : ∀ {acc : List D}, (∀ d ∈ acc, ∃ c, d = D.str ⟨#[c]⟩) → ∃ ys : List Str, strsD acc = some ys ∧ ys.length = acc.length ∧ ∀ y ∈ ys, y.length = 1
  | [], _ => ⟨[], rfl, rfl, fun _ z => (List.not_mem_nil z).elim⟩
  | d :: acc, h => by
    obtain ⟨c, rfl⟩ := h d List.mem_cons_self
    obtain ⟨ys, e, l, k⟩ := strs_of fun x z => h x (List.mem_cons_of_mem _ z)
    refine ⟨⟨#[c]⟩ :: ys, ?_, by simp [l], fun y z => ?_⟩
    · show (strsD acc).map _ = _
      rw [e]; rfl
    · rcases List.mem_cons.mp z with rfl | z
      · rfl
      · exact k y z
theorem sum_ones : ∀ {ys : List Str}, (∀ y ∈ ys, y.length = 1) → (ys.map (·.length)).sum = ys.length
  | [], _ => rfl
  | y :: ys, h => by
    rw [List.map_cons, List.sum_cons, h y List.mem_cons_self, sum_ones fun z k => h z (List.mem_cons_of_mem _ k), List.length_cons]
    omega
theorem char_at {x : Str} {i : Int} (hx : x.length ≤ 16777216) (h0 : 0 ≤ i) (h1 : i < x.length) : ∃ c, getD1 (.str x) (.int i) = some (.frz (.str ⟨#[c]⟩)) := by
  obtain ⟨c, hc⟩ := atI_lt (xs := x.cps.toList) h0 (by simpa [Str.length] using h1)
  exact ⟨c, by simp [hx, hc]⟩
def inS (S : Str) (c : Nat) : Bool := !(Builtin.Str.occurrences S ⟨#[c]⟩ 0 S.length 1).isEmpty
theorem inD_ch {S : Str} {c : Nat} : inD (.str ⟨#[c]⟩) (.str S) = some (.frz (.bl (inS S c))) := rfl
theorem strs_len {x : Str} : (strsOf x).length = x.length := by simp [strsOf, Str.length]
theorem cutD_mem {xs : List D} {lo hi : Option Int} {d : D} (h : d ∈ cutD xs lo hi) : d ∈ xs := List.mem_of_mem_drop (List.mem_of_mem_take h)
theorem cutD_len {xs : List D} {lo hi : Option Int} : (cutD xs lo hi).length ≤ xs.length := by
  unfold cutD
  rw [List.length_take, List.length_drop]
  omega
theorem ok_set {i : Nat} {r : R} {ρ : Env} {s : Slot} {Q : Fl → Env → Prop} (h : ρ[i]? = some s) (hn : nl s) (hq : Q .next (ρ.set i (slotOf r))) : Ok (setSl i r) ρ Q := by
  simp [h, wN_nl hn, hq]
theorem mulOk_pow2 {i j : Int} {a b : Nat} (hi : i.natAbs < 2 ^ a) (hj : j.natAbs < 2 ^ b) (h : a + b ≤ 900000) : MulOk i j := by
  have key : ∀ {x c : Nat}, x < 2 ^ c → x.log2 ≤ c := fun {x c} hx => by
    by_cases h0 : x = 0
    · subst h0; simp
    · have := (Nat.log2_lt h0).mpr hx; omega
  have h1 := key hi
  have h2 := key hj
  exact .inr (by show _ + _ < 1000000; omega)
theorem mulOk_01 {i j : Int} (h : j = 0 ∨ j = 1) : MulOk i j := mulOk_r (by omega) (by omega)
/-- the numbers of a range -/
theorem rangeL_mem {lo : Int} {n : Nat} {d : D} (h : d ∈ rangeL lo n) : ∃ k : Int, d = .int k ∧ lo ≤ k ∧ k < lo + n := by
  obtain ⟨i, hi, rfl⟩ := List.mem_map.mp h
  have := List.mem_range.mp hi
  exact ⟨_, rfl, by omega, by omega⟩
theorem rangeL_len {lo : Int} {n : Nat} : (rangeL lo n).length = n := by simp [rangeL]
end Dz
namespace Lw
open PySem PySem.Spec PyProof.Rows L2
abbrev RWL : PySem.W.OpenLaw := PySem.Challenge.rw_mostrows_k35_roots
def top (i : Nat) : Stmt := PySem.Challenge.pw_mostrows_k35_roots.main.body.getD i (.Pass ⟨0, 0, 0, 0⟩)
abbrev s_powered : Stmt := top 1
abbrev s_root : Stmt := top 2
abbrev s__law_box : Stmt := top 4
abbrev s__law_take : Stmt := top 5
abbrev s__law_whole : Stmt := top 6
abbrev s__law_power : Stmt := top 7
abbrev s__law_number : Stmt := top 8
abbrev s__law_right : Stmt := top 9
abbrev s_law : Stmt := top 10
abbrev dd (x : Str) (st : Stmt) : He.DefD := ⟨(x, none), x, x, defArgs st, defBody st, defScope st, [], []⟩
def fn : List He.DefD := [dd "powered" s_powered, dd "root" s_root, dd "_law_box" s__law_box, dd "_law_take" s__law_take, dd "_law_whole" s__law_whole, dd "_law_power" s__law_power, dd "_law_number" s__law_number, dd "_law_right" s__law_right, dd "law" s_law]
def fa0 : List He.Fa := [.glo "powered", .glo "root", .glo "_law_box", .glo "_law_take", .glo "_law_whole", .glo "_law_power", .glo "_law_number", .glo "_law_right", .glo "law", .free "all", .free "bool", .free "int", .free "isinstance", .free "len", .free "max", .free "range"]
def fa : List He.Fa := fa0
def loose0 : List PySem.Str := ["powered", "root", "_law_box", "_law_take", "_law_whole", "_law_power", "_law_number", "_law_right"]
def loose : List PySem.Str := loose0
abbrev RowL : PySem.W.OpenRow := PySem.W.OpenLaw.row RWL
abbrev hk : PySem.W.Hook := Dz.hookZ 4 fa fn
def ob (s : PySem.W.SharedT) : He.AlD := Dz.obsZG 4 fa fn (HandSHeadRun.getT s)
theorem ob_eq (s : PySem.W.SharedT) : ob s = hk.obs s.abs := Dz.obsZG_eq (HandSHeadRun.getT_eq s)
theorem run (w : World) : HandSHeadRun.RunEq RowL (PySem.W.view RowL.prog [10]) hk ob 3000 loose w := by
  intro os
  kernel_rfl
end Lw
namespace Lw
open PySem PySem.Spec PyProof.Rows L2 Dz
structure Su (K : PySem.W.Frag) (mg : Str → Option Value) (base : Heap) : Prop where
  says : SaysZ fa fn K
  kin : K.In base
  ns : base.Ns mainGlobals mg
section
variable {K : PySem.W.Frag} {mg : Str → Option Value} {base : Heap} (S : Su K mg base)
include S
theorem g_powered : mg "powered" = some (.ref (He.fAd K ("powered", none))) := He.glo_ok S.kin S.ns (S.says.1.fact 0 (f := .glo "powered") rfl)
theorem g_root : mg "root" = some (.ref (He.fAd K ("root", none))) := He.glo_ok S.kin S.ns (S.says.1.fact 1 (f := .glo "root") rfl)
theorem g__law_box : mg "_law_box" = some (.ref (He.fAd K ("_law_box", none))) := He.glo_ok S.kin S.ns (S.says.1.fact 2 (f := .glo "_law_box") rfl)
theorem g__law_take : mg "_law_take" = some (.ref (He.fAd K ("_law_take", none))) := He.glo_ok S.kin S.ns (S.says.1.fact 3 (f := .glo "_law_take") rfl)
theorem g__law_whole : mg "_law_whole" = some (.ref (He.fAd K ("_law_whole", none))) := He.glo_ok S.kin S.ns (S.says.1.fact 4 (f := .glo "_law_whole") rfl)
theorem g__law_power : mg "_law_power" = some (.ref (He.fAd K ("_law_power", none))) := He.glo_ok S.kin S.ns (S.says.1.fact 5 (f := .glo "_law_power") rfl)
theorem g__law_number : mg "_law_number" = some (.ref (He.fAd K ("_law_number", none))) := He.glo_ok S.kin S.ns (S.says.1.fact 6 (f := .glo "_law_number") rfl)
theorem g__law_right : mg "_law_right" = some (.ref (He.fAd K ("_law_right", none))) := He.glo_ok S.kin S.ns (S.says.1.fact 7 (f := .glo "_law_right") rfl)
theorem g_law : mg "law" = some (.ref (He.fAd K ("law", none))) := He.glo_ok S.kin S.ns (S.says.1.fact 8 (f := .glo "law") rfl)
theorem g_all : mg "all" = none := He.free_ok S.kin S.ns (S.says.1.fact 9 (f := .free "all") rfl)
theorem g_bool : mg "bool" = none := He.free_ok S.kin S.ns (S.says.1.fact 10 (f := .free "bool") rfl)
theorem g_int : mg "int" = none := He.free_ok S.kin S.ns (S.says.1.fact 11 (f := .free "int") rfl)
theorem g_isinstance : mg "isinstance" = none := He.free_ok S.kin S.ns (S.says.1.fact 12 (f := .free "isinstance") rfl)
theorem g_len : mg "len" = none := He.free_ok S.kin S.ns (S.says.1.fact 13 (f := .free "len") rfl)
theorem g_max : mg "max" = none := He.free_ok S.kin S.ns (S.says.1.fact 14 (f := .free "max") rfl)
theorem g_range : mg "range" = none := He.free_ok S.kin S.ns (S.says.1.fact 15 (f := .free "range") rfl)
end
/-! ### powered(number, power): slots 0 number, 1 power, 2 found, 3 turn -/
def N_powered : List Str := ["number", "power", "found", "turn"]
noncomputable def b_powered : M Fl :=
    sSeq (sAsg 2 (fC (.int 1)))
    (sSeq (sFor (.nm 3) (fRng rng1 [.sl 1])
    (sAsg 2 (f2 (.sl 2) (.sl 0) mulD)))
    (sRet (fMove 2)))
noncomputable def m_powered : Fn := fnA 2 4 b_powered
theorem sc_powered : FnScope N_powered ["number", "power"] (defScope s_powered) := ⟨rfl, rfl, rfl, by decide +kernel, rfl, by decide +kernel, by decide +kernel⟩
theorem d_powered {P : Program} {w : World} {K : PySem.W.Frag} {mg : Str → Option Value} {base : Heap} (S : Su K mg base) (f : Addr) (cdv : Value) (A : Around) (outer : List PySem.Env) (s : Shared) (H : Hp) (E : XK) (hr : Room 0 (A.deeper (envOfC "powered" (defScope s_powered) s.heap.objs.size f cdv))) :
    DSs (cxF P w K mg base N_powered "powered" (defScope s_powered) f cdv A outer s H E) (wxF E) (defBody s_powered) b_powered :=
    (dss_cons (ds_asg (i := 2) sc_powered.nd rfl (by first | exact .inl rfl | exact .inr rfl) de_int)
    (dss_cons (ds_for owns_cx rfl (di_range1 rfl (g_range S) (dos_cons (do_sl (pv 1)) dos_nil)) (dg_name (i := 3) sc_powered.nd rfl (by first | exact .inl rfl | exact .inr rfl))
    (dss_one (ds_asg (i := 2) sc_powered.nd rfl (by first | exact .inl rfl | exact .inr rfl) (de_mul (do_sl (pv 2)) (do_sl (pv 0))))))
    (dss_one (ds_ret (de_move (pv 2))))))
theorem c_powered {P : Program} {w : World} {K : PySem.W.Frag} {mg : Str → Option Value} {base : Heap} (S : Su K mg base) : Callee P w K mg base 1 "powered" m_powered := by
  obtain ⟨fd, F⟩ := S.says.1.def_ 0 (d := dd "powered" s_powered) rfl
  exact callee_of F sc_powered (g_powered S) rfl rfl (F.bindsN fun _ _ _ _ _ _ us hl => match us, hl with | [_, _], _ => rfl) fun cdv A outer s H E hr => d_powered S _ cdv A outer s H E hr
/-! ### _law_box(_law_script, _law_k): slots 0 _law_script, 1 _law_k, 2 _law_cell, 3 _law_seed -/
def N__law_box : List Str := ["_law_script", "_law_k", "_law_cell", "_law_seed"]
noncomputable def b__law_box : M Fl :=
    sSeq (sAsg 2 (f2 (.ev (f2 (.ev (fC (.int 7919))) (.sl 1) mulD)) (.ev (fC (.int 11))) addD))
    (sSeq (fIf (fB (f2 (.sl 1) (.ev (fL [.sl 0] lenD)) ltD))
    (sAsg 2 (f2 (.sl 0) (.sl 1) getD1))
    (fIf (fB (f2 (.ev (fL [.sl 0] lenD)) (.ev (fC (.int 0))) gtD))
    (sAsg 2 (f2 (.sl 2) (.ev (f2 (.ev (f2 (.ev (f2 (.sl 0) (.ev (f2 (.sl 1) (.ev (fL [.sl 0] lenD)) modD)) getD1)) (.ev (fC (.int 2147483629))) modD)) (.ev (fC (.int 69623))) mulD)) addD))
    (mret .next)))
    (sSeq (sAsg 3 (f2 (.ev (f2 (.ev (f2 (.ev (f2 (.ev (f2 (.sl 2) (.ev (fC (.int 2147483629))) modD)) (.ev (fC (.int 48271))) mulD)) (.ev (f2 (.ev (fC (.int 40692))) (.sl 1) mulD)) addD)) (.ev (fC (.int 2147483629))) modD)) (.ev (fC (.int 1))) addD))
    (sRet (fLst [f2 (.sl 2) (.ev (fL [.ev (f2 (.sl 2) (.ev (f2 (.ev (fC (.int 10))) (.ev (fC (.int 18))) powD)) geD)] intD)) mulD, fName 3]))))
noncomputable def m__law_box : Fn := fnA 2 4 b__law_box
theorem sc__law_box : FnScope N__law_box ["_law_script", "_law_k"] (defScope s__law_box) := ⟨rfl, rfl, rfl, by decide +kernel, rfl, by decide +kernel, by decide +kernel⟩
theorem d__law_box {P : Program} {w : World} {K : PySem.W.Frag} {mg : Str → Option Value} {base : Heap} (S : Su K mg base) (f : Addr) (cdv : Value) (A : Around) (outer : List PySem.Env) (s : Shared) (H : Hp) (E : XK) (hr : Room 0 (A.deeper (envOfC "_law_box" (defScope s__law_box) s.heap.objs.size f cdv))) :
    DSs (cxF P w K mg base N__law_box "_law_box" (defScope s__law_box) f cdv A outer s H E) (wxF E) (defBody s__law_box) b__law_box :=
    (dss_cons (ds_asg (i := 2) sc__law_box.nd rfl (by first | exact .inl rfl | exact .inr rfl) (de_add (do_ev (de_mul (do_ev de_int) (do_sl (pv 1)))) (do_ev de_int)))
    (dss_cons (ds_if (dt_lt (do_sl (pv 1)) (do_ev (de_len rfl (g_len S) (dos_cons (do_sl (pv 0)) dos_nil))))
    (dss_one (ds_asg (i := 2) sc__law_box.nd rfl (by first | exact .inl rfl | exact .inr rfl) (de_ix (do_sl (pv 0)) (do_sl (pv 1)))))
    (dss_one (ds_if (dt_gt (do_ev (de_len rfl (g_len S) (dos_cons (do_sl (pv 0)) dos_nil))) (do_ev de_int))
    (dss_one (ds_asg (i := 2) sc__law_box.nd rfl (by first | exact .inl rfl | exact .inr rfl) (de_add (do_sl (pv 2)) (do_ev (de_mul (do_ev (de_mod (do_ev (de_ix (do_sl (pv 0)) (do_ev (de_mod (do_sl (pv 1)) (do_ev (de_len rfl (g_len S) (dos_cons (do_sl (pv 0)) dos_nil))))))) (do_ev de_int))) (do_ev de_int))))))
    dss_nil)))
    (dss_cons (ds_asg (i := 3) sc__law_box.nd rfl (by first | exact .inl rfl | exact .inr rfl) (de_add (do_ev (de_mod (do_ev (de_add (do_ev (de_mul (do_ev (de_mod (do_sl (pv 2)) (do_ev de_int))) (do_ev de_int))) (do_ev (de_mul (do_ev de_int) (do_sl (pv 1)))))) (do_ev de_int))) (do_ev de_int)))
    (dss_one (ds_ret (de_lst (df_cons (de_mul (do_sl (pv 2)) (do_ev (de_intC rfl rfl (g_int S) (dos_cons (do_ev (de_ge (do_sl (pv 2)) (do_ev (de_pow (do_ev de_int) (do_ev de_int))))) dos_nil)))) (df_cons (de_var (pv 3)) df_nil))))))))
theorem c__law_box {P : Program} {w : World} {K : PySem.W.Frag} {mg : Str → Option Value} {base : Heap} (S : Su K mg base) : Callee P w K mg base 1 "_law_box" m__law_box := by
  obtain ⟨fd, F⟩ := S.says.1.def_ 2 (d := dd "_law_box" s__law_box) rfl
  exact callee_of F sc__law_box (g__law_box S) rfl rfl (F.bindsN fun _ _ _ _ _ _ us hl => match us, hl with | [_, _], _ => rfl) fun cdv A outer s H E hr => d__law_box S _ cdv A outer s H E hr
/-! ### _law_take(_law_box_here, _law_many): slots 0 _law_box_here, 1 _law_many, 2 _law_one, 3 _law_digit -/
def N__law_take : List Str := ["_law_box_here", "_law_many", "_law_one", "_law_digit"]
noncomputable def b__law_take : M Fl :=
    sSeq (fIf (fB (f2 (.ev (f2 (.sl 0) (.ev (fC (.int 0))) getD1)) (.ev (fC (.int 0))) gtD))
    (sSeq (sAsg 3 (f2 (.ev (f2 (.sl 0) (.ev (fC (.int 0))) getD1)) (.sl 1) modD))
    (sSeq (sPut 0 (.ev (fC (.int 0))) (f2 (.ev (f2 (.sl 0) (.ev (fC (.int 0))) getD1)) (.sl 1) fdivD) setLD)
    (sRet (fMove 3))))
    (mret .next))
    (sSeq (sAsg 2 (f2 (.ev (f2 (.ev (f2 (.sl 0) (.ev (fC (.int 1))) getD1)) (.ev (fC (.int 69623))) mulD)) (.ev (fC (.int 2147483647))) modD))
    (sSeq (sPut 0 (.ev (fC (.int 1))) (f2 (.ev (f2 (.ev (f2 (.ev (f2 (.sl 2) (.ev (fC (.int 48271))) mulD)) (.ev (fC (.int 30103))) addD)) (.ev (fC (.int 2147483629))) modD)) (.ev (fC (.int 1))) addD) setLD)
    (sRet (f2 (.ev (f2 (.ev (f2 (.ev (f2 (.sl 2) (.ev (fC (.int 2147483647))) mulD)) (.ev (f2 (.sl 0) (.ev (fC (.int 1))) getD1)) addD)) (.ev (fC (.int 8191))) fdivD)) (.sl 1) modD))))
noncomputable def m__law_take : Fn := fnA 2 4 b__law_take
theorem sc__law_take : FnScope N__law_take ["_law_box_here", "_law_many"] (defScope s__law_take) := ⟨rfl, rfl, rfl, by decide +kernel, rfl, by decide +kernel, by decide +kernel⟩
theorem d__law_take {P : Program} {w : World} {K : PySem.W.Frag} {mg : Str → Option Value} {base : Heap} (S : Su K mg base) (f : Addr) (cdv : Value) (A : Around) (outer : List PySem.Env) (s : Shared) (H : Hp) (E : XK) (hr : Room 0 (A.deeper (envOfC "_law_take" (defScope s__law_take) s.heap.objs.size f cdv))) :
    DSs (cxF P w K mg base N__law_take "_law_take" (defScope s__law_take) f cdv A outer s H E) (wxF E) (defBody s__law_take) b__law_take :=
    (dss_cons (ds_if (dt_gt (do_ev (de_ix (do_sl (pv 0)) (do_ev de_int))) (do_ev de_int))
    (dss_cons (ds_asg (i := 3) sc__law_take.nd rfl (by first | exact .inl rfl | exact .inr rfl) (de_mod (do_ev (de_ix (do_sl (pv 0)) (do_ev de_int))) (do_sl (pv 1))))
    (dss_cons (ds_put set_list vrp_setL (de_fdiv (do_ev (de_ix (do_sl (pv 0)) (do_ev de_int))) (do_sl (pv 1))) (pv 0) (do_ev de_int))
    (dss_one (ds_ret (de_move (pv 3))))))
    dss_nil)
    (dss_cons (ds_asg (i := 2) sc__law_take.nd rfl (by first | exact .inl rfl | exact .inr rfl) (de_mod (do_ev (de_mul (do_ev (de_ix (do_sl (pv 0)) (do_ev de_int))) (do_ev de_int))) (do_ev de_int)))
    (dss_cons (ds_put set_list vrp_setL (de_add (do_ev (de_mod (do_ev (de_add (do_ev (de_mul (do_sl (pv 2)) (do_ev de_int))) (do_ev de_int))) (do_ev de_int))) (do_ev de_int)) (pv 0) (do_ev de_int))
    (dss_one (ds_ret (de_mod (do_ev (de_fdiv (do_ev (de_add (do_ev (de_mul (do_sl (pv 2)) (do_ev de_int))) (do_ev (de_ix (do_sl (pv 0)) (do_ev de_int))))) (do_ev de_int))) (do_sl (pv 1))))))))
theorem c__law_take {P : Program} {w : World} {K : PySem.W.Frag} {mg : Str → Option Value} {base : Heap} (S : Su K mg base) : Callee P w K mg base 1 "_law_take" m__law_take := by
  obtain ⟨fd, F⟩ := S.says.1.def_ 3 (d := dd "_law_take" s__law_take) rfl
  exact callee_of F sc__law_take (g__law_take S) rfl rfl (F.bindsN fun _ _ _ _ _ _ us hl => match us, hl with | [_, _], _ => rfl) fun cdv A outer s H E hr => d__law_take S _ cdv A outer s H E hr
/-! ### _law_whole(_law_found): slots 0 _law_found -/
def N__law_whole : List Str := ["_law_found"]
noncomputable def b__law_whole : M Fl :=
    sRet (fAndV (f1 (.sl 0) (isiD .int)) (fNotV (f1 (.sl 0) (isiD .bl))))
noncomputable def m__law_whole : Fn := fnA 1 1 b__law_whole
theorem sc__law_whole : FnScope N__law_whole ["_law_found"] (defScope s__law_whole) := ⟨rfl, rfl, rfl, by decide +kernel, rfl, by decide +kernel, by decide +kernel⟩
theorem d__law_whole {P : Program} {w : World} {K : PySem.W.Frag} {mg : Str → Option Value} {base : Heap} (S : Su K mg base) (f : Addr) (cdv : Value) (A : Around) (outer : List PySem.Env) (s : Shared) (H : Hp) (E : XK) (hr : Room 0 (A.deeper (envOfC "_law_whole" (defScope s__law_whole) s.heap.objs.size f cdv))) :
    DSs (cxF P w K mg base N__law_whole "_law_whole" (defScope s__law_whole) f cdv A outer s H E) (wxF E) (defBody s__law_whole) b__law_whole :=
    (dss_one (ds_ret (de_and (de_isi (T := .int) rfl (g_isinstance S) rfl (g_int S) boot_int (do_sl (pv 0))) (de_one (de_not (de_isi (T := .bl) rfl (g_isinstance S) rfl (g_bool S) boot_bool (do_sl (pv 0))))))))
theorem c__law_whole {P : Program} {w : World} {K : PySem.W.Frag} {mg : Str → Option Value} {base : Heap} (S : Su K mg base) : Callee P w K mg base 1 "_law_whole" m__law_whole := by
  obtain ⟨fd, F⟩ := S.says.1.def_ 4 (d := dd "_law_whole" s__law_whole) rfl
  exact callee_of F sc__law_whole (g__law_whole S) rfl rfl (F.bindsN fun _ _ _ _ _ _ us hl => match us, hl with | [_], _ => rfl) fun cdv A outer s H E hr => d__law_whole S _ cdv A outer s H E hr
/-! ### _law_power(_law_number_here, _law_times): slots 0 _law_number_here, 1 _law_times, 2 _law_found, 3 _law_k -/
def N__law_power : List Str := ["_law_number_here", "_law_times", "_law_found", "_law_k"]
noncomputable def b__law_power : M Fl :=
    sSeq (sAsg 2 (fC (.int 1)))
    (sSeq (sFor (.nm 3) (fRng rng1 [.sl 1])
    (sAsg 2 (f2 (.sl 2) (.sl 0) mulD)))
    (sRet (fMove 2)))
noncomputable def m__law_power : Fn := fnA 2 4 b__law_power
theorem sc__law_power : FnScope N__law_power ["_law_number_here", "_law_times"] (defScope s__law_power) := ⟨rfl, rfl, rfl, by decide +kernel, rfl, by decide +kernel, by decide +kernel⟩
theorem d__law_power {P : Program} {w : World} {K : PySem.W.Frag} {mg : Str → Option Value} {base : Heap} (S : Su K mg base) (f : Addr) (cdv : Value) (A : Around) (outer : List PySem.Env) (s : Shared) (H : Hp) (E : XK) (hr : Room 0 (A.deeper (envOfC "_law_power" (defScope s__law_power) s.heap.objs.size f cdv))) :
    DSs (cxF P w K mg base N__law_power "_law_power" (defScope s__law_power) f cdv A outer s H E) (wxF E) (defBody s__law_power) b__law_power :=
    (dss_cons (ds_asg (i := 2) sc__law_power.nd rfl (by first | exact .inl rfl | exact .inr rfl) de_int)
    (dss_cons (ds_for owns_cx rfl (di_range1 rfl (g_range S) (dos_cons (do_sl (pv 1)) dos_nil)) (dg_name (i := 3) sc__law_power.nd rfl (by first | exact .inl rfl | exact .inr rfl))
    (dss_one (ds_asg (i := 2) sc__law_power.nd rfl (by first | exact .inl rfl | exact .inr rfl) (de_mul (do_sl (pv 2)) (do_sl (pv 0))))))
    (dss_one (ds_ret (de_move (pv 2))))))
theorem c__law_power {P : Program} {w : World} {K : PySem.W.Frag} {mg : Str → Option Value} {base : Heap} (S : Su K mg base) : Callee P w K mg base 1 "_law_power" m__law_power := by
  obtain ⟨fd, F⟩ := S.says.1.def_ 5 (d := dd "_law_power" s__law_power) rfl
  exact callee_of F sc__law_power (g__law_power S) rfl rfl (F.bindsN fun _ _ _ _ _ _ us hl => match us, hl with | [_, _], _ => rfl) fun cdv A outer s H E hr => d__law_power S _ cdv A outer s H E hr
/-! ### root(number, power): slots 0 number, 1 power, 2 high, 3 low, 4 middle -/
def N_root : List Str := ["number", "power", "high", "low", "middle"]
noncomputable def b_root : M Fl :=
    sSeq (sAsg 2 (fC (.int 1)))
    (sSeq (sWhile (fB (f2 (.ev (fCall m_powered [.bor 2, .bor 1])) (.sl 0) leD))
    (sAsg 2 (f2 (.sl 2) (.ev (fC (.int 2))) mulD)))
    (sSeq (sAsg 3 (f2 (.sl 2) (.ev (fC (.int 2))) fdivD))
    (sSeq (sWhile (fB (f2 (.ev (f2 (.sl 2) (.sl 3) subD)) (.ev (fC (.int 1))) gtD))
    (sSeq (sAsg 4 (f2 (.ev (f2 (.sl 3) (.sl 2) addD)) (.ev (fC (.int 2))) fdivD))
    (fIf (fB (f2 (.ev (fCall m_powered [.bor 4, .bor 1])) (.sl 0) leD))
    (sAsg 3 (fName 4))
    (sAsg 2 (fName 4)))))
    (sRet (fMove 3)))))
noncomputable def m_root : Fn := fnA 2 5 b_root
theorem sc_root : FnScope N_root ["number", "power"] (defScope s_root) := ⟨rfl, rfl, rfl, by decide +kernel, rfl, by decide +kernel, by decide +kernel⟩
theorem d_root {P : Program} {w : World} {K : PySem.W.Frag} {mg : Str → Option Value} {base : Heap} (S : Su K mg base) (f : Addr) (cdv : Value) (A : Around) (outer : List PySem.Env) (s : Shared) (H : Hp) (E : XK) (hr : Room 1 (A.deeper (envOfC "root" (defScope s_root) s.heap.objs.size f cdv))) :
    DSs (cxF P w K mg base N_root "root" (defScope s_root) f cdv A outer s H E) (wxF E) (defBody s_root) b_root :=
    (dss_cons (ds_asg (i := 2) sc_root.nd rfl (by first | exact .inl rfl | exact .inr rfl) de_int)
    (dss_cons (ds_while owns_cx (dt_le (do_ev (de_call (c_powered S) hr (by decide) takes_cx rfl (dcs_cons (da_bor (pv 2)) (dcs_cons (da_bor (pv 1)) dcs_nil)))) (do_sl (pv 0)))
    (dss_one (ds_asg (i := 2) sc_root.nd rfl (by first | exact .inl rfl | exact .inr rfl) (de_mul (do_sl (pv 2)) (do_ev de_int)))))
    (dss_cons (ds_asg (i := 3) sc_root.nd rfl (by first | exact .inl rfl | exact .inr rfl) (de_fdiv (do_sl (pv 2)) (do_ev de_int)))
    (dss_cons (ds_while owns_cx (dt_gt (do_ev (de_sub (do_sl (pv 2)) (do_sl (pv 3)))) (do_ev de_int))
    (dss_cons (ds_asg (i := 4) sc_root.nd rfl (by first | exact .inl rfl | exact .inr rfl) (de_fdiv (do_ev (de_add (do_sl (pv 3)) (do_sl (pv 2)))) (do_ev de_int)))
    (dss_one (ds_if (dt_le (do_ev (de_call (c_powered S) hr (by decide) takes_cx rfl (dcs_cons (da_bor (pv 4)) (dcs_cons (da_bor (pv 1)) dcs_nil)))) (do_sl (pv 0)))
    (dss_one (ds_asg (i := 3) sc_root.nd rfl (by first | exact .inl rfl | exact .inr rfl) (de_var (pv 4))))
    (dss_one (ds_asg (i := 2) sc_root.nd rfl (by first | exact .inl rfl | exact .inr rfl) (de_var (pv 4))))))))
    (dss_one (ds_ret (de_move (pv 3))))))))
theorem c_root {P : Program} {w : World} {K : PySem.W.Frag} {mg : Str → Option Value} {base : Heap} (S : Su K mg base) : Callee P w K mg base 2 "root" m_root := by
  obtain ⟨fd, F⟩ := S.says.1.def_ 1 (d := dd "root" s_root) rfl
  exact callee_of F sc_root (g_root S) rfl rfl (F.bindsN fun _ _ _ _ _ _ us hl => match us, hl with | [_, _], _ => rfl) fun cdv A outer s H E hr => d_root S _ cdv A outer s H E hr
/-! ### _law_number(_law_box_here, _law_power_here): slots 0 _law_box_here, 1 _law_power_here, 2 _law_form, 3 _law_found, 4 _law_k, 5 _law_one -/
def N__law_number : List Str := ["_law_box_here", "_law_power_here", "_law_form", "_law_found", "_law_k", "_law_one"]
noncomputable def b__law_number : M Fl :=
    sSeq (sAsg 2 (fCall m__law_take [.lent 0, .val (fC (.int 5))]))
    (sSeq (fIf (fB (f2 (.sl 2) (.ev (fC (.int 0))) eqD))
    (sRet (fCall m__law_take [.lent 0, .val (fC (.int 20))]))
    (mret .next))
    (sSeq (fIf (fB (f2 (.sl 2) (.ev (fC (.int 3))) ltD))
    (sSeq (sAsg 5 (f2 (.ev (f2 (.ev (fCall m__law_power [.val (fCall m__law_take [.lent 0, .val (f2 (.ev (fLst [fC (.int 7), fC (.int 60), f2 (.ev (fC (.int 10))) (.ev (fC (.int 6))) powD])) (.ev (fCall m__law_take [.lent 0, .val (fC (.int 3))])) getD1)]), .bor 1])) (.ev (fCall m__law_take [.lent 0, .val (fC (.int 3))])) addD)) (.ev (fC (.int 1))) subD))
    (sRet (fL [.ev (fC (.int 0)), .sl 5] maxD)))
    (mret .next))
    (sSeq (sAsg 3 (fC (.int 0)))
    (sSeq (sFor (.nm 4) (fRng rng1 [.ev (f2 (.ev (fC (.int 1))) (.ev (fCall m__law_take [.lent 0, .val (fC (.int 10))])) addD)])
    (sAsg 3 (f2 (.ev (f2 (.sl 3) (.ev (f2 (.ev (fC (.int 10))) (.ev (fC (.int 6))) powD)) mulD)) (.ev (fCall m__law_take [.lent 0, .val (f2 (.ev (fC (.int 10))) (.ev (fC (.int 6))) powD)])) addD)))
    (sRet (fMove 3))))))
noncomputable def m__law_number : Fn := fnA 2 6 b__law_number
theorem sc__law_number : FnScope N__law_number ["_law_box_here", "_law_power_here"] (defScope s__law_number) := ⟨rfl, rfl, rfl, by decide +kernel, rfl, by decide +kernel, by decide +kernel⟩
theorem d__law_number {P : Program} {w : World} {K : PySem.W.Frag} {mg : Str → Option Value} {base : Heap} (S : Su K mg base) (f : Addr) (cdv : Value) (A : Around) (outer : List PySem.Env) (s : Shared) (H : Hp) (E : XK) (hr : Room 1 (A.deeper (envOfC "_law_number" (defScope s__law_number) s.heap.objs.size f cdv))) :
    DSs (cxF P w K mg base N__law_number "_law_number" (defScope s__law_number) f cdv A outer s H E) (wxF E) (defBody s__law_number) b__law_number :=
    (dss_cons (ds_asg (i := 2) sc__law_number.nd rfl (by first | exact .inl rfl | exact .inr rfl) (de_call (c__law_take S) hr (by decide) takes_cx rfl (dcs_cons (da_lent (pv 0)) (dcs_cons (da_val de_int) dcs_nil))))
    (dss_cons (ds_if (dt_eq (u64 hr) (do_sl (pv 2)) (do_ev de_int))
    (dss_one (ds_ret (de_call (c__law_take S) hr (by decide) takes_cx rfl (dcs_cons (da_lent (pv 0)) (dcs_cons (da_val de_int) dcs_nil)))))
    dss_nil)
    (dss_cons (ds_if (dt_lt (do_sl (pv 2)) (do_ev de_int))
    (dss_cons (ds_asg (i := 5) sc__law_number.nd rfl (by first | exact .inl rfl | exact .inr rfl) (de_sub (do_ev (de_add (do_ev (de_call (c__law_power S) hr (by decide) takes_cx rfl (dcs_cons (da_val (de_call (c__law_take S) hr (by decide) takes_cx rfl (dcs_cons (da_lent (pv 0)) (dcs_cons (da_val (de_ix (do_ev (de_lst (df_cons de_int (df_cons de_int (df_cons (de_pow (do_ev de_int) (do_ev de_int)) df_nil))))) (do_ev (de_call (c__law_take S) hr (by decide) takes_cx rfl (dcs_cons (da_lent (pv 0)) (dcs_cons (da_val de_int) dcs_nil)))))) dcs_nil)))) (dcs_cons (da_bor (pv 1)) dcs_nil)))) (do_ev (de_call (c__law_take S) hr (by decide) takes_cx rfl (dcs_cons (da_lent (pv 0)) (dcs_cons (da_val de_int) dcs_nil)))))) (do_ev de_int)))
    (dss_one (ds_ret (de_max rfl rfl (g_max S) (dos_cons (do_ev de_int) (dos_cons (do_sl (pv 5)) dos_nil))))))
    dss_nil)
    (dss_cons (ds_asg (i := 3) sc__law_number.nd rfl (by first | exact .inl rfl | exact .inr rfl) de_int)
    (dss_cons (ds_for owns_cx rfl (di_range1 rfl (g_range S) (dos_cons (do_ev (de_add (do_ev de_int) (do_ev (de_call (c__law_take S) hr (by decide) takes_cx rfl (dcs_cons (da_lent (pv 0)) (dcs_cons (da_val de_int) dcs_nil)))))) dos_nil)) (dg_name (i := 4) sc__law_number.nd rfl (by first | exact .inl rfl | exact .inr rfl))
    (dss_one (ds_asg (i := 3) sc__law_number.nd rfl (by first | exact .inl rfl | exact .inr rfl) (de_add (do_ev (de_mul (do_sl (pv 3)) (do_ev (de_pow (do_ev de_int) (do_ev de_int))))) (do_ev (de_call (c__law_take S) hr (by decide) takes_cx rfl (dcs_cons (da_lent (pv 0)) (dcs_cons (da_val (de_pow (do_ev de_int) (do_ev de_int))) dcs_nil))))))))
    (dss_one (ds_ret (de_move (pv 3)))))))))
theorem c__law_number {P : Program} {w : World} {K : PySem.W.Frag} {mg : Str → Option Value} {base : Heap} (S : Su K mg base) : Callee P w K mg base 2 "_law_number" m__law_number := by
  obtain ⟨fd, F⟩ := S.says.1.def_ 6 (d := dd "_law_number" s__law_number) rfl
  exact callee_of F sc__law_number (g__law_number S) rfl rfl (F.bindsN fun _ _ _ _ _ _ us hl => match us, hl with | [_, _], _ => rfl) fun cdv A outer s H E hr => d__law_number S _ cdv A outer s H E hr
/-! ### _law_right(_law_number_here, _law_power_here): slots 0 _law_number_here, 1 _law_power_here, 2 _law_found -/
def N__law_right : List Str := ["_law_number_here", "_law_power_here", "_law_found"]
noncomputable def b__law_right : M Fl :=
    sSeq (sAsg 2 (fCall m_root [.bor 0, .bor 1]))
    (sSeq (fIf (fOr (fNot (fB (fCall m__law_whole [.bor 2]))) (fB (f2 (.sl 2) (.ev (fC (.int 0))) ltD)))
    (sRet (fC (.bl false)))
    (mret .next))
    (sRet (fCh leD ltD (.ev (fCall m__law_power [.bor 2, .bor 1])) (.sl 0) (.ev (fCall m__law_power [.val (f2 (.sl 2) (.ev (fC (.int 1))) addD), .bor 1])))))
noncomputable def m__law_right : Fn := fnA 2 3 b__law_right
theorem sc__law_right : FnScope N__law_right ["_law_number_here", "_law_power_here"] (defScope s__law_right) := ⟨rfl, rfl, rfl, by decide +kernel, rfl, by decide +kernel, by decide +kernel⟩
theorem d__law_right {P : Program} {w : World} {K : PySem.W.Frag} {mg : Str → Option Value} {base : Heap} (S : Su K mg base) (f : Addr) (cdv : Value) (A : Around) (outer : List PySem.Env) (s : Shared) (H : Hp) (E : XK) (hr : Room 2 (A.deeper (envOfC "_law_right" (defScope s__law_right) s.heap.objs.size f cdv))) :
    DSs (cxF P w K mg base N__law_right "_law_right" (defScope s__law_right) f cdv A outer s H E) (wxF E) (defBody s__law_right) b__law_right :=
    (dss_cons (ds_asg (i := 2) sc__law_right.nd rfl (by first | exact .inl rfl | exact .inr rfl) (de_call (c_root S) hr (by decide) takes_cx rfl (dcs_cons (da_bor (pv 0)) (dcs_cons (da_bor (pv 1)) dcs_nil))))
    (dss_cons (ds_if (DW.dt (dw_or (dt_not (dt_val (de_call (c__law_whole S) hr (by decide) takes_cx rfl (dcs_cons (da_bor (pv 2)) dcs_nil)))) (dw_or1 (dt_lt (do_sl (pv 2)) (do_ev de_int)))))
    (dss_one (ds_ret de_bl))
    dss_nil)
    (dss_one (ds_ret (de_lelt (do_ev (de_call (c__law_power S) hr (by decide) takes_cx rfl (dcs_cons (da_bor (pv 2)) (dcs_cons (da_bor (pv 1)) dcs_nil)))) (do_sl (pv 0)) (do_ev (de_call (c__law_power S) hr (by decide) takes_cx rfl (dcs_cons (da_val (de_add (do_sl (pv 2)) (do_ev de_int))) (dcs_cons (da_bor (pv 1)) dcs_nil)))))))))
theorem c__law_right {P : Program} {w : World} {K : PySem.W.Frag} {mg : Str → Option Value} {base : Heap} (S : Su K mg base) : Callee P w K mg base 3 "_law_right" m__law_right := by
  obtain ⟨fd, F⟩ := S.says.1.def_ 7 (d := dd "_law_right" s__law_right) rfl
  exact callee_of F sc__law_right (g__law_right S) rfl rfl (F.bindsN fun _ _ _ _ _ _ us hl => match us, hl with | [_, _], _ => rfl) fun cdv A outer s H E hr => d__law_right S _ cdv A outer s H E hr
/-! ### law(_law_script): slots 0 _law_script, 1 _law_some, 2 _law_k, 3 _law_box_here, 4 _law_power_here, 5 _law_number_here -/
def N_law : List Str := ["_law_script", "_law_some", "_law_k", "_law_box_here", "_law_power_here", "_law_number_here"]
noncomputable def b_law : M Fl :=
    sSeq (sAsg 1 (fLst []))
    (sSeq (sFor (.nm 2) (fRng rng1 [.ev (fL [.ev (fC (.int 1)), .ev (fL [.ev (fL [.sl 0, .ev (fI (fC (.int 8)))] (sliceL (.no) (.op (fC (.int 8)))))] lenD)] maxD)])
    (sSeq (sAsg 3 (fCall m__law_box [.bor 0, .bor 2]))
    (sSeq (sAsg 4 (f2 (.ev (fC (.int 1))) (.ev (fCall m__law_take [.lent 3, .val (f2 (.ev (fLst [fC (.int 12), fC (.int 12), fC (.int 12), fC (.int 12), fC (.int 12), fC (.int 12), fC (.int 12), fC (.int 60)])) (.ev (fCall m__law_take [.lent 3, .val (fC (.int 8))])) getD1)])) addD))
    (sSeq (sExpr (fMut 1 [fTup [fCall m__law_number [.lent 3, .bor 4], fName 4]] appD))
    (fIf (fB (f2 (.ev (f2 (.sl 3) (.ev (fC (.int 0))) getD1)) (.ev (fC (.int 0))) gtD))
    (sExpr (fMut 1 [fTup [f2 (.ev (f2 (.sl 3) (.ev (fC (.int 0))) getD1)) (.ev (fCall m__law_power [.val (fC (.int 10)), .val (fC (.int 300))])) modD, fName 4]] appD))
    (mret .next))))))
    (sRet (fL [.ev (fLc (.tp [.nm 5, .nm 4]) [5, 4] (fSrc seqD (f2 (.sl 1) (.ev (fL [.sl 1, .ev (fI (fC (.int 1)))] (sliceL (.no) (.op (fC (.int 1)))))) addD)) (mret true) (fCall m__law_right [.bor 5, .bor 4]))] allD)))
noncomputable def m_law : Fn := fnA 1 6 b_law
theorem sc_law : FnScope N_law ["_law_script"] (defScope s_law) := ⟨rfl, rfl, rfl, by decide +kernel, rfl, by decide +kernel, by decide +kernel⟩
theorem d_law {P : Program} {w : World} {K : PySem.W.Frag} {mg : Str → Option Value} {base : Heap} (S : Su K mg base) (f : Addr) (cdv : Value) (A : Around) (outer : List PySem.Env) (s : Shared) (H : Hp) (E : XK) (hr : Room 3 (A.deeper (envOfC "law" (defScope s_law) s.heap.objs.size f cdv))) :
    DSs (cxF P w K mg base N_law "law" (defScope s_law) f cdv A outer s H E) (wxF E) (defBody s_law) b_law :=
    (dss_cons (ds_asg (i := 1) sc_law.nd rfl (by first | exact .inl rfl | exact .inr rfl) (de_lst df_nil))
    (dss_cons (ds_for owns_cx rfl (di_range1 rfl (g_range S) (dos_cons (do_ev (de_max rfl rfl (g_max S) (dos_cons (do_ev de_int) (dos_cons (do_ev (de_len rfl (g_len S) (dos_cons (do_ev (de_slice (do_sl (pv 0)) dp_no (dp_op de_int))) dos_nil))) dos_nil)))) dos_nil)) (dg_name (i := 2) sc_law.nd rfl (by first | exact .inl rfl | exact .inr rfl))
    (dss_cons (ds_asg (i := 3) sc_law.nd rfl (by first | exact .inl rfl | exact .inr rfl) (de_call (c__law_box S) hr (by decide) takes_cx rfl (dcs_cons (da_bor (pv 0)) (dcs_cons (da_bor (pv 2)) dcs_nil))))
    (dss_cons (ds_asg (i := 4) sc_law.nd rfl (by first | exact .inl rfl | exact .inr rfl) (de_add (do_ev de_int) (do_ev (de_call (c__law_take S) hr (by decide) takes_cx rfl (dcs_cons (da_lent (pv 3)) (dcs_cons (da_val (de_ix (do_ev (de_lst (df_cons de_int (df_cons de_int (df_cons de_int (df_cons de_int (df_cons de_int (df_cons de_int (df_cons de_int (df_cons de_int df_nil)))))))))) (do_ev (de_call (c__law_take S) hr (by decide) takes_cx rfl (dcs_cons (da_lent (pv 3)) (dcs_cons (da_val de_int) dcs_nil)))))) dcs_nil))))))
    (dss_cons (ds_expr (de_append (pv 1) (df_cons (de_tup (df_cons (de_call (c__law_number S) hr (by decide) takes_cx rfl (dcs_cons (da_lent (pv 3)) (dcs_cons (da_bor (pv 4)) dcs_nil))) (df_cons (de_var (pv 4)) df_nil))) df_nil)))
    (dss_one (ds_if (dt_gt (do_ev (de_ix (do_sl (pv 3)) (do_ev de_int))) (do_ev de_int))
    (dss_one (ds_expr (de_append (pv 1) (df_cons (de_tup (df_cons (de_mod (do_ev (de_ix (do_sl (pv 3)) (do_ev de_int))) (do_ev (de_call (c__law_power S) hr (by decide) takes_cx rfl (dcs_cons (da_val de_int) (dcs_cons (da_val de_int) dcs_nil))))) (df_cons (de_var (pv 4)) df_nil))) df_nil))))
    dss_nil))))))
    (dss_one (ds_ret (de_all rfl rfl (g_all S) (dos_cons (do_ev (de_lc (own := [("_law_number_here", 5), ("_law_power_here", 4)]) rfl sc_law.nd (di_seq (de_add (do_sl (pv 1)) (do_ev (de_slice (do_sl (pv 1)) dp_no (dp_op de_int))))) (blkOk_by (N := N_law) (sc := defScope s_law) (own := [("_law_number_here", 5), ("_law_power_here", 4)]) (by decide +kernel)) rfl (fun _ _ _ _ _ => (dg_tup rfl (dgs_cons (dg_name (i := 5) sc_law.nd rfl (by first | exact .inl rfl | exact .inr rfl)) (dgs_cons (dg_name (i := 4) sc_law.nd rfl (by first | exact .inl rfl | exact .inr rfl)) dgs_nil)))) (fun _ _ _ _ _ => dts_nil) (fun _ _ _ _ _ => (de_call (c__law_right S) hr (by decide) takes0 rfl (dcs_cons (da_bor (pv 5)) (dcs_cons (da_bor (pv 4)) dcs_nil)))))) dos_nil))))))
theorem facts {w : World} {K : PySem.W.Frag} {h : Heap} {mg : Str → Option Value} {fa_ : Addr} (X : K.In h) (G : h.Ns mainGlobals mg) (hfa : mg ("law" : Str) = some (.ref fa_)) (c : SaysZ fa fn K) :
    ∃ fd : FuncData, (∀ (s : Shared) (v : Value), BindsTo s fd ⟨[v], []⟩ [("_law_script", v)]) ∧ ∀ base : Heap, K.In base → base.Ns mainGlobals mg → FnOk RWL.prog w K mg base (L2.CX RWL.prog w) 4 fa_ fd ["_law_script"] (spD mg m_law) := by
  obtain ⟨fd, F⟩ := c.1.def_ 8 (d := dd "law" s_law) rfl
  have e := hfa.symm.trans (g_law ⟨c, X, G⟩)
  cases e
  have b := FunD.bindsA (ps := ["_law_script"]) F fun _ _ _ _ _ _ us hl => match us, hl with | [_], _ => rfl
  exact ⟨fd, fun s v => b s [v] rfl, fun base kb nb => fnok_of F sc_law rfl rfl fun cdv A outer s H E hr => d_law ⟨c, kb, nb⟩ _ cdv A outer s H E hr⟩
theorem holds_of (truth : ∀ ns : List Int, ns.length ≤ 63 → ∃ ps', m_law [.frz (.scr ns)] = some (.ret (.frz (.bl true)) ps')) : RWL.Holds := by
  open PySem.W PySem.Calls in
  w_on; o_law
  refine HandSHeadRun.head_any (r := OpenLaw.row RWL) (q := view (OpenLaw.row RWL).prog [10]) (H := hk) (ob := ob) (M := 3000) (loose := loose) (d := HandSHeadRun.topDef (OpenLaw.row RWL).prog 10) (kwd := []) ob_eq
    (by kernel_rfl) (fun s => by kernel_rfl) run (by kernel_rfl) (by kernel_rfl) (by kernel_rfl) (by rfl) (by first | assumption | decide +kernel) (by decide +kernel) ⟨rfl, rfl, rfl, rfl, rfl, by decide +kernel⟩ ?hw ?hc
  case hw => w_witness2
  case hc =>
    refine Dz.walk_ofC (l := RWL) (n := 63) (k := 4) (x := "_law_script") rfl (by decide) (by kernel_rfl) ⟨rfl, by decide, by decide⟩ ?F
    intro w mg fa_ h Y G hmg0
    obtain ⟨K, KX, c⟩ := Y
    have hmg : mg ("law" : PySem.Str) = some (.ref fa_) := by
      have e : (HandSHeadRun.topDef (OpenLaw.row RWL).prog 10).name = ("law" : PySem.Str) := by kernel_rfl
      rw [← e]
      exact hmg0
    obtain ⟨fd, hb, hF⟩ := facts (w := w) KX G hmg c
    exact ⟨K, fd, spD mg m_law, KX, hb, fun H a ns hl hS => law_says hS c.2 (truth ns hl), hF⟩
end Lw
namespace Dz
open PySem Lw
theorem take_ok {a s k : Int} (hk : 0 < k) (hk2 : k < 18446744073709551616) {Q : R → List Slot → Prop} (h : ∀ d a' s', 0 ≤ d → d < k → Q (.frz (.int d)) [.lent (.lst [.int a', .int s']), .frz (.int k)]) : COk m__law_take [.lent (.lst [.int a, .int s]), .frz (.int k)] Q := by
  apply cok_fnA rfl
  have h0 := Int.emod_nonneg a (by omega : k ≠ 0)
  have h1 := Int.emod_lt_of_pos a hk
  by_cases ha : 0 < a <;> simp [b__law_take, atI0, atI1, L2.ixN, and_assoc, mulOk_r, cdivW, hk, hk2, ha]
  · exact h _ _ _ h0 h1
  · exact h _ _ _ (Int.emod_nonneg _ (by omega)) (Int.emod_lt_of_pos _ hk)
theorem box_ok {ns : List Int} {k : Int} (hk : 0 ≤ k) {Q : R → List Slot → Prop} (h : ∀ a s, Q (.own (.lst [.int a, .int s])) [.frz (.scr ns), .frz (.int k)]) : COk m__law_box [.frz (.scr ns), .frz (.int k)] Q := by
  apply cok_fnA rfl
  by_cases h1 : k < ns.length
  · obtain ⟨x, hx⟩ := atI_lt hk h1
    simp [b__law_box, and_assoc, mulOk_r, mulOk_l, mulOk_ite, h1, hx, h]
  · by_cases h3 : 0 < ns.length
    · have h4 : (0 : Int) < ns.length := by omega
      obtain ⟨x, hx⟩ := atI_lt (xs := ns) (Int.emod_nonneg k (by omega : (ns.length : Int) ≠ 0)) (Int.emod_lt_of_pos k h4)
      simp [b__law_box, and_assoc, mulOk_r, mulOk_l, mulOk_ite, h1, h3, hx, h]
    · simp [b__law_box, and_assoc, mulOk_r, mulOk_l, mulOk_ite, h1, h3, h]
end Dz
namespace Dz
open PySem Lw
theorem pow_ok {h p : Int} (hp : 0 ≤ p) (hp2 : p < 1000000) (H : ∀ i : Nat, (i : Int) < p → MulOk (h ^ i) h) {Q : R → List Slot → Prop} (q : Q (.frz (.int (h ^ p.toNat))) [.frz (.int h), .frz (.int p)]) : COk m_powered [.frz (.int h), .frz (.int p)] Q := by
  apply cok_fnA rfl
  unfold b_powered
  simp [rng1_at (n := p) (by omega) (by omega)]
  refine ok_forL (I := fun todo ρ => ∃ i : Nat, (i : Int) ≤ p ∧ todo.length = p.toNat - i ∧ ∃ s3, nl s3 ∧ ρ = [.frz (.int h), .frz (.int p), .frz (.int (h ^ i)), s3]) (fun d ds ρ hI => ?_) (fun ρ hI => ?_) _ _ ⟨0, hp, by simp [rangeL_len], .emp, .inl rfl, by simp⟩
  · obtain ⟨i, hi, hl, s3, n3, rfl⟩ := hI
    simp only [List.length_cons] at hl
    rw [ok_setTg_nm]
    refine ok_set rfl n3 ?_
    simp [H i (by omega)]
    refine ⟨i + 1, by omega, by omega, ?_⟩
    simp [Int.pow_succ, nl]
  · obtain ⟨i, hi, hl, s3, n3, rfl⟩ := hI
    simp at hl
    have e : i = p.toNat := by omega
    subst e
    simp [q]
theorem lpow_ok {h p : Int} (hp : 0 ≤ p) (hp2 : p < 1000000) (H : ∀ i : Nat, (i : Int) < p → MulOk (h ^ i) h) {Q : R → List Slot → Prop} (q : Q (.frz (.int (h ^ p.toNat))) [.frz (.int h), .frz (.int p)]) : COk m__law_power [.frz (.int h), .frz (.int p)] Q := pow_ok hp hp2 H q
theorem natAbs_pow_lt {h : Int} {b i : Nat} (hb : h.natAbs < 2 ^ b) : (h ^ i).natAbs < 2 ^ (b * i + 1) := by
  rw [Int.natAbs_pow]
  have h1 : h.natAbs ^ i ≤ (2 ^ b) ^ i := Nat.pow_le_pow_left (by omega) i
  rw [← Nat.pow_mul] at h1
  have h2 : 2 ^ (b * i) < 2 ^ (b * i + 1) := Nat.pow_lt_pow_right (by omega) (by omega)
  omega
theorem mulOk_pows {h p : Int} {b : Nat} (hb : h.natAbs < 2 ^ b) (hs : b * p.toNat + b + 1 ≤ 900000) : ∀ i : Nat, (i : Int) < p → MulOk (h ^ i) h := fun i hi => by
  refine mulOk_pow2 (natAbs_pow_lt hb) hb ?_
  have : b * i ≤ b * p.toNat := Nat.mul_le_mul_left b (by omega)
  omega
theorem whole_ok {r : Int} {Q : R → List Slot → Prop} (q : Q (.frz (.bl true)) [.frz (.int r)]) : COk m__law_whole [.frz (.int r)] Q := by
  apply cok_fnA rfl
  unfold b__law_whole
  simp [isiD, isT, q]
/-- what the search keeps -/
theorem root_ok {n p : Int} (hn : 0 ≤ n) (hn2 : n.natAbs < 2 ^ 2000) (hp : 1 ≤ p) (hp2 : p ≤ 60) {Q : R → List Slot → Prop} (q : ∀ r : Int, 0 ≤ r → r.natAbs < 2 ^ 2001 → r ^ p.toNat ≤ n → n < (r + 1) ^ p.toNat → Q (.frz (.int r)) [.frz (.int n), .frz (.int p)]) :
    COk m_root [.frz (.int n), .frz (.int p)] Q := by
  apply cok_fnA rfl
  unfold b_root
  obtain ⟨P, hP⟩ : ∃ P : Nat, p.toNat = P + 1 := ⟨p.toNat - 1, by omega⟩
  have big : ∀ h : Int, h.natAbs < 2 ^ 2002 → ∀ i : Nat, (i : Int) < p → MulOk (h ^ i) h := fun h hh => mulOk_pows hh (by omega)
  have ge : ∀ h : Int, 1 ≤ h → h ≤ h ^ p.toNat := fun h hh => by
    rw [hP]
    have : (0 : Int) < h ^ P := Int.pow_pos (by omega)
    calc h = 1 * h := by omega
      _ ≤ h ^ P * h := Int.mul_le_mul_of_nonneg_right (by omega) (by omega)
      _ = h ^ (P + 1) := (Int.pow_succ h P).symm
  have e2 : (2 : Nat) ^ 2001 = 2 * 2 ^ 2000 := by rw [Nat.pow_succ]; omega
  have e3 : (2 : Nat) ^ 2002 = 2 * 2 ^ 2001 := by rw [Nat.pow_succ]; omega
  generalize (2 : Nat) ^ 2000 = B at hn2 e2
  generalize hB1 : (2 : Nat) ^ 2001 = B1 at q e2 e3
  generalize hB2 : (2 : Nat) ^ 2002 = B2 at big e3
  simp
  refine ok_while (I := fun k ρ => ∃ h : Int, 1 ≤ h ∧ h ≤ 2 * n + 2 ∧ (h = 1 ∨ ∃ l, h = 2 * l ∧ 1 ≤ l ∧ l ^ p.toNat ≤ n) ∧ k = (n + 1 - h).toNat ∧ ρ = [.frz (.int n), .frz (.int p), .frz (.int h), .emp, .emp]) (fun k ρ hI => ?_) _ _ ⟨1, by omega, by omega, .inl rfl, rfl, rfl⟩
  · obtain ⟨h, h1, h2, h3, rfl, rfl⟩ := hI
    simp
    refine pow_ok (by omega) (by omega) (big h (by omega)) ?_
    simp
    by_cases c : h ^ p.toNat ≤ n
    · have := ge h h1
      simp [c, mulOk_r]
      exact ⟨(n + 1 - h * 2).toNat, by omega, h * 2, by omega, by omega, .inr ⟨h, by omega, h1, c⟩, rfl, rfl⟩
    · have c2 : n < h ^ p.toNat := by omega
      have l0 : (h / 2) ^ p.toNat ≤ n := by
        rcases h3 with rfl | ⟨l, rfl, l1, l2⟩
        · rw [show (1 : Int) / 2 = 0 from rfl, hP, Int.pow_succ]
          omega
        · rw [show 2 * l / 2 = l by omega]
          exact l2
      simp [c, cdivW]
      refine ok_while (I := fun k ρ => ∃ (l g : Int) (s4 : Slot), nl s4 ∧ 0 ≤ l ∧ l < g ∧ g ≤ 2 * n + 2 ∧ l ^ p.toNat ≤ n ∧ n < g ^ p.toNat ∧ k = (g - l).toNat ∧ ρ = [.frz (.int n), .frz (.int p), .frz (.int g), .frz (.int l), s4]) (fun k ρ hI => ?_) _ _ ⟨h / 2, h, .emp, .inl rfl, by omega, by omega, h2, l0, c2, rfl, rfl⟩
      obtain ⟨l, g, s4, n4, i1, i2, i3, i4, i5, rfl, rfl⟩ := hI
      simp
      by_cases d : 1 < g - l
      · simp [d, cdivW, wN_nl n4]
        refine pow_ok (by omega) (by omega) (big _ (by omega)) ?_
        simp
        by_cases f : ((l + g) / 2) ^ p.toNat ≤ n
        · simp [f]
          exact ⟨(g - (l + g) / 2).toNat, by omega, _, _, _, .inr (.inl ⟨_, rfl⟩), by omega, by omega, i3, f, i5, rfl, rfl, rfl, rfl⟩
        · simp [f]
          exact ⟨((l + g) / 2 - l).toNat, by omega, _, _, _, .inr (.inl ⟨_, rfl⟩), i1, by omega, by omega, i4, by omega, rfl, rfl, rfl, rfl⟩
      · have e : g = l + 1 := by omega
        subst e
        simp [d]
        exact q l i1 (by omega) i4 i5
theorem right_ok {n p : Int} (hn : 0 ≤ n) (hn2 : n.natAbs < 2 ^ 2000) (hp : 1 ≤ p) (hp2 : p ≤ 60) {Q : R → List Slot → Prop} (q : Q (.frz (.bl true)) [.frz (.int n), .frz (.int p)]) : COk m__law_right [.frz (.int n), .frz (.int p)] Q := by
  apply cok_fnA rfl
  unfold b__law_right
  simp
  refine root_ok hn hn2 hp hp2 fun r r0 r1 r2 r3 => ?_
  simp
  refine whole_ok ?_
  have e : ¬ r < 0 := by omega
  simp [e]
  have e3 : (2 : Nat) ^ 2002 = 2 * 2 ^ 2001 := by rw [Nat.pow_succ]; omega
  refine lpow_ok (by omega) (by omega) (mulOk_pows r1 (by omega)) ?_
  simp [r2]
  refine lpow_ok (by omega) (by omega) (mulOk_pows (b := 2002) (by generalize (2 : Nat) ^ 2001 = B at *; omega) (by omega)) ?_
  simp [r3, q]
theorem three_at {i : Int} (h0 : 0 ≤ i) (h1 : i < 3) {x y z : D} : L2.atI [x, y, z] i = some x ∨ L2.atI [x, y, z] i = some y ∨ L2.atI [x, y, z] i = some z := by
  have : i = 0 ∨ i = 1 ∨ i = 2 := by omega
  rcases this with rfl | rfl | rfl
  · exact .inl rfl
  · exact .inr (.inl rfl)
  · exact .inr (.inr rfl)
def numI (p f : Int) (todo : List D) (ρ : Dz.Env) : Prop := ∃ (i : Nat) (v a s : Int) (s4 : Slot), nl s4 ∧ i + todo.length ≤ 10 ∧ 0 ≤ v ∧ v.natAbs < 1000000 ^ i ∧ ρ = [.lent (.lst [.int a, .int s]), .frz (.int p), .frz (.int f), .frz (.int v), s4, .emp]
theorem number_ok {a s p : Int} (hp : 1 ≤ p) (hp2 : p ≤ 60) {Q : R → List Slot → Prop} (q : ∀ n a s, 0 ≤ n → n.natAbs < 2 ^ 2000 → Q (.frz (.int n)) [.lent (.lst [.int a, .int s]), .frz (.int p)]) : COk m__law_number [.lent (.lst [.int a, .int s]), .frz (.int p)] Q := by
  apply cok_fnA rfl
  unfold b__law_number
  simp
  refine take_ok (by decide) (by decide) fun f a s f0 f1 => ?_
  simp
  have small : ∀ n : Int, n.natAbs < 2 ^ 100 → n.natAbs < 2 ^ 2000 := fun n h => Nat.lt_trans h (Nat.pow_lt_pow_right (by omega) (by omega))
  by_cases g0 : f = 0
  · subst g0
    simp
    refine take_ok (by decide) (by decide) fun n a s n0 n1 => ?_
    simp
    exact q _ _ _ n0 (small _ (by omega))
  · by_cases g3 : f < 3
    · simp [g0, g3]
      refine take_ok (by decide) (by decide) fun j a s j0 j1 => ?_
      simp
      have fin : ∀ k : Int, 0 < k → k ≤ 1000000 → COk m__law_take [.lent (.lst [.int a, .int s]), .frz (.int k)] fun r ps' => ∃ c a' s', 0 ≤ c ∧ c < 1000000 ∧ r = .frz (.int c) ∧ ps' = [.lent (.lst [.int a', .int s']), .frz (.int k)] := fun k k0 k1 =>
        take_ok k0 (by omega) fun c a' s' c0 c1 => ⟨c, a', s', c0, by omega, rfl, rfl⟩
      have go : ∀ x : Int, 0 < x → x ≤ 1000000 → L2.atI [D.int 7, D.int 60, D.int 1000000] j = some (.int x) → True := fun _ _ _ _ => trivial
      obtain ⟨x, x0, x1, ex⟩ : ∃ x : Int, 0 < x ∧ x ≤ 1000000 ∧ L2.atI [D.int 7, D.int 60, D.int 1000000] j = some (.int x) := by
        rcases three_at j0 j1 (x := D.int 7) (y := D.int 60) (z := D.int 1000000) with e | e | e
        · exact ⟨7, by omega, by omega, e⟩
        · exact ⟨60, by omega, by omega, e⟩
        · exact ⟨1000000, by omega, by omega, e⟩
      simp [ex]
      refine (fin x x0 x1).mono fun r ps' ⟨c, a, s, c0, c1, er, ep⟩ => ?_
      subst er ep
      simp
      have cb : c.natAbs < 2 ^ 20 := by omega
      refine lpow_ok (by omega) (by omega) (mulOk_pows cb (by omega)) ?_
      simp
      refine take_ok (by decide) (by decide) fun z a s z0 z1 => ?_
      simp
      have b1 := natAbs_pow_lt (i := p.toNat) cb
      have b2 : 2 ^ (20 * p.toNat + 1) ≤ 2 ^ 1201 := Nat.pow_le_pow_right (by omega) (by omega)
      have b3 : (2 : Nat) ^ 1201 + 10 < 2 ^ 2000 := by decide +kernel
      have c2 : 0 ≤ c ^ p.toNat := Int.pow_nonneg c0
      generalize c ^ p.toNat = w at b1 c2 ⊢
      generalize (2 : Nat) ^ 2000 = B at q b3
      generalize (2 : Nat) ^ 1201 = C at b2 b3
      split <;> exact q _ _ _ (by omega) (by omega)
    · simp [g0, g3]
      refine take_ok (by decide) (by decide) fun m a s m0 m1 => ?_
      simp [rng1_at (n := 1 + m) (by omega) (by omega)]
      refine ok_forL (I := numI p f) (fun d ds ρ hI => ?_) (fun ρ hI => ?_) _ _ ⟨0, 0, a, s, .emp, .inl rfl, by rw [rangeL_len]; omega, by omega, by decide, rfl⟩
      · obtain ⟨i, v, a, s, s4, n4, hl, v0, v1, rfl⟩ := hI
        simp only [List.length_cons] at hl
        simp [wN_nl n4, mulOk_r]
        refine take_ok (by decide) (by decide) fun c a s c0 c1 => ?_
        simp
        refine ⟨i + 1, v * 1000000 + c, a, s, _, nl_frz, by omega, by omega, ?_, rfl⟩
        rw [Nat.pow_succ]
        generalize 1000000 ^ i = E at v1 ⊢
        omega
      · obtain ⟨i, v, a, s, s4, n4, hl, v0, v1, rfl⟩ := hI
        simp
        refine q _ _ _ v0 ?_
        simp at hl
        have h1 : 1000000 ^ i ≤ 1000000 ^ 10 := Nat.pow_le_pow_right (by omega) hl
        have h2 : 1000000 ^ 10 < 2 ^ 2000 := by decide +kernel
        exact Nat.lt_trans (Nat.lt_of_lt_of_le v1 h1) h2
def isPr (d : D) : Prop := ∃ n p : Int, d = .tup [.int n, .int p] ∧ 0 ≤ n ∧ n.natAbs < 2 ^ 2000 ∧ 1 ≤ p ∧ p ≤ 60
def lawI (ns : List Int) (todo : List D) (ρ : Dz.Env) : Prop := ∃ (L : List D) (s2 s3 s4 : Slot), nl s2 ∧ nl s3 ∧ (s4 = .emp ∨ ∃ d, s4 = .frz d) ∧ (∀ d ∈ L, isPr d) ∧ L.length + 2 * todo.length ≤ 16 ∧ (∀ d ∈ todo, ∃ k : Int, d = .int k ∧ 0 ≤ k) ∧ ρ = [.frz (.scr ns), .own (.lst L), s2, s3, s4, .emp]
theorem cutI8 (ns : List Int) : (cutI ns none (some 8)).length ≤ 8 := by
  unfold cutI
  rw [List.length_take]
  have : HT.sIx ns.length ns.length (some 8) ≤ 8 := by
    simp [HT.sIx]
    omega
  omega
theorem eight_at {i : Int} (h0 : 0 ≤ i) (h1 : i < 8) : ∃ x : Int, L2.atI [D.int 12, D.int 12, D.int 12, D.int 12, D.int 12, D.int 12, D.int 12, D.int 60] i = some (.int x) ∧ 0 < x ∧ x ≤ 60 := by
  have : i = 0 ∨ i = 1 ∨ i = 2 ∨ i = 3 ∨ i = 4 ∨ i = 5 ∨ i = 6 ∨ i = 7 := by omega
  rcases this with rfl | rfl | rfl | rfl | rfl | rfl | rfl | rfl <;> first | exact ⟨12, rfl, by omega, by omega⟩ | exact ⟨60, rfl, by omega, by omega⟩
theorem law_ok {ns : List Int} : ∃ ps', m_law [.frz (.scr ns)] = some (.ret (.frz (.bl true)) ps') := by
  have : COk m_law [.frz (.scr ns)] fun r _ => r = .frz (.bl true) := by
    apply cok_fnA rfl
    unfold b_law
    have h8 := cutI8 ns
    simp
    generalize hM : (if (1 : Int) < ((cutI ns none (some 8)).length : Int) then ((cutI ns none (some 8)).length : Int) else 1) = M
    have hM1 : 1 ≤ M ∧ M ≤ 8 := by
      rw [← hM]
      split <;> omega
    simp [rng1_at (n := M) (by omega) (by omega)]
    refine ok_forL (I := lawI ns) (fun d ds ρ hI => ?_) (fun ρ hI => ?_) _ _ ⟨[], _, _, _, nl_emp, nl_emp, .inl rfl, fun _ z => (List.not_mem_nil z).elim, by rw [rangeL_len]; simp; omega, fun d hd => let ⟨k, e, k0, _⟩ := rangeL_mem hd; ⟨k, e, k0⟩, rfl⟩
    · obtain ⟨L, s2, s3, s4, n2, n3, n4, hL, hl, ht, rfl⟩ := hI
      obtain ⟨k, rfl, hk⟩ := ht d List.mem_cons_self
      have n4' : nl s4 := n4.elim .inl fun z => .inr (.inl z)
      simp only [List.length_cons] at hl
      simp [wN_nl n2]
      refine box_ok hk fun a s => ?_
      simp [wN_nl n3]
      refine take_ok (by decide) (by decide) fun j a s j0 j1 => ?_
      obtain ⟨x, ex, x0, x1⟩ := eight_at j0 j1
      simp [ex]
      refine take_ok x0 (by omega) fun p a s p0 p1 => ?_
      simp [wN_nl n4']
      refine number_ok (by omega) (by omega) fun n a s n0 n1 => ?_
      simp [show L.length < 16777216 by omega]
      by_cases g : 0 < a
      · simp [g, atI0]
        refine lpow_ok (by decide) (by decide) (mulOk_pows (b := 4) (by decide) (by decide)) ?_
        have T1 : (0 : Int) < 10 ^ (300 : Int).toNat := Int.pow_pos (by decide)
        have T2 : ((10 : Int) ^ (300 : Int).toNat).natAbs < 2 ^ 2000 := by
          rw [Int.natAbs_pow]
          decide +kernel
        generalize (10 : Int) ^ (300 : Int).toNat = T at T1 T2 ⊢
        simp [T1, show L.length + 1 < 16777216 by omega]
        have e0 := Int.emod_nonneg a (by omega : T ≠ 0)
        have e1 := Int.emod_lt_of_pos a T1
        refine ⟨_, _, _, _, nl_frz, nl_own, .inr ⟨_, rfl⟩, fun d hd => ?_, ?_, fun d hd => ht d (List.mem_cons_of_mem _ hd), rfl⟩
        · rcases List.mem_append.mp hd with hd | hd
          · exact hL d hd
          · rcases List.mem_cons.mp hd with rfl | hd
            · exact ⟨n, 1 + p, rfl, n0, n1, by omega, by omega⟩
            · rcases List.mem_cons.mp hd with rfl | hd
              · exact ⟨a % T, 1 + p, rfl, e0, by generalize (2 : Nat) ^ 2000 = B at *; omega, by omega, by omega⟩
              · exact (List.not_mem_nil hd).elim
        · simp
          omega
      · simp [g, atI0]
        refine ⟨_, _, _, _, nl_frz, nl_own, .inr ⟨_, rfl⟩, fun d hd => ?_, ?_, fun d hd => ht d (List.mem_cons_of_mem _ hd), rfl⟩
        · rcases List.mem_append.mp hd with hd | hd
          · exact hL d hd
          · rcases List.mem_cons.mp hd with rfl | hd
            · exact ⟨n, 1 + p, rfl, n0, n1, by omega, by omega⟩
            · exact (List.not_mem_nil hd).elim
        · simp
          omega
    · obtain ⟨L, s2, s3, s4, n2, n3, n4, hL, hl, _, rfl⟩ := hI
      have hc := cutD_len (xs := L) (lo := none) (hi := some 1)
      have hall : ∀ d ∈ L ++ cutD L none (some 1), isPr d := fun d hd => (List.mem_append.mp hd).elim (hL d) fun z => hL d (cutD_mem z)
      simp at hl
      simp
      apply ok_fLc
      simp [show L.length + (cutD L none (some 1)).length ≤ 16777216 by omega]
      refine ⟨by rcases n4 with rfl | ⟨d, rfl⟩ <;> rfl, ?_⟩
      simp only [wipeE, List.set_cons_succ, List.set_cons_zero]
      refine ok_lcMap (c := fun _ => true) (e := fun _ => .bl true) (fun d hd => ?_) (by simp; omega) ?_
      · obtain ⟨n, p, rfl, n0, n1, p0, p1⟩ := hall d hd
        simp
        refine right_ok n0 n1 p0 p1 ?_
        simp [wipeE]
      · have e : ∀ xs : List D, (xs.filter fun _ => true).map (fun _ => D.bl true) = (xs.map fun _ => true).map .bl := fun xs => by
          rw [List.filter_eq_self.mpr fun _ _ => rfl, List.map_map]
          rfl
        rw [e]
        simp only [ok_evs_nil, rd_own, allD_bls]
        simp
  obtain ⟨r, ps', e, rfl⟩ := this
  exact ⟨ps', e⟩
end Dz
theorem PySem.Challenge.cw_mostrows_k35_roots_holds : PySem.Challenge.rw_mostrows_k35_roots.Holds := by
  exact Lw.holds_of fun ns hl => Dz.law_ok
