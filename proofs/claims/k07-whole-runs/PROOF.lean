import PyProof.Rows.All
import Wide.All
import OpenK.AllK
import Wide.FinOn
import HandS.ForMost
import HandS.More
import HandS.Star
import HandS.Exc
import HandS.TryOnly
import HandS.ExcOwn
import HandS.ExcInit
import HandS.WordsExc
import HandS.Lambda
import HandS.Nested
import HandS.HotCalls
import HandS.IsInst
import HandS.Codes
import HandS.Defaults
import HandS.Wide
import HandS.DictComp
import HandS.Walk
import HandS.EndTab
import HandS.Finally
import KE.KSortTupG
import KE.GoesNew
import PyProof.InstEq
import PyProof.InstSpecial
import PyProof.ListStr
import HandS.Strs
import PyProof.EnumMake
import HandS.TupLen
import PySem.Challenge.RW_passtexts_k07_whole_runs
import HandS.Small
import HandS.ExcField

section
set_option Elab.async false
set_option maxRecDepth 100000
namespace Pt
open PySem PySem.Spec PyProof.Rows L2
/-! ## Rules that the layer lacks -/
section
variable {X : Cx}
/-- an attribute as a target -/
def gFld (K : PySem.W.Frag) (to : TE) (f : Str) : TG := fun v σ H Q => to σ H fun x H1 => ∃ a C dx fs, x = .ref a ∧ H1 a = some (.ins C dx fs) ∧ Cls K C ∧ NoAttr K C f ∧ fs.length < 1000 ∧
  Q σ (upd H1 a (.ins C dx (putF f v fs)))
theorem pg_fld {o : Expr} {f : Str} {pos : Pos} {to : TE} (ho : PE X o to) : PG X (.Attribute o f pos) (gFld X.K to f) := by
  refine ⟨fun pins s σ H v u Q I r h => ?_⟩
  show wpAny _ _ (do let ov ← holding [u] (eval o X.env); standAt pos.atName; holding [u, ov] (setAttr ov f u); release [u, ov] []) _ _ _
  refine wpAny_bind (wpAny_holding (thn (ho.run pins s σ H _ I h) fun ov s1 ⟨x, H1, I1, rx, a, C, dx, fs, ex, ea, c, n, l, q⟩ => ?_))
  subst ex
  obtain rfl : ov = Value.ref a := rx
  refine wpAny_bind (wpAny_standAt (wpAny_bind (wpAny_holding ?_)))
  exact setattr_ok I1 ea c n l r fun s2 I2 => wpAny_release ⟨σ, _, I2, q⟩

/-! ### a text's signs -/
/-- the signs of a text, each a text -/
def signs (z : Str) : List Str := z.cps.toList.map fun c => ⟨#[c]⟩
theorem signs_length (z : Str) : (signs z).length = z.cps.size := by simp [signs]
theorem signs_get (z : Str) (i : Nat) : (signs z)[i]? = (z.cps[i]?).map fun c => (⟨#[c]⟩ : Str) := by simp [signs]
theorem signs_of {z : Str} {acc : Array Value} (h : ItemsOf (SignAt z) acc z.cps.size) : StrsAre acc.toList (signs z) := by
  refine strs_at ?_ fun j v e => ?_
  · rw [Array.length_toList, h.1, signs_length]
  · obtain ⟨c, u, e1, e2⟩ := h.2 j v (by rw [← Array.getElem?_toList]; exact e)
    exact ⟨⟨#[c]⟩, u, by rw [signs_get, e1]; rfl, e2⟩
theorem call_listStr (hc : X.calm = true) : CallR X (.type "list") (fun xs H Q => ∃ z : Str, xs = [.str z] ∧ z.cps.size ≤ sizeLine ∧ ∀ p, H p = none → Q (.ref p) (upd H p (.lst ((signs z).map V.str)))) := by
  intro pins s σ H xs us Q I r h
  obtain ⟨z, rfl, hz, q⟩ := h
  obtain ⟨u, rfl, ru⟩ := vals1 r
  obtain ⟨t, rfl⟩ := ru
  refine call_list_str (hn := hz) (I.ok.hd hc) z t fun h' tk acc c' hk hS hacc => ?_
  refine ⟨.ref s.heap.objs.size, _, I.laid (t' := tk) hk (Nat.le_refl _) (show ObjOk X.prog X.w _ h' _ (.lst ((signs z).map V.str)) from ⟨?_, acc.toList, c', vals_of_strs (signs_of hacc), ?_⟩), rfl, q _ (I.hok.fresh (Nat.le_refl _))⟩
  · rw [List.length_map, signs_length]; exact hz
  · rw [Array.toArray_toList]; exact hS
/-- sorted(text) -/
theorem call_sortedStr (hc : X.calm = true) : CallR X (.builtin "sorted") (fun xs H Q => ∃ z : Str, xs = [.str z] ∧ z.cps.size < 64 ∧ ∀ ys p, ys.Perm (signs z) → sortedS ys = true → H p = none → Q (.ref p) (upd H p (.lst (ys.map V.str)))) := by
  intro pins s σ H xs us Q I r h
  obtain ⟨z, rfl, h64, q⟩ := h
  obtain ⟨u, rfl, ru⟩ := vals1 r
  obtain ⟨t, rfl⟩ := ru
  have hz : z.cps.size ≤ sizeLine := by rw [sizeLine_eq]; omega
  refine Calls.call_function_entry PyProof.Rows.kind_sorted PyProof.Rows.plain_sorted PyProof.Rows.entry_sorted (PyProof.Rows.args_sorted1 _) ?_
  unfold Builtin.«sorted»
  refine wpAny_bind (m := checkCount "sorted" 1 1 _) (wpAny_pure (wpAny_bind (wpAny_collect_str (A := X.A.in1) (hn := hz) (I.ok.hd hc) z t fun s1 acc hk hg hd ho hacc => ?_)))
  obtain ⟨hp1, g1, d1, tk1, os1⟩ := s1
  cases hg; cases hd; cases ho
  have hS := signs_of hacc
  have hl : acc.toList.length = z.cps.size := by rw [Array.length_toList, hacc.1]
  have I1 : Inv X pins σ H { s with heap := hp1, toks := tk1 } := I.kept hk
  refine wpAny_bind (wpAny_newList ?_ (by rw [hl]; exact hz))
  have hoL : (hp1.push (seqObj "list" acc.toList.toArray 0)).get? hp1.objs.size = some (seqObj "list" acc.toList.toArray 0) := Heap.get?_push_size _ rfl
  show wpAny _ _ _ _ _ { s with heap := hp1.push (seqObj "list" acc.toList.toArray 0), toks := tk1 }
  refine wpAny_bind (wpAny_holding (wpAny_call_entry PyProof.Rows.slot_list_sort ⟨_, hoL, rfl⟩ PyProof.Rows.entry_list_sort
    (list_sort_treeK strKind_oneLt (s := { s with heap := hp1.push (seqObj "list" acc.toList.toArray 0), toks := tk1 }) hoL hS.keysOf (fun v1 v2 rest e => keyKind_strs (by rw [← e]; exact hS)) (by rw [hl]; exact h64) fun st' hp hs => ⟨_, rfl, ?_⟩)
    (PyProof.Rows.args_list_sort _)))
  obtain ⟨ys, e1, e2, e3⟩ := sorted_out_str hS hp hs
  obtain ⟨ep, he⟩ := PyProof.Rows.sortedHeap_at (vs := acc.toList) (out := (arrOf st').map (·.2)) hoL
  have hlen : (ys.map V.str).length ≤ sizeLine := by rw [List.length_map, e2.length_eq, signs_length]; exact hz
  refine wpAny_pure ⟨_, rfl, .ref hp1.objs.size, _, I1.laid (t' := tk1) (fun b u e => ?_) (Nat.le_refl _)
    (show ObjOk X.prog X.w _ _ _ (.lst (ys.map V.str)) from ⟨hlen, ((arrOf st').map (·.2)).toList, ep, vals_of_strs e1, by rw [Array.toArray_toList]; exact he⟩), rfl, q ys _ e2 e3 (I1.hok.fresh (Nat.le_refl _))⟩
  have hb : b < hp1.objs.size := Heap.lt_size e
  rw [PyProof.Rows.sortedHeap_old (Nat.ne_of_lt hb) (by rw [size_push']; exact Nat.lt_succ_of_lt hb)]
  exact Heap.get?_push_of_some _ e
end
end Pt
end

section
set_option Elab.async false
set_option maxRecDepth 100000
namespace Pt
open PySem PySem.Spec PyProof.Rows L2
/-! ### sorted(list of pairs of an int and a text) that is in order already -/
abbrev keyP (p : Int × Str) : List (Int ⊕ List Nat) := [.inl p.1, .inr p.2.cps.toList]
abbrev shIT : Nat → Bool := fun i => i == 1
theorem pair_key {P : Program} {w : World} {H : Hp} {h : Heap} {a : Addr} {i : Int} {x : Str} (ok : HOk P w H h) (e : H a = some (.tup [.int i, .str x])) : G.tupKeyC h shIT (.ref a) = some (keyP (i, x)) ∧ ∃ f, TupOf h shIT (.ref a) f := by
  obtain ⟨_, its, rv, o, ho, hc, n, hd⟩ := (show ObjOk P w H h a (.tup [.int i, .str x]) from ok a _ e)
  obtain ⟨u1, u2, rfl, ⟨t1, rfl⟩, ⟨t2, rfl⟩⟩ := vals2 rv
  refine ⟨?_, .int i t1, a, o, _, n, rfl, ho, hc, hd, rfl, fun _ => ⟨_, _, rfl⟩, fun z => by simp at z⟩
  unfold G.tupKeyC
  rw [if_pos (by simp [G.isTupObj, ho, hc])]
  simp [tupKey, ho, hd, tupItems, keyP]
section
variable {X : Cx}
theorem tups_all {P : Program} {w : World} {H : Hp} {h : Heap} (ok : HOk P w H h) : ∀ {ps : List Addr} {ks : List (Int × Str)}, Paired (fun p k => H p = some (.tup [.int k.1, .str k.2])) ps ks → ∃ fs, TupsOf h shIT (ps.map Value.ref) fs
  | _, _, .nil => ⟨[], .nil⟩
  | _, _, .cons r t => by
    obtain ⟨_, f, hf⟩ := pair_key ok r
    obtain ⟨fs, hfs⟩ := tups_all ok t
    exact ⟨f :: fs, .cons hf hfs⟩
theorem paired_ref : ∀ (ps : List Addr), Vals (ps.map V.ref) (ps.map Value.ref)
  | [] => .nil
  | _ :: r => .cons rfl (paired_ref r)
theorem paired_at {α β : Type} {R : α → β → Prop} : ∀ {l : List α} {m : List β} {i : Nat} {a : α}, Paired R l m → l[i]? = some a → ∃ b, m[i]? = some b ∧ R a b
  | _, _, _, _, .nil, e => by simp at e
  | _, _, 0, _, .cons r _, e => by simp at e; subst e; exact ⟨_, rfl, r⟩
  | _, _, i + 1, _, .cons _ t, e => by
    obtain ⟨b, h1, h2⟩ := paired_at (i := i) t (by simpa using e)
    exact ⟨b, by simpa using h1, h2⟩
theorem call_sortedPairs : CallR X (.builtin "sorted") (fun xs H Q => ∃ (a : Addr) (ps : List Addr) (ks : List (Int × Str)), xs = [.ref a] ∧ SqL X.K H a (ps.map V.ref) ∧ Paired (fun p k => H p = some (.tup [.int k.1, .str k.2])) ps ks ∧
    (∀ (i j : Nat) (p q : Int × Str), i ≤ j → ks[i]? = some p → ks[j]? = some q → (listOrd itemOrd).blt (keyP q) (keyP p) = false) ∧ ∀ p, H p = none → Q (.ref p) (upd H p (.lst (ps.map V.ref)))) := by
  intro pins s σ H xs us Q I r h
  obtain ⟨a, ps, ks, rfl, hl, hp, hs, q⟩ := h
  obtain ⟨u, rfl, ru⟩ := vals1 r
  obtain rfl : u = Value.ref a := ru
  obtain ⟨its, rv, pl, hz⟩ := I.list hl
  have ei : its = ps.map Value.ref := refs_at rv
  subst ei
  rw [List.length_map] at hz
  have key : ∀ (i : Nat) (v : Value), (ps.map Value.ref)[i]? = some v → ∃ k, ks[i]? = some k ∧ G.tupKeyC s.heap shIT v = some (keyP k) := fun i v e => by
    rw [List.getElem?_map] at e
    cases e1 : ps[i]? with
    | none => rw [e1] at e; cases e
    | some p =>
      rw [e1] at e
      obtain rfl : Value.ref p = v := Option.some.inj e
      obtain ⟨k, hk, ht⟩ := paired_at hp e1
      exact ⟨k, hk, (pair_key I.hok ht).1⟩
  obtain ⟨fs, hf⟩ := tups_all I.hok hp
  refine G.sorted_tups (shape := shIT) pl.isList hf (fun v hv => ?_) (by rw [List.length_map]; exact hz) fun st' e1 e2 e3 => ?_
  · obtain ⟨i, hi⟩ := List.mem_iff_getElem?.mp hv
    obtain ⟨k, _, hk⟩ := key i v hi
    exact ⟨_, hk⟩
  · have hK : KeysOf (G.tupKindC s.heap shIT) (pairsOf (ps.map Value.ref)) := G.tupKeys fun v hv => by
      obtain ⟨i, hi⟩ := List.mem_iff_getElem?.mp hv
      obtain ⟨k, _, hk⟩ := key i v hi
      exact ⟨_, hk⟩
    have kk : ∀ i p, ks[i]? = some p → KK (G.tupKindC s.heap shIT) (pairsOf (ps.map Value.ref)) i = keyP p := fun i p e => by
      have hlen : ps.length = ks.length := Paired.length hp
      have hi : i < ps.length := by rw [hlen]; exact (List.getElem?_eq_some_iff.mp e).1
      have e4 : (ps.map Value.ref)[i]? = some (Value.ref ps[i]) := by simp [hi]
      obtain ⟨k, e5, e6⟩ := key i _ e4
      rw [e] at e5
      cases e5
      have e7 : (pairsOf (ps.map Value.ref))[i]? = some (Value.ref ps[i], Value.ref ps[i]) := by
        rw [← Array.getElem?_toList, pairsOf_toList, List.getElem?_zip_eq_some]
        exact ⟨e4, e4⟩
      unfold KK
      rw [e7]
      show ((G.tupKindC s.heap shIT).keyOf (Value.ref ps[i])).getD _ = _
      rw [show (G.tupKindC s.heap shIT).keyOf (Value.ref ps[i]) = some (keyP p) from e6]
      rfl
    have srt : SortedToK (G.tupKindC s.heap shIT) (pairsOf (ps.map Value.ref)) (pairsOf (ps.map Value.ref)).size := fun i j hij hj => by
      rw [pairsOf_size, List.length_map, Paired.length hp] at hj
      have h1 : ks[j]? = some ks[j] := by simp [hj]
      have h2 : ks[i]? = some (ks[i]'(by omega)) := by simp [show i < ks.length by omega]
      rw [kk i _ h2, kk j _ h1]
      exact hs i j _ _ hij h2 h1
    have same : arrOf st' = pairsOf (ps.map Value.ref) := sorted_stable_unique hK e1 (Array.Perm.refl _) e2 srt e3 fun _ => rfl
    rw [same]
    have out : (pairsOf (ps.map Value.ref)).map (·.2) = (ps.map Value.ref).toArray := by
      apply Array.toList_inj.mp
      rw [Array.toList_map, pairsOf_toList]
      exact List.map_snd_zip (Nat.le_refl _)
    rw [out]
    obtain ⟨ep, he⟩ := PyProof.Rows.sortedAll_at s.heap (ps.map Value.ref) (ps.map Value.ref).toArray
    refine ⟨.ref _, _, I.laid (t' := s.toks) (a := s.heap.objs.size + 1) (fun _ _ => PyProof.Rows.sortedAll_old) (Nat.le_succ _) (show ObjOk X.prog X.w _ _ _ (.lst (ps.map V.ref)) from ⟨by rw [List.length_map]; exact hz, ps.map Value.ref, ep, paired_ref ps, he⟩), rfl, q _ (I.hok.fresh (Nat.le_succ _))⟩
end
end Pt
end

section
set_option Elab.async false
set_option maxRecDepth 100000
set_option maxHeartbeats 2000000
namespace Pt
open PySem PySem.Spec PyProof.Rows L2
/-! ### except clauses, some of them with a name -/
/-- the clauses of a try, and what they wish of an exception of its body -/
inductive Hds (X : Cx) : List ExceptHandler → (WX → Ends → WX) → Prop
  | nil : Hds X [] (fun W _ => W)
  | plain {x : Str} {c : Value} {ts : Addr → Value → Option Addr → TS} {b₀ : Stmt} {suite : List Stmt} {np pos' : Pos} {hds : List ExceptHandler} {w : WX → Ends → WX} (hc : Names X x c)
      (hsu : ∀ (a : Addr) (oe : Obj) (cls : Value) (d : Option Addr) (pn : List (Addr × Obj)), Zc cls d oe → (∃ vs, oe.data = .fields vs) → PSs (X.suite a ((a, oe) :: pn)) (b₀ :: suite) (ts a cls d)) (r : Hds X hds w) :
      Hds X (.ExceptHandler (some (.Name x np)) none (b₀ :: suite) pos' :: hds) (fun W D => wOnly X.K c ts (w W D) D)
  | named {x n : Str} {i : Nat} {c : Value} {ts : Addr → Value → Option Addr → TS} {b₀ : Stmt} {suite : List Stmt} {np pos' : Pos} {hds : List ExceptHandler} {w : WX → Ends → WX} (hN : X.N.Nodup) (hi : X.N[i]? = some n) (hln : X.env.kindOf n = some .local) (hc : Names X x c)
      (hsu : ∀ (a : Addr) (oe : Obj) (cls : Value) (d : Option Addr) (pn : List (Addr × Obj)), Zc cls d oe → (∃ vs, oe.data = .fields vs) → PSs (X.suite a ((a, oe) :: pn)) (b₀ :: suite) (ts a cls d)) (r : Hds X hds w) :
      Hds X (.ExceptHandler (some (.Name x np)) (some n) (b₀ :: suite) pos' :: hds) (fun W D => wAs X.K c i ts (w W D) D)
section
variable {X : Cx} {body : List Stmt} {h₀ : ExceptHandler} {hds : List ExceptHandler} {w : WX → Ends → WX} {pos : Pos} {tb : WX → TS} {Wout : WX}
theorem ps_tryH (hs : X.stack = X.env :: X.outer) (hf : X.env.frame = some X.env.locals) (tk : Takes X Wout)
    (hb : ∀ (W : WX) (pn : List (Addr × Obj)) (xe : Value → Shared → Prop), Takes (X.tr pn xe) W → PassesOwn (model X.prog X.w) X.A X.env xe → PSs (X.tr pn xe) body (tb W))
    (hh : Hds X (h₀ :: hds) w) : PS X (.Try body (h₀ :: hds) [] [] pos) (fun D σ H => tb (w Wout D) D σ H) := by
  refine ⟨fun pins s σ H D I h => ?_⟩
  have ok := I.ok
  have hfr : X.A.frames = some (X.env :: X.outer) := by rw [ok.frames, hs]
  refine wpAny_Try_except (wpAny_mono ((hb (w Wout D) (X.pn ++ pins) (fun e s₁ => wpAny (model X.prog X.w) X.A (noteFrame e X.env) (fun _ s₂ => wpAny (model X.prog X.w) X.A (setFlight e none) (fun _ s₃ =>
    wpAny (model X.prog X.w) X.A (handleBy e X.env (h₀ :: hds)) (SP X pins D) X.xe s₃) X.xe s₂) X.xe s₁) (fun u s' xx => ?_) PassesOwn.looking).run [] s σ H D (I.toTry _) h) (fun f s1 hsp => ?_) (fun e s1 he => he))
  · obtain ⟨a, B, sI, pins', σ', H', cls, d, rfl, J', nb, up, sky, na, os, ag, ww⟩ := xx
    have J : Inv X pins σ' H' sI := J'.ofTry ok
    have sky' : Sky B (X.env :: X.outer) a (Zc cls d) X.env.locals s'.heap := by rw [← hs]; exact sky
    show wpAny (model X.prog X.w) X.A (noteFrame (.ref a) X.env) _ _ _
    refine Sky.land Zc.steady hfr hf sky' fun h3 fl3 up3 => ?_
    have J3 : Inv X pins σ' H' { s' with heap := h3 } := J.landed nb fl3.1 (up.trans up3) os ag
    obtain ⟨oe3, vs3, he3, hz3, hd3⟩ := fl3.there
    have nfr : a ∉ frs (X.env :: X.outer) := fun hm => by
      obtain ⟨_, o', e', hnf⟩ := fl3.2.2.1.mem hm
      rw [he3] at e'; cases e'
      exact hnf _ hd3
    have nL : a ≠ X.env.locals := fun z => nfr (List.mem_filterMap.mpr ⟨X.env, List.mem_cons_self, by rw [hf, z]⟩)
    have nF : a ∉ X.fs := fun hm => by
      obtain ⟨e, he, q⟩ := List.mem_filterMap.mp hm
      exact nfr (List.mem_filterMap.mpr ⟨e, List.mem_cons_of_mem _ he, q⟩)
    have S3 := J3.suite he3 hd3 na nL nF
    have LT : PySem.W.Looks (model X.prog X.w) h3 (typeOf (.ref a)) cls := fun A Q E s k q => wpAny_typeOf_ref (k _ _ he3) (by rw [hz3.1]; exact q)
    have test : ∀ {x : Str} {c : Value} {np : Pos} {Q : Value → Shared → Prop} {E : Value → Shared → Prop}, Names X x c → Q c { s' with heap := h3 } → wpAny (model X.prog X.w) (X.A.mark (some (.ref a))) (eval (.Name x np) X.env) Q E { s' with heap := h3 } := fun {x c np Q E} hc q => by
      obtain ⟨hg, hdbg, hm | ⟨hm, hv, hnn⟩⟩ := hc
      · exact ld_glob (X := X.suite a ((a, oe3) :: (X.pn ++ pins))) S3 hg hm q hdbg
      · exact ld_blt (X := X.suite a ((a, oe3) :: (X.pn ++ pins))) S3 hg hm hv q hnn hdbg
    have go : ∀ {hds' : List ExceptHandler} {w' : WX → Ends → WX}, Hds X hds' w' → w' Wout D cls d σ' H' →
        wpAny (model X.prog X.w) X.A (handleBy (.ref a) X.env hds') (SP X pins D) X.xe { s' with heap := h3 } := by
      intro hds' w' hk
      induction hk with
      | nil =>
        intro q
        refine wpAny_handleBy_nil ?_
        obtain ⟨k1, k2, k3, oe, vs, T, oT, ts', he, hz, hd, h1, hr⟩ := id fl3
        unfold PySem.passOn
        refine wpAny_bind (wpAny_field he hd h1 ?_)
        rw [if_neg (show ¬ ((Value.ref T == Value.none) = true) from by simp)]
        have fin : wpAny (model X.prog X.w) X.A (setFlight (.ref a) X.env.frame) (fun _ s4 => wpAny (model X.prog X.w) X.A (throw (.ref a) : Sem Flow) (SP X pins D) X.xe s4) X.xe { s' with heap := h3 } := by
          rw [hf]
          refine HandSPX.setFlight_upZ fl3 fun h4 hh4 up4 => wpAny_throw (tk _ _ ?_)
          exact ⟨a, B, sI, pins, σ', H', cls, d, rfl, J, nb, (up.trans up3).trans up4, .inr (.inr (by rw [hs]; exact hh4)), na, os, ag, q⟩
        first
          | exact wpAny_bind (wpAny_pure (wpAny_bind fin))
          | exact wpAny_bind fin
      | plain hc hsu r ih =>
        intro q
        obtain ⟨b, hb1, hyes, hno⟩ := q
        refine wpAny_handleBy_cons (codeAny_handlers_test ?_) (by intro q; cases q)
        refine test hc ((PySem.W.exm_one (M := model X.prog X.w) (J3.kIn) LT hb1).here ?_)
        cases b with
        | false => exact ih (hno rfl)
        | true =>
          refine codeAny_handlers_suite ?_
          refine HandSPX.lands_againZ fl3 fun h4 fl4 up4 => ?_
          have J4 : Inv X pins σ' H' { s' with heap := h4 } := J.landed nb fl4.1 ((up.trans up3).trans up4) os ag
          obtain ⟨oe4, vs4, he4, hz4, hd4⟩ := fl4.there
          have S4 := J4.suite he4 hd4 na nL nF
          refine wpAny_mono ((hsu a oe4 cls d (X.pn ++ pins) hz4 ⟨_, hd4⟩).run [] _ _ H' _ S4 (hyes rfl a na)) (fun f s6 hsp => ?_) (fun _ _ z => False.elim z)
          cases f with
          | next =>
            obtain ⟨σ6, H6, S6, q6⟩ := hsp
            exact ⟨_, _, S6.unsuite ok, q6⟩
          | brk =>
            obtain ⟨σ6, H6, S6, q6⟩ := hsp
            exact ⟨_, _, S6.unsuite ok, q6⟩
          | cont =>
            obtain ⟨σ6, H6, S6, q6⟩ := hsp
            exact ⟨_, _, S6.unsuite ok, q6⟩
          | ret u =>
            obtain ⟨v6, σ6, H6, S6, r6, q6⟩ := hsp
            exact ⟨_, _, _, S6.unsuite ok, r6, q6⟩
      | @named x n i c ts b₀ suite np pos' hds2 w2 hN hi hln hc hsu r ih =>
        intro q
        obtain ⟨b, hb1, hyes, hno⟩ := q
        refine wpAny_handleBy_cons (codeAny_handlers_test ?_) (by intro q; cases q)
        refine test hc ((PySem.W.exm_one (M := model X.prog X.w) (J3.kIn) LT hb1).here ?_)
        cases b with
        | false => exact ih (hno rfl)
        | true =>
          refine codeAny_handlers_suite_as ?_
          refine HandSPX.lands_againZ fl3 fun h4 fl4 up4 => ?_
          have J4 : Inv X pins σ' H' { s' with heap := h4 } := J.landed nb fl4.1 ((up.trans up3).trans up4) os ag
          obtain ⟨oe4, vs4, he4, hz4, hd4⟩ := fl4.there
          have S4 := J4.suite he4 hd4 na nL nF
          refine store_ok (X := X.suite a ((a, oe4) :: (X.pn ++ pins))) (v := .ref a) S4 hN hi (.inl hln) rfl (fun s5 S5 => ?_) (.inr hln)
          refine wpAny_mono ((hsu a oe4 cls d (X.pn ++ pins) hz4 ⟨_, hd4⟩).run [] s5 _ H' _ S5 (hyes rfl a na)) (fun f s6 hsp => ?_) (fun _ _ z => False.elim z)
          have end_ : ∀ {σ6 : L2.St} {H6 : Hp} {Q : Shared → Prop}, Inv (X.suite a ((a, oe4) :: (X.pn ++ pins))) [] σ6 H6 s6 → (∀ s7, Inv X pins (σ6.set i none) H6 s7 → Q s7) →
              wpAny (model X.prog X.w) X.A (do bindName X.env n .none; unbindBehindTheSuite X.env n pos') (fun _ s7 => Q s7) X.xe s6 := fun {σ6 H6 Q} S6 hq => gone_ok (S6.unsuite ok) hN hi hln hq
          cases f with
          | next =>
            obtain ⟨σ6, H6, S6, q6⟩ := hsp
            exact end_ S6 fun s7 J7 => ⟨_, _, J7, q6⟩
          | brk =>
            obtain ⟨σ6, H6, S6, q6⟩ := hsp
            exact end_ S6 fun s7 J7 => ⟨_, _, J7, q6⟩
          | cont =>
            obtain ⟨σ6, H6, S6, q6⟩ := hsp
            exact end_ S6 fun s7 J7 => ⟨_, _, J7, q6⟩
          | ret u =>
            obtain ⟨v6, σ6, H6, S6, r6, q6⟩ := hsp
            exact end_ S6 fun s7 J7 => ⟨_, _, _, J7, r6, q6⟩
    exact go hh ww
  · cases f with
    | next =>
      obtain ⟨σ', H', J', q⟩ := hsp
      exact wpAny_execs_nil ⟨σ', H', J'.ofTry ok, q⟩
    | brk =>
      obtain ⟨σ', H', J', q⟩ := hsp
      exact ⟨σ', H', J'.ofTry ok, q⟩
    | cont =>
      obtain ⟨σ', H', J', q⟩ := hsp
      exact ⟨σ', H', J'.ofTry ok, q⟩
    | ret u =>
      obtain ⟨v, σ', H', J', r, q⟩ := hsp
      exact ⟨v, σ', H', J'.ofTry ok, r, q⟩
end
end Pt
end

section
set_option Elab.async false
set_option maxRecDepth 100000
set_option maxHeartbeats 2000000
namespace Pt
open PySem PySem.Spec PyProof.Rows L2
/-! ### defs that raise nothing, called whether or not something is being handled -/
theorem ok_quiet {X : Cx} (ok : X.Ok) {A' : Around} (hfr : A'.frames = some X.stack) : ({ X with A := A', calm := false, xe := fun _ _ => False } : Cx).Ok :=
  ⟨ok.mod, ok.kind, ok.glob, ok.blt, ok.above, ok.inj, ok.has, ok.cab, (fun z => absurd (show false = true from z) Bool.false_ne_true), hfr, ok.stk, ok.exf, ok.bs, ok.bsz, ok.noex, ok.exfs, ok.funs, ok.frf⟩
theorem inv_quiet {X : Cx} {pins : List (Addr × Obj)} {σ : L2.St} {H : Hp} {s : Shared} (I : Inv X pins σ H s) {A' : Around} (hfr : A'.frames = some X.stack) : Inv { X with A := A', calm := false, xe := fun _ _ => False } pins σ H s :=
  ⟨ok_quiet I.ok hfr, I.os, I.bare, I.base, I.loc, I.cell, I.free, I.freeC, I.pin, I.hok, I.len⟩
/-- the context of such a def's body -/
def cxQ (P : Program) (w : World) (K : PySem.W.Frag) (mg : Str → Option Value) (base : Heap) (N : List Str) (qual : Str) (scope : Scope) (f : Addr) (cd : Value) (A : Around) (outer : List Env) (s : Shared) (H : Hp) : Cx :=
  { cxOf CX0 P w K mg base N qual scope f cd A outer s H E0 with calm := false, xe := fun _ _ => False }
abbrev SpQ := List V → Hp → VK → Prop
structure FnQ (P : Program) (w : World) (K : PySem.W.Frag) (mg : Str → Option Value) (base : Heap) (k : Nat) (f : Addr) (ps : List Str) (sp : SpQ) : Prop where
  len : ∀ vs H Q, sp vs H Q → vs.length = ps.length
  run : ∀ (A : Around) (outer : List Env) (s : Shared) (H : Hp) (us : List Value) (vs : List V) (Q : VK), L2H.RoomH k A → Env0 P w K mg base A outer s H → Vals vs us → sp vs H Q →
    codeAny (model P w) A (.call (.ref f) ⟨us, []⟩) (fun r s' => match r with | .ok (.ret u) => CE outer P w H s Q u s' | _ => False) s
theorem fnq_of {P : Program} {w : World} {K : PySem.W.Frag} {mg : Str → Option Value} {base : Heap} {x qual : Str} {st : Stmt} {f : Addr} {fd : FuncData} {N ps : List Str} {k : Nat} {sp : SpQ} (F : Fun K x qual st f fd) (S : FnScope N ps (defScope st)) (hb : Binds K fd ps [])
    (len : ∀ vs H Q, sp vs H Q → vs.length = ps.length)
    (hbody : ∀ (cdv : Value) (A : Around) (outer : List Env) (s : Shared) (H : Hp) (vs : List V) (Q : VK), L2H.RoomH k (A.deeper (envOfC qual (defScope st) s.heap.objs.size f cdv)) → sp vs H Q →
      ∃ t, PSs (cxQ P w K mg base N qual (defScope st) f cdv A outer s H) (defBody st) t ∧ t { nx := fun _ H' => Q .non H', rt := Q } (start N vs) H) : FnQ P w K mg base (k + 1) f ps sp := by
  obtain ⟨oc, od, kV, doc, pm, an, cdv, ct, osl, rfl, lk, hcd⟩ := F.ex
  refine ⟨len, fun A outer s H us vs Q hr e0 r hsp => ?_⟩
  have hl := len _ _ _ hsp
  have KX : K.In s.heap := e0.mod.kin.keeps fun b o e => (e0.bs b o e).1
  have lim : s.heap.NoLimit := e0.mod.nolimit.keeps fun b o e => (e0.bs b o e).1
  have hkind : ∀ y ∈ ps.zip us, (defScope st).names.lookup y.1 = some .local ∨ ((defScope st).names.lookup y.1 = some .cell ∧ ((cellsFrom (s.heap.objs.size + 1) (defScope st).names []).lookup y.1).isSome = true) := fun ⟨n, v⟩ hy => by
    rcases S.par n (List.of_mem_zip hy).1 with q | q
    · exact .inl q
    · exact .inr ⟨q, PySem.W.cellsFrom_some _ _ _ (.inl q)⟩
  have b := hb s us KX (by rw [List.append_nil, ← r.length]; exact hl)
  rw [List.append_nil] at b
  refine codeAny_call_function hr.depth (KX _ _ lk) rfl S.co S.gen rfl (PySem.W.codeRec_of KX hcd) (b _ _ _ _ ?_)
  refine wpAny_newFunctionEnv_cells S.kind hkind fun env he s1 x => ?_
  subst he
  refine ⟨lim.keeps x.toInCall.keep, codeAny_func ?_⟩
  obtain ⟨t, ht, hq⟩ := hbody cdv A outer s H vs Q (hr.deeper _) hsp
  obtain ⟨B, hB, hBf⟩ : ∃ B : Around, B.handled = none ∧ B.frames = some outer := ⟨{ A with handled := none }, rfl, e0.frames⟩
  have e2 : Env0 P w K mg base B outer s H := ⟨hBf, e0.mod, e0.bs, e0.bsz, e0.funs, e0.frf, e0.hok, e0.bare⟩
  have I : Inv (cxQ P w K mg base N qual (defScope st) f cdv A outer s H) [] (start N vs) H s1 :=
    inv_quiet (inv_start (CX := CX0) (E := E0) (cd := cdv) S hB e2 hl r x) (A' := A.deeper (envOfC qual (defScope st) s.heap.objs.size f cdv)) (Around.frames_deeper e0.frames)
  refine wpAny_mono (ht.run [] s1 (start N vs) H _ I hq) (fun fl s' hs => ?_) fun e s' hs => False.elim hs
  have fin : ∀ {σ' : L2.St} {H' : Hp} {v : V} {u : Value}, Inv (cxQ P w K mg base N qual (defScope st) f cdv A outer s H) [] σ' H' s' → L2.RelV v u → Q v H' → CE outer P w H s Q u s' :=
    fun {σ' H' v u} J rv q => ⟨v, H', J.os, J.bare, J.base, J.hok, rv, q⟩
  cases fl with
  | ret u =>
    obtain ⟨v, σ', H', J, rv, q⟩ := hs
    exact fin J rv q
  | next =>
    obtain ⟨σ', H', J, q⟩ := hs
    exact fin (v := V.non) (u := Value.none) J rfl q
  | brk =>
    obtain ⟨_, _, _, q⟩ := hs
    exact False.elim q
  | cont =>
    obtain ⟨_, _, _, q⟩ := hs
    exact False.elim q

section
variable {X : Cx} {pins : List (Addr × Obj)} {σ : L2.St} {H : Hp} {s : Shared} {k : Nat} {f : Addr} {ps : List Str} {sp : SpQ} {us : List Value} {vs : List V} {Q : VK} {E : Value → Shared → Prop}
theorem run_fnq (F : FnQ X.prog X.w X.K X.mg X.base k f ps sp) (hr : L2H.RoomH k X.A) (I : Inv X pins σ H s) (r : Vals vs us) (h : sp vs H Q) : wpAny (model X.prog X.w) X.A (call (.ref f) us) (EP X pins σ Q) E s := by
  refine wpAny_call (codeAny_mono (F.run X.A X.stack s H us vs Q hr I.env0 r h) fun r s' hq => ?_)
  cases r with
  | error e => exact False.elim hq
  | ok fl =>
    cases fl with
    | ret u => exact I.after hq
    | next => exact False.elim hq
    | brk => exact False.elim hq
    | cont => exact False.elim hq
/-- .. while e is handled -/
theorem run_fnqM {e : Addr} (F : FnQ X.prog X.w X.K X.mg X.base k f ps sp) (hr : L2H.RoomH k X.A) (I : Inv X pins σ H s) (r : Vals vs us) (h : sp vs H Q) :
    wpAny (model X.prog X.w) X.A (run (.call (.ref f) ⟨us, []⟩) (some (.ref e))) (fun fl s' => ∃ u, fl = .ret u ∧ EP X pins σ Q u s') E s := by
  refine wpAny_run (codeAny_mono (F.run (X.A.mark (some (.ref e))) X.stack s H us vs Q ⟨hr.dp, hr.un⟩ ⟨I.env0.frames, I.env0.mod, I.env0.bs, I.env0.bsz, I.env0.funs, I.env0.frf, I.env0.hok, I.env0.bare⟩ r h) fun r s' hq => ?_) (by intro z; exact ref_ne_byPass e (Option.some.inj z))
  cases r with
  | error e => exact False.elim hq
  | ok fl =>
    cases fl with
    | ret u => exact ⟨u, rfl, I.after hq⟩
    | next => exact False.elim hq
    | brk => exact False.elim hq
    | cont => exact False.elim hq
end

theorem tb_ok {M : Model} {A : Around} {E : Value → Shared → Prop} {s : Shared} {e T : Addr} {oe oT : Obj} {vs ts : Array Value} {Q : Value → Shared → Prop} (he : s.heap.get? e = some oe) (hd : oe.data = .fields vs) (h1 : vs[1]? = some (.ref T))
    (hT : s.heap.get? T = some oT) (hdT : oT.data = .fields ts) (hts : 1 < ts.size) (h : ∀ v t, L2.RelV t v → Q v s) : wpAny M A (tracebackOf (.ref e)) Q E s := by
  unfold tracebackOf
  refine wpAny_bind (wpAny_field he hd h1 ?_)
  refine wpAny_bind (wpAny_field (x := ts[1]) hT hdT (by simp [hts]) ?_)
  split
  · exact wpAny_pure (h .none .non rfl)
  · exact wpAny_pure (h (.ref T) (.ref T) rfl)
/-! ### with x as y: body, x of an own class -/
/-- what is wished of an exception of the body: the exit runs, then it goes on -/
def wWith (spX : SpQ) (a : Addr) (Wout : WX) : WX := fun cls d σ H => ∃ C' : Addr, cls = .ref C' ∧ ∀ (e : Addr) (t : V), H e = none → spX [.ref a, .ref C', .ref e, t] H fun r H' => r = .non ∧ Wout cls d σ H'
def tWith (C : Addr) (i : Nat) (spE : Sp) (spX : SpQ) (te : TE) (tb : WX → TS) (Wout : WX) : TS := fun D σ H => te σ H fun x H1 => ∃ a dx fs, x = .ref a ∧ H1 a = some (.ins C dx fs) ∧
  spE [.ref a] H1 (fun v H2 => tb (wWith spX a Wout) { nx := fun σ' H' => spX [.ref a, .non, .non, .non] H' fun _ H'' => D.nx σ' H'', rt := fun v H' => spX [.ref a, .non, .non, .non] H' fun _ H'' => D.rt v H'' } (σ.set i (some v)) H2) E0
section
variable {X : Cx} {ctx : Expr} {y : Str} {py pos : Pos} {body : List Stmt} {te : TE} {tb : WX → TS} {Wout : WX} {C fe fx : Addr} {fdE : FuncData} {spE : Sp} {spX : SpQ} {k i : Nat}
theorem ps_with (hs : X.stack = X.env :: X.outer) (hf : X.env.frame = some X.env.locals) (hex : X.ex = []) (tk : Takes X Wout) (hr : Room k X.A) (hN : X.N.Nodup) (hi : X.N[i]? = some y) (hl : Loc X.env.scope y)
    (mE : Meth X.K C "__enter__" fe) (FE : FnOk X.prog X.w X.K X.mg X.base CX0 k fe fdE ["self"] spE) (bE : Binds X.K fdE ["self"] []) (mX : Meth X.K C "__exit__" fx) (FX : FnQ X.prog X.w X.K X.mg X.base k fx ["self", "kind", "error", "trace"] spX)
    (he : PE X.nox ctx te)
    (hb : ∀ (W : WX) (pn : List (Addr × Obj)) (xe : Value → Shared → Prop), Takes (X.tr pn xe) W → PSs (X.tr pn xe) body (tb W))
    (hfn : X.fn y = true ∨ X.env.scope.names.lookup y = some .local := by first | exact .inl rfl | exact .inr rfl) :
    PS X (.With [⟨ctx, some (.Name y py)⟩] body pos) (tWith C i spE spX te tb Wout) := by
  refine ⟨fun pins s σ H D I h => ?_⟩
  have ok := I.ok
  have hfr : X.A.frames = some (X.env :: X.outer) := by rw [ok.frames, hs]
  refine PySem.W.kw_execN (wpAny_mono (he.run pins s σ H _ (I.wish _) h) (fun u s1 hu => ?_) fun _ _ z => z.elim)
  obtain ⟨x, H1, I1', rx, a, dx, fs, ex, ea, hE⟩ := hu
  subst ex
  obtain rfl : u = Value.ref a := rx
  have I1 := I1'.unwish
  obtain ⟨mA, O, _, _, _, _⟩ := ins_get I1.hok ea
  obtain ⟨od, J, _⟩ := O.look
  have sp1 : ∀ {m : Str} {f : Addr}, Meth X.K C m f → ∃ cd, PySem.W.Looks (model X.prog X.w) s1.heap (specialOnItsLine (.ref a) m) (some (.ref f), cd) ∧ PySem.W.Looks (model X.prog X.w) s1.heap (bindSpecial (.ref f) (.ref a)) (.ref f, [.ref a]) := fun {m f} mm => by
    obtain ⟨cd, hcd, al⟩ := PySem.W.kw_along mm.at_
    exact ⟨cd.mro, PySem.W.kw_special I1.kIn J hcd al, PySem.W.bind_fn I1.kIn _ (beq_iff_eq.mp mm.fn)⟩
  obtain ⟨c1, L1, L3⟩ := sp1 mE
  obtain ⟨c2, L2', L4⟩ := sp1 mX
  have L5 : PySem.W.Looks (model X.prog X.w) s1.heap (aMethodOfAnotherBuiltinTypeStops (.ref fe) c1) () := PySem.W.Looks.of_pure rfl
  have L6 : PySem.W.Looks (model X.prog X.w) s1.heap (aMethodOfAnotherBuiltinTypeStops (.ref fx) c2) () := PySem.W.Looks.of_pure rfl
  unfold PySem.W.KwIn withItem
  refine wpAny_bind (wpAny_pure (wpAny_bind (wpAny_standAt ?_)))
  simp only [Bool.false_eq_true, if_false]
  refine wpAny_bind (wpAny_holding ?_)
  refine wpAny_bind (L1.here ?_)
  refine wpAny_bind (L5.here ?_)
  refine wpAny_bind (L3.here ?_)
  refine wpAny_holding (wpAny_bind (L2'.here ?_))
  refine wpAny_bind (L6.here ?_)
  refine wpAny_bind (L4.here ?_)
  refine wpAny_pure (wpAny_holding (wpAny_bind ?_))
  refine wpAny_mono (run_fn (us := [.ref a]) (vs := [.ref a]) FE hr bE .nil pass0 I1 (.cons rfl .nil) hE) (fun u2 s2 h2 => ?_) fun _ _ z => z
  obtain ⟨v, H2, I2, r2, q2⟩ := h2
  refine wpAny_bind (wpAny_pure (wpAny_bind (wpAny_attempt ?_)))
  show wpAny _ _ (holdingForTheStatement [.ref fx, .ref a] (do assign (Expr.Name y py) X.env u2; execs body X.env)) _ _ s2
  refine PySem.W.kw_held (wpAny_bind (wpAny_assign_Name (store_ok I2 hN hi hl r2 (fun s3 I3 => ?_) hfn)))
  refine wpAny_mono ((hb (wWith spX a Wout) (X.pn ++ pins) _ ?tk).run [] s3 _ H2 _ (I3.toTry _) q2) (fun f s4 hsp => ?_) (fun e s' he => he)
  case tk =>
    intro u s' xx
    obtain ⟨e, B, sI, pins', σ', H', cls, d, rfl, J', nb, up, sky, na, os, ag, C', rfl, hw⟩ := xx
    have J : Inv X pins σ' H' sI := J'.ofTry ok
    have sky' : Sky B (X.env :: X.outer) e (Zc (.ref C') d) X.env.locals s'.heap := by rw [← hs]; exact sky
    show wpAny (model X.prog X.w) X.A _ _ _ s'
    refine wpAny_bind (wpAny_mono (Sky.land Zc.steady hfr hf sky' fun h3 fl3 up3 => ?_) (fun _ s5 h5 => wpAny_bind h5) fun _ _ z => z)
    have J3 : Inv X pins σ' H' { s' with heap := h3 } := J.landed nb fl3.1 (up.trans up3) os ag
    obtain ⟨k1, k2, k3, oe, vs, T, oT, ts, he3, hz, hd, hv1, hnT, hTe, hT, hdT, ht3⟩ := id fl3
    have hts : 3 < ts.size := (Array.getElem?_eq_some_iff.mp ht3).1
    have nT : H' T = none := (J.inGround nb).gone hnT
    have notFr : ∀ (b : Addr) (o : Obj) (fv : Array Value), h3.get? b = some o → o.data = .fields fv → b ∉ frs (X.env :: X.outer) := fun b o fv e dd hm => by
      obtain ⟨_, o', e', hnf⟩ := k3.mem hm
      have eo : o = o' := Option.some.inj (e.symm.trans e')
      rw [← eo] at hnf
      exact hnf _ dd
    have locF : X.env.locals ∈ frs (X.env :: X.outer) := List.mem_filterMap.mpr ⟨X.env, List.mem_cons_self, hf⟩
    have fsF : ∀ b, b ∈ X.fs → b ∈ frs (X.env :: X.outer) := fun b hm => by
      obtain ⟨e, he, q⟩ := List.mem_filterMap.mp hm
      exact List.mem_filterMap.mpr ⟨e, List.mem_cons_of_mem _ he, q⟩
    have fa := notFr e oe vs he3 hd
    have fT := notFr T oT ts hT hdT
    have J3p : Inv X ((e, oe) :: (T, oT) :: pins) σ' H' { s' with heap := h3 } := J3.pins_of fun p hp => by
      rcases List.mem_cons.mp hp with rfl | hp
      · exact ⟨he3, na, fun z2 => fa (by rw [show e = X.env.locals from z2]; exact locF), fun z2 => fa (fsF _ z2), fun v z2 => by
          have z3 : oe.data = .cell v := z2
          rw [hd] at z3
          cases z3⟩
      · rcases List.mem_cons.mp hp with rfl | hp
        · exact ⟨hT, nT, fun z2 => fT (by rw [show T = X.env.locals from z2]; exact locF), fun z2 => fT (fsF _ z2), fun v z2 => by
            have z3 : oT.data = .cell v := z2
            rw [hdT] at z3
            cases z3⟩
        · exact J3.pin p (List.mem_append_right _ hp)
    refine wpAny_bind (wpAny_standAt (wpAny_holding (wpAny_bind (wpAny_typeOf_ref he3 (wpAny_bind (tb_ok he3 hd hv1 hT hdT (by omega) fun tv t rt => ?_))))))
    rw [hz.1]
    refine wpAny_bind ?_
    unfold withItem.marked
    refine wpAny_bind (wpAny_mono (run_fnqM (us := [.ref a, .ref C', .ref e, tv]) (vs := [.ref a, .ref C', .ref e, t]) FX (L2H.roomH_of hr) J3p (.cons rfl (.cons rfl (.cons rfl (.cons rt .nil)))) (hw e t na)) (fun fl s6 hfl => ?_) fun _ _ z => z)
    obtain ⟨u6, rfl, v6, H6, J6, r6, rfl, q6⟩ := hfl
    obtain rfl : u6 = Value.none := r6
    refine wpAny_pure (wpAny_bind (wpAny_pure ?_))
    show wpAny (model X.prog X.w) X.A (PySem.passOn "with" (.ref e) X.env) (SP X pins D) X.xe s6
    have pa := J6.pin (e, oe) (List.mem_append_right _ List.mem_cons_self)
    have pT := J6.pin (T, oT) (List.mem_append_right _ (List.mem_cons_of_mem _ List.mem_cons_self))
    have ga : s6.heap.get? e = some oe := pa.1
    have gT : s6.heap.get? T = some oT := pT.1
    have na6 : H6 e = none := pa.2.1
    have nT6 : H6 T = none := pT.2.1
    have J6b : Inv X pins σ' H6 s6 := J6.pins_of fun p hp => J6.pin p (List.mem_append_right _ (List.mem_cons_of_mem _ (List.mem_cons_of_mem _ hp)))
    have far : ∀ b o, sI.heap.get? b = some o → b ≠ e ∧ b ≠ T := fun b o q0 => by
      by_cases hb : b ∈ frs X.stack
      · rw [hs] at hb
        exact ⟨fun z => fa (by rw [← z]; exact hb), fun z => fT (by rw [← z]; exact hb)⟩
      · have q := nb b o q0 hb
        exact ⟨fun z => by
          rw [z, k2] at q
          exact (nomatch q), fun z => by
          rw [z, hnT] at q
          cases q⟩
    have far0 : ∀ b o, X.s_0.heap.get? b = some o → b ≠ e ∧ b ≠ T := fun b o q0 => by
      obtain ⟨o', q⟩ := J.base.there b o q0 (by rw [hex]; simp)
      exact far b o' q
    have farP : ∀ p ∈ X.pn ++ pins, p.1 ≠ e ∧ p.1 ≠ T := fun p hp => far p.1 p.2 (J.pin p hp).1
    obtain ⟨G, g1, g2⟩ := restrict s6.heap fun b => !(decide (b = e) || decide (b = T))
    have gIn : ∀ b o, G.get? b = some o → s6.heap.get? b = some o ∧ b ≠ e ∧ b ≠ T := fun b o q0 => by
      cases q : (!(decide (b = e) || decide (b = T))) with
      | false =>
        rw [g2 b q] at q0
        cases q0
      | true =>
        rw [g1 b q] at q0
        simp only [Bool.not_eq_true', Bool.or_eq_false_iff, decide_eq_false_iff_not] at q
        exact ⟨q0, q.1, q.2⟩
    have gOf : ∀ b o, b ≠ e → b ≠ T → s6.heap.get? b = some o → G.get? b = some o := fun b o h1 h2 q0 => by
      rw [g1 b (by simp [h1, h2])]
      exact q0
    have I6 : Inv X pins σ' H6 { s6 with heap := G } := J6b.less (fun b o q => (gIn b o q).1) gOf ⟨oe, vs, ga, hd⟩ ⟨oT, ts, gT, hdT⟩ na6 nT6 far0 farP
    have B6in : ∀ b o, (PySem.W.hideAll G (frs X.stack)).get? b = some o → s6.heap.get? b = some o := fun b o q => (gIn b o (PySem.W.of_hideAll _ q)).1
    have Bno : ∀ b, (b = e ∨ b = T) → (PySem.W.hideAll G (frs X.stack)).get? b = none := fun b hb => by
      cases q : (PySem.W.hideAll G (frs X.stack)).get? b with
      | none => rfl
      | some o =>
        obtain ⟨_, n1, n2⟩ := gIn b o (PySem.W.of_hideAll _ q)
        rcases hb with z | z
        · exact absurd z n1
        · exact absurd z n2
    have fl6 : HandSPX.FlyingZ (PySem.W.hideAll G (frs X.stack)) (X.env :: X.outer) e (Zc (.ref C') d) s6.heap := by
      refine ⟨B6in, Bno e (.inl rfl), ?_, oe, vs, T, oT, ts, ga, hz, hd, hv1, Bno T (.inr rfl), hTe, gT, hdT, ht3⟩
      have ff := funFrames_none (B := PySem.W.hideAll G (frs X.stack)) J6b.stack fun b hb => PySem.W.hideAll_none _ hb
      rw [← hs]
      exact ff
    unfold PySem.passOn
    refine wpAny_bind (wpAny_field ga hd hv1 ?_)
    rw [if_neg (show ¬ ((Value.ref T == Value.none) = true) from by simp)]
    have goOn : wpAny (model X.prog X.w) X.A (setFlight (.ref e) X.env.frame) (fun _ s7 => wpAny (model X.prog X.w) X.A (throw (.ref e) : Sem Flow) (SP X pins D) X.xe s7) X.xe s6 := by
      rw [hf]
      refine HandSPX.setFlight_upZ fl6 fun h7 hh7 up7 => wpAny_throw (tk _ _ ?_)
      refine ⟨e, PySem.W.hideAll G (frs X.stack), { s6 with heap := G }, pins, σ', H6, .ref C', d, rfl, I6, fun b o q hb => PySem.W.hideAll_get _ q hb, ?_, .inr (.inr (by rw [← hs] at hh7; exact hh7)), na6, rfl, J6b.bare, q6⟩
      exact Heap.UpToSlots.trans (Heap.UpToSlots.of_keeps fun b o q => (gIn b o q).1) up7
    first
      | exact wpAny_bind (wpAny_pure (wpAny_bind goOn))
      | exact wpAny_bind goOn
  have hrH := L2H.roomH_of hr
  have va : Vals [.ref a, .non, .non, .non] [.ref a, .none, .none, .none] := .cons rfl (.cons rfl (.cons rfl (.cons rfl .nil)))
  cases f with
  | next =>
    obtain ⟨σ4, H4, J4, q4⟩ := hsp
    exact wpAny_bind (wpAny_standAt (wpAny_bind (wpAny_holding (thn (run_fnq FX hrH (J4.ofTry ok) va q4) fun _ s5 ⟨_, H5, J5, _, q5⟩ => wpAny_bind (wpAny_pure (wpAny_pure ⟨σ4, H5, J5, q5⟩))))))
  | ret u =>
    obtain ⟨v4, σ4, H4, J4, r4, q4⟩ := hsp
    exact wpAny_bind (wpAny_standAt (wpAny_bind (wpAny_holding (thn (run_fnq FX hrH (J4.ofTry ok) va q4) fun _ s5 ⟨_, H5, J5, _, q5⟩ => wpAny_bind (wpAny_pure (wpAny_pure ⟨v4, σ4, H5, J5, r4, q5⟩))))))
  | brk =>
    obtain ⟨_, _, _, z⟩ := hsp
    exact False.elim z
  | cont =>
    obtain ⟨_, _, _, z⟩ := hsp
    exact False.elim z
end
end Pt
end

section
set_option Elab.async false
set_option maxRecDepth 100000
set_option maxHeartbeats 2000000
namespace Pt
open PySem PySem.Spec PyProof.Rows L2
open PySem.W (CodeHd tabObj kla_obj kla_fn)
/-! ### lambdas: their code objects, the tables of those -/
/-- the code object c of the name q, its own table at P -/
def CodeT (c : Addr) (q : Str) (P : Addr) : HO := .ext fun h => (∃ (oc : Obj) (vs : Array Value) (t : Tok), h.get? c = some oc ∧ oc.data = .fields vs ∧ vs[1]? = some (.str q t)) ∧ CodeHd h c P
theorem codeT_ne {c P : Addr} {q : Str} (ps : Array Value) : CodeT c q P ≠ .tbl ps := fun z => by
  unfold CodeT at z
  cases z
theorem codeT_at {P : Program} {w : World} {H : Hp} {h : Heap} {c P' : Addr} {q : Str} (hok : HOk P w H h) (e : H c = some (CodeT c q P')) : h.CodeRec (.ref c) q ∧ CodeHd h c P' := by
  obtain ⟨⟨⟨oc, vs, t, h1, h2, h3⟩, h4⟩, _, _⟩ := hok c _ e
  exact ⟨⟨c, oc, vs, t, rfl, h1, h2, h3⟩, h4⟩
theorem codeT_ok {P : Program} {w : World} {H : Hp} {h : Heap} {c P' : Addr} {q : Str} (h1 : h.CodeRec (.ref c) q) (h2 : CodeHd h c P') : ObjOk P w H h c (CodeT c q P') := by
  obtain ⟨c2, oc, vs, t, e, a1, a2, a3⟩ := h1
  cases e
  refine ⟨⟨⟨oc, vs, t, a1, a2, a3⟩, h2⟩, ⟨oc, a1⟩, fun g1 g2 ⟨⟨oc, vs, t, b1, b2, b3⟩, o, vs', file, tf, flags, tg, inF, text, tt, e, r⟩ st => ⟨⟨oc, vs, t, st _ b1, b2, b3⟩, o, vs', file, tf, flags, tg, inF, text, tt, st _ e, r⟩⟩
/-- a table whose code objects bear the name q; their tables are as R says -/
def TabR (q : Str) (R : Hp → Addr → Prop) (H : Hp) (P : Addr) : Prop := ∃ ps : Array Value, H P = some (.tbl ps) ∧ TriplesOk ps.toList ∧ ∀ (pos : Pos) (cv : Value), codeAmong pos ps.toList = some cv → ∃ c P', cv = .ref c ∧ H c = some (CodeT c q P') ∧ P' ≠ P ∧ R H P'
abbrev Tab1 (q : Str) : Hp → Addr → Prop := TabR q fun _ _ => True
/-- the law's table: lambdas q, in them lambdas q2 -/
abbrev Tab2 (q q2 : Str) : Hp → Addr → Prop := TabR q (Tab1 q2)
/-- tables and code objects -/
def IsTab (o : HO) : Prop := (∃ ps, o = .tbl ps) ∨ ∃ φ, o = .ext φ
/-- .. stand as before, but for the table at P -/
def TabKept (P : Addr) (H H' : Hp) : Prop := ∀ b o, H b = some o → IsTab o → b ≠ P → H' b = some o
def TabsKept (H H' : Hp) : Prop := ∀ b o, H b = some o → IsTab o → H' b = some o
theorem TabsKept.of {H H' : Hp} (e : ∀ b o, H b = some o → H' b = some o) : TabsKept H H' := fun b o h _ => e b o h
theorem TabsKept.trans {H H1 H2 : Hp} (a : TabsKept H H1) (b : TabsKept H1 H2) : TabsKept H H2 := fun c o h i => b c o (a c o h i) i
theorem TabsKept.upd {H : Hp} {a : Addr} {o : HO} (h : ∀ u, H a = some u → ¬ IsTab u) : TabsKept H (upd H a o) := fun b u e i => by
  by_cases hb : b = a
  · subst hb; exact absurd i (h _ e)
  · rw [upd_ne hb]; exact e
theorem TabR.nil {q : Str} {R : Hp → Addr → Prop} {H : Hp} {P : Addr} (h : H P = some (.tbl #[])) : TabR q R H P := ⟨#[], h, True.intro, fun pos cv hc => by
  have z : codeAmong pos [] = some cv := hc
  simp [codeAmong] at z⟩
theorem TabR.ext {q : Str} {R : Hp → Addr → Prop} {H H' : Hp} {P : Addr} (t : TabR q R H P) (e : TabsKept H H') (hR : ∀ P', R H P' → R H' P') : TabR q R H' P := by
  obtain ⟨ps, h1, h2, h3⟩ := t
  refine ⟨ps, e _ _ h1 (.inl ⟨_, rfl⟩), h2, fun pos cv hc => ?_⟩
  obtain ⟨c, P', e1, e2, e3, e4⟩ := h3 pos cv hc
  exact ⟨c, P', e1, e _ _ e2 (.inr ⟨_, rfl⟩), e3, hR _ e4⟩
theorem Tab1.ext {q : Str} {H H' : Hp} {P : Addr} (t : Tab1 q H P) (e : TabsKept H H') : Tab1 q H' P := TabR.ext t e fun _ h => h
theorem Tab2.ext {q q2 : Str} {H H' : Hp} {P : Addr} (t : Tab2 q q2 H P) (e : TabsKept H H') : Tab2 q q2 H' P := TabR.ext t e fun _ h => Tab1.ext h e
theorem kept_code {H H' : Hp} {P1 c P2 : Addr} {q : Str} {ps : Array Value} (e : TabKept P1 H H') (h1 : H P1 = some (.tbl ps)) (z : H c = some (CodeT c q P2)) : H' c = some (CodeT c q P2) := e _ _ z (.inr ⟨_, rfl⟩) fun y => by
  rw [y, h1] at z
  exact codeT_ne ps (Option.some.inj z).symm
theorem Tab1.other {q : Str} {H H' : Hp} {P P1 : Addr} {ps : Array Value} (t : Tab1 q H P) (ne : P ≠ P1) (e : TabKept P1 H H') (h1 : H P1 = some (.tbl ps)) : Tab1 q H' P := by
  obtain ⟨ps', b1, b2, b3⟩ := t
  refine ⟨ps', e _ _ b1 (.inl ⟨_, rfl⟩) ne, b2, fun pos cv hc => ?_⟩
  obtain ⟨c2, P2, f1, f2, f3, _⟩ := b3 pos cv hc
  exact ⟨c2, P2, f1, kept_code e h1 f2, f3, trivial⟩
/-- a nested table has grown -/
theorem Tab2.grown {q q2 : Str} {H H' : Hp} {P P1 : Addr} {ps : Array Value} (t : Tab2 q q2 H P) (ne : P1 ≠ P) (e : TabKept P1 H H') (h1 : H P1 = some (.tbl ps)) (h2 : Tab1 q2 H' P1) : Tab2 q q2 H' P := by
  obtain ⟨ps0, a1, a2, a3⟩ := t
  refine ⟨ps0, e _ _ a1 (.inl ⟨_, rfl⟩) (Ne.symm ne), a2, fun pos cv hc => ?_⟩
  obtain ⟨c, P', e1, e2, e3, e4⟩ := a3 pos cv hc
  refine ⟨c, P', e1, kept_code e h1 e2, e3, ?_⟩
  by_cases hp : P' = P1
  · rw [hp]; exact h2
  · exact Tab1.other e4 hp e h1
/-- what the making of a lambda asks of the maker's code object and its table, in the running state -/
structure TabH (X : Cx) (c P : Addr) (h : Heap) : Prop where
  code : CodeHd h c P
  bm : h.BuiltinsAt X.mg P
  gP : mainGlobals ≠ P
section
variable {X : Cx} {pins : List (Addr × Obj)} {σ : L2.St} {H : Hp} {s : Shared}
theorem tabH_base {c P : Addr} (TB : LamX.TabB X.base X.mg c P) (I : Inv X pins σ H s) : TabH X c P s.heap := ⟨TB.code.keeps I.bk, TB.bm.keeps I.bk, TB.gP⟩
/-- .. of a code object that is tracked; TB: of any other -/
theorem tabH_code {c P c0 P0 : Addr} {q : Str} {ps : Array Value} (TB : LamX.TabB X.base X.mg c0 P0) (I : Inv X pins σ H s) (hc : H c = some (CodeT c q P)) (hP : H P = some (.tbl ps)) : TabH X c P s.heap := by
  obtain ⟨bm, o, h1, h2, h3, _, h5, h6, h7, h8⟩ := TB.bm
  refine ⟨(codeT_at I.hok hc).2, ⟨bm, o, h1, h2, h3, fun z => ?_, I.bk _ _ h5, h6, h7, h8⟩, fun z => ?_⟩
  · have n := (I.bs _ _ h5).2
    rw [z, hP] at n
    cases n
  · obtain ⟨o', es, ep, e1, _⟩ := I.mod.glob
    have n := (I.bs _ _ e1).2
    rw [z, hP] at n
    cases n
theorem mkTail {M : Model} {A : Around} {E : Value → Shared → Prop} {s : Shared} {name qual : Str} {params : Arguments} {body : Expr} {scope : Scope} {env : Env} {c P : Addr} {ps : Array Value} {pos : Pos} {firstLine : Nat} {mg : Str → Option Value}
    {clos : List (Str × Addr)} {Q : Value → Shared → Prop} (hcl : closureFor scope env = pure clos) (hge0 : env.globals = mainGlobals) (hg : s.heap.Ns mainGlobals mg) (hcode : env.code = .ref c) (C : CodeHd s.heap c P) (hP : s.heap.get? P = some (tabObj ps)) (ht : TriplesOk ps.toList)
    (hnf : codeAmong pos ps.toList = none) (hgP : mainGlobals ≠ P) (hb : s.heap.BuiltinsAt mg P)
    (h : ∀ c' P' ctv h' tk, Heap.ExtBut P s.heap h' → s.heap.objs.size ≤ c' → c' < h'.objs.size → h'.CodeRec (.ref c') qual → h'.get? P = some (tabObj (ps ++ #[rawInt pos.line, rawInt pos.col, .ref c'])) → s.heap.objs.size ≤ P' → CodeHd h' c' P' → h'.get? P' = some (tabObj #[]) →
      Q (.ref h'.objs.size) { s with heap := h'.push (kla_obj name qual params body scope clos ((mg "__name__").getD .none) c' ctv), toks := tk }) :
    wpAny M A (makeFunction name qual params (.expr body) scope env [] [] [] pos firstLine) Q E s := by
  rw [makeFunction_eq]
  simp only [List.zip_nil_right, List.filterMap_nil, List.isEmpty_nil, if_true, pure_bind]
  obtain ⟨bm, ob, hbm, hne0, _, hneP, hbo, hcls, hdict, hdata⟩ := hb
  unfold makeTail
  rw [hcl, hge0]
  refine wpAny_bind (wpAny_pure ?_)
  cases clos with
  | nil =>
    simp only [List.isEmpty_nil, if_true]
    refine wpAny_bind (wpAny_pure (wpAny_bind (wpAny_functionCodeX hcode (C.code hP ht) (C.tab hP) hnf fun c' h' tk hx hge hlt _ hrec htb ⟨P', hP', k1, k2⟩ => ?_)))
    refine wpAny_bind (wpAny_builtinsFor (hg.extBut hx hgP) hbm hne0 (hx _ _ hneP hbo) hcls hdict hdata (wpAny_bind (wpAny_nsGet (hg.extBut hx hgP) ?_)))
    exact wpAny_bind (wpAny_pure (wpAny_newObj_type (h c' P' .none h' tk hx hge hlt hrec htb.2 hP' (CodeHd.of k1 k2) k2.2) (by size_fits)))
  | cons q r =>
    simp only [List.isEmpty_cons, Bool.false_eq_true, if_false]
    refine wpAny_bind (wpAny_newTextTuple ?_)
    have kp : ∀ b o, s.heap.get? b = some o → (s.heap.push { cls := .type "tuple", data := .seq (((q :: r).mergeSort fun a b => a.1.cps.toList ≤ b.1.cps.toList).map (Value.ref ·.2)).toArray }).get? b = some o := fun b o e => Heap.get?_push_of_some _ e
    refine wpAny_bind (wpAny_functionCodeX hcode ((C.keeps fun b o e => Heap.get?_push_of_some _ e).code (Heap.get?_push_of_some _ hP) ht) ((C.keeps fun b o e => Heap.get?_push_of_some _ e).tab (Heap.get?_push_of_some _ hP)) hnf fun c' h' tk hx hge hlt _ hrec htb ⟨P', hP', k1, k2⟩ => ?_)
    have hg' := (hg.push _).extBut hx hgP
    have hx' : Heap.ExtBut P s.heap h' := fun b o hb' e => hx b o hb' (Heap.get?_push_of_some _ e)
    have hge' : s.heap.objs.size ≤ c' := Nat.le_trans (by rw [Heap.size_push]; omega) hge
    have hP2 : s.heap.objs.size ≤ P' := Nat.le_trans (by rw [Heap.size_push]; omega) hP'
    refine wpAny_bind (wpAny_builtinsFor hg' hbm hne0 (hx' _ _ hneP hbo) hcls hdict hdata (wpAny_bind (wpAny_nsGet hg' ?_)))
    exact wpAny_bind (wpAny_pure (wpAny_newObj_type (h c' P' _ h' tk hx' hge' hlt hrec htb.2 hP2 (CodeHd.of k1 k2) k2.2) (by size_fits)))
/-- the table at P is written, a code object c with its table is new -/
theorem inv_code {P c P' : Addr} {q : Str} {ps more : Array Value} {h' : Heap} {t' : Nat} (I : Inv X pins σ H s) (hP : H P = some (.tbl ps)) (k : ∀ b o, b ≠ P → s.heap.get? b = some o → h'.get? b = some o)
    (hm : h'.get? P = some { cls := .none, data := .fields (ps ++ more) }) (hc : s.heap.objs.size ≤ c) (hp : s.heap.objs.size ≤ P') (h1 : h'.CodeRec (.ref c) q) (h2 : CodeHd h' c P') (h3 : h'.get? P' = some (tabObj #[])) :
    Inv X pins σ (upd (upd (upd H P (.tbl (ps ++ more))) P' (.tbl #[])) c (CodeT c q P')) { s with heap := h', toks := t' } := by
  have nC : H c = none := I.hok.fresh hc
  have nP' : H P' = none := I.hok.fresh hp
  have nPc : P ≠ c := ne_of_none hP nC
  have nPP : P ≠ P' := ne_of_none hP nP'
  have ncP : c ≠ P' := by
    obtain ⟨_, _, _, _, _, _, _, _, _, _, _, _, _, _, _, _, _, _, z⟩ := h2
    exact z
  have at_ : ∀ b, b ≠ P → b ≠ P' → b ≠ c → upd (upd (upd H P (.tbl (ps ++ more))) P' (.tbl #[])) c (CodeT c q P') b = H b := fun b h1 h2 h3 => by rw [upd_ne h3, upd_ne h2, upd_ne h1]
  have atP : upd (upd (upd H P (.tbl (ps ++ more))) P' (.tbl #[])) c (CodeT c q P') P = some (.tbl (ps ++ more)) := by rw [upd_ne nPc, upd_ne nPP, upd_same]
  have nP : ∀ b u, H b = some u → (∀ q, u ≠ .tbl q) → b ≠ P := fun b u e q z => by
    rw [z, hP] at e
    exact q ps (Option.some.inj e).symm
  have nN : ∀ b, H b = none → b ≠ P := fun b e z => by
    rw [z, hP] at e
    cases e
  have lt' : ∀ b o, s.heap.get? b = some o → b ≠ c ∧ b ≠ P' := fun b o e => ⟨fun z => by
    rw [z] at e
    exact Nat.lt_irrefl _ (Nat.lt_of_lt_of_le (Heap.lt_size e) hc), fun z => by
    rw [z] at e
    exact Nat.lt_irrefl _ (Nat.lt_of_lt_of_le (Heap.lt_size e) hp)⟩
  have sm : ∀ b u, H b = some u → b ≠ c ∧ b ≠ P' := fun b u e => ⟨ne_of_none e nC, ne_of_none e nP'⟩
  refine I.step (g' := s.gens) (d' := s.drawn) (ch := []) (fun b hb => absurd hb (by simp)) (fun b o _ _ _ e n => k b o (nN b n) e) (fun b o _ _ _ e n => ⟨o.slots, k b o (nN b n) e⟩)
    (fun b o _ e n => by rw [at_ b (nN b n) (lt' b o e).2 (lt' b o e).1]; exact n) (fun b o _ e => ?_) (fun b xs e => by rw [at_ b (nP b _ e (fun q z => by cases z)) (sm b _ e).2 (sm b _ e).1]; exact e)
    (fun b o u e => by rw [at_ b (nP b _ e (fun q z => by cases z)) (sm b _ e).2 (sm b _ e).1]; exact e) (fun b qs e => ?_) (fun m hn => ?_) (fun b u e => ?_) I.bare
  · by_cases hb : b = P
    · rw [hb]
      exact ⟨_, hm⟩
    · exact ⟨o, k b o hb e⟩
  · by_cases hb : b = P
    · rw [hb, hP] at e
      cases e
      rw [hb, atP]
      exact ⟨more, rfl⟩
    · rw [at_ b hb (sm b _ e).2 (sm b _ e).1, e]
      exact ⟨#[], by simp⟩
  · obtain ⟨ob, es, ep, ho, r⟩ := hn
    exact ⟨ob, es, ep, k _ ob (nN _ I.free) ho, r⟩
  · by_cases hb : b = c
    · rw [hb, upd_same] at e
      cases e
      rw [hb]
      exact codeT_ok h1 h2
    · by_cases hb3 : b = P'
      · rw [hb3, upd_ne (Ne.symm ncP), upd_same] at e
        cases e
        rw [hb3]
        exact h3
      · by_cases hb2 : b = P
        · rw [hb2, atP] at e
          cases e
          rw [hb2]
          exact hm
        · rw [at_ b hb2 hb3 hb] at e
          refine (I.hok b u e).stay (fun d v hd q => k d v ?_ q) (fun d q => by rw [at_ d (nP d _ q (fun q z => by cases z)) (sm d _ q).2 (sm d _ q).1]; exact q) fun d xs q => by rw [at_ d (nP d _ q (fun q z => by cases z)) (sm d _ q).2 (sm d _ q).1]; exact q
          rcases hd with z | z
          · rw [z]
            exact hb2
          · exact nP d _ z (fun q z => by cases z)
/-- what the tables' predicate must bear -/
structure TabOk (R : Hp → Addr → Prop) : Prop where
  new : ∀ (H : Hp) (P : Addr), H P = some (.tbl #[]) → R H P
  keep : ∀ (H H' : Hp) (P P1 : Addr) (ps : Array Value), H P1 = some (.tbl ps) → TabKept P1 H H' → P ≠ P1 → R H P → R H' P
theorem tabOk_true : TabOk fun _ _ => True := ⟨fun _ _ _ => trivial, fun _ _ _ _ _ _ _ _ _ => trivial⟩
theorem tabOk_one {q : Str} : TabOk (Tab1 q) := ⟨fun _ _ h => TabR.nil h, fun _ _ _ _ _ h1 e ne t => Tab1.other t ne e h1⟩
/-- the lambda is made: its code object is new, or found in the table -/
theorem lam_make3 {R : Hp → Addr → Prop} {c P : Addr} {params : Arguments} {body : Expr} {scope : Scope} {pos : Pos} {E : Value → Shared → Prop} {Q : Value → Shared → Prop} (hR : TabOk R) (I : Inv X pins σ H s) (TB : TabH X c P s.heap) (hcode : X.env.code = .ref c)
    (hT : TabR (X.env.qual ++ "<lambda>") R H P) (hdef : defaultsOf params X.env = ([], [])) (hfree : ∀ y ∈ scope.names, y.2 = .free → ∃ c, X.env.cells.lookup y.1 = some c)
    (h : ∀ (f c' P' : Addr) (pm ctv : Value) (H1 : Hp) (s' : Shared), Inv X pins σ H1 s' → (∀ b o, H b = some o → b ≠ P → H1 b = some o) → TabR (X.env.qual ++ "<lambda>") R H1 P →
      s'.heap.get? f = some (kla_obj "<lambda>" (X.env.qual ++ "<lambda>") params body scope (cloFrom X.env.cells scope.names []) pm c' ctv) → H1 f = none → f ∉ frs X.stack → H1 c' = some (CodeT c' (X.env.qual ++ "<lambda>") P') → P' ≠ P → R H1 P' → Q (.ref f) s') :
    wpAny (model X.prog X.w) X.A (eval (.Lambda params body scope pos) X.env) Q E s := by
  obtain ⟨ps, hP, ht, ha⟩ := hT
  refine PySem.W.kla_eval hdef ?_
  have hP' : s.heap.get? P = some { cls := .none, data := .fields ps } := I.hok P _ hP
  have nofr : ∀ f, s.heap.objs.size ≤ f → f ∉ frs X.stack := fun f hf z => by
    rcases List.mem_cons.mp (I.stkSub _ z) with e | e
    · have h1 := I.lt
      rw [← e] at h1
      exact Nat.lt_irrefl _ (Nat.lt_of_lt_of_le h1 hf)
    · exact I.nofs hf e
  cases hc : codeAmong pos ps.toList with
  | none =>
    refine mkTail (mg := X.mg) (c := c) (P := P) (ps := ps) (closure_ok hfree) I.ok.glob (I.mod.glob.keeps I.bk) hcode TB.code hP' ht hc TB.gP TB.bm fun c' P' ctv h' tk hx hge hlt hrec htb hgP hd hnew => ?_
    have hsz : s.heap.objs.size ≤ h'.objs.size := Nat.le_trans hge (Nat.le_of_lt hlt)
    have nC : H c' = none := I.hok.fresh hge
    have nP' : H P' = none := I.hok.fresh hgP
    have nPP : P' ≠ P := Ne.symm (ne_of_none hP nP')
    have ncP : c' ≠ P' := by
      obtain ⟨_, _, _, _, _, _, _, _, _, _, _, _, _, _, _, _, _, _, z⟩ := hd
      exact z
    have kk : ∀ b o, h'.get? b = some o → (h'.push (kla_obj "<lambda>" (X.env.qual ++ "<lambda>") params body scope (cloFrom X.env.cells scope.names []) ((X.mg "__name__").getD .none) c' ctv)).get? b = some o := fun b o e => Heap.get?_push_of_some _ e
    have hrec' : (h'.push (kla_obj "<lambda>" (X.env.qual ++ "<lambda>") params body scope (cloFrom X.env.cells scope.names []) ((X.mg "__name__").getD .none) c' ctv)).CodeRec (.ref c') (X.env.qual ++ "<lambda>") := by
      obtain ⟨c2, oc, vs, t, e2, hoc, r⟩ := hrec
      exact ⟨c2, oc, vs, t, e2, kk _ _ hoc, r⟩
    have I1 := inv_code (t' := tk) (more := #[rawInt pos.line, rawInt pos.col, .ref c']) (h' := h'.push (kla_obj "<lambda>" (X.env.qual ++ "<lambda>") params body scope (cloFrom X.env.cells scope.names []) ((X.mg "__name__").getD .none) c' ctv)) I hP
      (fun b o hb e => kk _ _ (hx b o hb e)) (kk _ _ htb) hge hgP hrec' (hd.keeps kk) (kk _ _ hnew)
    obtain ⟨H1, eH1⟩ : ∃ H1, H1 = upd (upd (upd H P (.tbl (ps ++ #[rawInt pos.line, rawInt pos.col, .ref c']))) P' (.tbl #[])) c' (CodeT c' (X.env.qual ++ "<lambda>") P') := ⟨_, rfl⟩
    rw [← eH1] at I1
    have hE : ∀ b o, H b = some o → b ≠ P → H1 b = some o := fun b o e n => by
      rw [eH1, upd_ne (ne_of_none e nC), upd_ne (ne_of_none e nP'), upd_ne n]
      exact e
    have hc1 : H1 c' = some (CodeT c' (X.env.qual ++ "<lambda>") P') := by rw [eH1, upd_same]
    have hp1 : H1 P' = some (.tbl #[]) := by rw [eH1, upd_ne (Ne.symm ncP), upd_same]
    have hp0 : H1 P = some (.tbl (ps ++ #[rawInt pos.line, rawInt pos.col, .ref c'])) := by rw [eH1, upd_ne (ne_of_none hP nC), upd_ne (Ne.symm nPP), upd_same]
    have tk1 : TabKept P H H1 := fun b o e _ n => hE b o e n
    have eL : (ps ++ #[rawInt pos.line, rawInt pos.col, .ref c']).toList = ps.toList ++ [rawInt pos.line, rawInt pos.col, .ref c'] := by simp
    refine h h'.objs.size c' P' ((X.mg "__name__").getD .none) ctv H1 _ I1 hE ⟨_, hp0, by rw [eL]; exact PySem.TriplesOk_snoc _ _ _ _ ht, fun p' cv hcv => ?_⟩ (Heap.get?_push_size _ rfl) ?_ (nofr _ hsz) hc1 nPP (hR.new _ _ hp1)
    · rw [eL] at hcv
      rcases LamX.among_app _ ht hcv with z | z
      · obtain ⟨c0, P0, e1, e2, e3, e4⟩ := ha p' cv z
        exact ⟨c0, P0, e1, kept_code tk1 hP e2, e3, hR.keep H H1 P0 P ps hP tk1 e3 e4⟩
      · exact ⟨c', P', z, hc1, nPP, hR.new _ _ hp1⟩
    · have n1 : h'.objs.size ≠ c' := Nat.ne_of_gt hlt
      have n2 : h'.objs.size ≠ P := Nat.ne_of_gt (Nat.lt_of_lt_of_le (Heap.lt_size hP') hsz)
      have n3 : h'.objs.size ≠ P' := Nat.ne_of_gt (Heap.lt_size hnew)
      rw [eH1, upd_ne n1, upd_ne n3, upd_ne n2]
      exact I.hok.fresh hsz
  | some cv =>
    obtain ⟨c', P', e, hco, hne, hr⟩ := ha pos cv hc
    subst e
    refine PySem.W.kla_makeFunctionHit (mg := X.mg) (c := c) (P := P) (ps := ps) (closure_ok hfree) I.ok.glob (I.mod.glob.keeps I.bk) hcode TB.code hP' ht hc TB.bm fun ctv h' tk hx hsz => ?_
    have I1 : Inv X pins σ H { s with heap := h'.push (kla_obj "<lambda>" (X.env.qual ++ "<lambda>") params body scope (cloFrom X.env.cells scope.names []) ((X.mg "__name__").getD .none) c' ctv), toks := tk } := I.kept fun b o e => Heap.get?_push_of_some _ (hx b o e)
    exact h h'.objs.size c' P' ((X.mg "__name__").getD .none) ctv H _ I1 (fun b o e _ => e) ⟨ps, hP, ht, ha⟩ (Heap.get?_push_size _ rfl) (I.hok.fresh hsz) (nofr _ hsz) hco hne hr
end
end Pt
end

section
set_option Elab.async false
set_option maxRecDepth 100000
set_option maxHeartbeats 2000000
namespace Pt
open PySem PySem.Spec PyProof.Rows L2
open PySem.W (CodeHd tabObj kla_obj kla_fn)
/-! ### a lambda's names: parameters ps, captured names, globals -/
structure LamP (ps : List Str) (sc scope : Scope) : Prop where
  kind : scope.kind = .function
  co : scope.isCoroutine = false
  gen : scope.isGenerator = false
  nocell : ∀ y ∈ scope.names, y.2 ≠ .cell
  loc : ∀ y ∈ scope.names, y.2 = .local → y.1 ∈ ps
  par : ∀ x ∈ ps, scope.names.lookup x = some .local
  nd : ps.Nodup
  free : ∀ y ∈ scope.names, y.2 = .free → sc.names.lookup y.1 = some .cell ∨ sc.names.lookup y.1 = some .free
def lamPB (ps : List Str) (sc scope : Scope) : Bool :=
  decide (scope.kind = .function) && !scope.isCoroutine && !scope.isGenerator && scope.names.all (fun y => !decide (y.2 = .cell) && (!decide (y.2 = .local) || decide (y.1 ∈ ps)) && (!decide (y.2 = .free) || decide (sc.names.lookup y.1 = some .cell) || decide (sc.names.lookup y.1 = some .free))) &&
    ps.all (fun x => decide (scope.names.lookup x = some .local)) && decide ps.Nodup
theorem lamP_by {ps : List Str} {sc scope : Scope} (h : lamPB ps sc scope = true) : LamP ps sc scope := by
  unfold lamPB at h
  simp only [Bool.and_eq_true, Bool.or_eq_true, Bool.not_eq_true', decide_eq_true_eq, decide_eq_false_iff_not, List.all_eq_true] at h
  obtain ⟨⟨⟨⟨⟨h1, h2⟩, h3⟩, h4⟩, h5⟩, h6⟩ := h
  refine ⟨h1, h2, h3, fun y hy => (h4 y hy).1.1, fun y hy e => ((h4 y hy).1.2).elim (fun z => absurd e z) id, h5, h6, fun y hy e => ?_⟩
  rcases (h4 y hy).2 with (z | z) | z
  · exact absurd e z
  · exact .inl z
  · exact .inr z
section
variable {X : Cx} {ps : List Str}
theorem LamP.has {scope : Scope} (L : LamP ps X.env.scope scope) (ok : X.Ok) : ∀ y ∈ scope.names, y.2 = .free → ∃ c, X.env.cells.lookup y.1 = some c := fun y hy e => by
  rcases L.free y hy e with k | k
  · exact ok.has _ (.inl k)
  · exact ok.has _ (.inr k)
end
/-- the context of the lambda's body, entered at s from the frames outer -/
def cxL (X : Cx) (ps : List Str) (A : Around) (outer : List Env) (s : Shared) (H : Hp) (E : XK) (scope : Scope) (f c' : Addr) : Cx :=
  { LamX.lamCx X A outer s H E scope f c' with N := ps ++ X.N }
/-- the values of its names: the parameters', then what the maker's names held -/
def stL (vs : List V) (σ : L2.St) : L2.St := vs.map some ++ σ
section
variable {X : Cx} {pins : List (Addr × Obj)} {σ : L2.St} {H HZ : Hp} {s s1 : Shared} {ps : List Str}
theorem lam_start3 {A : Around} {outer : List Env} {E : XK} {scope : Scope} {f c' : Addr} {h₁ : Heap} {tk : Nat} {us : List Value} {vs : List V} (I : Inv X pins σ H s) (L : LamP ps X.env.scope scope) (hdis : ∀ x ∈ X.N, x ∉ ps) (e0 : Env0 X.prog X.w X.K X.mg X.base A outer s1 HZ) (hd : A.handled = none)
    (un : Un (frs X.stack) [] H HZ s.heap s1.heap) (hl : vs.length = ps.length) (r : Vals vs us) (hns : h₁.Ns s1.heap.objs.size fun y => (ps.zip us).reverse.lookup y) (kp : ∀ b o, s1.heap.get? b = some o → h₁.get? b = some o) :
    Inv (cxL X ps A outer s1 HZ E scope f c') [] (stL vs σ) HZ { s1 with heap := h₁, toks := tk } := by
  have hfree := L.has I.ok
  have cm : ∀ {y c}, (cloFrom X.env.cells scope.names []).lookup y = some c → X.env.cells.lookup y = some c := fun {y c} e => NdefX.clo_cm hfree e
  have look : ∀ {y}, scope.names.lookup y = some .free → ∃ c, (cloFrom X.env.cells scope.names []).lookup y = some c := fun {y} hl => by
    have hy : (y, NameKind.free) ∈ scope.names := PySem.mem_of_lookup hl
    exact mem_lookup (cloFrom_has (cells := X.env.cells) (acc := []) hy)
  have cellK : ∀ {c : Addr} {v : Option Value}, H c = none → s.heap.IsCell c v → h₁.IsCell c v := fun {c v} n ⟨o, ho, hd⟩ => by
    obtain ⟨sl, q⟩ := un.any ho n (by simp)
    exact ⟨_, kp _ _ q, hd⟩
  have noA : ∀ b : Addr, b ∉ (cxL X ps A outer s1 HZ E scope f c').ex := fun b z => absurd (show b ∈ ([] : List Addr) from z) (by simp)
  refine ⟨⟨e0.mod, L.kind, rfl, rfl, Nat.le_refl _, fun y z c e1 e2 => I.ok.inj y z c (cm e1) (cm e2), fun y hy => ?_, fun y c z _ => ?_, fun _ => hd, Around.frames_deeper e0.frames, .inr ⟨rfl, rfl⟩, fun b z => absurd z (noA b), e0.bs, e0.bsz, fun b _ _ => noA b,
      fun b z => absurd z (noA b), e0.funs, e0.frf⟩,
    rfl, e0.bare, Un.kept kp, ⟨_, hns, fun i y v e1 e2 e3 => ?_⟩, fun y c e => ?_, e0.hok.fresh (Nat.le_refl _), fun y c e => ?_, fun q hq => absurd (show q ∈ ([] : List (Addr × Obj)) ++ [] from hq) (by simp), e0.hok.kept kp, ?_⟩
  · have hy : scope.names.lookup y = some .cell ∨ scope.names.lookup y = some .free := hy
    rcases hy with hy | hy
    · exact absurd rfl (L.nocell _ (PySem.mem_of_lookup hy))
    · exact look hy
  · have z : false = true := z
    cases z
  · have e1 : (ps ++ X.N)[i]? = some y := e1
    have e3 : Vis scope y := e3
    unfold stL at e2
    by_cases hi : i < ps.length
    · rw [List.getElem?_append_left hi] at e1
      rw [List.getElem?_append_left (by rw [List.length_map]; omega), List.getElem?_map] at e2
      have ha : vs[i]? = some v := by
        cases e : vs[i]? with
        | none => rw [e] at e2; cases e2
        | some a => rw [e] at e2; cases e2; rfl
      obtain ⟨u, hu, rv⟩ := r.get ha
      exact ⟨u, rv, .inl ⟨L.par y (List.mem_of_getElem? e1), NdefX.zip_look L.nd e1 hu⟩⟩
    · rw [List.getElem?_append_right (by omega)] at e1
      rw [List.getElem?_append_right (by rw [List.length_map]; omega), List.length_map, hl] at e2
      have hny := hdis y (List.mem_of_getElem? e1)
      rcases e3 with k | k | k
      · exact absurd (L.loc _ (PySem.mem_of_lookup k) rfl) hny
      · exact absurd rfl (L.nocell _ (PySem.mem_of_lookup k))
      · obtain ⟨m, hn, hl'⟩ := I.loc
        have hvis : Vis X.env.scope y := (L.free _ (PySem.mem_of_lookup k) rfl).elim (fun k => .inr (.inl k)) (fun k => .inr (.inr k))
        obtain ⟨w', r', q⟩ := hl' _ y v e1 e2 hvis
        obtain ⟨c2, h2⟩ := look k
        refine ⟨w', r', .inr ⟨.inr k, c2, h2, ?_⟩⟩
        have c1 := cm h2
        rcases q with ⟨k', _⟩ | ⟨_, c3, e', z⟩
        · have k' : X.env.scope.names.lookup y = some .local := k'
          rcases L.free _ (PySem.mem_of_lookup k) rfl with k2 | k2 <;> rw [show X.env.scope.names.lookup y = _ from k2] at k' <;> cases k'
        · rw [c1] at e'
          cases e'
          exact cellK (I.freeC y _ c1) z
  · obtain ⟨w', z⟩ := I.cell y c (cm e)
    exact ⟨w', cellK (I.freeC y c (cm e)) z⟩
  · obtain ⟨v, o, ho, hd⟩ := I.cell y c (cm e)
    exact un.free c o ho (I.freeC y c (cm e)) (by simp)
  · show (stL vs σ).length = (ps ++ X.N).length
    unfold stL
    rw [List.length_append, List.length_append, List.length_map, hl, I.len]
/-! ### what a function value does, in every state that comes behind s, H (the frames L around) -/
structure Acts (P : Program) (w : World) (K : PySem.W.Frag) (mg : Str → Option Value) (base : Heap) (L : List Env) (s : Shared) (H : Hp) (k : Nat) (f : Addr) (sp : Sp) : Prop where
  at_ : ∀ (s1 : Shared) (HZ : Hp), Un (frs L) [] H HZ s.heap s1.heap → PySem.W.FnAt f s1.heap
  run : ∀ (A : Around) (outer : List Env) (s1 : Shared) (HZ : Hp) (us : List Value) (vs : List V) (Q : VK) (E : XK), Room k A → Env0 P w K mg base A outer s1 HZ → Un (frs L) [] H HZ s.heap s1.heap → Vals vs us → sp vs HZ Q E →
    codeAny (model P w) A (.call (.ref f) ⟨us, []⟩) (CR (L2.CX P w) outer P w HZ s1 Q E) s1
theorem Acts.imp {P : Program} {w : World} {K : PySem.W.Frag} {mg : Str → Option Value} {base : Heap} {L : List Env} {k : Nat} {f : Addr} {sp sp' : Sp} (a : Acts P w K mg base L s H k f sp) (h : ∀ vs H Q E, sp' vs H Q E → sp vs H Q E) : Acts P w K mg base L s H k f sp' :=
  ⟨a.at_, fun A outer s1 HZ us vs Q E hr e0 un r q => a.run A outer s1 HZ us vs Q E hr e0 un r (h _ _ _ _ q)⟩
/-- a lambda does what its body does -/
theorem acts_lam {scope : Scope} {params : Arguments} {body : Expr} {f c' P' : Addr} {pm ctv : Value} {k : Nat} {tb : XK → TE} (I : Inv X pins σ H s) (L : LamP ps X.env.scope scope) (hdis : ∀ x ∈ X.N, x ∉ ps)
    (hf : s.heap.get? f = some (kla_obj "<lambda>" (X.env.qual ++ "<lambda>") params body scope (cloFrom X.env.cells scope.names []) pm c' ctv)) (hfn : H f = none) (hfr : f ∉ frs X.stack)
    (hbind : ∀ us : List Value, us.length = ps.length → bindArgs (kla_fn "<lambda>" (X.env.qual ++ "<lambda>") params body scope (cloFrom X.env.cells scope.names []) pm (.ref c') ctv) ⟨us, []⟩ = pure (ps.zip us))
    (hbody : ∀ (A : Around) (outer : List Env) (s : Shared) (H : Hp) (E : XK), Room k (A.deeper (LamX.lamEnv X scope s.heap.objs.size f c')) → PE (cxL X ps A outer s H E scope f c') body (tb E)) :
    Acts X.prog X.w X.K X.mg X.base X.stack s H (k + 1) f (fun vs HZ Q E => vs.length = ps.length ∧ HZ c' = some (CodeT c' (X.env.qual ++ "<lambda>") P') ∧ tb E (stL vs σ) HZ Q) := by
  have at_ : ∀ (s1 : Shared) (HZ : Hp), Un (frs X.stack) [] H HZ s.heap s1.heap → s1.heap.get? f = some (kla_obj "<lambda>" (X.env.qual ++ "<lambda>") params body scope (cloFrom X.env.cells scope.names []) pm c' ctv) := fun s1 HZ un => un.keep f _ hf hfn hfr (by simp)
  refine ⟨fun s1 HZ un => ⟨_, _, _, _, at_ s1 HZ un⟩, fun A outer s1 HZ us vs Q E hr e0 un r hq => ?_⟩
  obtain ⟨hl, hc, hq⟩ := hq
  have lim : s1.heap.NoLimit := e0.mod.nolimit.keeps fun b o e => (e0.bs b o e).1
  refine PySem.W.kla_callFunE hr.depth (at_ s1 HZ un) rfl L.co L.gen rfl (codeT_at e0.hok hc).1 ?_
  rw [hbind us (by rw [← r.length]; exact hl)]
  refine wpAny_pure (wpAny_newFunctionEnv L.nocell (fun ⟨n, _⟩ hy => L.par n (List.of_mem_zip hy).1) (fun h₁ hns hsb => ⟨lim.fresh _ hsb, ?_⟩) L.kind)
  show codeAny _ _ (.expr body (LamX.lamEnv X scope s1.heap.objs.size f c')) _ _
  have kp : ∀ b o, s1.heap.get? b = some o → h₁.get? b = some o := fun b o e => hsb.extBut b o (Nat.ne_of_lt (Heap.lt_size e)) (Heap.get?_push_of_some _ e)
  have J : Inv (cxL X ps A outer s1 HZ E scope f c') [] (stL vs σ) HZ { s1 with heap := h₁, toks := s1.toks + (ps.zip us).length } := lam_start3 I L hdis e0 hr.hd un hl r hns kp
  refine PySem.W.kla_codeExpr (wpAny_mono ((hbody A outer s1 HZ E (hr.deeper _)).run [] _ _ HZ Q J hq) (fun v s' hq => ?_) fun e s' hq => hq)
  obtain ⟨w', H', J', rv, q⟩ := hq
  exact ⟨w', H', J'.os, J'.bare, J'.base, J'.hok, rv, q⟩
end
/-! ### f(..), f a local name that holds a function value -/
def tAct (i : Nat) (f : Addr) (sp : Sp) (E : XK) (t : TA) : TE := fun σ H Q => σ[i]? = some (some (.ref f)) ∧ t σ H fun vs H1 => sp vs H1 Q E
section
variable {X : Cx} {k : Nat} {f : Addr} {sp : Sp} {i : Nat} {x : Str} {E : XK} {L : List Env} {e : Expr} {es : List Expr} {t : TA} {p pos : Pos}
/-- X: the context of a def that was entered at its s_0, H_0 -/
theorem run_act {pins : List (Addr × Obj)} {σ : L2.St} {H : Hp} {s : Shared} {Q : VK} {us : List Value} {vs : List V} (F : Acts X.prog X.w X.K X.mg X.base X.outer X.s_0 X.H_0 k f sp) (hex : X.ex = []) (hr : Room k X.A) (hx : Passes (L2.CX X.prog X.w) X E) (I : Inv X pins σ H s) (r : Vals vs us) (q : sp vs H Q E) :
    wpAny (model X.prog X.w) X.A (call (.ref f) us) (EP X pins σ Q) X.xe s := by
  have un : Un (frs X.outer) [] X.H_0 H X.s_0.heap s.heap := by
    have u := I.base
    rw [hex] at u
    exact u
  refine wpAny_call (codeAny_mono (F.run X.A X.stack s H us vs Q E hr I.env0 un r q) fun r s' hq => ?_)
  cases r with
  | error e => exact hx pins σ H s e s' I hq
  | ok fl =>
    cases fl with
    | ret u => exact I.after hq
    | next => exact False.elim hq
    | brk => exact False.elim hq
    | cont => exact False.elim hq
theorem act_at {pins : List (Addr × Obj)} {σ : L2.St} {H : Hp} {s : Shared} (F : Acts X.prog X.w X.K X.mg X.base X.outer X.s_0 X.H_0 k f sp) (hex : X.ex = []) (I : Inv X pins σ H s) : PySem.W.FnAt f s.heap := F.at_ s H (by
  have u := I.base
  rw [hex] at u
  exact u)
theorem pe_act1 (F : Acts X.prog X.w X.K X.mg X.base X.outer X.s_0 X.H_0 k f sp) (hex : X.ex = []) (hr : Room k X.A) (hx : Passes (L2.CX X.prog X.w) X E) (hN : X.N[i]? = some x) (hv : Vis X.env.scope x) (ha : PA X (e :: es) t)
    (hd : (x == ("__debug__" : Str)) = false := by decide) (hcd : (x == ("__classdict__" : Str)) = false := by decide)
    (he : starEach (e :: es) X.env = (false, eval e X.env) :: starEach es X.env := by rfl) (hpl : (backTo pos (starEach es X.env)).any (·.1) = false := by rfl) :
    PE X (.Call (.Name x p) (e :: es) [] pos) (tAct i f sp E t) := by
  refine ⟨fun pins s σ H Q I h => ?_⟩
  obtain ⟨hs, ht⟩ := h
  refine wpAny_Call_Name_kw (thn ((pe_var (pos := p) hN hv hd hcd).run pins s σ H (fun v H1 => v = .ref f ∧ H1 = H) I ⟨.ref f, hs, rfl, rfl⟩) fun u s1 ⟨v, H1, I1, r1, q1⟩ => ?_)
  obtain ⟨ev, eH⟩ := q1
  subst ev
  rw [eH] at I1
  obtain rfl : u = Value.ref f := r1
  refine PySem.W.callWith_F (first := []) (act_at F hex I1) (thn (ha.run pos pins s1 σ H _ I1 ht) fun us s2 ⟨vs, H2, I2, r, q⟩ => ⟨act_at F hex I2, ?_⟩) he hpl
  show wpAny _ _ (call (.ref f) us) _ _ _
  exact run_act F hex hr hx I2 r q
theorem pe_act0 (F : Acts X.prog X.w X.K X.mg X.base X.outer X.s_0 X.H_0 k f sp) (hex : X.ex = []) (hr : Room k X.A) (hx : Passes (L2.CX X.prog X.w) X E) (hN : X.N[i]? = some x) (hv : Vis X.env.scope x)
    (hd : (x == ("__debug__" : Str)) = false := by decide) (hcd : (x == ("__classdict__" : Str)) = false := by decide) : PE X (.Call (.Name x p) [] [] pos) (tAct i f sp E tNil) := by
  refine ⟨fun pins s σ H Q I h => ?_⟩
  obtain ⟨hs, q⟩ := h
  refine wpAny_Call_Name_kw (thn ((pe_var (pos := p) hN hv hd hcd).run pins s σ H (fun v H1 => v = .ref f ∧ H1 = H) I ⟨.ref f, hs, rfl, rfl⟩) fun u s1 ⟨v, H1, I1, r1, q1⟩ => ?_)
  obtain ⟨ev, eH⟩ := q1
  subst ev
  rw [eH] at I1
  obtain rfl : u = Value.ref f := r1
  refine PySem.W.callWith_F0 (first := []) (act_at F hex I1) ?_
  show wpAny _ _ (call (.ref f) []) _ _ _
  exact run_act F hex hr hx I1 .nil q
end
/-! ### a def that is handed a function value -/
/-- its promise, told of the very state -/
abbrev SpS := List Env → Shared → Sp
structure FnS (P : Program) (w : World) (K : PySem.W.Frag) (mg : Str → Option Value) (base : Heap) (CX : CXT) (k : Nat) (f : Addr) (ps : List Str) (sp : SpS) : Prop where
  len : ∀ L s vs H Q E, sp L s vs H Q E → vs.length = ps.length
  run : ∀ (A : Around) (outer : List Env) (s : Shared) (H : Hp) (us : List Value) (vs : List V) (Q : VK) (E : XK), Room k A → Env0 P w K mg base A outer s H → Vals vs us → sp outer s vs H Q E →
    codeAny (model P w) A (.call (.ref f) ⟨us, []⟩) (CR CX outer P w H s Q E) s
theorem fns_of {CX : CXT} {P : Program} {w : World} {K : PySem.W.Frag} {mg : Str → Option Value} {base : Heap} {x qual : Str} {st : Stmt} {f : Addr} {fd : FuncData} {N ps : List Str} {k : Nat} {sp : SpS} (F : Fun K x qual st f fd) (S : FnScope N ps (defScope st)) (hb : Binds K fd ps [])
    (len : ∀ L s vs H Q E, sp L s vs H Q E → vs.length = ps.length)
    (hbody : ∀ (cdv : Value) (A : Around) (outer : List Env) (s : Shared) (H : Hp) (vs : List V) (Q : VK) (E : XK), Room k (A.deeper (envOfC qual (defScope st) s.heap.objs.size f cdv)) → sp outer s vs H Q E →
      ∃ t, PSs (cxOf CX P w K mg base N qual (defScope st) f cdv A outer s H E) (defBody st) t ∧ t { nx := fun _ H' => Q .non H', rt := Q } (start N vs) H) : FnS P w K mg base CX (k + 1) f ps sp := by
  obtain ⟨oc, od, kV, doc, pm, an, cdv, ct, osl, rfl, lk, hcd⟩ := F.ex
  refine ⟨len, fun A outer s H us vs Q E hr e0 r hsp => ?_⟩
  have hl := len _ _ _ _ _ _ hsp
  have KX : K.In s.heap := e0.mod.kin.keeps fun b o e => (e0.bs b o e).1
  have b := hb s us KX (by rw [List.append_nil, ← r.length]; exact hl)
  rw [List.append_nil] at b
  exact LamX.run_ofS lk hcd S hr e0 b r hl fun hr' => hbody cdv A outer s H vs Q E hr' hsp
section
variable {X : Cx} {CX : CXT} {k : Nat} {g C : Addr} {ps : List Str} {sp : SpS} {E : XK} {x m : Str} {p pos apos : Pos} {o : Expr} {ta : TE}
theorem run_fns {pins : List (Addr × Obj)} {σ : L2.St} {H : Hp} {s : Shared} {Q : VK} {us : List Value} {vs : List V} (F : FnS X.prog X.w X.K X.mg X.base CX k g ps sp) (hr : Room k X.A) (hx : Passes CX X E) (I : Inv X pins σ H s) (r : Vals vs us) (h : sp X.stack s vs H Q E) :
    wpAny (model X.prog X.w) X.A (call (.ref g) us) (EP X pins σ Q) X.xe s := by
  refine wpAny_call (codeAny_mono (F.run X.A X.stack s H us vs Q E hr I.env0 r h) fun r s' hq => ?_)
  cases r with
  | error e => exact hx pins σ H s e s' I hq
  | ok fl =>
    cases fl with
    | ret u => exact I.after hq
    | next => exact False.elim hq
    | brk => exact False.elim hq
    | cont => exact False.elim hq
/-- what a lambda's making and handing on asks. spG: the callee's promise, pre: the arguments ahead (self), k2: the room of the lambda's call -/
def tLamE (G : Hp → Prop) (R : Hp → Addr → Prop) (q : Str) (P : Addr) (TT : Sp → V → Hp → VK → XK → Prop) (ps : List Str) (tb : XK → Addr → Addr → TE) (E : XK) : TE := fun σ H Q => G H ∧ TabR q R H P ∧ ∀ (f c' P' : Addr) (H1 : Hp), (∀ b o, H b = some o → b ≠ P → H1 b = some o) → TabR q R H1 P → H1 c' = some (CodeT c' q P') → P' ≠ P → R H1 P' →
  TT (fun vs HZ Q' E' => vs.length = ps.length ∧ HZ c' = some (CodeT c' q P') ∧ tb E' c' P' (stL vs σ) HZ Q') (.ref f) H1 Q E
/-- g(lambda ..: body) -/
theorem pe_callLam {G : Hp → Prop} {R : Hp → Addr → Prop} {TT : Sp → V → Hp → VK → XK → Prop} {lps : List Str} {c P : Addr} {params : Arguments} {body : Expr} {scope : Scope} {lpos : Pos} {k2 : Nat} {tb : XK → Addr → Addr → TE} (hR : TabOk R) (F : FnS X.prog X.w X.K X.mg X.base CX k g ps sp)
    (hsp : ∀ (L : List Env) (s : Shared) (H : Hp) (f : Addr) (spl : Sp) (Q : VK) (E : XK), Acts X.prog X.w X.K X.mg X.base L s H (k2 + 1) f spl → TT spl (.ref f) H Q E → sp L s [.ref f] H Q E) (hr : Room k X.A) (hx : Passes CX X E)
    (hg : Gl X x) (hm : X.mg x = some (.ref g)) (hk : PySem.W.keepIn X.K (.ref g) = true) (TB : ∀ (pins : List (Addr × Obj)) (σ : L2.St) (H : Hp) (s : Shared), Inv X pins σ H s → G H → TabR (X.env.qual ++ "<lambda>") R H P → TabH X c P s.heap) (hcode : X.env.code = .ref c) (L : LamP lps X.env.scope scope) (hdis : ∀ x ∈ X.N, x ∉ lps)
    (hdef : defaultsOf params X.env = ([], [])) (hbind : ∀ (q : Str) (cl : List (Str × Addr)) (pm cv ctv : Value) (us : List Value), us.length = lps.length → bindArgs (kla_fn "<lambda>" q params body scope cl pm cv ctv) ⟨us, []⟩ = pure (lps.zip us))
    (hbody : ∀ (A : Around) (outer : List Env) (s : Shared) (H : Hp) (E : XK) (f c' P' : Addr), Room k2 (A.deeper (LamX.lamEnv X scope s.heap.objs.size f c')) → PE (cxL X lps A outer s H E scope f c') body (tb E c' P'))
    (hdb : (x == ("__debug__" : Str)) = false := by decide) :
    PE X (.Call (.Name x p) [.Lambda params body scope lpos] [] pos) (tLamE G R (X.env.qual ++ "<lambda>") P TT lps tb E) := by
  refine ⟨fun pins s σ H Q I h => ?_⟩
  obtain ⟨hG, hT, h⟩ := h
  refine wpAny_Call_Name_kw (ld_glob I hg hm ?_ hdb)
  refine PySem.W.callWith_K (h₀ := X.base) I.ok.mod.kin hk ?_ (by rfl) (by rfl)
  show wpAny _ _ (spliced ((false, eval (.Lambda params body scope lpos) X.env) :: backTo pos (starEach [] X.env))) _ _ s
  refine Calls.spliced_cons (lam_make3 hR I (TB pins σ H s I hG hT) hcode hT hdef (L.has I.ok) fun f c' P' pm' ctv H1 s' I1 eN T1 hf hfn hfr hco hne hr1 => ?_)
  refine Calls.spliced_nil ⟨I1.kIn, ?_⟩
  show wpAny _ _ (call (.ref g) [.ref f]) _ _ _
  exact run_fns (us := [.ref f]) (vs := [.ref f]) F hr hx I1 (.cons rfl .nil) (hsp _ _ _ _ _ _ _ (acts_lam I1 L hdis hf hfn hfr (hbind _ _ _ _ _) (fun A outer s H E hr2 => hbody A outer s H E f c' P' hr2)) (h f c' P' H1 eN T1 hco hne hr1))
/-- o.m(lambda ..: body), o of an own class -/
def tMethL (C : Addr) (m : Str) (ta : TE) (t : V → TE) : TE := fun σ H Q => ta σ H fun x H1 => ∃ a dx fs, x = .ref a ∧ H1 a = some (.ins C dx fs) ∧ fs.lookup m = none ∧ t x σ H1 Q
theorem pe_methLam {G : Hp → Prop} {R : Hp → Addr → Prop} {TT : Sp → V → V → Hp → VK → XK → Prop} {lps : List Str} {c P : Addr} {params : Arguments} {body : Expr} {scope : Scope} {lpos : Pos} {k2 : Nat} {tb : XK → Addr → Addr → TE} {pl : Sem Bool} (hR : TabOk R) (he : PE X o ta) (cC : Cls X.K C) (hm : Meth X.K C m g) (F : FnS X.prog X.w X.K X.mg X.base CX k g ps sp)
    (hsp : ∀ (L : List Env) (s : Shared) (H : Hp) (f : Addr) (spl : Sp) (x : V) (Q : VK) (E : XK), Acts X.prog X.w X.K X.mg X.base L s H (k2 + 1) f spl → TT spl x (.ref f) H Q E → sp L s [x, .ref f] H Q E) (hr : Room k X.A) (hx : Passes CX X E)
    (TB : ∀ (pins : List (Addr × Obj)) (σ : L2.St) (H : Hp) (s : Shared), Inv X pins σ H s → G H → TabR (X.env.qual ++ "<lambda>") R H P → TabH X c P s.heap) (hcode : X.env.code = .ref c) (L : LamP lps X.env.scope scope) (hdis : ∀ x ∈ X.N, x ∉ lps)
    (hdef : defaultsOf params X.env = ([], [])) (hbind : ∀ (q : Str) (cl : List (Str × Addr)) (pm cv ctv : Value) (us : List Value), us.length = lps.length → bindArgs (kla_fn "<lambda>" q params body scope cl pm cv ctv) ⟨us, []⟩ = pure (lps.zip us))
    (hbody : ∀ (A : Around) (outer : List Env) (s : Shared) (H : Hp) (E : XK) (f c' P' : Addr), Room k2 (A.deeper (LamX.lamEnv X scope s.heap.objs.size f c')) → PE (cxL X lps A outer s H E scope f c') body (tb E c' P'))
    (ht : eval (.Call (.Attribute o m apos) [.Lambda params body scope lpos] [] pos) X.env = (do
      let ov ← eval o X.env
      standAt apos.atName
      let (f, first) ← holding [ov] (getMethod ov m pl)
      callWith pos f first (backTo pos (starEach [.Lambda params body scope lpos] X.env)) (backToKw pos (keywordEach [] X.env))) := by rfl) :
    PE X (.Call (.Attribute o m apos) [.Lambda params body scope lpos] [] pos) (tMethL C m ta fun x => tLamE G R (X.env.qual ++ "<lambda>") P (fun spl => TT spl x) lps tb E) := by
  refine ⟨fun pins s σ H Q I h => ?_⟩
  refine PySem.W.methodCall_KW (pl := pl) (thn (he.run pins s σ H _ I h) fun u s1 ⟨x, H1, I1, rx, a, dx, fs, ex, ea, l, hG, hT, h⟩ => ?_) ht
  subst ex
  obtain rfl : u = Value.ref a := rx
  refine getmeth_ok I1 ea cC hm l ?_
  refine PySem.W.callWith_K (first := [.ref a]) (h₀ := X.base) I.ok.mod.kin hm.kp ?_ (by rfl) (by rfl)
  show wpAny _ _ (spliced ((false, eval (.Lambda params body scope lpos) X.env) :: backTo pos (starEach [] X.env))) _ _ s1
  refine Calls.spliced_cons (lam_make3 hR I1 (TB pins σ H1 s1 I1 hG hT) hcode hT hdef (L.has I.ok) fun f c' P' pm' ctv H2 s' I2 eN T1 hf hfn hfr hco hne hr1 => ?_)
  refine Calls.spliced_nil ⟨I2.kIn, ?_⟩
  show wpAny _ _ (call (.ref g) [.ref a, .ref f]) _ _ _
  exact run_fns (us := [.ref a, .ref f]) (vs := [.ref a, .ref f]) F hr hx I2 (.cons rfl (.cons rfl .nil)) (hsp _ _ _ _ _ _ _ _ (acts_lam I2 L hdis hf hfn hfr (hbind _ _ _ _ _) (fun A outer s H E hr2 => hbody A outer s H E f c' P' hr2)) (h f c' P' H2 eN T1 hco hne hr1))
end
end Pt
end

section
set_option Elab.async false
set_option maxRecDepth 100000
set_option maxHeartbeats 3200000
namespace Pt
open PySem PySem.Spec PyProof.Rows L2
/-! ### set(..) of texts that are all different -/
section
variable {prog : Program} {w : World} {A : Around} {R : Result → Shared → Prop} {I : Addr} {fp wr : List Addr} {G : Array GenState → Array GenState → Prop} {n : Nat} {P : Nat → Value → Prop} {St : Nat → Shared → Prop}
theorem take_no {xs : List Str} (hd : xs.Nodup) {i : Nat} (hi : i < xs.length) : ((xs.take i).any (· == xs.getD i Str.empty)) = false := by
  cases hb : (xs.take i).any (· == xs.getD i Str.empty) with
  | false => rfl
  | true =>
    have e1 : xs.getD i Str.empty = xs[i] := by rw [List.getD_eq_getElem?_getD, List.getElem?_eq_getElem hi] <;> rfl
    obtain ⟨y, hy, ey⟩ := List.any_eq_true.mp hb
    have ey2 : y = xs[i] := by rw [← e1]; exact eq_of_beq ey
    rw [ey2] at hy
    obtain ⟨j, hj⟩ := List.mem_iff_getElem?.mp hy
    rw [List.getElem?_take] at hj
    by_cases hji : j < i
    · rw [if_pos hji] at hj
      obtain ⟨hjl, ej⟩ := List.getElem?_eq_some_iff.mp hj
      exact absurd ej (List.pairwise_iff_getElem.mp hd j i hjl hi hji)
    · rw [if_neg hji] at hj
      cases hj
theorem loopD (W : WalksS prog w A.in1 I fp wr G n P St) (S : Addr) (hSf : S ∉ fp) (xs : List Str) (hsz : xs.length = n) (hd : xs.Nodup) (hb : n + 1 < scanBound)
    (hval : ∀ i v, P i v → ∃ t, v = .str (xs.getD i Str.empty) t) :
    ∀ (k i : Nat) (s : Shared), n - i = k → i ≤ n → St i s →
      s.heap.SetOf (PySem.strKind prog w) S (fun k' => (xs.take i).any (· == k')) i →
      (∀ s', Moved (S :: wr) G s s' → s'.heap.SetOf (PySem.strKind prog w) S (fun k' => (xs.take n).any (· == k')) n → R (.ok (.ret .none)) s') →
      codeAny (model prog w) A (.builtin "set.update.loop" ⟨[.ref S, .ref I], []⟩) R s := by
  have hSw : S ∉ wr := fun h => hSf (W.sub _ h)
  have hsub : ∀ b ∈ wr, b ∈ S :: wr := fun b hb => List.mem_cons_of_mem _ hb
  intro k
  induction k with
  | zero =>
    intro i s hk hi hst hS hR
    have hin : i = n := by omega
    subst hin
    refine codeAny_builtin PyProof.Rows.F.entry_set_update_loop ?_
    rw [Around.under_plainId PyProof.Rows.F.plain_set_update_loop _]
    show wpAny _ A.in1 (pyNext (.ref I) >>= _) _ _ s
    refine wpAny_bind (W.done s _ _ hst fun s' hm => ?_)
    show wpAny _ A.in1 (ret Value.none) _ _ s'
    exact wpAny_pure (hR s' (hm.mono hsub) (by
      obtain ⟨o, es, ep, t, ho, rest⟩ := hS
      exact ⟨o, es, ep, t, hm.heap S _ hSw ho, rest⟩))
  | succ k ih =>
    intro i s hk hi hst hS hR
    have hlt : i < n := by omega
    refine codeAny_builtin PyProof.Rows.F.entry_set_update_loop ?_
    rw [Around.under_plainId PyProof.Rows.F.plain_set_update_loop _]
    show wpAny _ A.in1 (pyNext (.ref I) >>= _) _ _ s
    refine wpAny_bind (W.item i s _ _ hlt hst fun v s' hP hst' hm => ?_)
    obtain ⟨t, rfl⟩ := hval i v hP
    have hS' : s'.heap.SetOf (PySem.strKind prog w) S (fun k' => (xs.take i).any (· == k')) i := by
      obtain ⟨o, es, ep, tb, ho, rest⟩ := hS
      exact ⟨o, es, ep, tb, hm.heap S _ hSw ho, rest⟩
    show wpAny _ A.in1 (holding [Value.str (xs.getD i Str.empty) t] (setAdd S (.str (xs.getD i Str.empty) t)) >>= _) _ _ s'
    refine wpAny_bind (wpAny_holding ?_)
    unfold setAdd
    refine wpAny_holding ?_
    refine wpAny_bind ((PySem.strKind prog w).pyHash (k := xs.getD i Str.empty) (strKind_is _ _ _ _) ?_)
    refine wpAny_setAddHashed_of (knd := PySem.strKind prog w) (s := { s' with toks := s'.toks + 1 }) (strKind_is _ _ _ _) rfl hS' (by omega) fun h' hsb hS2 => ?_
    have hil : i < xs.length := by omega
    have no := take_no hd hil
    have e1 : xs.getD i Str.empty = xs[i] := by rw [List.getD_eq_getElem?_getD, List.getElem?_eq_getElem hil] <;> rfl
    have e2 : xs.take (i + 1) = xs.take i ++ [xs[i]] := by rw [List.take_add_one, List.getElem?_eq_getElem hil] <;> rfl
    have hSi : h'.SetOf (PySem.strKind prog w) S (fun k' => (xs.take (i + 1)).any (· == k')) (i + 1) := by
      refine SetOf_congr hS2 (fun k' => ?_) (by rw [no]; rfl)
      rw [e2, List.any_append, ← e1]
      show _ = ((xs.take i).any (· == k') || ([xs.getD i Str.empty].any (· == k')))
      congr 1
      by_cases e : k' = xs.getD i Str.empty
      · simp [e]
      · have hb : (xs.getD i Str.empty == k') = false := by simpa [beq_iff_eq] using (fun h' : xs.getD i Str.empty = k' => e h'.symm)
        rw [List.any_cons, List.any_nil, hb]
        exact decide_eq_false e
    refine wpAny_pure ⟨plainId_quiet PyProof.Rows.F.plain_set_update_loop _, ih (i + 1) _ (by omega) hlt (W.frame _ s' _ _ hst' (Nat.le_succ _) fun b hb o e => ?_) hSi fun s'' hm'' hS'' => ?_⟩
    · rw [hsb.2 b (fun h : b = S => hSf (by rw [← h]; exact hb))]; exact e
    · refine hR s'' (Moved.trans W.gtrans ((hm.mono hsub).then_heap (Nat.le_succ _) fun b o hb e => ?_) hm'') hS''
      rw [hsb.2 b (fun h : b = S => hb (by rw [h]; exact List.mem_cons_self))]; exact e
end
abbrev freshSet (led : Bool) : Obj := { cls := .type "set", dict := none, data := .set #[] 0 (.fresh 0 0 led) }
section
variable {prog : Program} {w : World} {A : Around} {E : Value → Shared → Prop} {s : Shared}
/-- what the iterator and the loop do for the new set -/
theorem upd_of {xs : List Str} {led : Bool} {Q : Unit → Shared → Prop} {fp wr : List Addr} {n : Nat} {P : Nat → Value → Prop} {St : Nat → Heap → Prop} {I : Addr} {h1 : Heap}
    (W : Walks prog w A.in1 I fp wr n P St) (hst : St 0 h1) (hsz : xs.length = n) (hd : xs.Nodup) (hb : xs.length + 1 < scanBound) (hval : ∀ i v, P i v → ∃ t, v = .str (xs.getD i Str.empty) t)
    (hS : h1.get? s.heap.objs.size = some (freshSet led)) (hSf : s.heap.objs.size ∉ fp) (hwr : ∀ b ∈ wr, s.heap.objs.size ≤ b) (hk : ∀ b o, s.heap.get? b = some o → h1.get? b = some o)
    (h : ∀ (h' : Heap) (tk : Nat), h'.SetOf (PySem.strKind prog w) s.heap.objs.size (fun k' => (xs.take xs.length).any (· == k')) xs.length → (∀ b o, b < s.heap.objs.size → s.heap.get? b = some o → h'.get? b = some o) → Q () { s with heap := h', toks := tk }) :
    wpAny (model prog w) A (do let _ ← runValue (.builtin "set.update.loop" ⟨[.ref s.heap.objs.size, .ref I], []⟩)) Q E { s with heap := h1 } := by
  refine wpAny_bind (wpAny_runValue ?_)
  refine loopD (W.toS) s.heap.objs.size hSf xs hsz hd (by rw [← hsz]; exact hb) hval (n - 0) 0 _ (by omega) (Nat.zero_le _) hst ?_ ?_
  · exact PyProof.Rows.SetOf_congr ((PyProof.Rows.setObjOf_fresh (knd := PySem.strKind prog w) led).setOf hS (by unfold scanBound; omega)) (fun _ => rfl) rfl
  · intro s' hm hS'
    obtain ⟨h', g', d', tk', os'⟩ := s'
    have eg : g' = s.gens := hm.gens
    have ed : d' = s.drawn := hm.drawn
    have eo : os' = s.os := hm.os
    subst eg; subst ed; subst eo
    refine wpAny_pure (h _ _ (by rw [hsz]; exact hS') fun b o hb e => ?_)
    have hb1 : b ≠ s.heap.objs.size := Nat.ne_of_lt hb
    exact hm.heap b o (fun hm => (List.mem_cons.mp hm).elim hb1 fun z => absurd (hwr b z) (by omega)) (hk _ _ e)
theorem set_src {src : Value} {xs : List Str} {Q : Value → Shared → Prop}
    (hU : ∀ (B : Around) (led : Bool) (Q : Unit → Shared → Prop), B.handled = A.handled → (∀ (h' : Heap) (tk : Nat), h'.SetOf (PySem.strKind prog w) s.heap.objs.size (fun k' => (xs.take xs.length).any (· == k')) xs.length → (∀ b o, b < s.heap.objs.size → s.heap.get? b = some o → h'.get? b = some o) → Q () { s with heap := h', toks := tk }) →
      wpAny (model prog w) B (Builtin.Frozenset.updateFrom "set.__init__" s.heap.objs.size src) Q E { s with heap := s.heap.push (freshSet led) })
    (h : ∀ (h' : Heap) (tk : Nat), h'.SetOf (PySem.strKind prog w) s.heap.objs.size (fun k' => (xs.take xs.length).any (· == k')) xs.length → (∀ b o, b < s.heap.objs.size → s.heap.get? b = some o → h'.get? b = some o) → Q (.ref s.heap.objs.size) { s with heap := h', toks := tk }) :
    wpAny (model prog w) A (call (.type "set") [src]) Q E s := by
  obtain ⟨c, tl, hmro⟩ := PySem.F.called_set.mro
  have hmade := PySem.F.called_set.made
  have hsub := PySem.F.called_set.sub
  refine wpAny_call (codeAny_of_tree ?_)
  show wpAny _ _ (callAny (.type "set") _) _ _ _
  refine wpAny_pure ⟨Code.quiet_builtin _ (by decide +kernel), codeAny_builtin PySem.F.entry_type_call ?_⟩
  rw [Around.under_plain (weight_type_call_type "set" [src] []) rfl]
  have h1 := PySem.F.called_set.notType
  have h2 := PySem.F.called_set.canCreate
  have hct := PySem.F.typeCall_set_1 src
  repeat (any_goals (first | assumption | wp_step))
  refine codeAny_mono (code_set_new_1 src (E := E) (Q₁ := fun obj s₁ => ∃ led : Bool, obj = .ref s.heap.objs.size ∧ s₁ = { s with heap := s.heap.push (freshSet led) }) fun led => ⟨led, rfl, rfl⟩) fun r s₁ hr => ?_
  cases r with
  | error e => exact hr
  | ok fl =>
    cases fl with
    | ret obj =>
      obtain ⟨led, rfl, rfl⟩ := hr
      have hS : (s.heap.push (freshSet led)).get? s.heap.objs.size = some (freshSet led) := Heap.get?_push_size _ rfl
      have hT : Shared.TypeIs { s with heap := s.heap.push (freshSet led) } (.ref s.heap.objs.size) "set" := ⟨_, hS, rfl⟩
      have hli := PySem.F.called_set.init.lookup
      have hbi := PySem.F.called_set.init.bind (.ref s.heap.objs.size)
      repeat (any_goals (first | assumption | wp_step))
      refine codeAny_mono (codeAny_call_builtin (R := wants (fun r s₂ => r = .none ∧ ∃ h' tk, s₂ = { s with heap := h', toks := tk } ∧
          h'.SetOf (PySem.strKind prog w) s.heap.objs.size (fun k' => (xs.take xs.length).any (· == k')) xs.length ∧
          (∀ b o, b < s.heap.objs.size → s.heap.get? b = some o → h'.get? b = some o)) E) PySem.F.called_set.init.plain PySem.F.entry_set_init (check_set_init_1 hT ?_)) fun r₂ s₂ hr₂ => ?_
      · unfold Builtin.«set.__init__» noKeywords
        generalize hPI : Builtin.Frozenset.updateFrom = PI
        wp_walk
        subst hPI
        exact hU _ led _ (by simp) fun h' tk hS' hk' => wpAny_pure ⟨rfl, h', tk, rfl, hS', hk'⟩
      · cases r₂ with
        | error e => exact hr₂
        | ok fl₂ =>
          cases fl₂ with
          | ret r =>
            obtain ⟨rfl, h', tk, rfl, hS', hk'⟩ := hr₂
            repeat (any_goals (first | assumption | wp_step))
            exact h _ _ hS' hk'
          | _ => exact hr₂.elim
    | _ => exact hr.elim
theorem setOfList {l : Addr} {items : Array Value} {xs : List Str} {Q : Value → Shared → Prop} (hh : A.handled = none) (hl : s.heap.IsList l items) (hi : PyProof.Rows.StrsAre items.toList xs) (hd : xs.Nodup) (hb : xs.length + 1 < scanBound)
    (h : ∀ (h' : Heap) (tk : Nat), h'.SetOf (PySem.strKind prog w) s.heap.objs.size (fun k' => (xs.take xs.length).any (· == k')) xs.length → (∀ b o, b < s.heap.objs.size → s.heap.get? b = some o → h'.get? b = some o) → Q (.ref s.heap.objs.size) { s with heap := h', toks := tk }) :
    wpAny (model prog w) A (call (.type "set") [.ref l]) Q E s := by
  refine set_src (fun B led Q hB hQ => ?_) h
  obtain ⟨ol, hol, hcl, nl, hdl⟩ := hl
  obtain ⟨ocls, odict, odata, oslots⟩ := ol
  simp only at hcl hdl
  subst hcl; subst hdl
  have hS : (s.heap.push (freshSet led)).get? s.heap.objs.size = some (freshSet led) := Heap.get?_push_size _ rfl
  have hol' : (s.heap.push (freshSet led)).get? l = some { cls := .type "list", dict := odict, data := .seq items nl, slots := oslots } := Heap.get?_push_of_some _ hol
  have hsls := PySem.F.sub_list_set
  have hslf := PySem.F.sub_list_frozenset
  have hne : (Value.type "list" == Value.type "dict") = false := by decide
  have hl1 : (s.heap.push (freshSet led)).IsList l items := ⟨_, hol', rfl, nl, rfl⟩
  unfold Builtin.Frozenset.updateFrom
  generalize hPI : pyIter = PI
  wp_walk
  subst hPI
  refine wpAny_pyIter_list hl1 ?_
  have hlS : l < s.heap.objs.size := Heap.lt_size hol
  have hneI : l ≠ (s.heap.push (freshSet led)).objs.size := by
    rw [Heap.size_push]; exact Nat.ne_of_lt (Nat.lt_succ_of_lt hlS)
  have hSf : s.heap.objs.size ∉ [(s.heap.push (freshSet led)).objs.size, l] := by
    rw [Heap.size_push]; simp only [List.mem_cons, List.mem_singleton, List.not_mem_nil, or_false, not_or]
    exact ⟨Nat.ne_of_lt (Nat.lt_succ_self _), Nat.ne_of_gt hlS⟩
  have hsz : xs.length = items.size := by rw [← StrsAre.len_eq hi, Array.length_toList]
  have hval : ∀ (i : Nat) (v : Value), items[i]? = some v → ∃ t, v = .str (xs.getD i Str.empty) t := fun i v hv => SS.strs_at hi i v (by rw [Array.getElem?_toList]; exact hv)
  have W := Walks.list (prog := prog) (w := w) (A := B.in1) (by simp [hB, hh]) (s.heap.push (freshSet led)).objs.size l hneI items
  exact upd_of W ⟨⟨_, Heap.get?_push_size _ rfl, rfl, rfl⟩, (hl1.push _)⟩ hsz hd hb hval (Heap.get?_push_of_some _ hS) hSf (fun b hb => by
    have e : b = (s.heap.push (freshSet led)).objs.size := by simpa using hb
    rw [e, Heap.size_push]; omega) (fun b o e => Heap.get?_push_of_some _ (Heap.get?_push_of_some _ e)) hQ
theorem setOfText {z : Str} {t : Tok} {Q : Value → Shared → Prop} (hh : A.handled = none) (hd : (signs z).Nodup) (hb : (signs z).length + 1 < scanBound)
    (h : ∀ (h' : Heap) (tk : Nat), h'.SetOf (PySem.strKind prog w) s.heap.objs.size (fun k' => ((signs z).take (signs z).length).any (· == k')) (signs z).length → (∀ b o, b < s.heap.objs.size → s.heap.get? b = some o → h'.get? b = some o) → Q (.ref s.heap.objs.size) { s with heap := h', toks := tk }) :
    wpAny (model prog w) A (call (.type "set") [.str z t]) Q E s := by
  refine set_src (fun B led Q hB hQ => ?_) h
  have hS : (s.heap.push (freshSet led)).get? s.heap.objs.size = some (freshSet led) := Heap.get?_push_size _ rfl
  have hsls := PySem.F.sub_str_set
  have hslf := PySem.F.sub_str_frozenset
  have hne : (Value.type "str" == Value.type "dict") = false := by decide
  unfold Builtin.Frozenset.updateFrom
  generalize hPI : pyIter = PI
  wp_walk
  subst hPI
  have hsz : (s.heap.push (freshSet led)).objs.size = s.heap.objs.size + 1 := Heap.size_push ..
  have hSf : s.heap.objs.size ∉ [(s.heap.push (freshSet led)).objs.size] := by
    rw [hsz]; simp
  have hval : ∀ (i : Nat) (v : Value), SignAt z i v → ∃ t, v = .str ((signs z).getD i Str.empty) t := fun i v ⟨c, u, e1, e2⟩ => ⟨u, by
    rw [e2, List.getD_eq_getElem?_getD, signs_get, e1]; rfl⟩
  have hwr : ∀ b ∈ [(s.heap.push (freshSet led)).objs.size], s.heap.objs.size ≤ b := fun b hb => by
    have e : b = (s.heap.push (freshSet led)).objs.size := by simpa using hb
    rw [e, hsz]; omega
  have kp : ∀ (o' : Obj) b o, s.heap.get? b = some o → ((s.heap.push (freshSet led)).push o').get? b = some o := fun o' b o e => Heap.get?_push_of_some _ (Heap.get?_push_of_some _ e)
  have h3 : B.in1.handled = none := by simp [hB, hh]
  cases ha : z.cps.all (· < 128)
  · refine wpAny_pyIter_wide ha ?_
    exact upd_of (Walks.strWide (prog := prog) (w := w) (A := B.in1) h3 (s.heap.push (freshSet led)).objs.size z t) ⟨_, Heap.get?_push_size _ rfl, rfl, rfl⟩ (signs_length z) hd hb hval (Heap.get?_push_of_some _ hS) hSf hwr (kp _) hQ
  · refine wpAny_pyIter_ascii ha ?_
    exact upd_of (Walks.strAscii (prog := prog) (w := w) (A := B.in1) h3 (s.heap.push (freshSet led)).objs.size z t) ⟨_, Heap.get?_push_size _ rfl, rfl, rfl⟩ (signs_length z) hd hb hval (Heap.get?_push_of_some _ hS) hSf hwr (kp _) hQ
end
/-! ### len(set(..)) -/
/-- of a text, of a list of texts: all different -/
def tLenSetD (K : PySem.W.Frag) (ta : TE) : TE := fun σ H Q => ta σ H fun x H1 => (∃ z : Str, x = .str z ∧ (signs z).Nodup ∧ z.cps.size ≤ 1000 ∧ Q (.int z.cps.size) H1) ∨
  ∃ (l : Addr) (xs : List Str), x = .ref l ∧ SqL K H1 l (xs.map V.str) ∧ xs.Nodup ∧ xs.length ≤ 1000 ∧ Q (.int xs.length) H1
theorem pe_lenSetD {X : Cx} {a : Expr} {ta : TE} {p p2 q pos : Pos} (hc : X.calm = true) (hg : Gl X "len") (hm : X.mg "len" = none) (hg2 : Gl X "set") (hm2 : X.mg "set" = none) (ha : PE X a ta)
    (na : starEach [a] X.env = (false, eval a X.env) :: starEach [] X.env := by rfl) : PE X (.Call (.Name "len" p) [.Call (.Name "set" p2) [a] [] q] [] pos) (tLenSetD X.K ta) := by
  refine ⟨fun pins s σ H Q I h => ?_⟩
  refine Call_ (ld_blt I hg hm boot_len ?_)
  refine PyProof.Rows.callWith_builtin1 (PyProof.Rows.args_cons ?_ rfl) rfl rfl
  refine Call_ (ld_blt I hg2 hm2 boot_set ?_)
  refine PyProof.Rows.callWith_type1 (PyProof.Rows.args_cons (thn (ha.run pins s σ H _ I h) fun v s1 ⟨x, H1, I1, r1, q1⟩ => PyProof.Rows.args_nil ?_) na) na rfl
  have fin : ∀ (xs : List Str), xs.length ≤ 1000 → Q (.int xs.length) H1 → ∀ (h' : Heap) (tk : Nat), h'.SetOf (PySem.strKind X.prog X.w) s1.heap.objs.size (fun k' => (xs.take xs.length).any (· == k')) xs.length →
      (∀ b o, b < s1.heap.objs.size → s1.heap.get? b = some o → h'.get? b = some o) →
      wpAny (model X.prog X.w) X.A (spliced (backTo pos (starEach [] X.env))) (fun vs s₂ => wpAny (model X.prog X.w) X.A (call (.builtin "len") (Value.ref s1.heap.objs.size :: vs)) (EP X pins σ Q) X.xe s₂) X.xe { s1 with heap := h', toks := tk } := fun xs hl q h' tk hS hk => by
    refine PyProof.Rows.args_nil ?_
    obtain ⟨o, es, ep, t, ho, hex, hd, _, _, _, hf, hn⟩ := hS
    have I2 : Inv X pins σ H1 { s1 with heap := h', toks := tk } := I1.kept fun b o e => hk b o (Heap.lt_size e) e
    exact call_len_set ho hex hd hf (by rw [hn] <;> omega) ⟨.int xs.length, H1, I2.tok _, ⟨_, by rw [hn]⟩, q⟩
  rcases q1 with ⟨z, rfl, hd, hl, q⟩ | ⟨l, xs, rfl, hq, hd, hl, q⟩
  · obtain ⟨t, rfl⟩ := r1
    have hz : (signs z).length = z.cps.size := signs_length z
    refine setOfText (I1.ok.hd hc) hd (by rw [hz]; unfold scanBound; omega) fun h' tk hS hk => fin (signs z) (by rw [hz]; exact hl) (by rw [hz]; exact q) h' tk hS hk
  · cases r1
    obtain ⟨its, r, pl, hz⟩ := I1.list hq
    exact setOfList (I1.ok.hd hc) pl.isList (by simpa using strsAre_of r) hd (by unfold scanBound; omega) fun h' tk hS hk => fin xs hl q h' tk hS hk
end Pt
end

section
set_option Elab.async false
set_option maxRecDepth 100000
set_option maxHeartbeats 3200000
namespace Pt
open PySem PySem.Spec PyProof.Rows L2
/-! ### for i, c in enumerate(text) -/
def Ites (z : Str) : It :=
  ⟨fun i _ => i < z.cps.size, fun i H v H' => ∃ T c, v = .ref T ∧ H T = none ∧ z.cps[i]? = some c ∧ H' = upd H T (.tup [.int (i : Nat), .str ⟨#[c]⟩]), fun i _ => i = z.cps.size⟩
theorem walk_enumS {z : Str} : Walk (Ites z) z.cps.size (fun _ => True) (fun i H v H' => ∃ T c, v = .ref T ∧ H T = none ∧ z.cps[i]? = some c ∧ H' = upd H T (.tup [.int (i : Nat), .str ⟨#[c]⟩])) :=
  ⟨fun _ _ hi _ => hi, fun _ _ => rfl, fun _ _ _ _ _ _ y => y⟩
theorem draws_txt {prog : Program} {w : World} {A : Around} (hh : A.handled = none) (it : Addr) (x : Str) (t : Tok) {ty : String} (hty : ty = "str_ascii_iterator" ∨ ty = "str_iterator") :
    Draws prog w A it [it] x.cps.size (fun i v => ∃ c u, x.cps[i]? = some c ∧ v = .str ⟨#[c]⟩ u) (fun i h => h.IsStrIter it ty x t i) := by
  rcases hty with e | e
  · rw [e]; exact Draws.strAscii hh it x t
  · rw [e]; exact Draws.strWide hh it x t
theorem turn_enumS {P : Program} {w : World} {K : PySem.W.Frag} {elts : List Expr} {kk : Nat} {tpos : Pos} (z : Str) (t : Tok) (ty : String) (hty : ty = "str_ascii_iterator" ∨ ty = "str_iterator") (e it : Addr) :
    Turn P w K (.Tuple elts kk tpos) (Ites z) [e, it] e (fun i h => (∃ old, IsEnum h e it ((i : Nat) : Int) old) ∧ h.IsStrIter it ty z t i ∧ e ≠ it) where
  mem := by simp
  obj := fun i h st b hb => by
    obtain ⟨⟨old, he⟩, ⟨o, ho, hc, hd⟩, _⟩ := st
    have e' : b = e ∨ b = it := by simpa using hb
    rcases e' with z | z
    · rw [z]; exact ⟨_, he, fun v q => nomatch q⟩
    · rw [z]; exact ⟨o, ho, fun v q => by rw [hd] at q; cases q⟩
  keep := fun i h h' st k => let ⟨⟨old, he⟩, ⟨o, ho, r⟩, hne⟩ := st; ⟨⟨old, k e (by simp) _ he⟩, ⟨o, k it (by simp) o ho, r⟩, hne⟩
  item := by
    intro X hP hw hK hc i pins s σ H E I hf st hg
    subst hP hw hK
    obtain ⟨⟨old, he⟩, hit, hne⟩ := st
    have hel : e < s.heap.objs.size := Heap.lt_size he
    have hil : it < s.heap.objs.size := by obtain ⟨_, q, _⟩ := hit; exact Heap.lt_size q
    refine wpAny_pyNext_enum_itemD (draws_txt (by show X.A.in1.handled = none; exact I.ok.hd hc) it z t hty) he hit hg hne (by simpa using hne) fun x h' tk hP ho hit' hT hsz hk => ?_
    obtain ⟨c, u, hcx, rfl⟩ := hP
    refine ⟨_, rfl, wpAny_letOwnedTupleGo_enum (s := { s with heap := h', toks := tk + 1 }) ho fun h'' he' sb => ?_⟩
    have hT2 : h''.get? s.heap.objs.size = some { cls := .type "tuple", data := .seq #[.int i tk, .str ⟨#[c]⟩ u] } := (sb.2 _ (Nat.ne_of_gt hel)).trans hT
    have new : ObjOk X.prog X.w (upd H s.heap.objs.size (.tup [.int (i : Nat), .str ⟨#[c]⟩])) h'' s.heap.objs.size (.tup [.int (i : Nat), .str ⟨#[c]⟩]) :=
      ⟨by show 2 ≤ sizeLine; decide, [.int i tk, .str ⟨#[c]⟩ u], .cons ⟨_, rfl⟩ (.cons ⟨_, rfl⟩ .nil), ⟨_, hT2, rfl, _, rfl⟩⟩
    have I1 : Inv X pins σ (upd H s.heap.objs.size (.tup [.int (i : Nat), .str ⟨#[c]⟩])) { s with heap := h'', toks := tk + 1 } :=
      I.turnedNew (ch := [e, it]) (fun b ob hb q => (sb.2 b (fun z => hb (by simp [z]))).trans (hk b ob (fun z => hb (by simp [z])) (fun z => hb (by simp [z])) q)) hf (Nat.le_refl _) new
    refine ⟨.ref s.heap.objs.size, _, I1, rfl, ⟨_, c, rfl, I.hok.fresh (Nat.le_refl _), hcx, rfl⟩, ⟨⟨.str ⟨#[c]⟩ u, ?_⟩, ?_, hne⟩, fun b hb => ?_⟩
    · have e1 : ((i + 1 : Nat) : Int) = (i : Int) + 1 := by omega
      rw [e1]; exact he'
    · obtain ⟨o, ho2, r⟩ := hit'
      exact ⟨o, (sb.2 it (Ne.symm hne)).trans ho2, r⟩
    · have hb' : b < s.heap.objs.size := by
        have e' : b = e ∨ b = it := by simpa using hb
        rcases e' with z | z
        · rw [z]; exact hel
        · rw [z]; exact hil
      rw [upd_ne (Nat.ne_of_lt hb')]
      exact (hf b hb).1
  done := by
    intro X hP hw hK hc i pins s σ H E I hf st hg
    subst hP hw hK
    obtain ⟨⟨old, he⟩, hit, hne⟩ := st
    have hg : i = z.cps.size := hg
    subst hg
    obtain ⟨f0, f1, f2, f3, f4, f5⟩ := hf it (by simp)
    exact wpAny_pyNext_enum_endD (draws_txt (by show X.A.in1.handled = none; exact I.ok.hd hc) it z t hty) he hit fun h' eb => ⟨rfl, I.turned (t' := s.toks) (fun b o hb q => eb b o hb q) f0 f1 f3 f4 f5⟩
  self := fun A i s Q E st h => let ⟨⟨_, he⟩, _⟩ := st; wpAny_pyIter_enum he h
def iEnumS (ta : TA) : TI := fun σ H R => ta σ H fun vs H1 => ∃ z, vs = [.str z] ∧ R (Ites z) H1
theorem pi_enumS {X : Cx} {e : Expr} {ta : TA} {p pos tpos : Pos} {elts : List Expr} {kk : Nat} (hg : Gl X "enumerate") (hm : X.mg "enumerate" = none) (ha : PA X [e] ta) (hs : starEach [e] X.env = [(false, eval e X.env)] := by rfl) :
    PI X (.Tuple elts kk tpos) (.Call (.Name "enumerate" p) [e] [] pos) (iEnumS ta) := by
  refine ⟨fun pins s σ H R I h => ?_⟩
  refine Call_ (ld_blt I hg hm boot_enumerate (PyProof.Rows.callWith_type1 (thn (ha.run pos pins s σ H _ I h) fun us s1 ⟨vs, H1, I1, r1, q1⟩ => ?_) hs rfl))
  obtain ⟨z, ex, q⟩ := q1
  subst ex
  cases r1 with
  | cons r rr =>
    cases rr
    obtain ⟨t, rfl⟩ := r
    refine call_enumerate_str fun h' he hit hsz hk => wpAny_pyIter_enum he ?_
    have I2 : Inv X pins σ H1 { s1 with heap := h' } := I1.kept (t' := s1.toks) hk
    have hty : strIterType z = "str_ascii_iterator" ∨ strIterType z = "str_iterator" := by
      unfold strIterType
      split
      · exact .inl rfl
      · exact .inr rfl
    refine ⟨s1.heap.objs.size + 1, [s1.heap.objs.size + 1, s1.heap.objs.size], _, _, H1, rfl, I2, turn_enumS z t (strIterType z) hty (s1.heap.objs.size + 1) s1.heap.objs.size, ⟨⟨.none, he⟩, hit, Nat.succ_ne_self _⟩, fun b hb => ?_, q⟩
    have e' : b = s1.heap.objs.size + 1 ∨ b = s1.heap.objs.size := by simpa using hb
    have hle : s1.heap.objs.size ≤ b := by
      rcases e' with z | z
      · rw [z]; exact Nat.le_add_right _ _
      · rw [z]; exact Nat.le_refl _
    exact I1.fpOk hle (I1.hok.fresh hle)
end Pt
end

section
set_option Elab.async false
set_option maxRecDepth 100000
set_option maxHeartbeats 3200000
namespace Pt
open PySem PySem.Spec PyProof.Rows L2
open AutoSeq1 (wpAny_loadPart')
/-! ### ==, != of an instance of an own class that has none of its own: with itself, with a text -/
theorem str_eq_declines (b : Str) (u : Tok) (l C dx : Addr) :
    Meets (Builtin.«str.__eq__» ⟨[.str b u, .ref l], []⟩) (fun _ R s => s.heap.get? l = some (PySem.W.instObj C dx) ∧ R (.ok (.ret .notImplemented)) s) :=
  .of_wp fun prog w A R s h => by obtain ⟨hp, g, d, tk, os⟩ := s; obtain ⟨hl, h⟩ := h; wp_walk using wpAny_loadPart' hl, wpAny_load hl; exact ⟨_, rfl, h⟩
theorem str_ne_declines (b : Str) (u : Tok) (l C dx : Addr) :
    Meets (Builtin.«str.__ne__» ⟨[.str b u, .ref l], []⟩) (fun _ R s => s.heap.get? l = some (PySem.W.instObj C dx) ∧ R (.ok (.ret .notImplemented)) s) :=
  .of_wp fun prog w A R s h => by obtain ⟨hp, g, d, tk, os⟩ := s; obtain ⟨hl, h⟩ := h; wp_walk using wpAny_loadPart' hl, wpAny_load hl; exact ⟨_, rfl, h⟩
/-- what the class must have -/
structure CmpC (K : PySem.W.Frag) (C : Addr) : Prop where
  eq : PySem.W.findIn K (.ref C) "__eq__" = some (some (.builtin "object.__eq__"))
  ne : PySem.W.findIn K (.ref C) "__ne__" = some (some (.builtin "object.__ne__"))
  ob : PySem.W.mroIn K C (.type "object") = some true
section
variable {M : Model} {prog : Program} {w : World} {A : Around} {E : Value → Shared → Prop} {s : Shared} {K : PySem.W.Frag} {x C : Addr} {ox : Obj} {od : Option Obj}
theorem ifb_plain {name : Str} {id : String} {args : List Value} {Q : Option Value → Shared → Prop} (X : K.In s.heap) (I : PySem.W.InstAt s.heap x ox C od) (hs : PySem.W.findIn K (.ref C) name = some (some (.builtin id))) (hb : ∀ self, bindSpecial (.builtin id) self = pure (.builtin id, [self]))
    (h : wpAny M A (call (.builtin id) (.ref x :: args)) (fun v => Q (some v)) E s) : wpAny M A (callSpecialIfBound? (.ref x) name args) Q E s := by
  simp only [callSpecialIfBound?, bindSpecialIfBound?]
  refine wpAny_holding (wpAny_bind (wpAny_bind (wpAny_bind (I.type.here ((PySem.W.looks_findIn X hs).here ?_)))))
  refine wpAny_bind (wpAny_askSetting (wpAny_ite ?_))
  have fin : wpAny M A (call (.builtin id) ([.ref x] ++ args) >>= fun v => pure (some v)) Q E s := wpAny_bind (wpAny_mono h (fun v s' h' => wpAny_pure h') fun _ _ h' => h')
  split
  · exact wpAny_bind (wpAny_of_eq (hb _) (wpAny_pure (by exact fin)))
  · exact wpAny_tryCatch (wpAny_bind (wpAny_of_eq (hb _) (wpAny_pure (by exact fin))))
theorem same_self {R : Bool → Shared → Prop} (h : R true s) : wpAny M A (isSame (.ref x) (.ref x)) R E s := by
  unfold isSame
  wp_walk
  exact h
theorem same_txt {z : Str} {t : Tok} {R : Bool → Shared → Prop} (h : R false s) : wpAny M A (isSame (.ref x) (.str z t)) R E s := wpAny_of_eq (rfl : isSame (.ref x) (.str z t) = pure false) h
theorem entryEq_self {Q : Fin → Shared → Prop} (hq : Q (.done (.ret (.bool true))) s) : wpAny M A (Builtin.«object.__eq__» ⟨[.ref x, .ref x], []⟩) Q E s := by
  unfold Builtin.«object.__eq__»
  repeat (first | with_reducible refine same_self ?_ | wp_step)
  exact hq
theorem entryEq_txt {z : Str} {t : Tok} {Q : Fin → Shared → Prop} (hq : Q (.done (.ret .notImplemented)) s) : wpAny M A (Builtin.«object.__eq__» ⟨[.ref x, .str z t], []⟩) Q E s := by
  unfold Builtin.«object.__eq__»
  repeat (first | with_reducible refine same_txt ?_ | wp_step)
  exact hq
theorem callEq {v r : Value} {Q : Value → Shared → Prop} (X : K.In s.heap) (I : PySem.W.InstAt s.heap x ox C od) (c : CmpC K C) (he : ∀ (A : Around) (R : Fin → Shared → Prop) (E : Value → Shared → Prop), R (.done (.ret r)) s → wpAny (model prog w) A (Builtin.«object.__eq__» ⟨[.ref x, v], []⟩) R E s) (hq : Q r s) :
    wpAny (model prog w) A (call (.builtin "object.__eq__") [.ref x, v]) Q E s :=
  wpAny_call (codeAny_call_builtin F.cmp_object.eq.plain F.cmpEntry_eq (PySem.W.check_slot F.cmpKind_eq F.cmpSplit_eq (I.type.andThen (PySem.W.looks_mroIn X c.ob)) (F.cmpArgs_eq _ _) (he _ _ _ hq)))
theorem boundEq {v r : Value} {Q : Option Value → Shared → Prop} (X : K.In s.heap) (I : PySem.W.InstAt s.heap x ox C od) (c : CmpC K C) (he : ∀ (A : Around) (R : Fin → Shared → Prop) (E : Value → Shared → Prop), R (.done (.ret r)) s → wpAny (model prog w) A (Builtin.«object.__eq__» ⟨[.ref x, v], []⟩) R E s) (hq : Q (some r) s) :
    wpAny (model prog w) A (callSpecialIfBound? (.ref x) "__eq__" [v]) Q E s :=
  ifb_plain X I c.eq (fun _ => F.cmp_object.eq.bind _) (callEq X I c he hq)
theorem callNe {v r r' : Value} {Q : Value → Shared → Prop} (hu : A.units + 1 < cLine) (X : K.In s.heap) (I : PySem.W.InstAt s.heap x ox C od) (c : CmpC K C) (he : ∀ (A : Around) (R : Fin → Shared → Prop) (E : Value → Shared → Prop), R (.done (.ret r)) s → wpAny (model prog w) A (Builtin.«object.__eq__» ⟨[.ref x, v], []⟩) R E s)
    (hr : (r = .notImplemented ∧ r' = .notImplemented) ∨ ∃ b, r = .bool b ∧ r' = .bool (!b)) (hq : Q r' s) : wpAny (model prog w) A (call (.builtin "object.__ne__") [.ref x, v]) Q E s := by
  refine wpAny_call (codeAny_call_builtin F.cmp_object.ne.plain F.cmpEntry_ne (PySem.W.check_slot F.cmpKind_ne F.cmpSplit_ne (I.type.andThen (PySem.W.looks_mroIn X c.ob)) (F.cmpArgs_ne _ _) ?_))
  have hu' : A.in1.units < cLine := by show A.units + 1 < cLine; exact hu
  unfold Builtin.«object.__ne__»
  rcases hr with ⟨rfl, rfl⟩ | ⟨b, rfl, rfl⟩
  · repeat (first | with_reducible refine wpAny_cRoomFor hu' ?_ | with_reducible refine boundEq X I c he ?_ | wp_step)
    exact hq
  · repeat (first | with_reducible refine wpAny_cRoomFor hu' ?_ | with_reducible refine boundEq X I c he ?_ | wp_step)
    exact hq
theorem tryNe {v r r' : Value} {Q : Option Value → Shared → Prop} (hu : A.units + 1 < cLine) (X : K.In s.heap) (I : PySem.W.InstAt s.heap x ox C od) (c : CmpC K C) (he : ∀ (A : Around) (R : Fin → Shared → Prop) (E : Value → Shared → Prop), R (.done (.ret r)) s → wpAny (model prog w) A (Builtin.«object.__eq__» ⟨[.ref x, v], []⟩) R E s)
    (hr : (r = .notImplemented ∧ r' = .notImplemented) ∨ ∃ b, r = .bool b ∧ r' = .bool (!b)) (hq : Q (match r' with | .notImplemented => none | v => some v) s) : wpAny (model prog w) A (tryCompare (.ref x) "__ne__" v) Q E s := by
  unfold tryCompare
  refine wpAny_bind (ifb_plain X I c.ne (fun _ => F.cmp_object.ne.bind _) (callNe hu X I c he hr ?_))
  rcases hr with ⟨rfl, rfl⟩ | ⟨b, rfl, rfl⟩ <;> exact wpAny_pure hq
theorem tryEq {v r : Value} {Q : Option Value → Shared → Prop} (X : K.In s.heap) (I : PySem.W.InstAt s.heap x ox C od) (c : CmpC K C) (he : ∀ (A : Around) (R : Fin → Shared → Prop) (E : Value → Shared → Prop), R (.done (.ret r)) s → wpAny (model prog w) A (Builtin.«object.__eq__» ⟨[.ref x, v], []⟩) R E s)
    (hr : r = .notImplemented ∨ ∃ b, r = .bool b) (hq : Q (match r with | .notImplemented => none | v => some v) s) : wpAny (model prog w) A (tryCompare (.ref x) "__eq__" v) Q E s := by
  unfold tryCompare
  refine wpAny_bind (boundEq X I c he ?_)
  rcases hr with rfl | ⟨b, rfl⟩ <;> exact wpAny_pure hq
theorem sub_txt : PySem.W.subIn K (.type "str") (.ref C) = some false := by
  have e : fastBuiltinMro "str" = some [.type "str", .type "object"] := by decide +kernel
  show (fastBuiltinMro "str").map (·.contains (.ref C)) = some false
  rw [e]
  first
    | rfl
    | simp
/-- x != x -/
theorem rc_ne_self {Q : Value → Shared → Prop} (hu : A.units + 1 < cLine) (X : K.In s.heap) (I : PySem.W.InstAt s.heap x ox C od) (c : CmpC K C) (h : Q (.bool false) s) : wpAny (model prog w) A (richCompare .NotEq (.ref x) (.ref x)) Q E s := by
  simp only [richCompare, cmpInfo_NotEq, oneThing_ref]
  refine wpAny_holding (wpAny_bind (wpAny_cRoomFor (Nat.lt_of_succ_lt hu) ?_))
  refine wpAny_bind (I.type.here (wpAny_bind (I.type.here ?_)))
  split
  · rename_i q
    exact absurd q (by simp)
  · refine wpAny_bind (wpAny_pure ?_)
    simp only [Bool.false_eq_true, if_false, Bool.not_false, if_true]
    exact wpAny_bind (m := tryCompare (.ref x) _ (.ref x)) (tryNe hu X I c (fun _ _ _ q => entryEq_self q) (.inr ⟨true, rfl, rfl⟩) (wpAny_pure h))
/-- x == text, x != text -/
theorem rc_txt {dx : Addr} {z : Str} {t : Tok} {op : CmpOp} {k : Bool} {Q : Value → Shared → Prop} (hu : A.units + 1 < cLine) (X : K.In s.heap) (I : PySem.W.InstAt s.heap x (PySem.W.instObj C dx) C od) (c : CmpC K C) (hop : (op = .Eq ∧ k = false) ∨ (op = .NotEq ∧ k = true)) (h : Q (.bool k) s) :
    wpAny (model prog w) A (richCompare op (.ref x) (.str z t)) Q E s := by
  have ho : s.heap.get? x = some (PySem.W.instObj C dx) := I.1
  rcases hop with ⟨rfl, rfl⟩ | ⟨rfl, rfl⟩
  · have one : wpAny (model prog w) A (tryCompare (.ref x) "__eq__" (.str z t)) (fun r s' => r = none ∧ s' = s) E s := tryEq X I c (fun _ _ _ q => entryEq_txt q) (.inl rfl) ⟨rfl, rfl⟩
    have two : wpAny (model prog w) A (tryCompare (.str z t) "__eq__" (.ref x)) (fun r s' => r = none ∧ s' = s) E s :=
      wpAny_tryCompare_declines (typeIs_str s z t) F.slot_str_eq_refl (call_meets F.slot_str_eq_refl (typeIs_str s z t) F.entry_str_eq (F.args_str_eq_2 _ _) (str_eq_declines z t x C dx) ⟨ho, rfl, rfl, rfl⟩)
    simp only [richCompare, cmpInfo_Eq, oneThing_ref]
    refine wpAny_holding (wpAny_bind (wpAny_cRoomFor (Nat.lt_of_succ_lt hu) ?_))
    refine wpAny_bind (I.type.here (wpAny_bind (wpAny_typeOf (typeIs_str s z t) ?_)))
    split
    · refine wpAny_bind ((PySem.W.looks_subIn X sub_txt).here ?_)
      simp only [Bool.false_eq_true, if_false, Bool.not_false, if_true]
      refine wpAny_bind (m := tryCompare (.ref x) _ (.str z t)) (wpAny_mono one (fun r s1 z => ?_) fun _ _ e => e)
      obtain ⟨z1, z2⟩ := z
      subst z1
      subst z2
      refine wpAny_bind (m := tryCompare (.str _ _) _ (.ref x)) (wpAny_mono two (fun r s2 z => ?_) fun _ _ e => e)
      obtain ⟨z1, z2⟩ := z
      subst z1
      subst z2
      refine wpAny_bind (wpAny_rule ?_)
      refine wpAny_bind (same_txt ?_)
      exact wpAny_pure h
    · rename_i q
      exact absurd (by simp) q
  · have one : wpAny (model prog w) A (tryCompare (.ref x) "__ne__" (.str z t)) (fun r s' => r = none ∧ s' = s) E s := tryNe hu X I c (fun _ _ _ q => entryEq_txt q) (.inl ⟨rfl, rfl⟩) ⟨rfl, rfl⟩
    have two : wpAny (model prog w) A (tryCompare (.str z t) "__ne__" (.ref x)) (fun r s' => r = none ∧ s' = s) E s :=
      wpAny_tryCompare_declines (typeIs_str s z t) F.slot_str_ne_refl (call_meets F.slot_str_ne_refl (typeIs_str s z t) F.entry_str_ne (F.args_str_ne_2 _ _) (str_ne_declines z t x C dx) ⟨ho, rfl, rfl, rfl⟩)
    simp only [richCompare, cmpInfo_NotEq, oneThing_ref]
    refine wpAny_holding (wpAny_bind (wpAny_cRoomFor (Nat.lt_of_succ_lt hu) ?_))
    refine wpAny_bind (I.type.here (wpAny_bind (wpAny_typeOf (typeIs_str s z t) ?_)))
    split
    · refine wpAny_bind ((PySem.W.looks_subIn X sub_txt).here ?_)
      simp only [Bool.false_eq_true, if_false, Bool.not_false, if_true]
      refine wpAny_bind (m := tryCompare (.ref x) _ (.str z t)) (wpAny_mono one (fun r s1 z => ?_) fun _ _ e => e)
      obtain ⟨z1, z2⟩ := z
      subst z1
      subst z2
      refine wpAny_bind (m := tryCompare (.str _ _) _ (.ref x)) (wpAny_mono two (fun r s2 z => ?_) fun _ _ e => e)
      obtain ⟨z1, z2⟩ := z
      subst z1
      subst z2
      refine wpAny_bind (wpAny_rule ?_)
      refine wpAny_bind (same_txt ?_)
      exact wpAny_pure h
    · rename_i q
      exact absurd (by simp) q
end
section
variable {X : Cx} {C : Addr}
def rNeSelf (C : Addr) : R2 := fun x y H Q => ∃ a dx fs, x = .ref a ∧ y = .ref a ∧ H a = some (.ins C dx fs) ∧ Q (.bl false) H
theorem op_ne_self (hu : X.A.units + 1 < cLine) (c : CmpC X.K C) : OpR X (compareOp .NotEq) (rNeSelf C) := by
  intro pins s σ H x y v u Q I rx ry h
  obtain ⟨a, dx, fs, rfl, rfl, ea, q⟩ := h
  obtain rfl : v = Value.ref a := rx
  obtain rfl : u = Value.ref a := ry
  obtain ⟨mA, O, _⟩ := ins_get I.hok ea
  obtain ⟨od, J, _⟩ := O.look
  exact rc_ne_self hu I.kIn J c ⟨.bl false, H, I, rfl, q⟩
/-- an instance or a text, with a text -/
def rEqTxt (C : Addr) (k : Bool) : R2 := fun x y H Q => (∃ z z', x = .str z ∧ y = .str z' ∧ Q (.bl (if k then decide (z = z') else !decide (z = z'))) H) ∨ ∃ a dx fs z, x = .ref a ∧ y = .str z ∧ H a = some (.ins C dx fs) ∧ Q (.bl (!k)) H
theorem op_eq_txt (hu : X.A.units + 1 < cLine) (c : CmpC X.K C) : OpR X (compareOp .Eq) (rEqTxt C true) := by
  intro pins s σ H x y v u Q I rx ry h
  rcases h with ⟨z, z', rfl, rfl, q⟩ | ⟨a, dx, fs, z, rfl, rfl, ea, q⟩
  · refine op_eq pins s σ H (.str z) (.str z') v u Q I rx ry ⟨rfl, ?_⟩
    have e : decide (V.str z = V.str z') = decide (z = z') := by
      by_cases hz : z = z'
      · simp [hz]
      · simp [hz]
    rw [e]; exact q
  · obtain rfl : v = Value.ref a := rx
    obtain ⟨t, rfl⟩ := ry
    obtain ⟨mA, O, _⟩ := ins_get I.hok ea
    obtain ⟨od, J, _⟩ := O.look
    show wpAny (model X.prog X.w) X.A (richCompare .Eq (.ref a) (.str z t)) (EP X pins σ Q) X.xe s
    exact rc_txt (op := .Eq) (k := false) hu I.kIn J c (.inl ⟨rfl, rfl⟩) ⟨.bl false, H, I, rfl, q⟩
theorem op_ne_txt (hu : X.A.units + 1 < cLine) (c : CmpC X.K C) : OpR X (compareOp .NotEq) (rEqTxt C false) := by
  intro pins s σ H x y v u Q I rx ry h
  rcases h with ⟨z, z', rfl, rfl, q⟩ | ⟨a, dx, fs, z, rfl, rfl, ea, q⟩
  · refine op_ne pins s σ H (.str z) (.str z') v u Q I rx ry ⟨rfl, ?_⟩
    have e : decide (V.str z = V.str z') = decide (z = z') := by
      by_cases hz : z = z'
      · simp [hz]
      · simp [hz]
    rw [e]; exact q
  · obtain rfl : v = Value.ref a := rx
    obtain ⟨t, rfl⟩ := ry
    obtain ⟨mA, O, _⟩ := ins_get I.hok ea
    obtain ⟨od, J, _⟩ := O.look
    show wpAny (model X.prog X.w) X.A (richCompare .NotEq (.ref a) (.str z t)) (EP X pins σ Q) X.xe s
    exact rc_txt (op := .NotEq) (k := true) hu I.kIn J c (.inr ⟨rfl, rfl⟩) ⟨.bl true, H, I, rfl, q⟩
end
/-! ### {k: v for target in iter}, keys that are tuples -/
def tDcT (wi : TI) (g : TG) (tt : TT) (tk tv : TE) (vs : List Nat) : TE := fun σ H Q => wi σ H fun J H1 => ∀ D, H1 D = none → ∃ W : Nat → Nat → Hp → Prop, (∃ m, W 0 m (upd H1 D (.dT []))) ∧ ∀ i m H, W i m H →
  (J.stop i H ∧ Q (.ref D) H) ∨ (J.go i H ∧ ∃ Nx : Hp → Prop, (∀ H', Nx H' → ∃ m', m' < m ∧ W (i + 1) m' H') ∧ ∀ x H', J.yld i H x H' → g x (wipe σ vs) H' fun σ2 H2 => wipe σ2 vs = wipe σ vs ∧ tt σ2 H2 fun b H3 =>
    if b = true then tk σ2 H3 fun y H4 => tv σ2 H4 fun z H5 => ∃ kvs k b, y = .ref b ∧ H5 b = some (.tup (k.map kV)) ∧ H5 D = some (.dT kvs) ∧ kvs.length < sizeLine ∧ Nx (upd H5 D (.dT (putK kvs k z))) else Nx H3)
theorem d_setT {X : Cx} {pins : List (Addr × Obj)} {σ : L2.St} {H : Hp} {s : Shared} {E : Value → Shared → Prop} {D b : Addr} {kvs : List (List Key × V)} {k : List Key} {v : V} {r : Value} {Q : Unit → Shared → Prop} (hu : X.A.units + 1 < cLine) (I : Inv X pins σ H s) (hD : H D = some (.dT kvs)) (hb : H b = some (.tup (k.map kV))) (hz : kvs.length < sizeLine)
    (rv : L2.RelV v r) (h : ∀ s', Inv X pins σ (upd H D (.dT (putK kvs k v))) s' → Q () s') : wpAny (model X.prog X.w) X.A (dictSet D (.ref b) r) Q E s := by
  obtain ⟨z, hd, xs, rel, dd⟩ := dt_of I.hok hD
  have hzx : xs.length ≤ sizeLine := by rw [← Paired.length rel]; exact z
  have hl : (putK kvs k v).length ≤ sizeLine := by have := length_putK kvs k v; omega
  refine wpAny_dictSet_heap (hsz := hzx) (show (tupleKind (mixKind X.prog X.w)).room X.A from Nat.lt_of_succ_lt hu) (key_of I.hok hb) dd fun h' dd' hs => h _ ?_
  obtain ⟨q, es, ep, hq, h2, h3, h4, _, h5⟩ := dd'
  refine d_write I (by rw [hD]; exact True.intro) hs ⟨q, hq⟩ ⟨hl, hd, _, (rel.put k hb rv).keeps fun c ys ec => ?_, q, es, ep, hq, h2, h3, h4, h5⟩
  rw [upd_ne (ne_of ec hD (fun z => nomatch z))]
  exact ec
end Pt
end

section
set_option Elab.async false
set_option maxRecDepth 100000
set_option maxHeartbeats 3200000
namespace Pt
open PySem PySem.Spec PyProof.Rows L2
section
variable {X : Cx}
theorem pe_dcT {kx vx tg iter : Expr} {ifs : List Expr} {scope : Scope} {own : List (Str × Nat)} {pos : Pos} {wi : TI} {g : TG} {tt : TT} {tk tv : TE} (hc : X.calm = true) (hu : X.A.units + 1 < cLine) (hN : X.N.Nodup) (hi : PI X tg iter wi) (ok : BlkOk X.N X.env.scope scope own)
    (hg : ∀ (s : Shared) (H : Hp) (C : Addr) (cl : List (Str × Addr)) (fp : List Addr), PG (X.blk s H scope (compEnvC scope cl C X.env) fp) tg g) (ht : ∀ (s : Shared) (H : Hp) (C : Addr) (cl : List (Str × Addr)) (fp : List Addr), PTs (X.blk s H scope (compEnvC scope cl C X.env) fp) ifs tt)
    (hk : ∀ (s : Shared) (H : Hp) (C : Addr) (cl : List (Str × Addr)) (fp : List Addr), PE (X.blk s H scope (compEnvC scope cl C X.env) fp) kx tk)
    (he : ∀ (s : Shared) (H : Hp) (C : Addr) (cl : List (Str × Addr)) (fp : List Addr), PE (X.blk s H scope (compEnvC scope cl C X.env) fp) vx tv) (hs : ∀ x, foldedSetIterable iter X.env x = pure x := by intro _; rfl) :
    PE X (.DictComp kx vx [⟨tg, iter, ifs, 0⟩] scope pos) (tDcT wi g tt tk tv (own.map (·.2))) := by
  refine ⟨fun pins s σ H Q I h => ?_⟩
  rw [arm_eval_DictComp]
  have hfree : ∀ y ∈ scope.names, y.2 = .free → ∃ c, X.env.cells.lookup y.1 = some c := fun y hy e => by
    rcases ok.free y hy e with k | k
    · exact I.ok.has _ (.inl k)
    · exact I.ok.has _ (.inr k)
  refine wpAny_comprehension_free (use := none) rfl hs (closure_ok hfree) ok.kind (fun y hy e => by rw [ok.uniq y hy, e])
    (thn (hi.run pins s σ H _ I h) fun xv s1 hx => thn hx fun itv s2 h2 => ?_)
  obtain ⟨it, fp, tn, J, H2, e, I2, T, st2, f2, q⟩ := h2
  subst e
  refine wpAny_newObj_type (newEnv_comp ?_)
  generalize hD : s2.heap.objs.size = D
  obtain ⟨W, ⟨m0, w0⟩, turn⟩ := q D (I2.hok.fresh (Nat.le_of_eq hD))
  generalize hs3 : ({ s2 with heap := s2.heap.push { cls := .type "dict", data := .dict #[] } } : Shared) = s3
  have I3 : Inv X pins σ (upd H2 D (.dT [])) s3 := by
    rw [← hs3]
    refine I2.laid (t' := s2.toks) (fun b o e => Heap.get?_push_of_some _ e) (Nat.le_of_eq hD) ?_
    rw [← hD]
    exact dt_empty s2.heap I2.big
  have h3 : s3.heap = s2.heap.push { cls := .type "dict", data := .dict #[] } := by rw [← hs3]
  have sz : ∀ b ∈ fp, b < s2.heap.objs.size := fun b hb => by
    obtain ⟨o, e, _⟩ := T.obj _ _ st2 b hb
    exact Heap.lt_size e
  have f3 : ∀ b ∈ fp, FpOk X pins (upd H2 D (.dT [])) b ∧ b < s3.heap.objs.size := fun b hb => by
    have hlt := sz b hb
    refine ⟨⟨?_, (f2 b hb).2⟩, by rw [h3, Heap.size_push]; exact Nat.lt_succ_of_lt hlt⟩
    rw [upd_ne (by rw [← hD]; exact Nat.ne_of_lt hlt)]
    exact (f2 b hb).1
  have st3 : tn 0 s3.heap := T.keep _ _ _ st2 fun b _ o e => by rw [h3]; exact Heap.get?_push_of_some _ e
  have I4 := block_start I3 ok hN f3
  have pg := hg s3 (upd H2 D (.dT [])) s3.heap.objs.size (cellsFrom (s3.heap.objs.size + 1) scope.names (cloFrom X.env.cells scope.names [])) fp
  have pt := ht s3 (upd H2 D (.dT [])) s3.heap.objs.size (cellsFrom (s3.heap.objs.size + 1) scope.names (cloFrom X.env.cells scope.names [])) fp
  have pk := hk s3 (upd H2 D (.dT [])) s3.heap.objs.size (cellsFrom (s3.heap.objs.size + 1) scope.names (cloFrom X.env.cells scope.names [])) fp
  have pe := he s3 (upd H2 D (.dT [])) s3.heap.objs.size (cellsFrom (s3.heap.objs.size + 1) scope.names (cloFrom X.env.cells scope.names [])) fp
  have hRR : ∀ (C : Addr) (s' : Shared) (m : Str → Option Value) (H' : Hp), Inv X pins σ H' s' → Q (.ref D) H' → s'.heap.Ns C m → FpOk X pins H' C → compPost (model X.prog X.w) X.A X.xe none (EP X pins σ Q) (.ref D) C (.ok .next) s' := fun C s' m H' I' q hn f => ⟨m, hn, fun h'' sb => by
    obtain ⟨f0, f1, f2, f3, f4, f5⟩ := f
    exact ⟨.ref D, H', I'.turned (t' := s'.toks) (fun b o hb e => (sb.2 b hb).trans e) f0 f1 f3 f4 f5, rfl, q⟩⟩
  show codeAny _ _ (.compStart (.DictComp kx vx [⟨tg, iter, ifs, 0⟩] scope pos) 0 (.ref it) (.ref D) (compEnvC scope (cellsFrom (s3.heap.objs.size + 1) scope.names (cloFrom X.env.cells scope.names [])) s3.heap.objs.size X.env)) (compPost (model X.prog X.w) X.A X.xe none (EP X pins σ Q) (.ref D) s3.heap.objs.size) { s3 with heap := pushCells (s3.heap.push { cls := .type "dict", data := .dict #[] }) scope.names }
  have nfp : ∀ b ∈ fp, (upd H2 D (.dT [])) b = none := fun b hb => (f3 b hb).1.1
  generalize hce : compEnvC scope (cellsFrom (s3.heap.objs.size + 1) scope.names (cloFrom X.env.cells scope.names [])) s3.heap.objs.size X.env = ce at I4 pg pt pk pe ⊢
  have cL : ce.locals = s3.heap.objs.size := by subst hce; rfl
  generalize hH3 : upd H2 D (.dT []) = H3 at I3 I4 pg pt pk pe w0 nfp f3
  generalize hs4 : ({ s3 with heap := pushCells (s3.heap.push { cls := .type "dict", data := .dict #[] }) scope.names } : Shared) = s4 at I4 ⊢
  have st4 : tn 0 s4.heap := T.keep _ _ _ st3 fun b _ o e => by rw [← hs4]; exact pushCells_keeps _ _ _ _ (Heap.get?_push_of_some _ e)
  have stat : ∀ {σ' : L2.St} {H' : Hp} {s' : Shared}, Inv (X.blk s3 H3 scope ce fp) [] σ' H' s' → (∀ b ∈ fp, H' b = none) → ∀ b ∈ fp, FpOk (X.blk s3 H3 scope ce fp) [] H' b := fun {σ' H' s'} I' hn b hb =>
    ⟨hn b hb, (I'.ok.exf b hb).1, I'.ok.exfs b hb, .inl hb, fun x c e => (I'.ok.exf b hb).2 x c e, fun p hp => absurd (show p ∈ ([] : List (Addr × Obj)) ++ [] from hp) (by simp)⟩
  have loop : codeAny (model X.prog X.w) X.A (.compLoop (.DictComp kx vx [⟨tg, iter, ifs, 0⟩] scope pos) 0 (.ref it) (.ref D) ce) (compPost (model X.prog X.w) X.A X.xe none (EP X pins σ Q) (.ref D) s3.heap.objs.size) s4 := by
    refine compLoop_anyD (fun n s' => ∃ i H', Inv (X.blk s3 H3 scope ce fp) [] (wipe σ (own.map (·.2))) H' s' ∧ tn i s'.heap ∧ (∀ b ∈ fp, H' b = none) ∧ W i n H') ?_ m0 ⟨0, H3, I4, st4, nfp, w0⟩
    rintro n s5 ⟨i, H5, I5, st5, n5, w5⟩
    rcases turn i n H5 w5 with ⟨stop, qq⟩ | ⟨go, Nx, hNx, step⟩
    · refine thnF (T.done (X.blk s3 H3 scope ce fp) rfl rfl rfl hc i [] s5 _ H5 (fun _ _ => False) I5 (stat I5 n5) st5 stop) fun r s6 ⟨hr, I6⟩ => ?_
      subst hr
      have I7 : Inv X pins σ H5 s6 := I3.call' (ch := fp) I6.os I6.base I6.hok I6.bare fun b hb => ⟨(f3 b hb).1.2.2.2.1, (f3 b hb).1.2.1, (f3 b hb).1.2.2.2.2.1, (f3 b hb).1.2.2.2.2.2⟩
      have nC : H5 s3.heap.objs.size = none := by
        have z : H5 ce.locals = none := I6.free
        rw [cL] at z
        exact z
      obtain ⟨m, hn, _⟩ := I6.loc
      have hn : s6.heap.Ns ce.locals m := hn
      rw [cL] at hn
      exact hRR s3.heap.objs.size s6 m H5 I7 qq hn (I3.fpOk (Nat.le_refl _) nC)
    · refine thnF (T.item (X.blk s3 H3 scope ce fp) rfl rfl rfl hc i [] s5 _ H5 (fun _ _ => False) I5 (stat I5 n5) st5 go) fun r s6 ⟨u, hr, h6⟩ => ?_
      subst hr
      refine thnF h6 fun _ s7 ⟨x, H7, I7, r7, y7, st7, n7⟩ => ?_
      have I7' := I7.pinned (stat I7 n7) (T.obj _ _ st7)
      refine thnF (pg.run _ s7 _ H7 x u _ I7' r7 (step x H7 y7)) fun _ s8 ⟨σ8, H8, I8, hw8, q8⟩ => ?_
      refine thnF (pt.run _ s8 σ8 H8 _ I8 q8) fun b s9 ⟨H9, I9, q9⟩ => ?_
      have fin : ∀ {s' : Shared} {H' : Hp}, Inv (X.blk s3 H3 scope ce fp) ([] ++ pinsAt fp s7.heap) σ8 H' s' → Nx H' → ∃ m, m < n ∧ ∃ i H', Inv (X.blk s3 H3 scope ce fp) [] (wipe σ (own.map (·.2))) H' s' ∧ tn i s'.heap ∧ (∀ b ∈ fp, H' b = none) ∧ W i m H' := fun {s' H'} I' nx => by
        obtain ⟨m', hm, w'⟩ := hNx H' nx
        have pin' : ∀ b ∈ fp, ∀ o, s7.heap.get? b = some o → s'.heap.get? b = some o ∧ H' b = none := fun b hb o e =>
          let z := I'.pin (b, o) (List.mem_append_right _ (List.mem_append_right _ (mem_pinsAt hb e)))
          ⟨z.1, z.2.1⟩
        have hl : (wipe σ (own.map (·.2))).length = σ8.length := by rw [← hw8, wipe_length]
        refine ⟨m', hm, i + 1, H', (I'.unpinned (pins := [])).weak hl (fun j v e => ?_), T.keep _ _ _ st7 fun b hb o e => (pin' b hb o e).1, fun b hb => ?_, w'⟩
        · rw [← hw8] at e
          exact (wipe_some e).1
        · obtain ⟨o, e, _⟩ := T.obj _ _ st7 b hb
          exact (pin' b hb o e).2
      cases b with
      | false =>
        simp only [Bool.false_eq_true, if_false] at q9 ⊢
        exact fin I9 q9
      | true =>
        simp only [if_true] at q9 ⊢
        refine thnF (pk.run _ s9 σ8 H9 _ I9 q9) fun z s10 ⟨yk, H10, I10, r10, q10⟩ => ?_
        refine thnF (pe.run _ s10 σ8 H10 _ I10 q10) fun z2 s11 ⟨yv, H11, I11, r11, kvs, k, kb, ek, hb11, hD11, hz11, nx⟩ => ?_
        subst ek
        obtain rfl : z = Value.ref kb := r10
        exact d_setT (X := X.blk s3 H3 scope ce fp) hu I11 hD11 hb11 hz11 r11 fun s12 I12 => fin I12 nx
  exact codeAny_compStart_dict loop (T.self X.A 0 _ _ _ st4 loop)
variable {J : It} {n : Nat} {G : Hp → Prop} {Y : Nat → Hp → V → Hp → Prop}
/-- a dict comprehension over a walk; dD: the new dict's content by the turn -/
theorem dc_it (w : Walk J n G Y) {g : TG} {tt : TT} {tk tv : TE} {vs : List Nat} {σ : L2.St} {H1 : Hp} {D : Addr} {Qd : Hp → Prop} (Pv : Nat → Hp → Prop) (h0 : Pv 0 (upd H1 D (.dK []))) (hG : ∀ i H, i ≤ n → Pv i H → G H)
    (hs : ∀ i x H H', i < n → Pv i H → Y i H x H' → g x (wipe σ vs) H' fun σ2 H2 => wipe σ2 vs = wipe σ vs ∧ tt σ2 H2 fun b H3 =>
      if b = true then tk σ2 H3 fun y H4 => tv σ2 H4 fun z H5 => ∃ kvs k, y = kV k ∧ H5 D = some (.dK kvs) ∧ kvs.length < sizeLine ∧ Pv (i + 1) (upd H5 D (.dK (putK kvs k z))) else Pv (i + 1) H3) (hd : ∀ H, Pv n H → Qd H) :
    ∃ W : Nat → Nat → Hp → Prop, (∃ m, W 0 m (upd H1 D (.dK []))) ∧ ∀ i m H, W i m H →
      (J.stop i H ∧ Qd H) ∨ (J.go i H ∧ ∃ Nx : Hp → Prop, (∀ H', Nx H' → ∃ m', m' < m ∧ W (i + 1) m' H') ∧ ∀ x H', J.yld i H x H' → g x (wipe σ vs) H' fun σ2 H2 => wipe σ2 vs = wipe σ vs ∧ tt σ2 H2 fun b H3 =>
        if b = true then tk σ2 H3 fun y H4 => tv σ2 H4 fun z H5 => ∃ kvs k, y = kV k ∧ H5 D = some (.dK kvs) ∧ kvs.length < sizeLine ∧ Nx (upd H5 D (.dK (putK kvs k z))) else Nx H3) := by
  refine ⟨fun i m H => m = n - i ∧ i ≤ n ∧ Pv i H, ⟨n, by simp, Nat.zero_le _, h0⟩, ?_⟩
  rintro i m H ⟨rfl, hi, p⟩
  have q := hG i H hi p
  by_cases hlt : i < n
  · exact .inr ⟨w.goes i H hlt q, Pv (i + 1), fun H' p' => ⟨n - (i + 1), by omega, rfl, hlt, p'⟩, fun x H' y => hs i x H H' hlt p (w.yields i H x H' hlt q y)⟩
  · have e : i = n := by omega
    subst e
    exact .inl ⟨w.stops H q, hd H p⟩
theorem dcT_it (w : Walk J n G Y) {g : TG} {tt : TT} {tk tv : TE} {vs : List Nat} {σ : L2.St} {H1 : Hp} {D : Addr} {Qd : Hp → Prop} (Pv : Nat → Hp → Prop) (h0 : Pv 0 (upd H1 D (.dT []))) (hG : ∀ i H, i ≤ n → Pv i H → G H)
    (hs : ∀ i x H H', i < n → Pv i H → Y i H x H' → g x (wipe σ vs) H' fun σ2 H2 => wipe σ2 vs = wipe σ vs ∧ tt σ2 H2 fun b H3 =>
      if b = true then tk σ2 H3 fun y H4 => tv σ2 H4 fun z H5 => ∃ kvs k b, y = .ref b ∧ H5 b = some (.tup (k.map kV)) ∧ H5 D = some (.dT kvs) ∧ kvs.length < sizeLine ∧ Pv (i + 1) (upd H5 D (.dT (putK kvs k z))) else Pv (i + 1) H3) (hd : ∀ H, Pv n H → Qd H) :
    ∃ W : Nat → Nat → Hp → Prop, (∃ m, W 0 m (upd H1 D (.dT []))) ∧ ∀ i m H, W i m H →
      (J.stop i H ∧ Qd H) ∨ (J.go i H ∧ ∃ Nx : Hp → Prop, (∀ H', Nx H' → ∃ m', m' < m ∧ W (i + 1) m' H') ∧ ∀ x H', J.yld i H x H' → g x (wipe σ vs) H' fun σ2 H2 => wipe σ2 vs = wipe σ vs ∧ tt σ2 H2 fun b H3 =>
        if b = true then tk σ2 H3 fun y H4 => tv σ2 H4 fun z H5 => ∃ kvs k b, y = .ref b ∧ H5 b = some (.tup (k.map kV)) ∧ H5 D = some (.dT kvs) ∧ kvs.length < sizeLine ∧ Nx (upd H5 D (.dT (putK kvs k z))) else Nx H3) := by
  refine ⟨fun i m H => m = n - i ∧ i ≤ n ∧ Pv i H, ⟨n, by simp, Nat.zero_le _, h0⟩, ?_⟩
  rintro i m H ⟨rfl, hi, p⟩
  have q := hG i H hi p
  by_cases hlt : i < n
  · exact .inr ⟨w.goes i H hlt q, Pv (i + 1), fun H' p' => ⟨n - (i + 1), by omega, rfl, hlt, p'⟩, fun x H' y => hs i x H H' hlt p (w.yields i H x H' hlt q y)⟩
  · have e : i = n := by omega
    subst e
    exact .inl ⟨w.stops H q, hd H p⟩
end
/-! ### len(o), o of an own class with an own __len__ -/
def tLenO (C : Addr) (sp : Sp) (ta : TE) : TE := fun σ H Q => ta σ H fun x H1 => ∃ a dx fs, x = .ref a ∧ H1 a = some (.ins C dx fs) ∧ sp [.ref a] H1 (fun v H2 => ∃ n : Nat, v = .int n ∧ n < 2 ^ 62 ∧ Q (.int n) H2) E0
section
variable {X : Cx} {a : Expr} {ta : TE} {p pos : Pos} {C f : Addr} {fd : FuncData} {sp : Sp} {k : Nat}
theorem pe_lenO (hg : Gl X "len") (hm : X.mg "len" = none) (hm1 : Meth X.K C "__len__" f) (F : FnOk X.prog X.w X.K X.mg X.base CX0 k f fd ["self"] sp) (hr : Room (k + 1) X.A) (hb : L2.Binds X.K fd ["self"] []) (ha : PE X a ta)
    (na : starEach [a] X.env = (false, eval a X.env) :: starEach [] X.env := by rfl) : PE X (.Call (.Name "len" p) [a] [] pos) (tLenO C sp ta) := by
  refine ⟨fun pins s σ H Q I h => ?_⟩
  refine Call_ (ld_blt I hg hm boot_len ?_)
  refine PyProof.Rows.callWith_builtin1 (PyProof.Rows.args_cons (thn (ha.run pins s σ H _ I h) fun v s1 ⟨x, H1, I1, r1, q1⟩ => ?_) na) na rfl
  obtain ⟨b, dx, fs, rfl, eb, hq⟩ := q1
  obtain rfl : v = Value.ref b := r1
  refine PyProof.Rows.args_nil ?_
  obtain ⟨mA, O, _⟩ := ins_get I1.hok eb
  obtain ⟨od, J, _⟩ := O.look
  show wpAny _ _ (call (.builtin "len") [.ref b]) _ _ _
  refine Calls.call_function_entry kind_len plain_len entry_len (args_len1 _) ?_
  unfold Builtin.«len»
  refine wpAny_bind (m := oneArg "len" _) (wpAny_pure ?_)
  have r0 := hb s1 [.ref b] I1.kIn rfl
  rw [List.append_nil] at r0
  have rc := F.run X.A.in1 X.stack s1 H1 ⟨[.ref b], []⟩ [.ref b] [.ref b] _ _ hr.in1 I1.env0.in1 r0 (.cons rfl .nil) hq
  refine wpAny_bind (m := callSpecial? (.ref b) (Str.ofString "__len__")) (PySem.W.special_fn I1.kIn J hm1.at_ (beq_iff_eq.mp hm1.fn) (wpAny_call (codeAny_mono rc fun r s2 hr2 => ?_)))
  cases r with
  | error e => exact False.elim hr2
  | ok fl =>
    cases fl with
    | next => exact False.elim hr2
    | brk => exact False.elim hr2
    | cont => exact False.elim hr2
    | ret u =>
      obtain ⟨v2, H2, I2, rv, n, rfl, hn, q⟩ := I1.after (Q := fun v H2 => ∃ n : Nat, v = .int n ∧ n < 2 ^ 62 ∧ Q (.int n) H2) hr2
      obtain ⟨t, rfl⟩ := rv
      refine wpAny_bind (wpAny_holding (wpAny_pure ?_))
      refine wpAny_bind (wpAny_letGo ?_)
      show wpAny _ _ (if (n : Int) < 0 then _ else _) _ _ _
      rw [if_neg (by omega)]
      show wpAny _ _ (if (n : Int) ≥ 2 ^ 63 then _ else _) _ _ _
      rw [if_neg (by omega)]
      exact wpAny_bind (wpAny_mkInt (wpAny_pure ⟨_, rfl, .int n, H2, I2.tok _, ⟨_, rfl⟩, q⟩))
end
end Pt
end

section
set_option Elab.async false
set_option maxRecDepth 100000
set_option maxHeartbeats 1000000
/-! # The walk of the program's defs -/
namespace Pt
open PySem PySem.Spec PyProof.Rows L2
/-! ### the text by places -/
def top (i : Nat) : Stmt := PySem.Challenge.pw_passtexts_k07_whole_runs.main.body.getD i (.Pass ⟨0, 0, 0, 0⟩)
/-- the built-in names are the built-ins still -/
structure Bl (mg : Str → Option Value) : Prop where
  isi : mg "isinstance" = none
  int : mg "int" = none
  bool : mg "bool" = none
  str : mg "str" = none
  len : mg "len" = none
  all : mg "all" = none
  set : mg "set" = none
  tuple : mg "tuple" = none
  list : mg "list" = none
  dict : mg "dict" = none
  range : mg "range" = none
  sorted : mg "sorted" = none
  enum : mg "enumerate" = none
/-- all but the object at D stays -/
def But (D : Addr) (H H' : Hp) : Prop := ∀ b o, H b = some o → b ≠ D → H' b = some o
theorem But.refl (D : Addr) (H : Hp) : But D H H := fun _ _ h _ => h
theorem But.of {D : Addr} {H H' : Hp} (e : Same H H') : But D H H' := fun b o h _ => e b o h
theorem But.trans {D : Addr} {H H1 H2 : Hp} (a : But D H H1) (b : But D H1 H2) : But D H H2 := fun c o h n => b c o (a c o h n) n
theorem same_new {p : Addr} {H : Hp} {o : HO} (h : H p = none) : Same H (upd H p o) := fun b u e => by rw [upd_ne (ne_of_none e h)]; exact e
theorem But.upd {D : Addr} {H : Hp} {o : HO} : But D H (upd H D o) := fun b u e n => by rw [upd_ne n]; exact e
/-! ### the draws -/
/-- the draw list at D: the script at a, the place s, the counter k -/
def DrawAt (_K : PySem.W.Frag) (H : Hp) (D a : Addr) : Prop := ∃ (s k : Nat) (ns : List Int), H D = some (.lst [.ref a, .int s, .int k]) ∧ H a = some (.lst (ns.map V.int)) ∧ a ≠ D
/-- a def that draws: the draw list has gone on, all else stands -/
def Drawn (K : PySem.W.Frag) (D a : Addr) (H H' : Hp) : Prop := But D H H' ∧ DrawAt K H' D a
abbrev sCell : Stmt := top 28
abbrev sDraw : Stmt := top 29
abbrev sNum : Stmt := top 30
abbrev sNext : Stmt := top 31
abbrev sPick : Stmt := top 32
def spCell (K : PySem.W.Frag) : Sp := fun vs H Q _ => ∃ (a : Addr) (k : Nat) (ns : List Int), vs = [.ref a, .int k] ∧ SqL K H a (ns.map V.int) ∧ ∀ z, Q (.int z) H
def spDraw : Sp := fun vs H Q _ => ∃ (c k b : Int), vs = [.int c, .int k, .int b] ∧ -(2 ^ 64) < c ∧ c < 2 ^ 64 ∧ 0 ≤ k ∧ k < 2 ^ 64 ∧ 0 < b ∧ ∀ (n : Nat) H', (n : Int) < b → Same H H' → Q (.int n) H'
def spNum : Sp := fun vs H Q _ => ∃ (c k b : Int), vs = [.int c, .int k, .int b] ∧ 0 ≤ k ∧ k ≤ 12 ∧ 0 < b ∧ ∀ (n : Nat) H', (n : Int) < b → Same H H' → Q (.int n) H'
def spNext (K : PySem.W.Frag) : Sp := fun vs H Q _ => ∃ (D e : Addr) (b : Nat), vs = [.ref D, .int b] ∧ DrawAt K H D e ∧ 0 < b ∧ ∀ (n : Nat) H', n < b → Drawn K D e H H' → Q (.int n) H'
def spPick (K : PySem.W.Frag) : Sp := fun vs H Q _ => ∃ (D e a : Addr) (xs : List V), vs = [.ref D, .ref a] ∧ DrawAt K H D e ∧ SqL K H a xs ∧ a ≠ D ∧ xs ≠ [] ∧ ∀ x H', x ∈ xs → Drawn K D e H H' → Q x H'
theorem emod_nat (x : Int) {b : Int} (hb : 0 < b) : ∃ n : Nat, x % b = n ∧ (n : Int) < b := by
  have h0 := Int.emod_nonneg x (show b ≠ 0 by omega)
  have h1 := Int.emod_lt_of_pos x hb
  exact ⟨(x % b).toNat, (Int.toNat_of_nonneg h0).symm, by omega⟩
section
variable {P : Program} {w : World} {K : PySem.W.Frag} {mg : Str → Option Value} {base : Heap}
theorem scCell : FnScope ["_law_script", "_law_k"] ["_law_script", "_law_k"] (defScope sCell) := ⟨rfl, rfl, rfl, by decide +kernel, rfl, by decide +kernel, by decide +kernel⟩
theorem ok_cell {f : Addr} {fd : FuncData} (F : Fun K "_law_cell_at" "_law_cell_at" sCell f fd) (B : Bl mg) : FnOk P w K mg base CX0 1 f fd ["_law_script", "_law_k"] (spCell K) := by
  refine F.ok scCell (fun vs H Q E h => ?_) (fun cdv A outer s H vs Q E hr h => ?_)
  · obtain ⟨a, k, ns, rfl, _⟩ := h
    rfl
  · obtain ⟨a, k, ns, rfl, hS, q⟩ := h
    refine ⟨_, pss_cons (ps_if (pt_cmpR op_lt (pv 1) (pe_callB call_len_seq (by rfl) B.len PySem.boot_len (pa_cons (pv 0) pa_nil)) (nomark _)) (pss_one (ps_ret (pe_ix ix_list (pv 0) (pv 1) (fun _ _ => rfl)))) pss_nil) (pss_one (ps_ret pe_int)), ?_⟩
    refine ⟨_, rfl, _, rfl, a, _, rfl, .inl hS, _, _, rfl, rfl, _, rfl, ?_⟩
    refine ite2 (fun c => ?_) (fun _ => q 0)
    have c' : k < (ns.map V.int).length := by have := of_decide_eq_true c; omega
    rw [List.length_map] at c'
    exact ⟨_, rfl, _, rfl, a, _, _, .int ns[k], rfl, rfl, hS, atI_nat (by simp [c']), q _⟩
theorem scDraw : FnScope ["_law_cell", "_law_k", "_law_bound", "_law_primes"] ["_law_cell", "_law_k", "_law_bound"] (defScope sDraw) := ⟨rfl, rfl, rfl, by decide +kernel, rfl, by decide +kernel, by decide +kernel⟩
def primes : List Int := [1000003, 1000033, 1000037, 1000039, 1000081, 1000099, 1000117, 1000121, 1000133, 1000151, 1000159, 1000171, 1000183, 1000187, 1000193, 1000199]
theorem ok_draw {f : Addr} {fd : FuncData} (F : Fun K "_law_draw" "_law_draw" sDraw f fd) (B : Bl mg) : FnOk P w K mg base CX0 1 f fd ["_law_cell", "_law_k", "_law_bound"] spDraw := by
  refine F.ok scDraw (fun vs H Q E h => ?_) (fun cdv A outer s H vs Q E hr h => ?_)
  · obtain ⟨c, k, b, rfl, _⟩ := h
    rfl
  · obtain ⟨c, k, b, rfl, c1, c2, k1, k2, hb, q⟩ := h
    refine ⟨_, pss_cons (ps_set (i := 3) scDraw.nd rfl (.inl rfl) (pe_tup (pa_cons pe_int (pa_cons pe_int (pa_cons pe_int (pa_cons pe_int (pa_cons pe_int (pa_cons pe_int (pa_cons pe_int (pa_cons pe_int (pa_cons pe_int (pa_cons pe_int (pa_cons pe_int (pa_cons pe_int (pa_cons pe_int (pa_cons pe_int (pa_cons pe_int (pa_cons pe_int pa_nil))))))))))))))))))
      (pss_one (ps_ret (pe_op op_mod (pe_op op_mod (pe_callTy call_int1 (by rfl) B.int PyProof.Rows.boot_int (pa_cons (pe_op op_add (pe_op op_mul (pv 0) pe_int) (pe_op op_mul (pv 1) pe_int)) pa_nil)) (pe_ix ix_tup (pv 3) (pe_op op_mod (pe_callTy call_int1 (by rfl) B.int PyProof.Rows.boot_int (pa_cons (pv 1) pa_nil)) pe_int) (fun _ _ => rfl))) (pv 2)))), ?_⟩
    refine ⟨(by show 16 ≤ sizeLine; decide), fun p np => ?_⟩
    refine ⟨_, rfl, _, _, rfl, rfl, .inl ⟨c1, c2⟩, _, rfl, _, _, rfl, rfl, .inl ⟨by omega, k2⟩, _, _, rfl, rfl, .inl ⟨_, rfl, ?_⟩⟩
    have hj : (k % 16).toNat < primes.length := by
      show (k % 16).toNat < 16
      omega
    have hpos : ∀ j (hj : j < primes.length), 0 < primes[j] := by decide
    refine ⟨_, rfl, _, rfl, .inl ⟨_, rfl, _, _, rfl, rfl, (by show (0 : Int) < 16; decide), p, primes.map V.int, _, .int primes[(k % 16).toNat], rfl, rfl, SqT.of upd_same, ?_, ?_⟩⟩
    · have e : k % 16 = (((k % 16).toNat : Nat) : Int) := by omega
      exact at_of e (by rw [List.getElem?_map, List.getElem?_eq_getElem hj]; rfl)
    · refine ⟨_, _, rfl, rfl, hpos _ hj, _, rfl, _, _, rfl, rfl, hb, ?_⟩
      obtain ⟨n, hn, hlt⟩ := emod_nat ((c * 48271 + k * 69621) % primes[(k % 16).toNat]) hb
      show Q (V.int ((c * 48271 + k * 69621) % primes[(k % 16).toNat] % b)) _
      rw [hn]
      exact q n _ hlt (same_new np)
theorem scNum : FnScope ["_law_cell", "_law_k", "_law_bound", "_law_power", "_law_lap", "_law_remains", "_law_small"] ["_law_cell", "_law_k", "_law_bound"] (defScope sNum) := ⟨rfl, rfl, rfl, by decide +kernel, rfl, by decide +kernel, by decide +kernel⟩
theorem ok_num {f fD : Addr} {fd fdD : FuncData} (F : Fun K "_law_number" "_law_number" sNum f fd) (B : Bl mg) (FD : FnOk P w K mg base CX0 1 fD fdD ["_law_cell", "_law_k", "_law_bound"] spDraw) (mD : mg "_law_draw" = some (.ref fD)) (kD : PySem.W.keepIn K (.ref fD) = true) (bD : L2.Binds K fdD ["_law_cell", "_law_k", "_law_bound"] []) :
    FnOk P w K mg base CX0 2 f fd ["_law_cell", "_law_k", "_law_bound"] spNum := by
  refine F.ok scNum (fun vs H Q E h => ?_) (fun cdv A outer s H vs Q E hr h => ?_)
  · obtain ⟨c, k, b, rfl, _⟩ := h
    rfl
  · obtain ⟨c, k, b, rfl, k0, k12, hb, q⟩ := h
    refine ⟨_, pss_cons (ps_set (i := 3) scNum.nd rfl (.inl rfl) pe_int)
      (pss_cons (ps_for PassesOwn.never rfl (pi_range1 rfl B.range (pa_cons (pe_op op_mod (pe_callTy call_int1 (by rfl) B.int PyProof.Rows.boot_int (pa_cons (pv 1) pa_nil)) pe_int) pa_nil)) (pg_name (i := 4) scNum.nd rfl (.inl rfl))
        (pss_one (ps_set (i := 3) scNum.nd rfl (.inl rfl) (pe_op op_mulW (pv 3) pe_int))))
      (pss_cons (ps_set (i := 5) scNum.nd rfl (.inl rfl) (pe_op op_fdivW (pe_op op_sub (pv 0) (pe_op op_pow pe_int pe_int)) (pv 3)))
      (pss_cons (ps_if (pt_cmpR op_gt (pv 5) pe_int (nomark _)) (pss_one (ps_ret (pe_op op_mod (pe_op op_mod (pe_callTy call_int1 (by rfl) B.int PyProof.Rows.boot_int (pa_cons (pv 5) pa_nil)) pe_int) (pv 2)))) pss_nil)
      (pss_cons (ps_set (i := 6) scNum.nd rfl (.inl rfl) (pe_op op_mod (pe_callTy call_int1 (by rfl) B.int PyProof.Rows.boot_int (pa_cons (pv 0) pa_nil)) pe_int))
      (pss_one (ps_ret (pe_op op_mod (pe_call FD hr rfl mD kD bD .nil pass0 (pa_cons (pe_op op_mul (pe_op op_add (pv 6) (pe_op op_mul pe_int (pv 1))) (pe_op op_add (pe_op op_add (pv 6) (pe_op op_mul pe_int (pv 1))) pe_int)) (pa_cons (pe_op op_add (pe_op op_mod (pe_callTy call_int1 (by rfl) B.int PyProof.Rows.boot_int (pa_cons (pv 1) pa_nil)) pe_int) pe_int) (pa_cons pe_int pa_nil)))) (pv 2)))))))), ?_⟩
    refine ⟨_, rfl, .inl ⟨_, rfl, _, _, rfl, rfl, (by show (0 : Int) < 24; decide), _, rfl, (by omega), (by omega), ?_⟩⟩
    refine for_range (lo := 0) (n := (k % 24).toNat) (fun i σ H2 => ∃ v5 v6 lap, σ = [some (.int c), some (.int k), some (.int b), some (.int ((1009 : Int) ^ i)), lap, v5, v6] ∧ H2 = H) ⟨none, none, none, rfl, rfl⟩ ?_ ?_
    · rintro i σ H2 hi ⟨v5, v6, lap, rfl, rfl⟩
      have hb1 : ((1009 : Int) ^ i).natAbs < 2 ^ 300 := by
        rw [Int.natAbs_pow]
        have e1 : (1009 : Int).natAbs ^ i ≤ 1009 ^ 24 := Nat.pow_le_pow_right (by decide) (by omega)
        exact Nat.lt_of_le_of_lt e1 (by decide)
      refine ⟨_, rfl, _, _, rfl, rfl, wide_mul (a := 300) (b := 20) hb1 (by decide) (by decide) (by decide) (by decide), ?_⟩
      exact ⟨v5, v6, some (.int (0 + (i : Int))), by rw [Int.pow_succ]; rfl, rfl⟩
    · rintro σ H2 ⟨v5, v6, lap, rfl, rfl⟩
      have hb1 : ((1009 : Int) ^ (k % 24).toNat).natAbs < 2 ^ 300 := by
        rw [Int.natAbs_pow]
        have e1 : (1009 : Int).natAbs ^ (k % 24).toNat ≤ 1009 ^ 24 := Nat.pow_le_pow_right (by decide) (by omega)
        exact Nat.lt_of_le_of_lt e1 (by decide)
      refine ⟨_, rfl, _, _, rfl, rfl, ⟨by decide, by decide, by decide⟩, _, _, rfl, rfl, _, rfl, _, _, rfl, rfl, wide_div (b := 300) (Int.pow_pos (by decide)) hb1 (by decide) (by decide), ?_⟩
      refine ⟨_, rfl, _, _, rfl, rfl, _, rfl, ?_⟩
      refine ite2 (fun _ => ?_) (fun _ => ?_)
      · refine ⟨_, rfl, .inl ⟨_, rfl, _, _, rfl, rfl, (by show (0 : Int) < 1009; decide), _, rfl, _, _, rfl, rfl, hb, ?_⟩⟩
        obtain ⟨n, hn, hlt⟩ := emod_nat (((c - (10 : Int) ^ (18 : Int).toNat) / (1009 : Int) ^ (k % 24).toNat) % 1009) hb
        show Q (V.int ((((c - (10 : Int) ^ (18 : Int).toNat) / (1009 : Int) ^ (k % 24).toNat) % 1009) % b)) _
        rw [hn]
        exact q n _ hlt (Same.refl _)
      · refine ⟨_, rfl, .inl ⟨_, rfl, _, _, rfl, rfl, (by show (0 : Int) < 1000003; decide), ?_⟩⟩
        obtain ⟨m, hm, hm2⟩ := emod_nat c (show (0 : Int) < 1000003 by decide)
        have hkk : 0 ≤ k ∧ k ≤ 12 := ⟨k0, k12⟩
        have p1 : 0 ≤ c % 1000003 := Int.emod_nonneg _ (by decide)
        have p2 : c % 1000003 < 1000003 := Int.emod_lt_of_pos _ (by decide)
        refine ⟨_, rfl, _, rfl, _, _, rfl, rfl, .inl ⟨by decide, by decide⟩, _, _, rfl, rfl, _, rfl, _, rfl, _, _, rfl, rfl, .inl ⟨by decide, by decide⟩, _, _, rfl, rfl, _, _, rfl, rfl, _, _, rfl, rfl, .inl ⟨by omega, by omega⟩, ?_⟩
        refine ⟨_, rfl, .inl ⟨_, rfl, _, _, rfl, rfl, (by show (0 : Int) < 9; decide), _, _, rfl, rfl, ?_⟩⟩
        have f1 : 0 ≤ c % 1000003 + 977 * k := by omega
        have f2 : c % 1000003 + 977 * k < 2 ^ 21 := by omega
        have f3 : 0 ≤ c % 1000003 + 31 * k + 5 := by omega
        have f4 : c % 1000003 + 31 * k + 5 < 2 ^ 21 := by omega
        have g1 : 0 ≤ (c % 1000003 + 977 * k) * (c % 1000003 + 31 * k + 5) := Int.mul_nonneg f1 f3
        have g2 : (c % 1000003 + 977 * k) * (c % 1000003 + 31 * k + 5) < 2 ^ 21 * 2 ^ 21 := Int.lt_of_le_of_lt (Int.mul_le_mul_of_nonneg_right (Int.le_of_lt f2) f3) (Int.mul_lt_mul_of_pos_left f4 (by decide))
        refine ⟨_, _, _, rfl, by omega, by omega, by omega, by omega, by decide, fun n H' hn hs => ⟨_, rfl, _, _, rfl, rfl, hb, ?_⟩⟩
        obtain ⟨n2, hn2, hlt⟩ := emod_nat (n : Int) hb
        show Q (V.int ((n : Int) % b)) _
        rw [hn2]
        exact q n2 _ hlt hs
theorem scNext : FnScope ["_law_draw_here", "_law_bound", "_law_at", "_law_cell"] ["_law_draw_here", "_law_bound"] (defScope sNext) := ⟨rfl, rfl, rfl, by decide +kernel, rfl, by decide +kernel, by decide +kernel⟩
theorem ok_next {f fC fN : Addr} {fd fdC fdN : FuncData} (F : Fun K "_law_next" "_law_next" sNext f fd) (B : Bl mg) (FC : FnOk P w K mg base CX0 1 fC fdC ["_law_script", "_law_k"] (spCell K)) (mC : mg "_law_cell_at" = some (.ref fC)) (kC : PySem.W.keepIn K (.ref fC) = true) (bC : L2.Binds K fdC ["_law_script", "_law_k"] [])
    (FN : FnOk P w K mg base CX0 2 fN fdN ["_law_cell", "_law_k", "_law_bound"] spNum) (mN : mg "_law_number" = some (.ref fN)) (kN : PySem.W.keepIn K (.ref fN) = true) (bN : L2.Binds K fdN ["_law_cell", "_law_k", "_law_bound"] []) :
    FnOk P w K mg base CX0 3 f fd ["_law_draw_here", "_law_bound"] (spNext K) := by
  refine F.ok scNext (fun vs H Q E h => ?_) (fun cdv A outer s H vs Q E hr h => ?_)
  · obtain ⟨D, e, b, rfl, _⟩ := h
    rfl
  · obtain ⟨D, a, b, rfl, ⟨s0, k, ns, hD, hS, nD⟩, hb, q⟩ := h
    have hr1 : Room 1 _ := hr.mono (by decide)
    refine ⟨_, pss_cons (ps_asg (pe_op op_add (pe_ix ix_list (pv 0) pe_int (fun _ _ => rfl)) pe_int) (pg_sub (pv 0) pe_int set_list))
      (pss_cons (ps_set (i := 2) scNext.nd rfl (.inl rfl) (pe_op op_fdiv (pe_ix ix_list (pv 0) pe_int (fun _ _ => rfl)) pe_int))
      (pss_cons (ps_set (i := 3) scNext.nd rfl (.inl rfl) (pe_op op_add (pe_call FC hr1 rfl mC kC bC .nil pass0 (pa_cons (pe_ix ix_list (pv 0) pe_int (fun _ _ => rfl)) (pa_cons (pe_op op_add (pe_ix ix_list (pv 0) pe_int (fun _ _ => rfl)) (pv 2)) pa_nil))) (pe_op op_mul pe_int (pv 2))))
      (pss_one (ps_ret (pe_call FN hr rfl mN kN bN .nil pass0 (pa_cons (pv 3) (pa_cons (pe_op op_add (pe_op op_mod (pe_callTy call_int1 (by rfl) B.int PyProof.Rows.boot_int (pa_cons (pe_ix ix_list (pv 0) pe_int (fun _ _ => rfl)) pa_nil)) pe_int) pe_int) (pa_cons (pv 1) pa_nil)))))))), ?_⟩
    have hD' : (upd H D (.lst [.ref a, .int s0, .int ((k : Int) + 1)])) D = some (.lst [.ref a, .int s0, .int ((k : Int) + 1)]) := upd_same
    refine ⟨_, rfl, D, _, _, .int k, rfl, rfl, SqL.of hD, rfl, _, _, rfl, rfl, _, rfl, D, _, 2, 2, rfl, rfl, hD, rfl, ?_⟩
    show tSeq _ _ _ _ (upd H D (.lst [.ref a, .int s0, .int ((k : Int) + 1)]))
    have hS' : (upd H D (.lst [.ref a, .int s0, .int ((k : Int) + 1)])) a = some (.lst (ns.map V.int)) := by rw [upd_ne nD]; exact hS
    refine ⟨_, rfl, D, _, _, .int ((k : Int) + 1), rfl, rfl, SqL.of hD', rfl, _, _, rfl, rfl, ⟨by decide, by decide⟩, ?_⟩
    obtain ⟨m, hm⟩ : ∃ m : Nat, ((k : Int) + 1) / 12 = m := ⟨(k + 1) / 12, by omega⟩
    show tSeq _ _ _ [_, _, some (V.int (((k : Int) + 1) / 12)), _] _
    rw [hm]
    refine ⟨_, rfl, D, _, _, .ref a, rfl, rfl, SqL.of hD', rfl, _, rfl, D, _, _, .int s0, rfl, rfl, SqL.of hD', rfl, _, rfl, _, _, rfl, rfl, a, s0 + m, ns, by rw [Int.natCast_add]; rfl, SqL.of hS', fun z => ?_⟩
    refine ⟨_, rfl, _, _, rfl, rfl, .inl ⟨by decide, by decide⟩, _, _, rfl, rfl, ?_⟩
    refine ⟨_, rfl, _, rfl, D, _, _, .int ((k : Int) + 1), rfl, rfl, SqL.of hD', rfl, .inl ⟨_, rfl, _, _, rfl, rfl, (by show (0 : Int) < 12; decide), _, _, rfl, rfl, _, rfl, ?_⟩⟩
    refine ⟨_, _, _, rfl, by omega, by omega, by omega, fun n H' hn hs => q n H' (by omega) ⟨But.trans But.upd (But.of hs), s0, k + 1, ns, ?_, hs _ _ hS', nD⟩⟩
    rw [Int.natCast_add]
    exact hs _ _ hD'
theorem scPick : FnScope ["_law_draw_here", "_law_things"] ["_law_draw_here", "_law_things"] (defScope sPick) := ⟨rfl, rfl, rfl, by decide +kernel, rfl, by decide +kernel, by decide +kernel⟩
theorem ok_pick {f fN : Addr} {fd fdN : FuncData} (F : Fun K "_law_pick" "_law_pick" sPick f fd) (B : Bl mg) (FN : FnOk P w K mg base CX0 3 fN fdN ["_law_draw_here", "_law_bound"] (spNext K)) (mN : mg "_law_next" = some (.ref fN)) (kN : PySem.W.keepIn K (.ref fN) = true) (bN : L2.Binds K fdN ["_law_draw_here", "_law_bound"] []) :
    FnOk P w K mg base CX0 4 f fd ["_law_draw_here", "_law_things"] (spPick K) := by
  refine F.ok scPick (fun vs H Q E h => ?_) (fun cdv A outer s H vs Q E hr h => ?_)
  · obtain ⟨D, e, a, xs, rfl, _⟩ := h
    rfl
  · obtain ⟨D, e, a, xs, rfl, hD, hS, nD, hx, q⟩ := h
    refine ⟨_, pss_one (ps_ret (pe_ix ix_list (pv 1) (pe_call FN hr rfl mN kN bN .nil pass0 (pa_cons (pv 0) (pa_cons (pe_callB call_len_seq (by rfl) B.len PySem.boot_len (pa_cons (pv 1) pa_nil)) pa_nil))) (fun _ _ => rfl))), ?_⟩
    have hl : 0 < xs.length := List.length_pos_iff.mpr hx
    refine ⟨_, rfl, _, rfl, _, rfl, a, xs, rfl, .inl hS, D, e, xs.length, rfl, hD, hl, fun n H' hn hd => ?_⟩
    have hS' : SqL K H' a xs := by
      rcases hS with (h | ⟨o, h⟩) | h
      · exact .inl (.inl (hd.1 _ _ h nD))
      · exact .inl (.inr ⟨o, hd.1 _ _ h nD⟩)
      · exact .inr h
    exact ⟨a, xs, _, xs[n], rfl, rfl, hS', atI_nat (by simp [hn]), q _ H' (List.getElem_mem _) hd⟩
end
end Pt
end

section
set_option Elab.async false
set_option maxRecDepth 100000
/-! # The mathematics: rows, machines -/
namespace Pt
open PySem
abbrev cs (z : Str) : List Nat := z.cps.toList
def mkS (l : List Nat) : Str := ⟨l.toArray⟩
theorem cs_mkS (l : List Nat) : cs (mkS l) = l := by simp [mkS]
theorem mkS_cs (z : Str) : mkS (cs z) = z := by cases z; simp [mkS]
theorem cs_inj {a b : Str} (h : cs a = cs b) : a = b := by rw [← mkS_cs a, ← mkS_cs b, h]
theorem cs_app (a b : Str) : cs (a ++ b) = cs a ++ cs b := by
  show (a.cps ++ b.cps).toList = _
  simp
theorem len_cs (z : Str) : z.length = (cs z).length := by show z.cps.size = _; simp
/-- an item of a row: a text, or a register -/
inductive It where
  | txt (z : Str) | reg (r : Str)
  deriving DecidableEq
abbrev Row := List It
def wrI (h : Str → Str) : It → Str
  | .txt z => z
  | .reg r => h r
def wrL (h : Str → Str) (row : Row) : List Nat := row.flatMap fun it => cs (wrI h it)
/-- what a row writes -/
def wr (row : Row) (h : Str → Str) : Str := mkS (wrL h row)
theorem wrL_nil (h : Str → Str) : wrL h [] = [] := rfl
theorem wrL_app (h : Str → Str) (a b : Row) : wrL h (a ++ b) = wrL h a ++ wrL h b := by simp [wrL]
theorem wrL_one (h : Str → Str) (it : It) : wrL h [it] = cs (wrI h it) := by simp [wrL]
theorem cs_wr (row : Row) (h : Str → Str) : cs (wr row h) = wrL h row := cs_mkS _
theorem join_cs' : ∀ ys : List Str, cs (Str.join Str.empty ys) = ys.flatMap cs
  | [] => rfl
  | [x] => by show cs x = _; simp
  | x :: y :: r => by
    have ih := join_cs' (y :: r)
    show cs (x ++ Str.empty ++ Str.join Str.empty (y :: r)) = _
    rw [cs_app, cs_app, ih]
    show cs x ++ [] ++ _ = _
    simp
theorem join_cs (ys : List Str) : cs (Txt.join Str.empty ys) = ys.flatMap cs := by
  show cs (Builtin.Str.glued Str.empty ys) = _
  rw [StrLaws.glued_eq_join, join_cs']
theorem join_wr (row : Row) (h : Str → Str) : Txt.join Str.empty (row.map (wrI h)) = wr row h := cs_inj (by
  rw [join_cs, cs_wr]
  unfold wrL
  rw [List.flatMap_map])
/-- the weight of an item, of a row: texts by their lengths, registers by w -/
def wtI (w : Str → Nat) : It → Nat
  | .txt z => (cs z).length
  | .reg r => w r
def wt (w : Str → Nat) (row : Row) : Nat := (row.map (wtI w)).sum
theorem wt_nil (w : Str → Nat) : wt w [] = 0 := rfl
theorem wt_app (w : Str → Nat) (a b : Row) : wt w (a ++ b) = wt w a + wt w b := by simp [wt]
theorem wt_cons (w : Str → Nat) (it : It) (b : Row) : wt w (it :: b) = wtI w it + wt w b := by simp [wt]
theorem wt_one (w : Str → Nat) (it : It) : wt w [it] = wtI w it := by simp [wt]
theorem len_wr (row : Row) (h : Str → Str) : (cs (wr row h)).length = wt (fun r => (cs (h r)).length) row := by
  rw [cs_wr]
  induction row with
  | nil => rfl
  | cons it r ih =>
    rw [wt_cons, ← ih]
    show (cs (wrI h it) ++ wrL h r).length = _
    rw [List.length_append]
    cases it <;> rfl
theorem sum_wr (row : Row) (h : Str → Str) : ((row.map (wrI h)).map (·.length)).sum = (cs (wr row h)).length := by
  rw [cs_wr]
  induction row with
  | nil => rfl
  | cons it r ih =>
    show (wrI h it).length + ((r.map (wrI h)).map (·.length)).sum = (cs (wrI h it) ++ wrL h r).length
    rw [ih, List.length_append, len_cs]
theorem wr_congr {row : Row} {h h' : Str → Str} (e : ∀ r, It.reg r ∈ row → h r = h' r) : wr row h = wr row h' := by
  unfold wr wrL
  congr 1
  induction row with
  | nil => rfl
  | cons it t ih =>
    rw [List.flatMap_cons, List.flatMap_cons, ih fun r hr => e r (List.mem_cons_of_mem _ hr)]
    congr 1
    cases it with
    | txt z => rfl
    | reg r => rw [wrI, wrI, e r (List.mem_cons_self ..)]
theorem wt_le_of {w w' : Str → Nat} (row : Row) (e : ∀ r, It.reg r ∈ row → w r ≤ w' r) : wt w row ≤ wt w' row := by
  induction row with
  | nil => exact Nat.le_refl _
  | cons it t ih =>
    rw [wt_cons, wt_cons]
    have := ih fun r hr => e r (List.mem_cons_of_mem _ hr)
    cases it with
    | txt z => show (cs z).length + _ ≤ (cs z).length + _; omega
    | reg r =>
      have h2 := e r (List.mem_cons_self ..)
      show w r + _ ≤ w' r + _
      omega
/-! ### the rows that joined makes -/
def jstep (acc : Row) (it : It) : Row := match it, acc.getLast? with
  | .txt z, some (.txt y) => acc.dropLast ++ [.txt (y ++ z)]
  | it, _ => acc ++ [it]
def jn (row : Row) : Row := (row.foldl jstep []).filter fun it => it ≠ .txt Str.empty
theorem jstep_join (acc : Row) (y z : Str) : jstep (acc ++ [.txt y]) (.txt z) = acc ++ [.txt (y ++ z)] := by
  unfold jstep
  simp
theorem jstep_add (acc : Row) (it : It) (h : ∀ y z, acc.getLast? = some (.txt y) → it ≠ .txt z) : jstep acc it = acc ++ [it] := by
  unfold jstep
  split
  · rename_i z y e
    exact absurd rfl (h y z e)
  · rfl
theorem jstep_wrL (h : Str → Str) (acc : Row) (it : It) : wrL h (jstep acc it) = wrL h acc ++ cs (wrI h it) := by
  unfold jstep
  split
  · rename_i z y e
    obtain ⟨l, rfl⟩ : ∃ l, acc = l ++ [It.txt y] := by
      rw [List.getLast?_eq_some_iff] at e
      exact e
    rw [List.dropLast_concat, wrL_app, wrL_app, wrL_one, wrL_one]
    show wrL h l ++ cs (y ++ z) = wrL h l ++ cs y ++ cs z
    rw [cs_app, List.append_assoc]
  · rw [wrL_app, wrL_one]
theorem jfold_wrL (h : Str → Str) : ∀ (row acc : Row), wrL h (row.foldl jstep acc) = wrL h acc ++ wrL h row
  | [], acc => by rw [wrL_nil, List.append_nil]; rfl
  | it :: r, acc => by
    rw [List.foldl_cons, jfold_wrL h r, jstep_wrL]
    show _ = wrL h acc ++ (cs (wrI h it) ++ wrL h r)
    rw [List.append_assoc]
theorem filter_wrL (h : Str → Str) : ∀ row : Row, wrL h (row.filter fun it => it ≠ .txt Str.empty) = wrL h row
  | [] => rfl
  | it :: r => by
    have ih := filter_wrL h r
    by_cases e : it = .txt Str.empty
    · rw [List.filter_cons_of_neg (by simp [e]), ih, e]
      rfl
    · rw [List.filter_cons_of_pos (by simp [e])]
      show cs (wrI h it) ++ wrL h (r.filter fun it => it ≠ .txt Str.empty) = cs (wrI h it) ++ wrL h r
      rw [ih]
theorem wr_jn (row : Row) (h : Str → Str) : wr (jn row) h = wr row h := by
  unfold wr jn
  rw [filter_wrL, jfold_wrL, wrL_nil, List.nil_append]
theorem jstep_reg {acc : Row} {it : It} {r : Str} (h : It.reg r ∈ jstep acc it) : It.reg r ∈ acc ∨ it = .reg r := by
  unfold jstep at h
  split at h
  · rename_i z y e
    rcases List.mem_append.mp h with h | h
    · exact .inl (List.dropLast_subset _ h)
    · simp at h
  · rcases List.mem_append.mp h with h | h
    · exact .inl h
    · exact .inr (List.mem_singleton.mp h).symm
theorem jfold_reg {r : Str} : ∀ {row acc : Row}, It.reg r ∈ row.foldl jstep acc → It.reg r ∈ acc ∨ It.reg r ∈ row
  | [], acc, h => .inl h
  | it :: t, acc, h => by
    rcases jfold_reg (row := t) h with h | h
    · rcases jstep_reg h with h | h
      · exact .inl h
      · exact .inr (by rw [h]; exact List.mem_cons_self ..)
    · exact .inr (List.mem_cons_of_mem _ h)
theorem jn_reg {row : Row} {r : Str} (h : It.reg r ∈ jn row) : It.reg r ∈ row := (jfold_reg (List.mem_filter.mp h).1).elim (fun z => nomatch z) id
theorem jstep_len (acc : Row) (it : It) : (jstep acc it).length ≤ acc.length + 1 := by
  unfold jstep
  split
  · rename_i z y e
    obtain ⟨l, rfl⟩ : ∃ l, acc = l ++ [It.txt y] := by
      rw [List.getLast?_eq_some_iff] at e
      exact e
    simp
  · simp
theorem jfold_len : ∀ (row acc : Row), (row.foldl jstep acc).length ≤ acc.length + row.length
  | [], acc => Nat.le_refl _
  | it :: t, acc => by
    have h1 := jfold_len t (jstep acc it)
    have h2 := jstep_len acc it
    rw [List.foldl_cons, List.length_cons]
    omega
theorem jn_len (row : Row) : (jn row).length ≤ row.length := by
  have h := jfold_len row []
  have h2 := List.length_filter_le (fun it => decide (it ≠ It.txt Str.empty)) (row.foldl jstep [])
  unfold jn
  simp only [List.length_nil] at h
  omega
theorem snoc_ind {α : Type} {p : List α → Prop} (h0 : p []) (h1 : ∀ l a, p l → p (l ++ [a])) (l : List α) : p l := by
  have key : ∀ m : List α, p m.reverse := by
    intro m
    induction m with
    | nil => exact h0
    | cons a t ih => rw [List.reverse_cons]; exact h1 _ _ ih
  have := key l.reverse
  rwa [List.reverse_reverse] at this
/-! ### machines -/
structure Mach where
  letters : List Nat
  S : Nat
  R : List Str
  firsts : Str → Str
  step : Nat → Nat → Nat × (Str → Row)
  ends : Nat → Option Row
abbrev Cfg := Nat × (Str → Str)
def Mach.stp (T : Mach) (q : Cfg) (c : Nat) : Cfg := ((T.step q.1 c).1, fun r => wr ((T.step q.1 c).2 r) q.2)
def Mach.run (T : Mach) (l : List Nat) : Cfg := l.foldl T.stp (0, T.firsts)
def Mach.out (T : Mach) (l : List Nat) : Option Str := (T.ends (T.run l).1).map fun e => wr e (T.run l).2
theorem Mach.run_nil (T : Mach) : T.run [] = (0, T.firsts) := rfl
theorem Mach.run_snoc (T : Mach) (l : List Nat) (c : Nat) : T.run (l ++ [c]) = T.stp (T.run l) c := by simp [Mach.run]
def sumR (R : List Str) (g : Str → Nat) : Nat := (R.map g).sum
/-- an item of a row over the registers R -/
def ItOk (R : List Str) : It → Prop
  | .txt z => (cs z).length ≤ 1 ∧ ∀ c ∈ cs z, c = 97 ∨ c = 98
  | .reg r => r ∈ R
structure RowsOk (R : List Str) (f : Str → Row) : Prop where
  ok : ∀ r ∈ R, ∀ it ∈ f r, ItOk R it
  wt : ∀ w : Str → Nat, sumR R (fun r => wt w (f r)) ≤ sumR R w + R.length
  len : ∀ r ∈ R, (f r).length ≤ 4
structure EndOk (R : List Str) (e : Row) : Prop where
  ok : ∀ it ∈ e, ItOk R it
  wt : ∀ w : Str → Nat, wt w e ≤ sumR R w + 1
  len : e.length ≤ 4
structure WF (T : Mach) : Prop where
  let_ : T.letters = [97, 98] ∨ T.letters = [98]
  S1 : 1 ≤ T.S
  S2 : T.S ≤ 2
  R : T.R = [] ∨ T.R = [("x" : Str)] ∨ T.R = [("x" : Str), ("y" : Str)]
  first : ∀ r ∈ T.R, (cs (T.firsts r)).length ≤ 1 ∧ ∀ c ∈ cs (T.firsts r), c = 97
  nxt : ∀ s c, s < T.S → c ∈ T.letters → (T.step s c).1 < T.S
  rows : ∀ s c, s < T.S → c ∈ T.letters → RowsOk T.R (T.step s c).2
  ends : ∀ s e, T.ends s = some e → s < T.S ∧ EndOk T.R e
section
variable {T : Mach} (W : WF T)
include W
theorem WF.R2 : T.R.length ≤ 2 := by rcases W.R with h | h | h <;> rw [h] <;> decide
theorem WF.nd : T.R.Nodup := by rcases W.R with h | h | h <;> rw [h] <;> decide +kernel
theorem WF.state {l : List Nat} (h : ∀ c ∈ l, c ∈ T.letters) : (T.run l).1 < T.S := by
  revert h
  refine snoc_ind (p := fun l => (∀ c ∈ l, c ∈ T.letters) → (T.run l).1 < T.S) (fun _ => W.S1) (fun l c ih h => ?_) l
  rw [Mach.run_snoc]
  exact W.nxt _ _ (ih fun c hc => h c (List.mem_append_left _ hc)) (h c (by simp))
omit W in
theorem sumR_le {R : List Str} {g g' : Str → Nat} (h : ∀ r ∈ R, g r ≤ g' r) : sumR R g ≤ sumR R g' := by
  unfold sumR
  induction R with
  | nil => exact Nat.le_refl _
  | cons r t ih =>
    have h1 := ih fun r hr => h r (List.mem_cons_of_mem _ hr)
    have h2 := h r (List.mem_cons_self ..)
    rw [List.map_cons, List.map_cons, List.sum_cons, List.sum_cons]
    omega
omit W in
theorem sumR_const {R : List Str} {n : Nat} : sumR R (fun _ => n) = R.length * n := by
  unfold sumR
  induction R with
  | nil => simp
  | cons r t ih =>
    rw [List.map_cons, List.sum_cons, ih, List.length_cons]
    rw [Nat.add_mul]; omega
omit W in
theorem le_sumR {R : List Str} {g : Str → Nat} {r : Str} (h : r ∈ R) : g r ≤ sumR R g := by
  unfold sumR
  induction R with
  | nil => cases h
  | cons a t ih =>
    rw [List.map_cons, List.sum_cons]
    rcases List.mem_cons.mp h with e | h
    · rw [e]; omega
    · have := ih h; omega
/-- what the registers hold together is short -/
theorem WF.size {l : List Nat} (h : ∀ c ∈ l, c ∈ T.letters) : sumR T.R (fun r => (cs ((T.run l).2 r)).length) ≤ 2 + 2 * l.length := by
  revert h
  refine snoc_ind (p := fun l => (∀ c ∈ l, c ∈ T.letters) → sumR T.R (fun r => (cs ((T.run l).2 r)).length) ≤ 2 + 2 * l.length) (fun _ => ?_) (fun l c ih h => ?_) l
  · have h1 := sumR_le (R := T.R) (g := fun r => (cs ((T.run []).2 r)).length) (g' := fun _ => 1) fun r hr => (W.first r hr).1
    rw [sumR_const] at h1
    have := W.R2
    simp only [List.length_nil]
    omega
  · have hl : ∀ c ∈ l, c ∈ T.letters := fun c hc => h c (List.mem_append_left _ hc)
    have ih := ih hl
    have hs := W.state hl
    rw [Mach.run_snoc, List.length_append, List.length_singleton]
    have ok := W.rows _ _ hs (h c (by simp))
    have h1 := ok.wt (fun r => (cs ((T.run l).2 r)).length)
    have e : (fun r => (cs ((T.stp (T.run l) c).2 r)).length) = fun r => wt (fun r => (cs ((T.run l).2 r)).length) ((T.step (T.run l).1 c).2 r) := by
      funext r
      exact len_wr _ _
    rw [e]
    have := W.R2
    omega
end
end Pt
end

section
set_option Elab.async false
set_option maxRecDepth 100000
set_option linter.unusedSectionVars false
/-! # What stands in the heap -/
namespace Pt
open PySem PySem.Spec PyProof.Rows L2
/-! ### what never changes: tuples, dicts, lists without ints, instances of other classes than CR -/
def Fz (CR : Addr) : HO → Prop
  | .tup _ => True
  | .dK _ => True
  | .dT _ => True
  | .lst xs => ∀ i, V.int i ∉ xs
  | .ins C _ _ => C ≠ CR
  | _ => False
def Stl (CR : Addr) (H H' : Hp) : Prop := ∀ b o, H b = some o → Fz CR o → H' b = some o
theorem Stl.refl (CR : Addr) (H : Hp) : Stl CR H H := fun _ _ h _ => h
theorem Stl.of {CR : Addr} {H H' : Hp} (e : Same H H') : Stl CR H H' := fun b o h _ => e b o h
theorem Stl.trans {CR : Addr} {H H1 H2 : Hp} (a : Stl CR H H1) (b : Stl CR H1 H2) : Stl CR H H2 := fun c o h n => b c o (a c o h n) n
theorem Stl.but {CR D : Addr} {H H' : Hp} (e : But D H H') (hD : ∀ o, H D = some o → ¬ Fz CR o) : Stl CR H H' := fun b o h f => e b o h fun z => by
  subst z
  exact hD _ h f
theorem DrawAt.nfz {CR D e : Addr} {K : PySem.W.Frag} {H : Hp} (d : DrawAt K H D e) : ∀ o, H D = some o → ¬ Fz CR o := fun o h f => by
  obtain ⟨s, k, ns, hD, _⟩ := d
  rw [hD] at h
  cases h
  exact f s (by simp)
theorem DrawAt.stl {CR D e : Addr} {K : PySem.W.Frag} {H H' : Hp} (d : DrawAt K H D e) (b : But D H H') : Stl CR H H' := Stl.but b d.nfz
theorem DrawAt.ne {D b e : Addr} {K : PySem.W.Frag} {H : Hp} {o : HO} (d : DrawAt K H D e) (h : H b = some o) (f : ∀ CR, Fz CR o) : b ≠ D := fun z => by
  subst z
  exact d.nfz (CR := 0) _ h (f 0)
theorem DrawAt.same {D a : Addr} {K : PySem.W.Frag} {H H' : Hp} (d : DrawAt K H D a) (e : Same H H') : DrawAt K H' D a := by
  obtain ⟨s, k, ns, hD, hS, nD⟩ := d
  exact ⟨s, k, ns, e _ _ hD, e _ _ hS, nD⟩
/-- a list, b's object changed alone -/
theorem sqL_but {K : PySem.W.Frag} {H H' : Hp} {b a : Addr} {xs : List V} (e : But b H H') (h : SqL K H a xs) (n : a ≠ b) : SqL K H' a xs := by
  rcases h with (h | ⟨o, h⟩) | h
  · exact .inl (.inl (e _ _ h n))
  · exact .inl (.inr ⟨o, e _ _ h n⟩)
  · exact .inr h
theorem DrawAt.but {D a b : Addr} {K : PySem.W.Frag} {H H' : Hp} (d : DrawAt K H D a) (e : But b H H') (n1 : D ≠ b) (n2 : a ≠ b) : DrawAt K H' D a := by
  obtain ⟨s, k, ns, hD, hS, nD⟩ := d
  exact ⟨s, k, ns, e _ _ hD n1, e _ _ hS n2, nD⟩
/-- the draw list's address, the script's: taken -/
theorem DrawAt.nn {D a b : Addr} {K : PySem.W.Frag} {H : Hp} (d : DrawAt K H D a) (h : H b = none) : D ≠ b ∧ a ≠ b := by
  obtain ⟨s, k, ns, hD, hS, nD⟩ := d
  exact ⟨ne_of_none hD h, ne_of_none hS h⟩
/-! ### dicts by their keys -/
section
variable {κ X : Type} [DecidableEq κ]
def zipF (kf : X → κ) (xs : List X) (as : List Addr) : List (κ × V) := List.zipWith (fun x a => (kf x, V.ref a)) xs as
theorem zipF_len {kf : X → κ} {xs : List X} {as : List Addr} (h : as.length = xs.length) : (zipF kf xs as).length = xs.length := by
  unfold zipF
  rw [List.length_zipWith, h, Nat.min_self]
theorem zipF_snoc {kf : X → κ} {xs : List X} {as : List Addr} (h : as.length = xs.length) (x : X) (a : Addr) : zipF kf (xs ++ [x]) (as ++ [a]) = zipF kf xs as ++ [(kf x, V.ref a)] := by
  unfold zipF
  rw [List.zipWith_append (by rw [h])]
  rfl
theorem zipF_get {kf : X → κ} {xs : List X} {as : List Addr} {i : Nat} {kv : κ × V} (h : (zipF kf xs as)[i]? = some kv) : ∃ x a, xs[i]? = some x ∧ as[i]? = some a ∧ kv = (kf x, V.ref a) := by
  unfold zipF at h
  rw [List.getElem?_zipWith] at h
  cases e1 : xs[i]? with
  | none => rw [e1] at h; cases h
  | some x =>
    cases e2 : as[i]? with
    | none => rw [e1, e2] at h; cases h
    | some a =>
      rw [e1, e2] at h
      exact ⟨x, a, rfl, rfl, (Option.some.inj h).symm⟩
theorem zipF_none {kf : X → κ} {k : κ} : ∀ {xs : List X} {as : List Addr}, (∀ x ∈ xs, kf x ≠ k) → valV (zipF kf xs as) k = none
  | [], _, _ => by unfold zipF; simp only [List.zipWith_nil_left]; exact valV_nil
  | _ :: _, [], _ => by unfold zipF; simp only [List.zipWith_nil_right]; exact valV_nil
  | x :: xs, a :: as, h => by
    have ih := zipF_none (xs := xs) (as := as) fun y hy => h y (List.mem_cons_of_mem _ hy)
    show valV ((kf x, V.ref a) :: zipF kf xs as) k = none
    rw [valV_neg (p := (kf x, V.ref a)) (h x (List.mem_cons_self ..))]
    exact ih
theorem zipF_val {R : Addr → X → Prop} {kf : X → κ} : ∀ {xs : List X} {as : List Addr} {x : X}, Paired R as xs → x ∈ xs → (∀ y ∈ xs, kf y = kf x → y = x) → ∃ a, valV (zipF kf xs as) (kf x) = some (.ref a) ∧ R a x
  | y :: ys, a :: as, x, .cons r t, hm, hi => by
    show ∃ b, valV ((kf y, V.ref a) :: zipF kf ys as) (kf x) = some (.ref b) ∧ R b x
    by_cases e : kf y = kf x
    · have e2 := hi y (List.mem_cons_self ..) e
      subst e2
      exact ⟨a, valV_pos (p := (kf y, V.ref a)) rfl, r⟩
    · rcases List.mem_cons.mp hm with z | hm
      · exact absurd (by rw [z]) e
      · obtain ⟨b, h1, h2⟩ := zipF_val (kf := kf) (x := x) t hm fun z hz => hi z (List.mem_cons_of_mem _ hz)
        exact ⟨b, by rw [valV_neg (p := (kf y, V.ref a)) e]; exact h1, h2⟩
end
theorem paired_imp {α β : Type} {F G : α → β → Prop} : ∀ {l : List α} {m : List β}, Paired F l m → (∀ a b, b ∈ m → F a b → G a b) → Paired G l m
  | _, _, .nil, _ => .nil
  | _, _, .cons r t, f => .cons (f _ _ (List.mem_cons_self ..) r) (paired_imp t fun a b hb => f a b (List.mem_cons_of_mem _ hb))
theorem paired_snoc {α β : Type} {F : α → β → Prop} : ∀ {l : List α} {m : List β} {a : α} {b : β}, Paired F l m → F a b → Paired F (l ++ [a]) (m ++ [b])
  | _, _, _, _, .nil, r => .cons r .nil
  | _, _, _, _, .cons r t, r' => .cons r (paired_snoc t r')
theorem paired_app {α β : Type} {F : α → β → Prop} : ∀ {l l' : List α} {m m' : List β}, Paired F l m → Paired F l' m' → Paired F (l ++ l') (m ++ m')
  | _, _, _, _, .nil, s => s
  | _, _, _, _, .cons r t, s => .cons r (paired_app t s)
theorem paired_get {α β : Type} {F : α → β → Prop} : ∀ {l : List α} {m : List β} {i : Nat} {b : β}, Paired F l m → m[i]? = some b → ∃ a, l[i]? = some a ∧ F a b
  | _, _, _, _, .nil, e => by simp at e
  | _, _, 0, _, .cons r _, e => by simp at e; subst e; exact ⟨_, rfl, r⟩
  | _, _, i + 1, _, .cons _ t, e => by
    obtain ⟨a, h1, h2⟩ := paired_get (i := i) t (by simpa using e)
    exact ⟨a, by simpa using h1, h2⟩
/-! ### rows -/
def ItV (H : Hp) (v : V) : It → Prop
  | .txt z => v = .str z
  | .reg r => ∃ a, v = .ref a ∧ H a = some (.tup [.str r])
/-- a row at a, a tuple -/
def RowAt (H : Hp) (a : Addr) (row : Row) : Prop := ∃ vs, H a = some (.tup vs) ∧ Paired (ItV H) vs row
/-- a dict of rows by registers -/
def RowsD (H : Hp) (d : Addr) (R : List Str) (f : Str → Row) : Prop := ∃ as, H d = some (.dK (zipF (κ := Key) Sum.inr R as)) ∧ Paired (fun a r => RowAt H a (f r)) as R
/-- a dict of texts by registers -/
def heldK (R : List Str) (h : Str → Str) : List (Key × V) := R.map fun r => (Sum.inr r, V.str (h r))
def HeldAt (H : Hp) (d : Addr) (R : List Str) (h : Str → Str) : Prop := H d = some (.dK (heldK R h))
section
variable {CR : Addr} {H H' : Hp}
theorem ItV.stl (e : Stl CR H H') {v : V} : ∀ {it : It}, ItV H v it → ItV H' v it
  | .txt _, h => h
  | .reg _, ⟨a, h1, h2⟩ => ⟨a, h1, e _ _ h2 trivial⟩
theorem RowAt.stl (e : Stl CR H H') {a : Addr} {row : Row} (r : RowAt H a row) : RowAt H' a row := by
  obtain ⟨vs, h1, h2⟩ := r
  exact ⟨vs, e _ _ h1 trivial, paired_imp h2 fun _ _ _ h => h.stl e⟩
theorem RowsD.stl (e : Stl CR H H') {d : Addr} {R : List Str} {f : Str → Row} (r : RowsD H d R f) : RowsD H' d R f := by
  obtain ⟨as, h1, h2⟩ := r
  exact ⟨as, e _ _ h1 trivial, paired_imp h2 fun _ _ _ h => h.stl e⟩
theorem HeldAt.stl (e : Stl CR H H') {d : Addr} {R : List Str} {h : Str → Str} (r : HeldAt H d R h) : HeldAt H' d R h := e _ _ r trivial
theorem inr_inj {R : List Str} {r : Str} : ∀ y ∈ R, (Sum.inr y : Key) = Sum.inr r → y = r := fun _ _ h => Sum.inr.inj h
theorem RowsD.get {d : Addr} {R : List Str} {f : Str → Row} (x : RowsD H d R f) {r : Str} (hr : r ∈ R) : ∃ a, DGet H d (.str r) (some (.ref a)) ∧ RowAt H a (f r) := by
  obtain ⟨as, h1, h2⟩ := x
  obtain ⟨a, h3, h4⟩ := zipF_val (κ := Key) (kf := Sum.inr) h2 hr inr_inj
  exact ⟨a, by rw [← h3]; exact DGet.k (k := Sum.inr r) h1, h4⟩
theorem heldK_val {R : List Str} {h : Str → Str} {r : Str} (hr : r ∈ R) : valV (heldK R h) (Sum.inr r : Key) = some (.str (h r)) := by
  unfold heldK
  induction R with
  | nil => cases hr
  | cons a t ih =>
    rw [List.map_cons]
    by_cases e : a = r
    · subst e
      exact valV_pos (p := ((Sum.inr a : Key), V.str (h a))) rfl
    · rw [valV_neg (p := ((Sum.inr a : Key), V.str (h a))) fun z => e (Sum.inr.inj z)]
      exact ih ((List.mem_cons.mp hr).resolve_left (Ne.symm e))
theorem heldK_none {R : List Str} {h : Str → Str} {r : Str} (hr : r ∉ R) : valV (heldK R h) (Sum.inr r : Key) = none := by
  unfold heldK
  induction R with
  | nil => rfl
  | cons a t ih =>
    rw [List.map_cons, valV_neg (p := ((Sum.inr a : Key), V.str (h a))) fun z => hr (by rw [Sum.inr.inj z]; exact List.mem_cons_self ..)]
    exact ih fun z => hr (List.mem_cons_of_mem _ z)
theorem HeldAt.get {d : Addr} {R : List Str} {h : Str → Str} (x : HeldAt H d R h) {r : Str} (hr : r ∈ R) : DGet H d (.str r) (some (.str (h r))) := by
  rw [← heldK_val (h := h) hr]
  exact DGet.k (k := Sum.inr r) x
theorem heldK_congr {R : List Str} {h h' : Str → Str} (e : ∀ r ∈ R, h r = h' r) : heldK R h = heldK R h' := by
  unfold heldK
  exact List.map_congr_left fun r hr => by rw [e r hr]
theorem heldK_snoc {R : List Str} {h : Str → Str} {r : Str} (hr : r ∉ R) : putK (heldK R h) (Sum.inr r : Key) (.str (h r)) = heldK (R ++ [r]) h := by
  rw [putK_new _ (heldK_none hr)]
  unfold heldK
  rw [List.map_append]
  rfl
theorem heldK_len (R : List Str) (h : Str → Str) : (heldK R h).length = R.length := List.length_map ..
end
/-! ### steps, ends -/
/-- the keys of the steps -/
def duo (S : Nat) (L : List Nat) : List (Nat × Nat) := (List.range S).flatMap fun s => L.map fun c => (s, c)
def duoK (p : Nat × Nat) : List Key := [.inl (p.1 : Int), .inr (mkS [p.2])]
theorem duoK_inj {p q : Nat × Nat} (h : duoK p = duoK q) : p = q := by
  unfold duoK at h
  injection h with h1 h2
  injection h2 with h2 _
  have e1 : (p.1 : Int) = q.1 := Sum.inl.inj h1
  have e2 : mkS [p.2] = mkS [q.2] := Sum.inr.inj h2
  have e3 := congrArg cs e2
  rw [cs_mkS, cs_mkS] at e3
  injection e3 with e3 _
  cases p; cases q
  simp only at e1 e3
  rw [Prod.mk.injEq]
  exact ⟨by omega, e3⟩
theorem mem_duo {S : Nat} {L : List Nat} {s c : Nat} : (s, c) ∈ duo S L ↔ s < S ∧ c ∈ L := by
  unfold duo
  rw [List.mem_flatMap]
  constructor
  · rintro ⟨t, ht, h⟩
    obtain ⟨x, hx, e⟩ := List.mem_map.mp h
    injection e with e1 e2
    subst e1 e2
    exact ⟨List.mem_range.mp ht, hx⟩
  · rintro ⟨h1, h2⟩
    exact ⟨s, List.mem_range.mpr h1, List.mem_map.mpr ⟨c, h2, rfl⟩⟩
/-- one step: the next state and the rows -/
def StepAt (H : Hp) (a : Addr) (R : List Str) (q : Nat × (Str → Row)) : Prop := ∃ d, H a = some (.tup [.int q.1, .ref d]) ∧ RowsD H d R q.2
def StepsD (H : Hp) (d : Addr) (R : List Str) (ks : List (Nat × Nat)) (g : Nat → Nat → Nat × (Str → Row)) : Prop := ∃ as, H d = some (.dT (zipF duoK ks as)) ∧ Paired (fun a (p : Nat × Nat) => StepAt H a R (g p.1 p.2)) as ks
def endL (S : Nat) (ends : Nat → Option Row) : List Nat := (List.range S).filter fun s => (ends s).isSome
def EndsD (H : Hp) (d : Addr) (ss : List Nat) (ends : Nat → Option Row) : Prop := ∃ as, H d = some (.dK (zipF (κ := Key) (fun s : Nat => Sum.inl (s : Int)) ss as)) ∧ Paired (fun a s => ∃ e, ends s = some e ∧ RowAt H a e) as ss
section
variable {CR : Addr} {H H' : Hp}
theorem StepAt.stl (e : Stl CR H H') {a : Addr} {R : List Str} {q : Nat × (Str → Row)} (x : StepAt H a R q) : StepAt H' a R q := by
  obtain ⟨d, h1, h2⟩ := x
  exact ⟨d, e _ _ h1 trivial, h2.stl e⟩
theorem StepsD.stl (e : Stl CR H H') {d : Addr} {R : List Str} {ks : List (Nat × Nat)} {g : Nat → Nat → Nat × (Str → Row)} (x : StepsD H d R ks g) : StepsD H' d R ks g := by
  obtain ⟨as, h1, h2⟩ := x
  exact ⟨as, e _ _ h1 trivial, paired_imp h2 fun _ _ _ h => h.stl e⟩
theorem EndsD.stl (e : Stl CR H H') {d : Addr} {ss : List Nat} {ends : Nat → Option Row} (x : EndsD H d ss ends) : EndsD H' d ss ends := by
  obtain ⟨as, h1, h2⟩ := x
  exact ⟨as, e _ _ h1 trivial, paired_imp h2 fun _ _ _ ⟨r, h3, h4⟩ => ⟨r, h3, h4.stl e⟩⟩
/-- steps[s, c]: the key is a tuple at b -/
theorem StepsD.get {d b : Addr} {R : List Str} {S : Nat} {L : List Nat} {g : Nat → Nat → Nat × (Str → Row)} (x : StepsD H d R (duo S L) g) {s c : Nat} (hs : s < S) (hc : c ∈ L) (hb : H b = some (.tup [.int (s : Nat), .str (mkS [c])])) :
    ∃ a, DGet H d (.ref b) (some (.ref a)) ∧ StepAt H a R (g s c) := by
  obtain ⟨as, h1, h2⟩ := x
  obtain ⟨a, h3, h4⟩ := zipF_val (kf := duoK) (x := (s, c)) h2 (mem_duo.mpr ⟨hs, hc⟩) fun y _ h => duoK_inj h
  exact ⟨a, by rw [← h3]; exact DGet.t (k := duoK (s, c)) h1 hb, h4⟩
theorem EndsD.get {d : Addr} {S : Nat} {ends : Nat → Option Row} (x : EndsD H d (endL S ends) ends) {s : Nat} (hs : s < S) : (ends s = none ∧ DGet H d (.int s) none) ∨ ∃ e a, ends s = some e ∧ DGet H d (.int s) (some (.ref a)) ∧ RowAt H a e := by
  obtain ⟨as, h1, h2⟩ := x
  cases he : ends s with
  | none =>
    refine .inl ⟨rfl, ?_⟩
    rw [← zipF_none (κ := Key) (kf := fun s : Nat => Sum.inl (s : Int)) (k := Sum.inl (s : Int)) (xs := endL S ends) (as := as) fun y hy z => ?_]
    · exact DGet.k (k := Sum.inl (s : Int)) h1
    · have e : (y : Int) = s := Sum.inl.inj z
      have e : y = s := by omega
      subst e
      have := (List.mem_filter.mp hy).2
      rw [he] at this
      cases this
  | some e =>
    obtain ⟨a, h3, e', h4, h5⟩ := zipF_val (κ := Key) (kf := fun s : Nat => Sum.inl (s : Int)) (x := s) h2 (List.mem_filter.mpr ⟨List.mem_range.mpr hs, by rw [he]; rfl⟩) fun y _ z => by
      have e : (y : Int) = s := Sum.inl.inj z
      omega
    rw [he] at h4
    cases h4
    exact .inr ⟨e, a, rfl, by rw [← h3]; exact DGet.k (k := Sum.inl (s : Int)) h1, h5⟩
end
end Pt
end

section
set_option Elab.async false
set_option maxRecDepth 100000
set_option maxHeartbeats 1000000
set_option linter.unusedSectionVars false
namespace Pt
open PySem PySem.Spec PyProof.Rows L2
/-! ### a def by its name -/
structure Ca (P : Program) (w : World) (K : PySem.W.Frag) (mg : Str → Option Value) (base : Heap) (k : Nat) (x : Str) (ps : List Str) (sp : Sp) : Prop where
  ex : ∃ f fd, FnOk P w K mg base CX0 k f fd ps sp ∧ mg x = some (.ref f) ∧ PySem.W.keepIn K (.ref f) = true ∧ L2.Binds K fd ps []
section
variable {X : Cx} {k j : Nat} {x : Str} {ps : List Str} {sp : Sp} {t : TA} {e : Expr} {es : List Expr} {p pos : Pos}
theorem pe_ca (c : Ca X.prog X.w X.K X.mg X.base k x ps sp) (hr : Room j X.A) (hk : k ≤ j) (hg : Gl X x) (ha : PA X (e :: es) t)
    (hdb : (x == ("__debug__" : Str)) = false := by decide) (he : starEach (e :: es) X.env = (false, eval e X.env) :: starEach es X.env := by rfl) (hpl : (backTo pos (starEach es X.env)).any (·.1) = false := by rfl) :
    PE X (.Call (.Name x p) (e :: es) [] pos) (tCall sp [] E0 t) := by
  obtain ⟨f, fd, F, m, kp, b⟩ := c.ex
  exact pe_call F (hr.mono hk) hg m kp b .nil pass0 ha hdb he hpl
end
theorem hu1 {k : Nat} {A : Around} (r : Room k A) : A.units + 1 < cLine := by have := r.units; omega
/-! ### dict(pairs), distinct keys -/
theorem mergeK_app : ∀ {kvs acc : List (Key × V)}, (∀ p ∈ kvs, valV acc p.1 = none) → (kvs.map (·.1)).Nodup → mergeK acc kvs = acc ++ kvs
  | [], acc, _, _ => by show acc = acc ++ []; rw [List.append_nil]
  | p :: r, acc, h, nd => by
    rw [List.map_cons, List.nodup_cons] at nd
    show mergeK (putK acc p.1 p.2) r = acc ++ p :: r
    have h0 := h p (List.mem_cons_self ..)
    rw [putK_new _ h0, mergeK_app (fun q hq => ?_) nd.2, List.append_assoc]
    · rfl
    · rw [valV_snoc p.1 q.1 p.2 acc h0, if_neg fun e => nd.1 (by rw [← e]; exact List.mem_map.mpr ⟨q, hq, rfl⟩)]
      exact h q (List.mem_cons_of_mem _ hq)
theorem mergeK_nd {kvs : List (Key × V)} (nd : (kvs.map (·.1)).Nodup) : mergeK [] kvs = kvs := mergeK_app (acc := []) (fun _ _ => rfl) nd
/-- the pairs as a dict has them -/
def pairK (R : List Str) (vs : List V) : List (Key × V) := (R.zip vs).map fun p => (Sum.inr p.1, p.2)
theorem pairK_keys {R : List Str} {vs : List V} (h : vs.length = R.length) : (pairK R vs).map (·.1) = R.map (Sum.inr : Str → Key) := by
  unfold pairK
  rw [List.map_map]
  have e : (R.zip vs).map Prod.fst = R := List.map_fst_zip (by omega)
  show (R.zip vs).map ((Sum.inr : Str → Key) ∘ Prod.fst) = _
  rw [← List.map_map, e]
theorem nodup_inr {R : List Str} (h : R.Nodup) : (R.map (Sum.inr : Str → Key)).Nodup := by
  rw [List.nodup_iff_pairwise_ne, List.pairwise_map]
  exact (List.nodup_iff_pairwise_ne.mp h).imp fun hne e => hne (Sum.inr.inj e)
theorem pairK_held (R : List Str) (h : Str → Str) : pairK R (R.map fun r => V.str (h r)) = heldK R h := by
  unfold pairK heldK
  rw [List.zip_map_right, List.map_map]
  induction R with
  | nil => rfl
  | cons a t ih => rw [List.zip_cons_cons, List.map_cons, List.map_cons, ih]; rfl
theorem pairK_zip (R : List Str) (as : List Addr) : pairK R (as.map V.ref) = zipF (κ := Key) Sum.inr R as := by
  unfold pairK zipF
  induction R generalizing as with
  | nil => rfl
  | cons a t ih =>
    cases as with
    | nil => rfl
    | cons b u =>
      rw [List.map_cons, List.zip_cons_cons, List.map_cons, ih]
      rfl
theorem zip_snoc {α β : Type} {R : List α} {vs : List β} {i : Nat} {r : α} {y : β} (hr : R[i]? = some r) (hv : vs.length = i) : (R.take (i + 1)).zip (vs ++ [y]) = (R.take i).zip vs ++ [(r, y)] := by
  have hi : i < R.length := by
    rcases Nat.lt_or_ge i R.length with h | h
    · exact h
    · rw [List.getElem?_eq_none h] at hr; cases hr
  rw [List.take_add_one, hr]
  show (R.take i ++ [r]).zip (vs ++ [y]) = _
  rw [List.zip_append (by rw [List.length_take, hv]; omega)]
  rfl
theorem paired_map {α β γ : Type} {F : α → β → Prop} {G : α → γ → Prop} {f : β → γ} : ∀ {l : List α} {m : List β}, Paired F l m → (∀ a b, F a b → G a (f b)) → Paired G l (m.map f)
  | _, _, .nil, _ => .nil
  | _, _, .cons r t, h => .cons (h _ _ r) (paired_map t h)
theorem yes_then {σ : L2.St} {H : Hp} {A B : Hp → Prop} (h : A H) : tYes σ H (fun b H3 => if b = true then A H3 else B H3) := by
  show (if true = true then A H else B H)
  rw [if_pos rfl]
  exact h
/-- the readings, one step unfolded -/
theorem seq_asg {te : TE} {g : TG} {u : TS} {D : Ends} {σ : L2.St} {H : Hp} (h : te σ H fun x H1 => g x σ H1 (u D)) : tSeq (tAsg te g) u D σ H := h
theorem via {te : TE} {σ : L2.St} {H : Hp} {Q : VK} (S : V → Hp → Prop) (h : ∀ Q' : VK, (∀ x H', S x H' → Q' x H') → te σ H Q') (hq : ∀ x H', S x H' → Q x H') : te σ H Q := h Q hq
theorem nx_of {D : Ends} {f : L2.St → Hp → Prop} {σ : L2.St} {H : Hp} (h : f σ H) : ({ D with nx := f } : Ends).nx σ H := h
theorem seq_if {c : TT} {t u' u : TS} {D : Ends} {σ : L2.St} {H : Hp} (h : c σ H fun b H1 => if b = true then t { D with nx := u D } σ H1 else u' { D with nx := u D } σ H1) : tSeq (tIfS c t u') u D σ H := h
theorem or_not {te : TE} {tc : TT} {σ : L2.St} {H : Hp} {Q : Bool → Hp → Prop} (h : te σ H fun x H1 => ∃ c, x = .bl c ∧ if (!c) = true then Q true H1 else tc σ H1 Q) : tOr (tNot (tB te)) tc σ H Q := h
theorem not_of {te : TE} {σ : L2.St} {H : Hp} {Q : Bool → Hp → Prop} (h : te σ H fun x H1 => ∃ c, x = .bl c ∧ Q (!c) H1) : tNot (tB te) σ H Q := h
theorem if_no {A B : Prop} (h : B) : if false = true then A else B := h
theorem if_yes {A B : Prop} (h : A) : if true = true then A else B := h
theorem no_if {E : Ends} {t : TS} {σ : L2.St} {H : Hp} (h : E.nx σ H) : if false = true then t E σ H else tNext E σ H := h
theorem ret_of {te : TE} {D : Ends} {σ : L2.St} {H : Hp} (h : te σ H D.rt) : tRet te D σ H := h
theorem asg_of {te : TE} {g : TG} {D : Ends} {σ : L2.St} {H : Hp} (h : te σ H fun x H1 => g x σ H1 D.nx) : tAsg te g D σ H := h
/-- dict([(x, E) for x in a list of texts]) -/
theorem dict_lc {K : PySem.W.Frag} {CR : Addr} {R : List Str} {σ : L2.St} {H1 H0 : Hp} {i0 : Nat} {tl tE : TE} {Q : VK} (a : Addr) (I : Addr → Nat → List V → Hp → Prop) (hnd : R.Nodup) (hz : R.length ≤ 1000) (hi0 : i0 < σ.length)
    (hl0 : ∀ R : VK, R (.ref a) H1 → tl σ H0 R) (ha : SqL K H1 a (R.map V.str))
    (h0 : ∀ L, H1 L = none → I L 0 [] (upd H1 L (.lst [])))
    (hS : ∀ L i vs H, I L i vs H → SqL K H a (R.map V.str))
    (hst : ∀ L i vs H H', (∃ ps : List Addr, H L = some (.lst (ps.map V.ref))) → I L i vs H → But L H H' → I L i vs H')
    (hE : ∀ L i r vs H, H1 L = none → (∃ ps : List Addr, H L = some (.lst (ps.map V.ref))) → R[i]? = some r → vs.length = i → I L i vs H → ∀ Q' : VK, (∀ y H', Stl CR H H' → I L (i + 1) (vs ++ [y]) H' → Q' y H') → tE ((wipe σ [i0]).set i0 (some (.str r))) H Q')
    (hd : ∀ L vs H, H1 L = none → vs.length = R.length → I L R.length vs H → ∀ p, H p = none → Q (.ref p) (upd H p (.dK (pairK R vs)))) :
    tCB (fun xs H Q => ∃ (c : Addr) (ps : List Addr) (kvs : List (Key × V)), xs = [V.ref c] ∧ SqL K H c (ps.map V.ref) ∧ Paired (fun p kv => SqT K H p [kV kv.1, kv.2]) ps kvs ∧ ∀ p, H p = none → Q (.ref p) (upd H p (.dK (mergeK [] kvs))))
      (tCons (tLc (iList K tl) (gName i0) tYes (tTup (tCons (tVar i0) (tCons tE tNil))) [i0]) tNil) σ H0 Q := by
  refine hl0 _ ⟨a, rfl, ⟨_, ha⟩, ?_⟩
  intro L hL
  have hl : i0 < (wipe σ [i0]).length := by rw [wipe_length]; exact hi0
  refine lc_list (K := K) (a := a) (xs := R.map V.str) (Qd := fun H => ∃ (c : Addr) (ps : List Addr) (kvs : List (Key × V)), [V.ref L] = [V.ref c] ∧ SqL K H c (ps.map V.ref) ∧ Paired (fun p kv => SqT K H p [kV kv.1, kv.2]) ps kvs ∧ ∀ p, H p = none → Q (.ref p) (upd H p (.dK (mergeK [] kvs))))
    (fun i H => ∃ (ps : List Addr) (vs : List V), vs.length = i ∧ H L = some (.lst (ps.map V.ref)) ∧ ps.length ≤ i ∧ Paired (fun p kv => H p = some (.tup [V.str kv.1, kv.2])) ps ((R.take i).zip vs) ∧ I L i vs H) ?_ ?_ ?_ ?_
  · exact ⟨[], [], rfl, upd_same, Nat.le_refl _, .nil, h0 L hL⟩
  · rintro i H _ ⟨ps, vs, _, _, _, _, hI⟩
    exact hS _ _ _ _ hI
  · rintro i x H hx ⟨ps, vs, hv, hLx, hpl, hp, hI⟩
    rw [List.getElem?_map] at hx
    obtain ⟨r, hr, rfl⟩ := Option.map_eq_some_iff.mp hx
    have hiR : i < R.length := by
      rcases Nat.lt_or_ge i R.length with h | h
      · exact h
      · rw [List.getElem?_eq_none h] at hr; cases hr
    refine ⟨by simp [wipe], ?_⟩
    refine yes_then ?_
    refine ⟨_, List.getElem?_set_self hl, hE L i r vs H hL ⟨_, hLx⟩ hr hv hI _ fun y H' es hI' => ⟨by show 2 ≤ sizeLine; decide, fun p hp0 => ?_⟩⟩
    have fzL : Fz CR (.lst (ps.map V.ref)) := fun i hm => by
      obtain ⟨z, _, e⟩ := List.mem_map.mp hm
      cases e
    have hLx' := es _ _ hLx fzL
    have hne : L ≠ p := ne_of_none hLx' hp0
    have hLx2 : upd H' p (.tup [V.str r, y]) L = some (.lst (ps.map V.ref)) := by rw [upd_ne hne]; exact hLx'
    refine ⟨_, hLx2, by rw [List.length_map]; exact Nat.lt_of_le_of_lt (Nat.le_trans hpl (Nat.le_trans (Nat.le_of_lt hiR) hz)) (by decide), ps ++ [p], vs ++ [y], by rw [List.length_append, hv]; rfl, by rw [upd_same, List.map_append]; rfl, by rw [List.length_append]; exact Nat.succ_le_succ hpl, ?_, ?_⟩
    · rw [zip_snoc hr hv]
      have tupK : ∀ {q : Addr} {l : List V}, H' q = some (.tup l) → upd (upd H' p (.tup [V.str r, y])) L (.lst (ps.map V.ref ++ [V.ref p])) q = some (.tup l) := fun {q l} h => by
        rw [upd_ne (fun e => by subst e; rw [h] at hLx'; cases hLx'), upd_ne (ne_of_none h hp0)]
        exact h
      refine paired_snoc (paired_imp hp fun q kv _ h => tupK (es _ _ h trivial)) ?_
      show upd (upd H' p (.tup [V.str r, y])) L _ p = _
      rw [upd_ne hne.symm, upd_same]
    · exact hst _ _ _ _ _ ⟨_, hLx'⟩ hI' (But.trans (But.of (same_new hp0)) But.upd)
  · rintro H ⟨ps, vs, hv, hLx, hpl, hp, hI⟩
    rw [List.length_map] at hv hI
    rw [List.length_map] at hp
    rw [List.take_length] at hp
    refine ⟨L, ps, pairK R vs, rfl, SqL.of hLx, ?_, fun p hpn => ?_⟩
    · exact paired_map hp fun q kv h => SqT.of h
    · rw [mergeK_nd (by rw [pairK_keys hv]; exact nodup_inr hnd)]
      exact hd L vs H hL hv hI p hpn
end Pt
end

section
set_option Elab.async false
set_option maxRecDepth 100000
set_option maxHeartbeats 1000000
set_option linter.unusedSectionVars false
namespace Pt
open PySem PySem.Spec PyProof.Rows L2
/-! ### rows as lists, while they grow -/
theorem paired_length {α β : Type} {F : α → β → Prop} : ∀ {l : List α} {m : List β}, Paired F l m → l.length = m.length
  | _, _, .nil => rfl
  | _, _, .cons _ t => congrArg (· + 1) (paired_length t)
def RowO : HO → Prop
  | .tup _ => True
  | .lst xs => ∀ i, V.int i ∉ xs
  | _ => False
def Rst (H H' : Hp) : Prop := ∀ b o, H b = some o → RowO o → H' b = some o
theorem Rst.stl {CR : Addr} {H H' : Hp} (e : Stl CR H H') : Rst H H' := fun b o h f => e b o h (by
  cases o <;> first | exact f | exact f.elim)
theorem Rst.upd {H : Hp} {d : Addr} {o o' : HO} (h : H d = some o) (n : ¬ RowO o) : Rst H (upd H d o') := fun b u hb f => by
  rw [upd_ne (fun e => by subst e; rw [h] at hb; cases hb; exact n f)]
  exact hb
theorem Rst.new {H : Hp} {d : Addr} {o' : HO} (h : H d = none) : Rst H (L2.upd H d o') := fun b u hb _ => by
  rw [upd_ne (ne_of_none hb h)]
  exact hb
theorem ItV.rst {H H' : Hp} (e : Rst H H') {v : V} : ∀ {it : It}, ItV H v it → ItV H' v it
  | .txt _, h => h
  | .reg _, ⟨a, h1, h2⟩ => ⟨a, h1, e _ _ h2 trivial⟩
theorem ItV.noint {H : Hp} : ∀ {vs : List V} {row : Row}, Paired (ItV H) vs row → ∀ i, V.int i ∉ vs
  | _, _, .nil, _, h => by cases h
  | _, it :: _, .cons (a := v) r t, i, h => by
    rcases List.mem_cons.mp h with e | h
    · subst e
      cases it with
      | txt z => cases (show V.int i = .str z from r)
      | reg z =>
        obtain ⟨a, h1, _⟩ := r
        cases h1
    · exact ItV.noint t i h
def LRowAt (H : Hp) (a : Addr) (row : Row) : Prop := ∃ vs, H a = some (.lst vs) ∧ Paired (ItV H) vs row
theorem LRowAt.rst {H H' : Hp} (e : Rst H H') {a : Addr} {row : Row} (r : LRowAt H a row) : LRowAt H' a row := by
  obtain ⟨vs, h1, h2⟩ := r
  exact ⟨vs, e _ _ h1 (ItV.noint h2), paired_imp h2 fun _ _ _ h => h.rst e⟩
def LRows (H : Hp) (d : Addr) (R : List Str) (f : Str → Row) : Prop := ∃ as, H d = some (.dK (zipF (κ := Key) Sum.inr R as)) ∧ Paired (fun a r => LRowAt H a (f r)) as R
theorem LRows.stl {CR d : Addr} {H H' : Hp} {R : List Str} {f : Str → Row} (e : Stl CR H H') (x : LRows H d R f) : LRows H' d R f := by
  obtain ⟨as, h1, h2⟩ := x
  exact ⟨as, e _ _ h1 trivial, paired_imp h2 fun _ _ _ h => h.rst (Rst.stl e)⟩
theorem LRows.get {H : Hp} {d : Addr} {R : List Str} {f : Str → Row} (x : LRows H d R f) {r : Str} (hr : r ∈ R) : ∃ a, DGet H d (.str r) (some (.ref a)) ∧ LRowAt H a (f r) := by
  obtain ⟨as, h1, h2⟩ := x
  obtain ⟨a, h3, h4⟩ := zipF_val (κ := Key) (kf := Sum.inr) h2 hr inr_inj
  exact ⟨a, by rw [← h3]; exact DGet.k (k := Sum.inr r) h1, h4⟩
def upF (f : Str → Row) (t : Str) (row : Row) : Str → Row := fun r => if r = t then row else f r
theorem map_zip {F G : Addr → Str → Prop} {t : Str} {b : Addr} : ∀ {R : List Str} {as : List Addr}, Paired F as R → (∀ a r, r ≠ t → F a r → G a r) → G b t →
    ∃ as', (zipF (κ := Key) Sum.inr R as).map (fun kv => if kv.1 = (Sum.inr t : Key) then (kv.1, V.ref b) else kv) = zipF (κ := Key) Sum.inr R as' ∧ Paired G as' R
  | _, _, .nil, _, _ => ⟨[], rfl, .nil⟩
  | r :: R, a :: as, .cons h hp, hG, hb => by
    obtain ⟨as', e, hp'⟩ := map_zip hp hG hb
    by_cases hr : r = t
    · subst hr
      refine ⟨b :: as', ?_, .cons hb hp'⟩
      show (if (Sum.inr r : Key) = Sum.inr r then ((Sum.inr r : Key), V.ref b) else (Sum.inr r, V.ref a)) :: _ = (Sum.inr r, V.ref b) :: zipF (κ := Key) Sum.inr R as'
      rw [if_pos rfl, ← e]
      rfl
    · refine ⟨a :: as', ?_, .cons (hG _ _ hr h) hp'⟩
      show (if (Sum.inr r : Key) = Sum.inr t then ((Sum.inr r : Key), V.ref b) else (Sum.inr r, V.ref a)) :: _ = (Sum.inr r, V.ref a) :: zipF (κ := Key) Sum.inr R as'
      rw [if_neg fun z => hr (Sum.inr.inj z), ← e]
      rfl
theorem LRows.put {H : Hp} {d p : Addr} {R : List Str} {f : Str → Row} (x : LRows H d R f) (hz : R.length ≤ 1000) {t : Str} (ht : t ∈ R) {row : Row} (hp : LRowAt H p row) :
    ∃ kvs, DPut H d (.str t) (.ref p) (upd H d (.dK kvs)) ∧ LRows (upd H d (.dK kvs)) d R (upF f t row) := by
  obtain ⟨as, h1, h2⟩ := x
  have hr : Rst H (upd H d (.dK (putK (zipF (κ := Key) Sum.inr R as) (Sum.inr t) (.ref p)))) := Rst.upd h1 (fun z => z)
  obtain ⟨a, h3, _⟩ := zipF_val (κ := Key) (kf := Sum.inr) h2 ht inr_inj
  refine ⟨_, DPut.k (k := Sum.inr t) h1 ?_, ?_⟩
  · have := paired_length h2
    rw [zipF_len this]
    exact Nat.lt_of_le_of_lt hz (by decide)
  · obtain ⟨as', e, hp'⟩ := map_zip (t := t) (b := p) (G := fun a r => LRowAt (upd H d (.dK (putK (zipF (κ := Key) Sum.inr R as) (Sum.inr t) (.ref p)))) a (upF f t row r)) h2 (fun a r hne h => by
      show LRowAt _ a (if r = t then row else f r)
      rw [if_neg hne]
      exact h.rst hr) (by
      show LRowAt _ p (if t = t then row else f t)
      rw [if_pos rfl]
      exact hp.rst hr)
    refine ⟨as', ?_, hp'⟩
    rw [upd_same, ← e]
    unfold putK
    rw [valV_any, h3]
    rfl
/-! ### the mathematics of the rows drawn -/
theorem sumR_upF {R : List Str} (nd : R.Nodup) {t : Str} (ht : t ∈ R) (f : Str → Row) (row : Row) (w : Str → Nat) : sumR R (fun r => wt w (upF f t row r)) + wt w (f t) = sumR R (fun r => wt w (f r)) + wt w row := by
  unfold sumR
  induction R with
  | nil => cases ht
  | cons a r ih =>
    rw [List.nodup_cons] at nd
    rw [List.map_cons, List.map_cons, List.sum_cons, List.sum_cons]
    by_cases e : a = t
    · subst e
      have h1 : r.map (fun r => wt w (upF f a row r)) = r.map fun r => wt w (f r) := List.map_congr_left fun x hx => by
        unfold upF
        rw [if_neg fun z => nd.1 (by rw [← z]; exact hx)]
      rw [h1]
      have h2 : upF f a row a = row := if_pos rfl
      rw [h2]
      omega
    · have ih := ih nd.2 ((List.mem_cons.mp ht).resolve_left (Ne.symm e))
      have h2 : upF f t row a = f a := if_neg e
      rw [h2]
      omega
theorem sumR_take {R : List Str} {i : Nat} {n : Str} (h : R[i]? = some n) (w : Str → Nat) : sumR (R.take (i + 1)) w = sumR (R.take i) w + w n := by
  unfold sumR
  rw [List.take_add_one, h]
  simp
structure RI (R : List Str) (i : Nat) (f : Str → Row) : Prop where
  ok : ∀ r ∈ R, ∀ it ∈ f r, ItOk R it
  wt : ∀ w : Str → Nat, sumR R (fun r => wt w (f r)) ≤ sumR (R.take i) w
  len : ∀ r ∈ R, (f r).length ≤ i
structure RJ (R : List Str) (i : Nat) (f : Str → Row) : Prop where
  ok : ∀ r ∈ R, ∀ it ∈ f r, ItOk R it
  wt : ∀ w : Str → Nat, sumR R (fun r => wt w (f r)) ≤ sumR R w + i
  len : ∀ r ∈ R, (f r).length ≤ 2 + i
theorem RI.start (R : List Str) : RI R 0 fun _ => [] := by
  refine ⟨fun _ _ _ h => (nomatch h), fun w => ?_, fun _ _ => Nat.le_refl _⟩
  have : sumR R (fun _ => Pt.wt w []) = 0 := by rw [show (fun _ : Str => Pt.wt w []) = fun _ => 0 from rfl, sumR_const, Nat.mul_zero]
  show sumR R (fun _ => Pt.wt w []) ≤ _
  omega
theorem RI.skip {R : List Str} {i : Nat} {f : Str → Row} (x : RI R i f) {n : Str} (h : R[i]? = some n) : RI R (i + 1) f := ⟨x.ok, fun w => by
  rw [sumR_take h]
  exact Nat.le_trans (x.wt w) (Nat.le_add_right _ _), fun r hr => Nat.le_succ_of_le (x.len r hr)⟩
theorem mem_of_get {R : List Str} {i : Nat} {n : Str} (h : R[i]? = some n) : n ∈ R := List.mem_of_getElem? h
theorem RI.put {R : List Str} (nd : R.Nodup) {i : Nat} {f : Str → Row} (x : RI R i f) {n t : Str} (h : R[i]? = some n) (ht : t ∈ R) {row : Row} (hr : row = f t ++ [.reg n] ∨ row = [.reg n] ++ f t) : RI R (i + 1) (upF f t row) := by
  have hn := mem_of_get h
  refine ⟨fun r hr' it hit => ?_, fun w => ?_, fun r hr' => ?_⟩
  · unfold upF at hit
    split at hit
    · rcases hr with rfl | rfl <;> rcases List.mem_append.mp hit with hit | hit
      · exact x.ok t ht it hit
      · rw [List.mem_singleton.mp hit]; exact hn
      · rw [List.mem_singleton.mp hit]; exact hn
      · exact x.ok t ht it hit
    · exact x.ok r hr' it hit
  · have h1 := sumR_upF nd ht f row w
    have h2 : Pt.wt w row = Pt.wt w (f t) + w n := by
      rcases hr with rfl | rfl
      · rw [wt_app, wt_one]; rfl
      · rw [wt_app, wt_one]
        show w n + _ = _
        omega
    have h3 := x.wt w
    rw [sumR_take h]
    omega
  · unfold upF
    split
    · have h4 := x.len t ht
      rcases hr with rfl | rfl <;> simp only [List.length_append, List.length_singleton] <;> omega
    · exact Nat.le_succ_of_le (x.len r hr')
theorem RI.turn {R : List Str} (h2 : R.length ≤ 2) {f : Str → Row} (x : RI R R.length f) : RJ R 0 f := ⟨x.ok, fun w => by
  have := x.wt w
  rw [List.take_length] at this
  exact this, fun r hr => Nat.le_trans (x.len r hr) h2⟩
def SgOk (z : Str) : Prop := (cs z).length ≤ 1 ∧ ∀ c ∈ cs z, c = 97 ∨ c = 98
theorem RJ.put {R : List Str} (nd : R.Nodup) {i : Nat} {f : Str → Row} (x : RJ R i f) {t z : Str} (ht : t ∈ R) (hz : SgOk z) {row : Row} (hr : row = f t ++ [.txt z] ∨ row = [.txt z] ++ f t) : RJ R (i + 1) (upF f t row) := by
  refine ⟨fun r hr' it hit => ?_, fun w => ?_, fun r hr' => ?_⟩
  · unfold upF at hit
    split at hit
    · rcases hr with rfl | rfl <;> rcases List.mem_append.mp hit with hit | hit
      · exact x.ok t ht it hit
      · rw [List.mem_singleton.mp hit]; exact hz
      · rw [List.mem_singleton.mp hit]; exact hz
      · exact x.ok t ht it hit
    · exact x.ok r hr' it hit
  · have h1 := sumR_upF nd ht f row w
    have h5 : wtI w (.txt z) ≤ 1 := hz.1
    have h2 : Pt.wt w row ≤ Pt.wt w (f t) + 1 := by
      rcases hr with rfl | rfl <;> rw [wt_app, wt_one] <;> omega
    have h3 := x.wt w
    omega
  · unfold upF
    split
    · have h4 := x.len t ht
      rcases hr with rfl | rfl <;> simp only [List.length_append, List.length_singleton] <;> omega
    · exact Nat.le_trans (x.len r hr') (by omega)
theorem RJ.done {R : List Str} (h2 : R.length ≤ 2) {f : Str → Row} (x : RJ R R.length f) : RowsOk R f := ⟨x.ok, x.wt, fun r hr => Nat.le_trans (x.len r hr) (by omega)⟩
/-- the texts one draws from -/
def sgs : List Str := ["", "", "a", "b"]
instance (z : Str) : Decidable (SgOk z) := by unfold SgOk; infer_instance
theorem sgs_ok : ∀ z ∈ sgs, SgOk z := by decide +kernel
end Pt
end

section
set_option Elab.async false
set_option maxRecDepth 100000
set_option maxHeartbeats 2000000
set_option linter.unusedSectionVars false
namespace Pt
open PySem PySem.Spec PyProof.Rows L2
def rTupK (K : PySem.W.Frag) : List V → Hp → VK → Prop := fun xs H Q => ∃ p ys, xs = [.ref p] ∧ ((SqL K H p ys ∧ ∀ l, H l = none → Q (.ref l) (upd H l (.tup ys))) ∨ (SqT K H p ys ∧ Q (.ref p) H))
theorem call_tupK {X : Cx} (K : PySem.W.Frag) (h : X.K = K) : CallR X (.type "tuple") (rTupK K) := by
  subst h
  exact call_tuple_of
abbrev sRows : Stmt := top 33
abbrev sEnd : Stmt := top 34
abbrev sProg : Stmt := top 35
def RR (R : List Str) : Prop := R = [] ∨ R = [("x" : Str)] ∨ R = [("x" : Str), ("y" : Str)]
theorem RR.len {R : List Str} (h : RR R) : R.length ≤ 2 := by rcases h with h | h | h <;> rw [h] <;> decide
theorem RR.nd {R : List Str} (h : RR R) : R.Nodup := by rcases h with h | h | h <;> rw [h] <;> decide +kernel
def spRows (K : PySem.W.Frag) : Sp := fun vs H Q _ => ∃ (D e a g : Addr) (R : List Str), vs = [.ref D, .ref a, .ref g] ∧ DrawAt K H D e ∧ RR R ∧ H a = some (.lst (R.map V.str)) ∧ H g = some (.lst [.str "a", .str "b"]) ∧
  ∀ d f H', H d = none → RowsOk R f → RowsD H' d R f → Drawn K D e H H' → Q (.ref d) H'
section
variable {P : Program} {w : World} {K : PySem.W.Frag} {mg : Str → Option Value} {base : Heap}
abbrev CaNext (P : Program) (w : World) (K : PySem.W.Frag) (mg : Str → Option Value) (base : Heap) : Prop := Ca P w K mg base 3 "_law_next" ["_law_draw_here", "_law_bound"] (spNext K)
abbrev CaPick (P : Program) (w : World) (K : PySem.W.Frag) (mg : Str → Option Value) (base : Heap) : Prop := Ca P w K mg base 4 "_law_pick" ["_law_draw_here", "_law_things"] (spPick K)
theorem scRows : FnScope ["_law_draw_here", "_law_registers", "_law_signs", "_law_rows_here", "_law_name", "_law_target", "_law_text"] ["_law_draw_here", "_law_registers", "_law_signs"] (defScope sRows) := ⟨rfl, rfl, rfl, by decide +kernel, rfl, by decide +kernel, by decide +kernel⟩
theorem _root_.L2.Same.none {H H' : Hp} (e : Same H H') {b : Addr} (h : H' b = none) : H b = none := by
  cases hb : H b with
  | none => rfl
  | some o => rw [e b o hb] at h; cases h
/-- tuples stay -/
def Tups (H H' : Hp) : Prop := ∀ b l, H b = some (.tup l) → H' b = some (.tup l)
theorem Tups.same {H H' : Hp} (e : Same H H') : Tups H H' := fun b _ h => e b _ h
theorem Tups.but {H H' : Hp} {L : Addr} {xs : List V} (h : H L = some (.lst xs)) (e : But L H H') : Tups H H' := fun b _ hb => e b _ hb fun z => by subst z; rw [h] at hb; cases hb
theorem Tups.stl {CR : Addr} {H H' : Hp} (e : Stl CR H H') : Tups H H' := fun b _ h => e b _ h trivial
theorem ItV.tups {H H' : Hp} (e : Tups H H') {v : V} : ∀ {it : It}, ItV H v it → ItV H' v it
  | .txt _, h => h
  | .reg _, ⟨a, h1, h2⟩ => ⟨a, h1, e _ _ h2⟩
theorem RowAt.tups {H H' : Hp} (e : Tups H H') {a : Addr} {row : Row} (r : RowAt H a row) : RowAt H' a row := by
  obtain ⟨vs, h1, h2⟩ := r
  exact ⟨vs, e _ _ h1, paired_imp h2 fun _ _ _ h => h.tups e⟩
/-- the state in the loops: entry heap H0 -/
theorem fz_strs {CR : Addr} (R : List Str) : Fz CR (.lst (R.map V.str)) := fun i h => by
  obtain ⟨z, _, e⟩ := List.mem_map.mp h
  cases e
theorem paired_of {α β : Type} {F : α → β → Prop} : ∀ {l : List α} {m : List β}, l.length = m.length → (∀ a ∈ l, ∀ b, F a b) → Paired F l m
  | [], [], _, _ => .nil
  | a :: l, b :: m, h, f => .cons (f a (List.mem_cons_self ..) b) (paired_of (Nat.succ.inj h) fun x hx => f x (List.mem_cons_of_mem _ hx))
structure RowSt (K : PySem.W.Frag) (D e d : Addr) (R : List Str) (H0 : Hp) (f : Str → Row) (H : Hp) : Prop where
  rows : LRows H d R f
  but : But D H0 H
  draw : DrawAt K H D e
theorem RowSt.drawn {D e d : Addr} {R : List Str} {H0 H H' : Hp} {f : Str → Row} (x : RowSt K D e d R H0 f H) (h : Drawn K D e H H') : RowSt K D e d R H0 f H' :=
  ⟨x.rows.stl (x.draw.stl (CR := 0) h.1), x.but.trans h.1, h.2⟩
theorem RowSt.same {D e d : Addr} {R : List Str} {H0 H H' : Hp} {f : Str → Row} (x : RowSt K D e d R H0 f H) (h : Same H H') : RowSt K D e d R H0 f H' :=
  ⟨x.rows.stl (Stl.of (CR := 0) h), x.but.trans (But.of h), x.draw.same h⟩
theorem RowSt.fresh {D e d : Addr} {R : List Str} {H0 H : Hp} {f : Str → Row} (x : RowSt K D e d R H0 f H) {b : Addr} (h : H b = none) : H0 b = none := by
  cases hb : H0 b with
  | none => rfl
  | some o =>
    have := x.but b o hb (x.draw.nn h).1.symm
    rw [this] at h
    cases h
theorem RowSt.put {D e d p : Addr} {R : List Str} {H0 H : Hp} {f : Str → Row} (x : RowSt K D e d R H0 f H) (hd : H0 d = none) (hz : R.length ≤ 1000) {t : Str} (ht : t ∈ R) {row : Row} (hp : LRowAt H p row) :
    ∃ H', DPut H d (.str t) (.ref p) H' ∧ RowSt K D e d R H0 (upF f t row) H' := by
  obtain ⟨kvs, h1, h2⟩ := x.rows.put hz ht hp
  refine ⟨_, h1, h2, fun b o hb hn => ?_, ?_⟩
  · rw [upd_ne (ne_of_none hb hd)]
    exact x.but b o hb hn
  · obtain ⟨as, h3, _⟩ := x.rows
    obtain ⟨s, k, ns, h4, h5, h6⟩ := x.draw
    exact ⟨s, k, ns, by rw [upd_ne (fun z => by subst z; rw [h3] at h4; cases h4)]; exact h4, by rw [upd_ne (fun z => by subst z; rw [h3] at h5; cases h5)]; exact h5, h6⟩
/-- item and rows, rows and item -/
theorem row_cat {H : Hp} {b : Addr} {v : V} {it : It} {row : Row} (hb : LRowAt H b row) (hv : ∀ H', Same H H' → ItV H' v it) (hl : row.length ≤ 100) :
    ∃ xs, H b = some (.lst xs) ∧ xs.length + [v].length ≤ sizeLine ∧ [v].length + xs.length ≤ sizeLine ∧
      (∀ p, H p = none → Same H (upd H p (.lst (xs ++ [v]))) ∧ LRowAt (upd H p (.lst (xs ++ [v]))) p (row ++ [it])) ∧
      ∀ p, H p = none → Same H (upd H p (.lst ([v] ++ xs))) ∧ LRowAt (upd H p (.lst ([v] ++ xs))) p ([it] ++ row) := by
  obtain ⟨xs, h1, h2⟩ := hb
  have hlen := paired_length h2
  refine ⟨xs, h1, ?_, ?_, fun p hp => ?_, fun p hp => ?_⟩
  · rw [hlen]; exact Nat.le_trans (Nat.add_le_add_right hl 1) (by decide)
  · rw [hlen]; exact Nat.le_trans (Nat.add_le_add_left hl 1) (by decide)
  · have s2 := same_new (o := .lst (xs ++ [v])) hp
    exact ⟨s2, _, upd_same, paired_snoc (paired_imp h2 fun _ _ _ h => h.rst (Rst.stl (Stl.of (CR := 0) s2))) (hv _ s2)⟩
  · have s2 := same_new (o := .lst ([v] ++ xs)) hp
    exact ⟨s2, _, upd_same, .cons (hv _ s2) (paired_imp h2 fun _ _ _ h => h.rst (Rst.stl (Stl.of (CR := 0) s2)))⟩
theorem ok_rows {f : Addr} {fd : FuncData} (F : Fun K "_law_rows" "_law_rows" sRows f fd) (B : Bl mg) (cN : CaNext P w K mg base) (cP : CaPick P w K mg base) :
    FnOk P w K mg base CX0 5 f fd ["_law_draw_here", "_law_registers", "_law_signs"] (spRows K) := by
  refine F.ok scRows (fun vs H Q E h => ?_) (fun cdv A outer s H vs Q E hr h => ?_)
  · obtain ⟨D, e, a, g, R, rfl, _⟩ := h
    rfl
  · obtain ⟨D, e, a, g, R, rfl, hD, hR, ha, hg, q⟩ := h
    refine ⟨_, pss_cons (ps_set (i := 3) scRows.nd rfl (.inr rfl) (pe_callTy (call_dictP rfl) (by rfl) B.dict PyProof.Rows.boot_dict (pa_cons (pe_lc (own := [("_law_name", 4)]) rfl scRows.nd (pi_list (pv 1)) (blkOk_by (by kernel_rfl)) (fun _ _ _ _ _ => pg_name (i := 4) scRows.nd rfl (.inl rfl)) (fun _ _ _ _ _ => pts_nil) (fun _ _ _ _ _ => pe_tup (pa_cons (pv 4) (pa_cons (pe_lst pa_nil) pa_nil)))) pa_nil)))
      (pss_cons (ps_for PassesOwn.never rfl (pi_list (pv 1)) (pg_name (i := 4) scRows.nd rfl (.inl rfl))
        (pss_one (ps_if (pt_cmpR op_gt (pe_ca cN hr (by decide) rfl (pa_cons (pv 0) (pa_cons pe_int pa_nil))) pe_int (nomark _))
          (pss_cons (ps_set (i := 5) scRows.nd rfl (.inl rfl) (pe_ifExp (pt_cmpR op_gt (pe_ca cN hr (by decide) rfl (pa_cons (pv 0) (pa_cons pe_int pa_nil))) pe_int (nomark _)) (pv 4) (pe_ca cP hr (by decide) rfl (pa_cons (pv 0) (pa_cons (pv 1) pa_nil)))))
            (pss_one (ps_asg (pe_ifExp (pt_cmpR op_eq (pe_ca cN hr (by decide) rfl (pa_cons (pv 0) (pa_cons pe_int pa_nil))) pe_int (nomark _))
              (pe_op op_cat (pe_dget (hu1 hr) (pv 3) (pv 5) (fun _ _ => rfl)) (pe_lst (pa_cons (pe_tup (pa_cons (pv 4) pa_nil)) pa_nil)))
              (pe_op op_cat (pe_lst (pa_cons (pe_tup (pa_cons (pv 4) pa_nil)) pa_nil)) (pe_dget (hu1 hr) (pv 3) (pv 5) (fun _ _ => rfl)))) (pg_sub (pv 3) (pv 5) (set_dict (hu1 hr))))))
          pss_nil)))
      (pss_cons (ps_for PassesOwn.never rfl (pi_list (pv 1)) (pg_name (i := 4) scRows.nd rfl (.inl rfl))
        (pss_cons (ps_set (i := 6) scRows.nd rfl (.inl rfl) (pe_ca cP hr (by decide) rfl (pa_cons (pv 0) (pa_cons (pe_op op_cat (pe_lst (pa_cons pe_str (pa_cons pe_str pa_nil))) (pv 2)) pa_nil))))
          (pss_one (ps_asg (pe_ifExp (pt_cmpR op_eq (pe_ca cN hr (by decide) rfl (pa_cons (pv 0) (pa_cons pe_int pa_nil))) pe_int (nomark _))
              (pe_op op_cat (pe_lst (pa_cons (pv 6) pa_nil)) (pe_dget (hu1 hr) (pv 3) (pv 4) (fun _ _ => rfl)))
              (pe_op op_cat (pe_dget (hu1 hr) (pv 3) (pv 4) (fun _ _ => rfl)) (pe_lst (pa_cons (pv 6) pa_nil)))) (pg_sub (pv 3) (pv 4) (set_dict (hu1 hr)))))))
      (pss_one (ps_ret (pe_callTy (call_dictP rfl) (by rfl) B.dict PyProof.Rows.boot_dict (pa_cons (pe_lc (own := [("_law_name", 4)]) rfl scRows.nd (pi_list (pv 1)) (blkOk_by (by kernel_rfl)) (fun _ _ _ _ _ => pg_name (i := 4) scRows.nd rfl (.inl rfl)) (fun _ _ _ _ _ => pts_nil) (fun _ _ _ _ _ => pe_tup (pa_cons (pv 4) (pa_cons (pe_callTy (call_tupK K rfl) (by rfl) B.tuple PyProof.Rows.boot_tuple (pa_cons (pe_dget (hu1 hr) (pv 3) (pv 4) (fun _ _ => rfl)) pa_nil)) pa_nil)))) pa_nil)))))), ?_⟩
    have hz : R.length ≤ 1000 := Nat.le_trans hR.len (by decide)
    have neD : a ≠ D := hD.ne ha fun _ => fz_strs R
    have neG : g ≠ D := hD.ne hg fun _ => fz_strs ["a", "b"]
    refine seq_asg ?_
    refine dict_lc (CR := 0) a (fun L i vs H' => H L = none ∧ Same H H' ∧ ∃ as : List Addr, vs = as.map V.ref ∧ ∀ b ∈ as, H' b = some (.lst []) ∧ b ≠ L) hR.nd hz ?_ (fun _ h => ⟨_, rfl, h⟩) (SqL.of ha) ?_ ?_ ?_ ?_ ?_
    · show 4 < 7; decide
    · exact fun L hL => ⟨hL, same_new hL, [], rfl, fun _ h => (nomatch h)⟩
    · exact fun L i vs H' h => SqL.of (h.2.1 _ _ ha)
    · rintro L i vs H1 H2 _ ⟨hL, hS, as, rfl, h⟩ hb
      exact ⟨hL, fun b o e => hb _ _ (hS _ _ e) (ne_of_none e hL), as, rfl, fun b m => ⟨hb _ _ (h b m).1 (h b m).2, (h b m).2⟩⟩
    · rintro L i r vs H1 hL ⟨oL, hoL⟩ hr hv ⟨hL', hS, as, rfl, h⟩ Q' hQ
      refine ⟨by show 0 ≤ sizeLine; decide, fun p hp => hQ _ _ (Stl.of (same_new hp)) ⟨hL, hS.trans (same_new hp), as ++ [p], by rw [List.map_append]; rfl, fun b m => ?_⟩⟩
      rcases List.mem_append.mp m with m | m
      · exact ⟨same_new hp _ _ (h b m).1, (h b m).2⟩
      · rw [List.mem_singleton.mp m]
        exact ⟨upd_same, (ne_of_none hoL hp).symm⟩
    · rintro L vs H1 hL hv ⟨_, hS, as, rfl, h⟩ p hp
      rw [List.length_map] at hv
      have hp0 : H p = none := by
        cases e : H p with
        | none => rfl
        | some o => rw [hS _ _ e] at hp; cases hp
      have S1 := hS.trans (same_new (o := .dK (pairK R (as.map V.ref))) hp)
      have st0 : RowSt K D e p R H (fun _ => []) (upd H1 p (.dK (pairK R (as.map V.ref)))) := by
        refine ⟨⟨as, by rw [upd_same, pairK_zip], paired_of hv fun b m r => ?_⟩, But.of S1, hD.same S1⟩
        exact ⟨[], same_new hp _ _ (h b m).1, .nil⟩
      have haK : ∀ {f : Str → Row} {H2 : Hp}, RowSt K D e p R H f H2 → H2 a = some (.lst (R.map V.str)) := fun x => x.but _ _ ha neD
      have hgK : ∀ {f : Str → Row} {H2 : Hp}, RowSt K D e p R H f H2 → H2 g = some (.lst [.str "a", .str "b"]) := fun x => x.but _ _ hg neG
      refine ⟨_, rfl, _, rfl, ⟨_, SqL.of (haK st0)⟩, ?_⟩
      refine for_list (xs := R.map V.str) (fun i σ H2 => ∃ f x4 x5 x6, σ = [some (.ref D), some (.ref a), some (.ref g), some (.ref p), x4, x5, x6] ∧ RowSt K D e p R H f H2 ∧ RI R i f) ⟨_, none, none, none, rfl, st0, RI.start R⟩ ?_ ?_ ?_
      · rintro i σ H2 _ ⟨f, x4, x5, x6, rfl, st, _⟩
        exact SqL.of (haK st)
      · rintro i x σ H2 hx ⟨f, x4, x5, x6, rfl, st, ri⟩
        rw [List.getElem?_map] at hx
        obtain ⟨n, hn, rfl⟩ := Option.map_eq_some_iff.mp hx
        have hnR := mem_of_get hn
        refine ⟨_, rfl, D, e, 6, rfl, st.draw, by decide, fun n1 H3 _ hd1 => ?_⟩
        have st1 := st.drawn hd1
        refine ⟨_, _, rfl, rfl, _, rfl, ite2 (fun _ => ?_) (fun _ => ⟨f, _, _, _, rfl, st1, ri.skip hn⟩)⟩
        refine seq_asg (via (fun x H4 => ∃ t, x = .str t ∧ t ∈ R ∧ RowSt K D e p R H f H4) (fun Q' hQ => ?_) ?_)
        · refine ⟨_, rfl, D, e, 3, rfl, st1.draw, by decide, fun n2 H4 _ hd2 => ⟨_, _, rfl, rfl, _, rfl, ?_⟩⟩
          have st2 := st1.drawn hd2
          refine ite2 (fun _ => ⟨_, rfl, hQ _ _ ⟨n, rfl, hnR, st2⟩⟩) (fun _ => ?_)
          refine ⟨_, rfl, _, rfl, D, e, a, _, rfl, st2.draw, SqL.of (haK st2), neD, fun z => by rw [List.map_eq_nil_iff] at z; rw [z] at hnR; (nomatch hnR), fun x H5 hx hd3 => ?_⟩
          obtain ⟨t, ht, rfl⟩ := List.mem_map.mp hx
          exact hQ _ _ ⟨t, rfl, ht, st2.drawn hd3⟩
        rintro _ H4 ⟨t, rfl, ht, st2⟩
        refine asg_of (via (fun x H5 => ∃ l row, x = .ref l ∧ (row = f t ++ [.reg n] ∨ row = [.reg n] ++ f t) ∧ LRowAt H5 l row ∧ RowSt K D e p R H f H5) (fun Q' hQ => ?_) ?_)
        · refine ⟨_, rfl, D, e, 2, rfl, st2.draw, by decide, fun n3 H5 _ hd3 => ⟨rfl, _, rfl, ?_⟩⟩
          have st3 := st2.drawn hd3
          obtain ⟨b, hg1, hb1⟩ := st3.rows.get ht
          have hlen : (f t).length ≤ 100 := Nat.le_trans (ri.len t ht) (by have := hR.len; have := (List.getElem?_eq_some_iff.mp hn).1; omega)
          refine ite2 (fun _ => ?_) (fun _ => ?_)
          · refine ⟨_, rfl, _, rfl, p, _, rfl, hg1, _, rfl, by show 1 ≤ sizeLine; decide, fun tp htp => ⟨by show 1 ≤ sizeLine; decide, fun l hl => ?_⟩⟩
            have s5 := (same_new (o := .tup [V.str n]) htp).trans (same_new (o := .lst [V.ref tp]) hl)
            have htup : ∀ H', Same (upd (upd H5 tp (.tup [V.str n])) l (.lst [V.ref tp])) H' → ItV H' (.ref tp) (.reg n) := fun H' s => ⟨tp, rfl, s _ _ (same_new hl _ _ upd_same)⟩
            obtain ⟨xs, e1, e3, e4, e5, e6⟩ := row_cat (hb1.rst (Rst.stl (Stl.of (CR := 0) s5))) htup hlen
            refine ⟨b, l, xs, _, rfl, rfl, e1, upd_same, e3, fun q hq => ?_⟩
            obtain ⟨f1, f2⟩ := e5 q hq
            exact hQ _ _ ⟨q, _, rfl, .inl rfl, f2, (st3.same s5).same f1⟩
          · refine ⟨_, rfl, by show 1 ≤ sizeLine; decide, fun tp htp => ⟨by show 1 ≤ sizeLine; decide, fun l hl => ?_⟩⟩
            have s5 := (same_new (o := .tup [V.str n]) htp).trans (same_new (o := .lst [V.ref tp]) hl)
            have htup : ∀ H', Same (upd (upd H5 tp (.tup [V.str n])) l (.lst [V.ref tp])) H' → ItV H' (.ref tp) (.reg n) := fun H' s => ⟨tp, rfl, s _ _ (same_new hl _ _ upd_same)⟩
            obtain ⟨b', hg1', hb1'⟩ := (st3.same s5).rows.get ht
            obtain ⟨xs, e1, e3, e4, e5, e6⟩ := row_cat hb1' htup hlen
            refine ⟨_, rfl, _, rfl, p, _, rfl, hg1', l, b', _, xs, rfl, rfl, upd_same, e1, e4, fun q hq => ?_⟩
            obtain ⟨f1, f2⟩ := e6 q hq
            exact hQ _ _ ⟨q, _, rfl, .inr rfl, f2, (st3.same s5).same f1⟩
        rintro _ H5 ⟨l, row, rfl, hrow, hl, st3⟩
        obtain ⟨H6, hput, st4⟩ := st3.put hp0 hz ht hl
        exact ⟨_, rfl, _, rfl, p, H6, rfl, hput, upF f t row, _, _, _, rfl, st4, ri.put hR.nd hn ht hrow⟩
      · rintro σ H2 ⟨f, x4, x5, x6, rfl, st, ri⟩
        rw [List.length_map] at ri
        refine ⟨_, rfl, _, rfl, ⟨_, SqL.of (haK st)⟩, ?_⟩
        refine for_list (xs := R.map V.str) (fun i σ H2 => ∃ f x4 x5 x6, σ = [some (.ref D), some (.ref a), some (.ref g), some (.ref p), x4, x5, x6] ∧ RowSt K D e p R H f H2 ∧ RJ R i f) ⟨f, _, _, _, rfl, st, ri.turn hR.len⟩ ?_ ?_ ?_
        · rintro i σ H2 _ ⟨f, x4, x5, x6, rfl, st, _⟩
          exact SqL.of (haK st)
        · rintro i x σ H2 hx ⟨f, x4, x5, x6, rfl, st, rj⟩
          rw [List.getElem?_map] at hx
          obtain ⟨n, hn, rfl⟩ := Option.map_eq_some_iff.mp hx
          have hnR := mem_of_get hn
          refine seq_asg (via (fun x H4 => ∃ z, x = .str z ∧ SgOk z ∧ RowSt K D e p R H f H4) (fun Q' hQ => ?_) ?_)
          · refine ⟨_, rfl, by show 2 ≤ sizeLine; decide, fun l hl => ?_⟩
            have st1 := st.same (same_new (o := .lst [V.str "", V.str ""]) hl)
            refine ⟨_, rfl, l, g, _, _, rfl, rfl, upd_same, hgK st1, by show 4 ≤ sizeLine; decide, fun q hq => ?_⟩
            have st2 := st1.same (same_new (o := .lst (sgs.map V.str)) hq)
            refine ⟨D, e, q, _, rfl, st2.draw, SqL.of upd_same, (st1.draw.nn hq).1.symm, (fun z => nomatch z), fun x H5 hx hd3 => ?_⟩
            obtain ⟨z, hz1, rfl⟩ := List.mem_map.mp (show x ∈ sgs.map V.str from hx)
            exact hQ _ _ ⟨z, rfl, sgs_ok z hz1, st2.drawn hd3⟩
          rintro _ H4 ⟨z, rfl, hz1, st2⟩
          refine asg_of (via (fun x H5 => ∃ l row, x = .ref l ∧ (row = f n ++ [.txt z] ∨ row = [.txt z] ++ f n) ∧ LRowAt H5 l row ∧ RowSt K D e p R H f H5) (fun Q' hQ => ?_) ?_)
          · refine ⟨_, rfl, D, e, 2, rfl, st2.draw, by decide, fun n3 H5 _ hd3 => ⟨rfl, _, rfl, ?_⟩⟩
            have st3 := st2.drawn hd3
            obtain ⟨b, hg1, hb1⟩ := st3.rows.get hnR
            have hlen : (f n).length ≤ 100 := Nat.le_trans (rj.len n hnR) (by have := hR.len; have := (List.getElem?_eq_some_iff.mp hn).1; omega)
            refine ite2 (fun _ => ?_) (fun _ => ?_)
            · refine ⟨_, rfl, by show 1 ≤ sizeLine; decide, fun l hl => ?_⟩
              have s5 := same_new (o := .lst [V.str z]) hl
              obtain ⟨b', hg1', hb1'⟩ := (st3.same s5).rows.get hnR
              obtain ⟨xs, e1, e3, e4, e5, e6⟩ := row_cat (v := .str z) (it := .txt z) hb1' (fun _ _ => rfl) hlen
              refine ⟨_, rfl, _, rfl, p, _, rfl, hg1', l, b', _, xs, rfl, rfl, upd_same, e1, e4, fun q hq => ?_⟩
              obtain ⟨f1, f2⟩ := e6 q hq
              exact hQ _ _ ⟨q, _, rfl, .inr rfl, f2, (st3.same s5).same f1⟩
            · refine ⟨_, rfl, _, rfl, p, _, rfl, hg1, _, rfl, by show 1 ≤ sizeLine; decide, fun l hl => ?_⟩
              have s5 := same_new (o := .lst [V.str z]) hl
              obtain ⟨xs, e1, e3, e4, e5, e6⟩ := row_cat (v := .str z) (it := .txt z) (hb1.rst (Rst.stl (Stl.of (CR := 0) s5))) (fun _ _ => rfl) hlen
              refine ⟨b, l, xs, _, rfl, rfl, e1, upd_same, e3, fun q hq => ?_⟩
              obtain ⟨f1, f2⟩ := e5 q hq
              exact hQ _ _ ⟨q, _, rfl, .inl rfl, f2, (st3.same s5).same f1⟩
          rintro _ H5 ⟨l, row, rfl, hrow, hl, st3⟩
          obtain ⟨H6, hput, st4⟩ := st3.put hp0 hz hnR hl
          exact ⟨_, rfl, _, rfl, p, H6, rfl, hput, upF f n row, _, _, _, rfl, st4, rj.put hR.nd hnR hz1 hrow⟩
        · rintro σ H2 ⟨f, x4, x5, x6, rfl, st, rj⟩
          rw [List.length_map] at rj
          refine nx_of (ret_of ?_)
          refine dict_lc (CR := 0) a (fun L i vs H' => H2 L = none ∧ Same H2 H' ∧ ∃ as : List Addr, vs = as.map V.ref ∧ Paired (fun b r => RowAt H' b (f r)) as (R.take i)) hR.nd hz ?_ (fun _ h => ⟨_, rfl, h⟩) (SqL.of (haK st)) ?_ ?_ ?_ ?_ ?_
          · show 4 < 7; decide
          · exact fun L hL => ⟨hL, same_new hL, [], rfl, .nil⟩
          · exact fun L i vs H' h => SqL.of (h.2.1 _ _ (haK st))
          · rintro L i vs H1 H3 ⟨ps, hps⟩ ⟨hL, hS, as, rfl, h⟩ hb
            exact ⟨hL, fun b o e => hb _ _ (hS _ _ e) (ne_of_none e hL), as, rfl, paired_imp h fun _ _ _ h => h.tups (Tups.but hps hb)⟩
          · rintro L i r vs H1 hL ⟨ps, hps⟩ hr hv ⟨hL', hS, as, rfl, h⟩ Q' hQ
            obtain ⟨b, hg1, ys, hb1, hp1⟩ := (st.same hS).rows.get (mem_of_get hr)
            refine ⟨_, rfl, _, rfl, p, _, rfl, hg1, b, ys, rfl, .inl ⟨SqL.of hb1, fun l hl => ?_⟩⟩
            have s5 := same_new (o := .tup ys) hl
            refine hQ _ _ (Stl.of s5) ⟨hL, hS.trans s5, as ++ [l], by rw [List.map_append]; rfl, ?_⟩
            rw [List.take_add_one, hr]
            exact paired_snoc (paired_imp h fun _ _ _ h => h.tups (Tups.same s5)) ⟨ys, upd_same, paired_imp hp1 fun _ _ _ h => h.rst (Rst.stl (Stl.of (CR := 0) s5))⟩
          · rintro L vs H1 hL hv ⟨_, hS, as, rfl, h⟩ p2 hp2
            rw [List.take_length] at h
            have s5 := hS.trans (same_new (o := .dK (pairK R (as.map V.ref))) hp2)
            have st5 := st.same s5
            exact q p2 f _ (st.fresh (hS.none hp2)) (rj.done hR.len) ⟨as, by rw [upd_same, pairK_zip], paired_imp h fun _ _ _ h => h.tups (Tups.same (same_new hp2))⟩ ⟨st5.but, st5.draw⟩
end
end Pt
end

section
set_option Elab.async false
set_option maxRecDepth 100000
set_option maxHeartbeats 2000000
set_option linter.unusedSectionVars false
set_option linter.unusedVariables false
namespace Pt
open PySem PySem.Spec PyProof.Rows L2
def spEnd (K : PySem.W.Frag) : Sp := fun vs H Q _ => ∃ (D e a g : Addr) (R : List Str), vs = [.ref D, .ref a, .ref g] ∧ DrawAt K H D e ∧ RR R ∧ H a = some (.lst (R.map V.str)) ∧ H g = some (.lst [.str "a", .str "b"]) ∧
  ∀ l row H', EndOk R row → RowAt H' l row → Drawn K D e H H' → Q (.ref l) H'
structure EI (R : List Str) (i : Nat) (row : Row) : Prop where
  ok : ∀ it ∈ row, ItOk R it
  wt : ∀ w : Str → Nat, wt w row ≤ sumR (R.take i) w
  len : row.length ≤ i
theorem EI.start (R : List Str) : EI R 0 [] := ⟨fun _ h => (nomatch h), fun w => Nat.zero_le _, Nat.le_refl _⟩
theorem EI.skip {R : List Str} {i : Nat} {row : Row} (x : EI R i row) {n : Str} (h : R[i]? = some n) : EI R (i + 1) row := ⟨x.ok, fun w => by
  rw [sumR_take h]
  exact Nat.le_trans (x.wt w) (Nat.le_add_right _ _), Nat.le_succ_of_le x.len⟩
theorem EI.put {R : List Str} {i : Nat} {row row' : Row} (x : EI R i row) {n : Str} (h : R[i]? = some n) (hr : row' = row ++ [.reg n] ∨ row' = [.reg n] ++ row) : EI R (i + 1) row' := by
  refine ⟨fun it hit => ?_, fun w => ?_, ?_⟩
  · rcases hr with rfl | rfl <;> rcases List.mem_append.mp hit with hit | hit
    · exact x.ok it hit
    · rw [List.mem_singleton.mp hit]; exact mem_of_get h
    · rw [List.mem_singleton.mp hit]; exact mem_of_get h
    · exact x.ok it hit
  · have h3 := x.wt w
    rw [sumR_take h]
    have e : wtI w (.reg n) = w n := rfl
    rcases hr with rfl | rfl <;> rw [wt_app, wt_one] <;> omega
  · have h4 := x.len
    rcases hr with rfl | rfl <;> simp only [List.length_append, List.length_singleton] <;> omega
theorem EI.done {R : List Str} (h2 : R.length ≤ 2) {row : Row} (x : EI R R.length row) {z : Str} (hz : SgOk z) : EndOk R (row ++ [.txt z]) := by
  refine ⟨fun it hit => ?_, fun w => ?_, ?_⟩
  · rcases List.mem_append.mp hit with hit | hit
    · exact x.ok it hit
    · rw [List.mem_singleton.mp hit]; exact hz
  · have h3 := x.wt w
    rw [List.take_length] at h3
    have e : wtI w (.txt z) ≤ 1 := hz.1
    rw [wt_app, wt_one]
    omega
  · have := x.len
    simp only [List.length_append, List.length_singleton]
    omega
structure EndSt (K : PySem.W.Frag) (D e : Addr) (H0 : Hp) (l : Addr) (row : Row) (H : Hp) : Prop where
  row : LRowAt H l row
  but : But D H0 H
  draw : DrawAt K H D e
section
variable {P : Program} {w : World} {K : PySem.W.Frag} {mg : Str → Option Value} {base : Heap}
theorem EndSt.drawn {D e l : Addr} {H0 H H' : Hp} {row : Row} (x : EndSt K D e H0 l row H) (h : Drawn K D e H H') : EndSt K D e H0 l row H' :=
  ⟨x.row.rst (Rst.stl (x.draw.stl (CR := 0) h.1)), x.but.trans h.1, h.2⟩
theorem EndSt.same {D e l : Addr} {H0 H H' : Hp} {row : Row} (x : EndSt K D e H0 l row H) (h : Same H H') : EndSt K D e H0 l row H' :=
  ⟨x.row.rst (Rst.stl (Stl.of (CR := 0) h)), x.but.trans (But.of h), x.draw.same h⟩
theorem scEnd : FnScope ["_law_draw_here", "_law_registers", "_law_signs", "_law_found", "_law_name"] ["_law_draw_here", "_law_registers", "_law_signs"] (defScope sEnd) := ⟨rfl, rfl, rfl, by decide +kernel, rfl, by decide +kernel, by decide +kernel⟩
theorem ok_end {f : Addr} {fd : FuncData} (F : Fun K "_law_end" "_law_end" sEnd f fd) (B : Bl mg) (cN : CaNext P w K mg base) (cP : CaPick P w K mg base) :
    FnOk P w K mg base CX0 5 f fd ["_law_draw_here", "_law_registers", "_law_signs"] (spEnd K) := by
  refine F.ok scEnd (fun vs H Q E h => ?_) (fun cdv A outer s H vs Q E hr h => ?_)
  · obtain ⟨D, e, a, g, R, rfl, _⟩ := h
    rfl
  · obtain ⟨D, e, a, g, R, rfl, hD, hR, ha, hg, q⟩ := h
    refine ⟨_, pss_cons (ps_set (i := 3) scEnd.nd rfl (.inl rfl) (pe_lst pa_nil))
      (pss_cons (ps_for PassesOwn.never rfl (pi_list (pv 1)) (pg_name (i := 4) scEnd.nd rfl (.inl rfl))
        (pss_one (ps_if (pt_cmpR op_gt (pe_ca cN hr (by decide) rfl (pa_cons (pv 0) (pa_cons pe_int pa_nil))) pe_int (nomark _))
          (pss_one (ps_set (i := 3) scEnd.nd rfl (.inl rfl) (pe_ifExp (pt_cmpR op_eq (pe_ca cN hr (by decide) rfl (pa_cons (pv 0) (pa_cons pe_int pa_nil))) pe_int (nomark _))
              (pe_op op_cat (pv 3) (pe_lst (pa_cons (pe_tup (pa_cons (pv 4) pa_nil)) pa_nil)))
              (pe_op op_cat (pe_lst (pa_cons (pe_tup (pa_cons (pv 4) pa_nil)) pa_nil)) (pv 3)))))
          pss_nil)))
      (pss_one (ps_ret (pe_callTy (call_tupK K rfl) (by rfl) B.tuple PyProof.Rows.boot_tuple (pa_cons (pe_op op_cat (pv 3) (pe_lst (pa_cons
        (pe_ca cP hr (by decide) rfl (pa_cons (pv 0) (pa_cons (pe_op op_cat (pe_lst (pa_cons pe_str (pa_cons pe_str pa_nil))) (pv 2)) pa_nil))) pa_nil))) pa_nil))))), ?_⟩
    have neD : a ≠ D := hD.ne ha fun _ => fz_strs R
    have neG : g ≠ D := hD.ne hg fun _ => fz_strs ["a", "b"]
    have haK : ∀ {l : Addr} {row : Row} {H2 : Hp}, EndSt K D e H l row H2 → H2 a = some (.lst (R.map V.str)) := fun x => x.but _ _ ha neD
    have hgK : ∀ {l : Addr} {row : Row} {H2 : Hp}, EndSt K D e H l row H2 → H2 g = some (.lst [.str "a", .str "b"]) := fun x => x.but _ _ hg neG
    refine ⟨by show 0 ≤ sizeLine; decide, fun p hp => ?_⟩
    have st0 : EndSt K D e H p [] (upd H p (.lst [])) := ⟨⟨[], upd_same, .nil⟩, But.of (same_new hp), hD.same (same_new hp)⟩
    refine ⟨_, rfl, _, rfl, ⟨_, SqL.of (haK st0)⟩, ?_⟩
    refine for_list (xs := R.map V.str) (fun i σ H2 => ∃ l row x4, σ = [some (.ref D), some (.ref a), some (.ref g), some (.ref l), x4] ∧ EndSt K D e H l row H2 ∧ EI R i row) ⟨_, _, none, rfl, st0, EI.start R⟩ ?_ ?_ ?_
    · rintro i σ H2 _ ⟨l, row, x4, rfl, st, _⟩
      exact SqL.of (haK st)
    · rintro i x σ H2 hx ⟨l, row, x4, rfl, st, ei⟩
      rw [List.getElem?_map] at hx
      obtain ⟨n, hn, rfl⟩ := Option.map_eq_some_iff.mp hx
      refine ⟨_, rfl, D, e, 5, rfl, st.draw, by decide, fun n1 H3 _ hd1 => ?_⟩
      have st1 := st.drawn hd1
      refine ⟨_, _, rfl, rfl, _, rfl, ite2 (fun _ => ?_) (fun _ => ⟨l, row, _, rfl, st1, ei.skip hn⟩)⟩
      refine asg_of ⟨_, rfl, D, e, 2, rfl, st1.draw, by decide, fun n2 H4 _ hd2 => ⟨rfl, _, rfl, ?_⟩⟩
      have st2 := st1.drawn hd2
      have hlen : row.length ≤ 100 := Nat.le_trans ei.len (by have := hR.len; have := (List.getElem?_eq_some_iff.mp hn).1; omega)
      refine ite2 (fun _ => ?_) (fun _ => ?_)
      · refine ⟨_, rfl, _, rfl, by show 1 ≤ sizeLine; decide, fun tp htp => ⟨by show 1 ≤ sizeLine; decide, fun b hb => ?_⟩⟩
        have s5 := (same_new (o := .tup [V.str n]) htp).trans (same_new (o := .lst [V.ref tp]) hb)
        have htup : ∀ H', Same (upd (upd H4 tp (.tup [V.str n])) b (.lst [V.ref tp])) H' → ItV H' (.ref tp) (.reg n) := fun H' s => ⟨tp, rfl, s _ _ (same_new hb _ _ upd_same)⟩
        obtain ⟨xs, e1, e3, e4, e5, e6⟩ := row_cat (st2.same s5).row htup hlen
        refine ⟨l, b, xs, _, rfl, rfl, e1, upd_same, e3, fun q hq => ?_⟩
        obtain ⟨f1, f2⟩ := e5 q hq
        have st3 := (st2.same s5).same f1
        exact ⟨q, _, _, rfl, ⟨f2, st3.but, st3.draw⟩, ei.put hn (.inl rfl)⟩
      · refine ⟨_, rfl, by show 1 ≤ sizeLine; decide, fun tp htp => ⟨by show 1 ≤ sizeLine; decide, fun b hb => ?_⟩⟩
        have s5 := (same_new (o := .tup [V.str n]) htp).trans (same_new (o := .lst [V.ref tp]) hb)
        have htup : ∀ H', Same (upd (upd H4 tp (.tup [V.str n])) b (.lst [V.ref tp])) H' → ItV H' (.ref tp) (.reg n) := fun H' s => ⟨tp, rfl, s _ _ (same_new hb _ _ upd_same)⟩
        obtain ⟨xs, e1, e3, e4, e5, e6⟩ := row_cat (st2.same s5).row htup hlen
        refine ⟨_, rfl, b, l, _, xs, rfl, rfl, upd_same, e1, e4, fun q hq => ?_⟩
        obtain ⟨f1, f2⟩ := e6 q hq
        have st3 := (st2.same s5).same f1
        exact ⟨q, _, _, rfl, ⟨f2, st3.but, st3.draw⟩, ei.put hn (.inr rfl)⟩
    · rintro σ H2 ⟨l, row, x4, rfl, st, ei⟩
      rw [List.length_map] at ei
      refine nx_of (ret_of ?_)
      refine ⟨_, rfl, _, rfl, by show 2 ≤ sizeLine; decide, fun b hb => ?_⟩
      have st1 := st.same (same_new (o := .lst [V.str "", V.str ""]) hb)
      refine ⟨_, rfl, b, g, _, _, rfl, rfl, upd_same, hgK st1, by show 4 ≤ sizeLine; decide, fun q2 hq => ?_⟩
      have st2 := st1.same (same_new (o := .lst (sgs.map V.str)) hq)
      refine ⟨D, e, q2, _, rfl, st2.draw, SqL.of upd_same, (st1.draw.nn hq).1.symm, (fun z => nomatch z), fun x H5 hx hd3 => ?_⟩
      obtain ⟨z, hz1, rfl⟩ := List.mem_map.mp (show x ∈ sgs.map V.str from hx)
      have st3 := st2.drawn hd3
      refine ⟨by show 1 ≤ sizeLine; decide, fun c hc => ?_⟩
      have s5 := same_new (o := .lst [V.str z]) hc
      obtain ⟨xs, e1, e3, e4, e5, e6⟩ := row_cat (v := .str z) (it := .txt z) (st3.same s5).row (fun _ _ => rfl) (Nat.le_trans ei.len (Nat.le_trans hR.len (by decide)))
      refine ⟨l, c, xs, _, rfl, rfl, e1, upd_same, e3, fun q3 hq3 => ?_⟩
      obtain ⟨f1, ys, f3, f4⟩ := e5 q3 hq3
      refine ⟨q3, ys, rfl, .inl ⟨SqL.of f3, fun t ht => ?_⟩⟩
      have s6 := same_new (o := .tup ys) ht
      have st6 := ((st3.same s5).same f1).same s6
      exact q t _ _ (ei.done hR.len (sgs_ok z hz1)) ⟨ys, upd_same, paired_imp f4 fun _ _ _ h => h.rst (Rst.stl (Stl.of (CR := 0) s6))⟩ ⟨st6.but, st6.draw⟩
end
end Pt
end

section
set_option Elab.async false
set_option maxRecDepth 100000
set_option maxHeartbeats 2000000
set_option linter.unusedSectionVars false
set_option linter.unusedVariables false
namespace Pt
open PySem PySem.Spec PyProof.Rows L2
/-- what the law holds of a program -/
def ToldAt (H : Hp) (t : Addr) (T : Mach) : Prop := ∃ r d1 d2 d3, H t = some (.tup [.str (mkS T.letters), .int (T.S : Nat), .ref r, .ref d1, .ref d2, .ref d3]) ∧ H r = some (.lst (T.R.map V.str)) ∧ HeldAt H d1 T.R T.firsts ∧ StepsD H d2 T.R (duo T.S T.letters) T.step ∧ EndsD H d3 (endL T.S T.ends) T.ends
theorem ToldAt.stl {CR t : Addr} {T : Mach} {H H' : Hp} (e : Stl CR H H') (x : ToldAt H t T) : ToldAt H' t T := by
  obtain ⟨r, d1, d2, d3, h0, h1, h2, h3, h4⟩ := x
  exact ⟨r, d1, d2, d3, e _ _ h0 trivial, e _ _ h1 (fz_strs _), h2.stl e, h3.stl e, h4.stl e⟩
def spProg (K : PySem.W.Frag) : Sp := fun vs H Q _ => ∃ (D e g : Addr), vs = [.ref D, .ref g] ∧ DrawAt K H D e ∧ H g = some (.lst [.str "a", .str "b"]) ∧
  ∀ t T H', WF T → ToldAt H' t T → Drawn K D e H H' → Q (.ref t) H'
/-! ### the dicts while they grow -/
def StepX (H : Hp) (n3 a : Addr) (R : List Str) (q : Nat × (Str → Row)) : Prop := ∃ d, H a = some (.tup [.int (q.1 : Nat), .ref d]) ∧ RowsD H d R q.2 ∧ d ≠ n3
theorem RowsD.tups {H H' : Hp} {d : Addr} {R : List Str} {f : Str → Row} (e : Tups H H') (hd : ∀ kvs, H d = some (.dK kvs) → H' d = some (.dK kvs)) (x : RowsD H d R f) : RowsD H' d R f := by
  obtain ⟨as, h1, h2⟩ := x
  exact ⟨as, hd _ h1, paired_imp h2 fun _ _ _ h => h.tups e⟩
theorem StepX.tups {H H' : Hp} {n3 a : Addr} {R : List Str} {q : Nat × (Str → Row)} (e : Tups H H') (hd : ∀ d kvs, d ≠ n3 → H d = some (.dK kvs) → H' d = some (.dK kvs)) (x : StepX H n3 a R q) : StepX H' n3 a R q := by
  obtain ⟨d, h1, h2, h3⟩ := x
  exact ⟨d, e _ _ h1, h2.tups e fun kvs h => hd d kvs h3 h, h3⟩
structure PgSt (K : PySem.W.Frag) (D e : Addr) (H0 : Hp) (r d1 d2 d3 : Addr) (R : List Str) (fs : Str → Str) (ks : List (Nat × Nat)) (g : Nat → Nat → Nat × (Str → Row)) (ss : List Nat) (E : Nat → Option Row) (H : Hp) : Prop where
  but : But D H0 H
  draw : DrawAt K H D e
  regs : H r = some (.lst (R.map V.str))
  held : HeldAt H d1 R fs
  n1 : d1 ≠ d3
  steps : ∃ as, H d2 = some (.dT (zipF duoK ks as)) ∧ Paired (fun a (p : Nat × Nat) => StepX H d3 a R (g p.1 p.2)) as ks
  ends : ∃ as, H d3 = some (.dK (zipF (κ := Key) (fun s : Nat => Sum.inl (s : Int)) ss as)) ∧ Paired (fun a s => ∃ e, E s = some e ∧ RowAt H a e) as ss
section
variable {K : PySem.W.Frag} {D e r d1 d2 d3 : Addr} {H0 H H' : Hp} {R : List Str} {fs : Str → Str} {ks : List (Nat × Nat)} {g : Nat → Nat → Nat × (Str → Row)} {ss : List Nat} {E : Nat → Option Row}
theorem PgSt.stl (x : PgSt K D e H0 r d1 d2 d3 R fs ks g ss E H) (s : Stl 0 H H') (b : But D H H') (dr : DrawAt K H' D e) : PgSt K D e H0 r d1 d2 d3 R fs ks g ss E H' := by
  obtain ⟨as, h1, h2⟩ := x.steps
  obtain ⟨bs, h3, h4⟩ := x.ends
  refine ⟨x.but.trans b, dr, s _ _ x.regs (fz_strs _), x.held.stl s, x.n1, ⟨as, s _ _ h1 trivial, paired_imp h2 fun _ _ _ h => h.tups (Tups.stl s) fun d kvs _ h => s _ _ h trivial⟩, ⟨bs, s _ _ h3 trivial, paired_imp h4 fun _ _ _ ⟨e, h5, h6⟩ => ⟨e, h5, h6.stl s⟩⟩⟩
theorem PgSt.drawn (x : PgSt K D e H0 r d1 d2 d3 R fs ks g ss E H) (h : Drawn K D e H H') : PgSt K D e H0 r d1 d2 d3 R fs ks g ss E H' := x.stl (x.draw.stl h.1) h.1 h.2
theorem PgSt.same (x : PgSt K D e H0 r d1 d2 d3 R fs ks g ss E H) (h : Same H H') : PgSt K D e H0 r d1 d2 d3 R fs ks g ss E H' := x.stl (Stl.of h) (But.of h) (x.draw.same h)
/-- a dict grows: the draws stay -/
theorem drawD {d : Addr} {o o' : HO} (dr : DrawAt K H D e) (h : H d = some o) (n : ∀ xs, o ≠ .lst xs) : DrawAt K (upd H d o') D e := by
  obtain ⟨s, k, ns, h1, h2, h3⟩ := dr
  exact ⟨s, k, ns, by rw [upd_ne fun z => by subst z; rw [h] at h1; cases h1; exact n _ rfl]; exact h1, by rw [upd_ne fun z => by subst z; rw [h] at h2; cases h2; exact n _ rfl]; exact h2, h3⟩
def upG (g : Nat → Nat → Nat × (Str → Row)) (s c : Nat) (q : Nat × (Str → Row)) : Nat → Nat → Nat × (Str → Row) := fun s' c' => if (s', c') = (s, c) then q else g s' c'
theorem PgSt.putStep (x : PgSt K D e H0 r d1 d2 d3 R fs ks g ss E H) (n2 : H0 d2 = none) (hz : ks.length ≤ 1000) {s c : Nat} (hk : (s, c) ∉ ks) {a b : Addr} (hb : H b = some (.tup [.int (s : Nat), .str (mkS [c])])) {q : Nat × (Str → Row)} (ha : StepX H d3 a R q) :
    ∃ H', DPut H d2 (.ref b) (.ref a) H' ∧ PgSt K D e H0 r d1 d2 d3 R fs (ks ++ [(s, c)]) (upG g s c q) ss E H' := by
  obtain ⟨as, h1, h2⟩ := x.steps
  obtain ⟨bs, h3, h4⟩ := x.ends
  have hv : valV (zipF duoK ks as) (duoK (s, c)) = none := zipF_none fun y hy z => hk (by rw [← duoK_inj z]; exact hy)
  have hlen := paired_length h2
  have n23 : d3 ≠ d2 := fun z => by subst z; rw [h1] at h3; cases h3
  have tp : Tups H (upd H d2 (.dT (zipF duoK (ks ++ [(s, c)]) (as ++ [a])))) := fun p l hp => by
    rw [upd_ne fun z => by subst z; rw [h1] at hp; cases hp]
    exact hp
  have dk : ∀ d kvs, d ≠ d3 → H d = some (.dK kvs) → upd H d2 (.dT (zipF duoK (ks ++ [(s, c)]) (as ++ [a]))) d = some (.dK kvs) := fun d kvs _ hd => by
    rw [upd_ne fun z => by subst z; rw [h1] at hd; cases hd]
    exact hd
  refine ⟨_, DPut.t (k := duoK (s, c)) h1 hb (by rw [zipF_len hlen]; exact Nat.lt_of_le_of_lt hz (by decide)), ?_⟩
  rw [putK_new _ hv, ← zipF_snoc hlen]
  refine ⟨fun p o hp hn => ?_, drawD x.draw h1 (fun _ z => nomatch z), ?_, ?_, x.n1, ⟨as ++ [a], upd_same, paired_snoc (paired_imp h2 fun y p hp h => ?_) ?_⟩, ⟨bs, by rw [upd_ne n23]; exact h3, paired_imp h4 fun _ _ _ ⟨e, h5, h6⟩ => ⟨e, h5, h6.tups tp⟩⟩⟩
  · rw [upd_ne (ne_of_none hp n2)]
    exact x.but p o hp hn
  · have h := x.regs
    rw [upd_ne fun z => by subst z; rw [h1] at h; cases h]
    exact h
  · exact dk _ _ x.n1 x.held
  · have e : upG g s c q p.1 p.2 = g p.1 p.2 := if_neg fun z => hk (by rw [← z]; exact hp)
    rw [e]
    exact h.tups tp dk
  · have e : upG g s c q s c = q := if_pos rfl
    rw [e]
    exact ha.tups tp dk
def upE (E : Nat → Option Row) (s : Nat) (row : Row) : Nat → Option Row := fun t => if t = s then some row else E t
theorem PgSt.putEnd (x : PgSt K D e H0 r d1 d2 d3 R fs ks g ss E H) (n3 : H0 d3 = none) (hz : ss.length ≤ 1000) {s : Nat} (hk : s ∉ ss) {a : Addr} {row : Row} (ha : RowAt H a row) :
    ∃ H', DPut H d3 (.int (s : Nat)) (.ref a) H' ∧ PgSt K D e H0 r d1 d2 d3 R fs ks g (ss ++ [s]) (upE E s row) H' := by
  obtain ⟨as, h1, h2⟩ := x.steps
  obtain ⟨bs, h3, h4⟩ := x.ends
  have hv : valV (zipF (κ := Key) (fun s : Nat => Sum.inl (s : Int)) ss bs) (Sum.inl (s : Int)) = none := zipF_none fun y hy z => hk (by
    have e : (y : Int) = s := Sum.inl.inj z
    have e : y = s := by omega
    rw [← e]; exact hy)
  have hlen := paired_length h4
  have n23 : d2 ≠ d3 := fun z => by subst z; rw [h1] at h3; cases h3
  have tp : Tups H (upd H d3 (.dK (zipF (κ := Key) (fun s : Nat => Sum.inl (s : Int)) (ss ++ [s]) (bs ++ [a])))) := fun p l hp => by
    rw [upd_ne fun z => by subst z; rw [h3] at hp; cases hp]
    exact hp
  have dk : ∀ d kvs, d ≠ d3 → H d = some (.dK kvs) → upd H d3 (.dK (zipF (κ := Key) (fun s : Nat => Sum.inl (s : Int)) (ss ++ [s]) (bs ++ [a]))) d = some (.dK kvs) := fun d kvs n hd => by
    rw [upd_ne n]
    exact hd
  refine ⟨_, DPut.k (k := Sum.inl (s : Int)) h3 (by rw [zipF_len hlen]; exact Nat.lt_of_le_of_lt hz (by decide)), ?_⟩
  rw [putK_new _ hv, ← zipF_snoc (kf := fun s : Nat => (Sum.inl (s : Int) : Key)) hlen]
  refine ⟨fun p o hp hn => ?_, drawD x.draw h3 (fun _ z => nomatch z), ?_, ?_, x.n1, ⟨as, by rw [upd_ne n23]; exact h1, paired_imp h2 fun y p hp h => h.tups tp dk⟩, ⟨bs ++ [a], upd_same, paired_snoc (paired_imp h4 fun y t ht ⟨e, h5, h6⟩ => ⟨e, ?_, h6.tups tp⟩) ⟨row, if_pos rfl, ha.tups tp⟩⟩⟩
  · rw [upd_ne (ne_of_none hp n3)]
    exact x.but p o hp hn
  · have h := x.regs
    rw [upd_ne fun z => by subst z; rw [h3] at h; cases h]
    exact h
  · exact dk _ _ x.n1 x.held
  · rw [← h5]
    exact if_neg fun z => hk (by rw [← z]; exact ht)
end
theorem duo_succ (i : Nat) (L : List Nat) : duo (i + 1) L = duo i L ++ L.map fun c => (i, c) := by
  unfold duo
  rw [List.range_succ, List.flatMap_append]
  simp
theorem endL_succ (i : Nat) (E : Nat → Option Row) : endL (i + 1) E = endL i E ++ if (E i).isSome = true then [i] else [] := by
  unfold endL
  rw [List.range_succ, List.filter_append]
  congr 1
  cases h : (E i).isSome with
  | true => rw [List.filter_cons_of_pos (p := fun s => (E s).isSome) h]; rfl
  | false => rw [List.filter_cons_of_neg (p := fun s => (E s).isSome) (by show ¬ (E i).isSome = true; rw [h]; exact Bool.false_ne_true)]; rfl
theorem endL_congr {i : Nat} {E E' : Nat → Option Row} (h : ∀ s, s < i → E s = E' s) : endL i E = endL i E' := by
  unfold endL
  exact List.filter_congr fun s hs => by rw [h s (List.mem_range.mp hs)]
theorem mem_endL {i s : Nat} {E : Nat → Option Row} (h : s ∈ endL i E) : s < i := List.mem_range.mp (List.mem_filter.mp h).1
theorem duo_len (i : Nat) (L : List Nat) : (duo i L).length = i * L.length := by
  induction i with
  | zero => rw [Nat.zero_mul]; rfl
  | succ n ih => rw [duo_succ, List.length_append, ih, List.length_map, Nat.succ_mul]
theorem endL_len (i : Nat) (E : Nat → Option Row) : (endL i E).length ≤ i := by
  unfold endL
  exact Nat.le_trans (List.length_filter_le ..) (by rw [List.length_range]; exact Nat.le_refl _)
/-- the mathematics of what is drawn so far -/
structure GOk (R : List Str) (S i : Nat) (ks : List (Nat × Nat)) (g : Nat → Nat → Nat × (Str → Row)) (E : Nat → Option Row) : Prop where
  nxt : ∀ p ∈ ks, (g p.1 p.2).1 < S
  rows : ∀ p ∈ ks, RowsOk R (g p.1 p.2).2
  ends : ∀ s e, E s = some e → s < i ∧ EndOk R e
theorem GOk.step {R : List Str} {S i : Nat} {ks : List (Nat × Nat)} {g : Nat → Nat → Nat × (Str → Row)} {E : Nat → Option Row} (x : GOk R S i ks g E) {s c : Nat} (hk : (s, c) ∉ ks) {q : Nat × (Str → Row)} (h1 : q.1 < S) (h2 : RowsOk R q.2) :
    GOk R S i (ks ++ [(s, c)]) (upG g s c q) E := by
  have key : ∀ p ∈ ks, upG g s c q p.1 p.2 = g p.1 p.2 := fun p hp => if_neg fun z => hk (by rw [← z]; exact hp)
  have key2 : upG g s c q s c = q := if_pos rfl
  refine ⟨fun p hp => ?_, fun p hp => ?_, x.ends⟩ <;> rcases List.mem_append.mp hp with hp | hp
  · rw [key p hp]; exact x.nxt p hp
  · rw [List.mem_singleton.mp hp, key2]; exact h1
  · rw [key p hp]; exact x.rows p hp
  · rw [List.mem_singleton.mp hp, key2]; exact h2
end Pt
end

section
set_option Elab.async false
set_option maxRecDepth 100000
set_option maxHeartbeats 2000000
set_option linter.unusedSectionVars false
set_option linter.unusedVariables false
namespace Pt
open PySem PySem.Spec PyProof.Rows L2
section
variable {P : Program} {w : World} {K : PySem.W.Frag} {mg : Str → Option Value} {base : Heap}
theorem scProg : FnScope ["_law_draw_here", "_law_signs", "_law_letters", "_law_states", "_law_registers", "_law_firsts", "_law_steps", "_law_ends", "_law_state", "_law_letter", "_law_name"] ["_law_draw_here", "_law_signs"] (defScope sProg) := ⟨rfl, rfl, rfl, by decide +kernel, rfl, by decide +kernel, by decide +kernel⟩
abbrev CaRows (P : Program) (w : World) (K : PySem.W.Frag) (mg : Str → Option Value) (base : Heap) : Prop := Ca P w K mg base 5 "_law_rows" ["_law_draw_here", "_law_registers", "_law_signs"] (spRows K)
abbrev CaEnd (P : Program) (w : World) (K : PySem.W.Frag) (mg : Str → Option Value) (base : Heap) : Prop := Ca P w K mg base 5 "_law_end" ["_law_draw_here", "_law_registers", "_law_signs"] (spEnd K)
def LOk (L : List Nat) : Prop := L = [97, 98] ∨ L = [98]
theorem LOk.nd {L : List Nat} (h : LOk L) : L.Nodup := by rcases h with h | h <;> rw [h] <;> decide
theorem LOk.len {L : List Nat} (h : LOk L) : L.length ≤ 2 := by rcases h with h | h <;> rw [h] <;> decide
theorem let_pick : ∀ x ∈ (["ab", "ab", "ab", "b"] : List Str).map V.str, ∃ L, x = .str (mkS L) ∧ LOk L := by
  intro x hx
  obtain ⟨z, hz, rfl⟩ := List.mem_map.mp hx
  rcases (by simpa using hz : z = "ab" ∨ z = "b") with rfl | rfl
  · exact ⟨[97, 98], by rw [show mkS [97, 98] = ("ab" : Str) from by decide +kernel], .inl rfl⟩
  · exact ⟨[98], by rw [show mkS [98] = ("b" : Str) from by decide +kernel], .inr rfl⟩
theorem reg_pick : ∀ x ∈ ([1, 2, 2, 2, 0] : List Int).map V.int, ∃ n : Int, x = .int n ∧ ∃ R, RR R ∧ cutV [V.str "x", V.str "y"] none (some n) = R.map V.str := by
  intro x hx
  obtain ⟨z, hz, rfl⟩ := List.mem_map.mp hx
  rcases (by simpa using hz : z = 1 ∨ z = 2 ∨ z = 0) with rfl | rfl | rfl
  · exact ⟨1, rfl, ["x"], .inr (.inl rfl), rfl⟩
  · exact ⟨2, rfl, ["x", "y"], .inr (.inr rfl), rfl⟩
  · exact ⟨0, rfl, [], .inl rfl, rfl⟩
theorem sign_get {L : List Nat} {i c : Nat} (h : (mkS L).cps[i]? = some c) : L[i]? = some c := by
  have e : (mkS L).cps = L.toArray := rfl
  rw [e] at h
  simpa using h
def FOk (z : Str) : Prop := (cs z).length ≤ 1 ∧ ∀ c ∈ cs z, c = 97
instance (z : Str) : Decidable (FOk z) := by unfold FOk; infer_instance
theorem fst_ok : ∀ z ∈ (["", "", "a"] : List Str), FOk z := by decide +kernel
theorem Drawn.trans {D e : Addr} {H H1 H2 : Hp} (a : Drawn K D e H H1) (b : Drawn K D e H1 H2) : Drawn K D e H H2 := ⟨a.1.trans b.1, b.2⟩
theorem Drawn.same {D e : Addr} {H H1 H2 : Hp} (a : Drawn K D e H H1) (b : Same H1 H2) : Drawn K D e H H2 := ⟨a.1.trans (But.of b), a.2.same b⟩
theorem Drawn.fresh {D e b : Addr} {H H1 : Hp} (a : Drawn K D e H H1) (h : H1 b = none) : H b = none := by
  cases hb : H b with
  | none => rfl
  | some o =>
    have := a.1 b o hb (a.2.nn h).1.symm
    rw [this] at h
    cases h
/-- a pick from a new list -/
theorem new_pick {D e : Addr} {H0 H : Hp} {xs : List V} {Q : VK} (d : Drawn K D e H0 H) (hx : xs ≠ []) (q : ∀ x H', x ∈ xs → Drawn K D e H0 H' → Drawn K D e H H' → Q x H') : ∀ l, H l = none → spPick K [.ref D, .ref l] (upd H l (.lst xs)) Q E0 := fun l hl =>
  ⟨D, e, l, xs, rfl, d.2.same (same_new hl), SqL.of upd_same, (d.2.nn hl).1.symm, hx, fun x H' hm hd => q x H' hm ((d.same (same_new hl)).trans hd) ⟨fun b o h n => hd.1 b o (same_new hl b o h) n, hd.2⟩⟩
theorem ok_program {f : Addr} {fd : FuncData} (F : Fun K "_law_program" "_law_program" sProg f fd) (B : Bl mg) (cN : CaNext P w K mg base) (cP : CaPick P w K mg base) (cR : CaRows P w K mg base) (cE : CaEnd P w K mg base) :
    FnOk P w K mg base CX0 6 f fd ["_law_draw_here", "_law_signs"] (spProg K) := by
  refine F.ok scProg (fun vs H Q E h => ?_) (fun cdv A outer s H vs Q E hr h => ?_)
  · obtain ⟨D, e, g, rfl, _⟩ := h
    rfl
  · obtain ⟨D, e, g, rfl, hD, hg, q⟩ := h
    refine ⟨_, pss_cons (ps_par (i := 2) (j := 3) rfl scProg.nd rfl rfl (by decide) rfl rfl (pa_cons (pe_ca cP hr (by decide) rfl (pa_cons (pv 0) (pa_cons (pe_lst (pa_cons pe_str (pa_cons pe_str (pa_cons pe_str (pa_cons pe_str pa_nil))))) pa_nil)))
        (pa_cons (pe_op op_add pe_int (pe_ca cN hr (by decide) rfl (pa_cons (pv 0) (pa_cons pe_int pa_nil)))) pa_nil)) rfl)
      (pss_cons (ps_set (i := 4) scProg.nd rfl (.inl rfl) (pe_slice sl_list (pe_lst (pa_cons pe_str (pa_cons pe_str pa_nil))) po_none (po_some (pe_ca cP hr (by decide) rfl (pa_cons (pv 0) (pa_cons (pe_lst (pa_cons pe_int (pa_cons pe_int (pa_cons pe_int (pa_cons pe_int (pa_cons pe_int pa_nil)))))) pa_nil))))))
      (pss_cons (ps_set (i := 5) scProg.nd rfl (.inl rfl) (pe_callTy (call_dictP rfl) (by rfl) B.dict PyProof.Rows.boot_dict (pa_cons (pe_lc (own := [("_law_name", 10)]) rfl scProg.nd (pi_list (pv 4)) (blkOk_by (by kernel_rfl)) (fun _ _ _ _ _ => pg_name (i := 10) scProg.nd rfl (.inl rfl)) (fun _ _ _ _ _ => pts_nil)
        (fun _ _ _ _ _ => pe_tup (pa_cons (pv 10) (pa_cons (pe_ca (sp := spPick K) cP hr (by decide) rfl (pa_cons (pv 0) (pa_cons (pe_lst (pa_cons pe_str (pa_cons pe_str (pa_cons pe_str pa_nil)))) pa_nil))) pa_nil)))) pa_nil)))
      (pss_cons (ps_par (i := 6) (j := 7) rfl scProg.nd rfl rfl (by decide) rfl rfl (pa_cons pe_dnewT (pa_cons pe_dnewK pa_nil)) rfl)
      (pss_cons (ps_for PassesOwn.never rfl (pi_range1 rfl B.range (pa_cons (pv 3) pa_nil)) (pg_name (i := 8) scProg.nd rfl (.inl rfl))
        (pss_cons (ps_for PassesOwn.never rfl (pi_str (pv 2)) (pg_name (i := 9) scProg.nd rfl (.inl rfl))
          (pss_one (ps_asg (pe_tup (pa_cons (pe_ca cN hr (by decide) rfl (pa_cons (pv 0) (pa_cons (pv 3) pa_nil))) (pa_cons (pe_ca cR hr (by decide) rfl (pa_cons (pv 0) (pa_cons (pv 4) (pa_cons (pv 1) pa_nil)))) pa_nil)))
            (pg_sub (pv 6) (pe_tup (pa_cons (pv 8) (pa_cons (pv 9) pa_nil))) (set_dict (hu1 hr))))))
        (pss_one (ps_if (pt_cmpR op_gt (pe_ca cN hr (by decide) rfl (pa_cons (pv 0) (pa_cons pe_int pa_nil))) pe_int (nomark _))
          (pss_one (ps_asg (pe_ca cE hr (by decide) rfl (pa_cons (pv 0) (pa_cons (pv 4) (pa_cons (pv 1) pa_nil)))) (pg_sub (pv 7) (pv 8) (set_dict (hu1 hr))))) pss_nil))))
      (pss_one (ps_ret (pe_tup (pa_cons (pv 2) (pa_cons (pv 3) (pa_cons (pv 4) (pa_cons (pv 5) (pa_cons (pv 6) (pa_cons (pv 7) pa_nil))))))))))))), ?_⟩
    have neG : g ≠ D := hD.ne hg fun _ => fz_strs ["a", "b"]
    have d0 : Drawn K D e H H := ⟨But.refl D H, hD⟩
    have hgK : ∀ {H2 : Hp}, Drawn K D e H H2 → H2 g = some (.lst [.str "a", .str "b"]) := fun x => x.1 _ _ hg neG
    refine ⟨_, rfl, by show 4 ≤ sizeLine; decide, fun l hl => new_pick d0 (List.cons_ne_nil _ _) (fun x H1 hx d1 _ => ?_) l hl⟩
    obtain ⟨L, rfl, hL⟩ := let_pick x hx
    refine ⟨_, rfl, D, e, 2, rfl, d1.2, by decide, fun n1 H2 hn1 hd2 => ?_⟩
    have d2 := d1.trans hd2
    obtain ⟨S, hS1, hS2, hS⟩ : ∃ S : Nat, 1 ≤ S ∧ S ≤ 2 ∧ (1 : Int) + (n1 : Nat) = (S : Nat) := ⟨1 + n1, by omega, by omega, by omega⟩
    refine ⟨_, _, rfl, rfl, .str (mkS L), .int (S : Nat), by rw [← hS], nx_of ?_⟩
    -- registers
    refine seq_asg (via (fun x H3 => ∃ r R, x = .ref r ∧ RR R ∧ H3 r = some (.lst (R.map V.str)) ∧ Drawn K D e H H3) (fun Q' hQ => ?_) ?_)
    · refine ⟨by show 2 ≤ sizeLine; decide, fun l2 hl2 => ?_⟩
      have d3 := d2.same (same_new (o := .lst [V.str "x", V.str "y"]) hl2)
      refine ⟨_, rfl, by show 5 ≤ sizeLine; decide, fun l3 hl3 => new_pick d3 (List.cons_ne_nil _ _) (fun x H3 hx d4 d34 => ?_) l3 hl3⟩
      obtain ⟨n, rfl, R, hR, hcut⟩ := reg_pick x hx
      refine ⟨n, rfl, l2, _, rfl, SqL.of (d34.1 _ _ upd_same (d2.2.nn hl2).1.symm), fun p hp => ?_⟩
      rw [hcut]
      exact hQ _ _ ⟨p, R, rfl, hR, upd_same, d4.same (same_new hp)⟩
    rintro _ H3 ⟨r, R, rfl, hR, hr3, d3⟩
    have neR : r ≠ D := d3.2.ne hr3 fun _ => fz_strs R
    -- firsts
    refine seq_asg (via (fun x H4 => ∃ d1 fs, x = .ref d1 ∧ HeldAt H4 d1 R fs ∧ (∀ z ∈ R, FOk (fs z)) ∧ H4 r = some (.lst (R.map V.str)) ∧ Drawn K D e H H4) (fun Q' hQ => ?_) ?_)
    · refine dict_lc (CR := 0) r (fun L i vs H' => H3 L = none ∧ Drawn K D e H3 H' ∧ ∃ fs : Str → Str, vs = (R.take i).map (fun z => V.str (fs z)) ∧ ∀ z ∈ R.take i, FOk (fs z)) hR.nd (Nat.le_trans hR.len (by decide)) ?_ (fun _ h => ⟨_, rfl, h⟩) (SqL.of hr3) ?_ ?_ ?_ ?_ ?_
      · show 10 < 11; decide
      · exact fun L hL => ⟨hL, ⟨But.of (same_new hL), d3.2.same (same_new hL)⟩, fun _ => Str.empty, rfl, fun _ h => (nomatch h)⟩
      · exact fun L i vs H' h => SqL.of (h.2.1.1 _ _ hr3 neR)
      · rintro L i vs H1 H2 _ ⟨hL, dd, fs, rfl, h⟩ hb
        exact ⟨hL, ⟨fun b o e1 n1 => hb _ _ (dd.1 _ _ e1 n1) (ne_of_none e1 hL), dd.2.but hb (d3.2.nn hL).1 (d3.2.nn hL).2⟩, fs, rfl, h⟩
      · rintro L i z vs H1 hL _ hz hv ⟨hL', dd, fs, rfl, h⟩ Q'' hQ2
        refine ⟨_, rfl, by show 3 ≤ sizeLine; decide, fun l hl => new_pick dd (List.cons_ne_nil _ _) (fun x H2 hx dd2 d12 => ?_) l hl⟩
        obtain ⟨y, hy, rfl⟩ := List.mem_map.mp (show x ∈ (["", "", "a"] : List Str).map V.str from hx)
        have hzn : z ∉ R.take i := fun hm => by
          have nd := hR.nd
          have h1 : (R.take (i + 1)).Nodup := nd.sublist (List.take_sublist _ _)
          rw [List.take_add_one, hz, List.nodup_append] at h1
          exact h1.2.2 z hm z (by simp) rfl
        refine hQ2 _ _ (dd.2.stl d12.1) ⟨hL, dd2, fun t => if t = z then y else fs t, ?_, fun t ht => ?_⟩
        · rw [List.take_add_one, hz, List.map_append]
          congr 1
          · exact List.map_congr_left fun t ht => by
              show _ = V.str (if t = z then y else fs t)
              rw [if_neg fun e => hzn (by rw [← e]; exact ht)]
          · show [V.str y] = [V.str (if z = z then y else fs z)]
            rw [if_pos rfl]
        · show FOk (if t = z then y else fs t)
          split
          · exact fst_ok y hy
          · rename_i hne
            rw [List.take_add_one, hz] at ht
            rcases List.mem_append.mp ht with ht | ht
            · exact h t ht
            · exact absurd (by simpa using ht) hne
      · rintro L vs H1 hL hv ⟨_, dd, fs, rfl, h⟩ p hp
        rw [List.take_length] at h ⊢
        have s5 := same_new (o := .dK (pairK R (R.map fun z => V.str (fs z)))) hp
        exact hQ _ _ ⟨p, fs, rfl, by show upd _ _ _ p = _; rw [upd_same, pairK_held], h, s5 _ _ (dd.1 _ _ hr3 neR), (d3.trans dd).same s5⟩
    rintro _ H4 ⟨d1, fs, rfl, hh, hfs, hr4, d4⟩
    -- steps, ends
    refine fun d2 hd2 d3 hd3 => ⟨_, _, rfl, nx_of ?_⟩
    have s5 := (same_new (o := .dT []) hd2).trans (same_new (o := .dK []) hd3)
    have hd3' : H4 d3 = none := (same_new (o := .dT []) hd2).none hd3
    have d5 := d4.same s5
    have z2 : H d2 = none := d4.fresh hd2
    have z3 : H d3 = none := d4.fresh hd3'
    have st0 : PgSt K D e H r d1 d2 d3 R fs (duo 0 L) (fun _ _ => (0, fun _ => [])) (endL 0 fun _ => none) (fun _ => none) (upd (upd H4 d2 (.dT [])) d3 (.dK [])) := by
      refine ⟨d5.1, d5.2, s5 _ _ hr4, s5 _ _ hh, ne_of_none hh hd3', ⟨[], ?_, .nil⟩, ⟨[], upd_same, .nil⟩⟩
      rw [upd_ne (ne_of_none upd_same hd3)]
      exact upd_same
    refine ⟨_, rfl, S, rfl, by omega, by omega, ?_⟩
    have e0 : ((S : Nat) : Int).toNat = S := by omega
    rw [e0]
    refine for_range (lo := 0) (n := S) (fun i σ H5 => ∃ (g' : Nat → Nat → Nat × (Str → Row)) (E' : Nat → Option Row) (x8 x9 x10 : Option V), σ = [some (.ref D), some (.ref g), some (.str (mkS L)), some (.int (S : Nat)), some (.ref r), some (.ref d1), some (.ref d2), some (.ref d3), x8, x9, x10] ∧
        PgSt K D e H r d1 d2 d3 R fs (duo i L) g' (endL i E') E' H5 ∧ GOk R S i (duo i L) g' E') ⟨_, _, none, none, none, rfl, st0, ⟨fun _ h => (nomatch h), fun _ h => (nomatch h), fun _ _ h => (nomatch h)⟩⟩ ?_ ?_
    · rintro i σ H5 hi ⟨g', E', x8, x9, x10, rfl, st, gk⟩
      refine ⟨_, rfl, _, rfl, ?_⟩
      have hcs : (mkS L).cps.size = L.length := rfl
      refine for_it walk_str (fun j σ H6 => ∃ (g' : Nat → Nat → Nat × (Str → Row)) (x9 x10 : Option V), σ = [some (.ref D), some (.ref g), some (.str (mkS L)), some (.int (S : Nat)), some (.ref r), some (.ref d1), some (.ref d2), some (.ref d3), some (.int (0 + (i : Nat))), x9, x10] ∧
        PgSt K D e H r d1 d2 d3 R fs (duo i L ++ (L.take j).map fun c => (i, c)) g' (endL i E') E' H6 ∧ GOk R S i (duo i L ++ (L.take j).map fun c => (i, c)) g' E') ⟨g', _, _, rfl, by simpa using st, by simpa using gk⟩ (fun _ _ _ _ _ => trivial) ?_ ?_
      · rintro j x σ H6 H6' hj ⟨g', x9, x10, rfl, st, gk⟩ ⟨rfl, c, hc, rfl⟩
        have hcL := sign_get hc
        have hk : (i, c) ∉ duo i L ++ (L.take j).map fun c => (i, c) := fun hm => by
          rcases List.mem_append.mp hm with hm | hm
          · exact absurd (mem_duo.mp hm).1 (Nat.lt_irrefl i)
          · obtain ⟨c', hc', e1⟩ := List.mem_map.mp hm
            have e2 : c' = c := (Prod.mk.inj e1).2
            subst e2
            have h1 : (L.take (j + 1)).Nodup := hL.nd.sublist (List.take_sublist _ _)
            rw [List.take_add_one, hcL, List.nodup_append] at h1
            exact h1.2.2 c' hc' c' (by simp) rfl
        refine asg_of ⟨_, rfl, _, rfl, D, e, S, rfl, st.draw, by omega, fun n H7 hn hd7 => ?_⟩
        have st7 := st.drawn hd7
        refine ⟨_, rfl, _, rfl, _, rfl, D, e, r, g, R, rfl, st7.draw, hR, st7.regs, hgK ⟨st7.but, st7.draw⟩, fun d f' H8 hdn hf' hdd hd8 => ?_⟩
        have st8 := st7.drawn hd8
        obtain ⟨bs, hb3, _⟩ := st7.ends
        refine ⟨by show 2 ≤ sizeLine; decide, fun a ha => ?_⟩
        have s9 := same_new (o := .tup [.int (n : Nat), .ref d]) ha
        refine ⟨_, rfl, _, rfl, _, rfl, by show 2 ≤ sizeLine; decide, fun b hb => ?_⟩
        have s10 := s9.trans (same_new (o := .tup [.int (0 + (i : Nat)), .str ⟨#[c]⟩]) hb)
        have hsx : StepX (upd (upd H8 a (.tup [.int (n : Nat), .ref d])) b (.tup [.int (0 + (i : Nat)), .str ⟨#[c]⟩])) d3 a R (n, f') := ⟨d, same_new hb _ _ upd_same, hdd.stl (Stl.of (CR := 0) s10), fun z => by subst z; rw [hdn] at hb3; cases hb3⟩
        have hkey : upd (upd H8 a (.tup [.int (n : Nat), .ref d])) b (.tup [.int (0 + (i : Nat)), .str ⟨#[c]⟩]) b = some (.tup [.int (i : Nat), .str (mkS [c])]) := by
          rw [upd_same, Int.zero_add]
          rfl
        obtain ⟨H11, hput, st11⟩ := (st8.same s10).putStep z2 (by
          rw [List.length_append, duo_len, List.length_map]
          have h1 : (L.take j).length ≤ L.length := by rw [List.length_take]; omega
          have h2 := hL.len
          have h3 : i * L.length ≤ 2 * 2 := Nat.mul_le_mul (by omega) h2
          omega) hk hkey hsx
        refine ⟨d2, H11, rfl, hput, upG g' i c (n, f'), _, _, rfl, ?_, ?_⟩ <;> rw [List.take_add_one, hcL, List.map_append, ← List.append_assoc]
        · exact st11
        · exact gk.step hk (by show n < S; omega) hf'
      · rintro σ H6 ⟨g', x9, x10, rfl, st, gk⟩
        have hdu : (duo i L ++ (L.take (mkS L).cps.size).map fun c => (i, c)) = duo (i + 1) L := by rw [hcs, List.take_length, duo_succ]
        rw [hdu] at st gk
        refine nx_of ⟨_, rfl, D, e, 5, rfl, st.draw, by decide, fun n H7 _ hd7 => ?_⟩
        have st7 := st.drawn hd7
        have hEi : E' i = none := by
          cases hE : E' i with
          | none => rfl
          | some row => exact absurd (gk.ends i row hE).1 (Nat.lt_irrefl i)
        refine ⟨_, _, rfl, rfl, _, rfl, ite2 (fun _ => ?_) (fun _ => ?_)⟩
        · refine asg_of ⟨_, rfl, _, rfl, _, rfl, D, e, r, g, R, rfl, st7.draw, hR, st7.regs, hgK ⟨st7.but, st7.draw⟩, fun l row H8 hrow hl hd8 => ?_⟩
          have st8 := st7.drawn hd8
          obtain ⟨H9, hput, st9⟩ := st8.putEnd z3 (Nat.le_trans (endL_len i E') (by omega)) (s := i) (fun hm => Nat.lt_irrefl i (mem_endL hm)) hl
          have e1 : endL (i + 1) (upE E' i row) = endL i E' ++ [i] := by
            rw [endL_succ, if_pos (by show ((if i = i then some row else E' i) : Option Row).isSome = true; rw [if_pos rfl]; rfl)]
            congr 1
            exact endL_congr fun s hs => if_neg (by omega)
          have e2 : V.int (0 + ((i : Nat) : Int)) = V.int (i : Nat) := by rw [Int.zero_add]
          rw [← e2] at hput
          refine ⟨_, rfl, _, rfl, d3, H9, rfl, hput, g', upE E' i row, _, _, _, rfl, ?_, ⟨gk.nxt, gk.rows, fun s row' h => ?_⟩⟩
          · rw [e1]; exact st9
          · have h' : (if s = i then some row else E' s) = some row' := h
            split at h'
            · rename_i hs
              cases h'
              exact ⟨by omega, hrow⟩
            · exact ⟨Nat.lt_succ_of_lt (gk.ends s row' h').1, (gk.ends s row' h').2⟩
        · refine ⟨g', E', _, _, _, rfl, ?_, ⟨gk.nxt, gk.rows, fun s row' h => ⟨Nat.lt_succ_of_lt (gk.ends s row' h).1, (gk.ends s row' h).2⟩⟩⟩
          rw [endL_succ, hEi, if_neg (by exact Bool.false_ne_true), List.append_nil]
          exact st7
    · rintro σ H5 ⟨g', E', x8, x9, x10, rfl, st, gk⟩
      refine nx_of (ret_of ⟨_, rfl, _, rfl, _, rfl, _, rfl, _, rfl, _, rfl, by show 6 ≤ sizeLine; decide, fun t ht => ?_⟩)
      have s6 := same_new (o := .tup [.str (mkS L), .int (S : Nat), .ref r, .ref d1, .ref d2, .ref d3]) ht
      have st6 := st.same s6
      obtain ⟨as, h1, h2⟩ := st6.steps
      refine q t ⟨L, S, R, fs, g', E'⟩ _ ⟨hL, hS1, hS2, hR, hfs, fun s c hs hc => gk.nxt (s, c) (mem_duo.mpr ⟨hs, hc⟩), fun s c hs hc => gk.rows (s, c) (mem_duo.mpr ⟨hs, hc⟩), gk.ends⟩ ⟨r, d1, d2, d3, upd_same, st6.regs, st6.held, ⟨as, h1, paired_imp h2 fun _ _ _ ⟨d, h3, h4, _⟩ => ⟨d, h3, h4⟩⟩, st6.ends⟩ ⟨st6.but, st6.draw⟩
end
end Pt
end

section
set_option Elab.async false
set_option maxRecDepth 100000
set_option maxHeartbeats 2000000
set_option linter.unusedSectionVars false
set_option linter.unusedVariables false
namespace Pt
open PySem PySem.Spec PyProof.Rows L2
/-- the module's constants -/
def sSmall : Str := "abcdefghijklmnopqrstuvwxyz"
def sSigns : Str := "abcdefghijklmnopqrstuvwxyz0123456789"
structure Gk (mg : Str → Option Value) : Prop where
  small : ∃ u, mg "SMALL" = some u ∧ RelV (.str sSmall) u
  signs : ∃ u, mg "SIGNS" = some u ∧ RelV (.str sSigns) u
  mostL : ∃ u, mg "MOST_LETTERS" = some u ∧ RelV (.int 4) u
  mostS : ∃ u, mg "MOST_STATES" = some u ∧ RelV (.int 300) u
  mostR : ∃ u, mg "MOST_REGISTERS" = some u ∧ RelV (.int 60) u
theorem call_isiK' {X : Cx} (K : PySem.W.Frag) (h : X.K = K) : CallR X (.builtin "isinstance") (rIsi K) := by
  subst h
  exact call_isi
theorem cr_allK {X : Cx} (K : PySem.W.Frag) (h : X.K = K) (hc : X.calm = true) : CallR X (.builtin "all") (rAll K) := by
  subst h
  exact cr_all hc
/-! ### all([.. for ..]), every one true -/
theorem all_lc {J : L2.It} {n : Nat} {G : Hp → Prop} {Y : Nat → Hp → V → Hp → Prop} (wk : Walk J n G Y) {K : PySem.W.Frag} {wi : TI} {g : TG} {te : TE} {vs : List Nat} {σ : L2.St} {H1 H0 : Hp} {Q : VK} (hn : n ≤ 1000)
    (hw : ∀ R : L2.It → Hp → Prop, R J H1 → wi σ H0 R) (hG : ∀ H, Same H1 H → G H)
    (hs : ∀ i x H H', i < n → Same H1 H → Y i H x H' → Same H H' ∧ ∀ Q' : VK, (∀ H2, Same H' H2 → Q' (.bl true) H2) → g x (wipe σ vs) H' fun σ2 H2 => wipe σ2 vs = wipe σ vs ∧ te σ2 H2 Q')
    (hd : ∀ H', Same H1 H' → Q (.bl true) H') : tCB (rAll K) (tCons (tLc wi g tYes te vs) tNil) σ H0 Q := by
  refine hw _ fun L hL => ?_
  refine lc_it wk (Qd := fun H => rAll K [V.ref L] H Q) (fun i H => Same H1 H ∧ ∃ bs : List Bool, bs.length = i ∧ H L = some (.lst (bs.map V.bl)) ∧ ∀ b ∈ bs, b = true) ⟨same_new hL, [], rfl, upd_same, fun _ h => (nomatch h)⟩ (fun i H _ h => hG H h.1) ?_ ?_
  · rintro i x H H' hi ⟨hS, bs, hb, hLb, hall⟩ hy
    obtain ⟨s1, hk⟩ := hs i x H H' hi hS hy
    refine hk (fun y H4 => ∃ acc, H4 L = some (.lst acc) ∧ acc.length < sizeLine ∧ (Same H1 (upd H4 L (.lst (acc ++ [y]))) ∧ ∃ bs : List Bool, bs.length = i + 1 ∧ (upd H4 L (.lst (acc ++ [y]))) L = some (.lst (bs.map V.bl)) ∧ ∀ b ∈ bs, b = true)) fun H2 s2 => ?_
    have s3 := s1.trans s2
    refine ⟨_, s3 _ _ hLb, by rw [List.length_map, hb]; exact Nat.lt_of_lt_of_le hi (Nat.le_trans hn (by decide)), fun b o e => ?_, bs ++ [true], by rw [List.length_append, hb]; rfl, by rw [upd_same, List.map_append]; rfl, fun b m => ?_⟩
    · rw [upd_ne (ne_of_none e hL)]
      exact s3 _ _ (hS _ _ e)
    · rcases List.mem_append.mp m with m | m
      · exact hall b m
      · exact List.mem_singleton.mp m
  · rintro H ⟨hS, bs, hb, hLb, hall⟩
    refine ⟨L, bs, rfl, SqL.of hLb, ?_⟩
    rw [show bs.all id = true from List.all_eq_true.mpr fun b m => hall b m]
    exact hd H hS
end Pt
end

section
set_option Elab.async false
set_option maxRecDepth 100000
set_option maxHeartbeats 2000000
set_option linter.unusedSectionVars false
set_option linter.unusedVariables false
namespace Pt
open PySem PySem.Spec PyProof.Rows L2
theorem pe_gcv {X : Cx} {x : Str} {pos : Pos} {v : V} (hg : Gl X x) (h : ∃ u, X.mg x = some u ∧ RelV v u) (hd : (x == ("__debug__" : Str)) = false := by decide) : PE X (.Name x pos) (tC v) := by
  obtain ⟨u, hm, r⟩ := h
  exact pe_glob hg hm r hd
theorem bl_true {p : Prop} [Decidable p] (h : p) : V.bl (decide p) = .bl true := by rw [decide_eq_true h]
abbrev sWhole : Stmt := top 13
abbrev sWord : Stmt := top 14
abbrev sSignsD : Stmt := top 15
abbrev sLetters : Stmt := top 16
def spWhole : Sp := fun vs H Q _ => ∃ i : Int, vs = [.int i] ∧ Q (.bl true) H
def spWord : Sp := fun vs H Q _ => ∃ z : Str, vs = [.str z] ∧ (z = "x" ∨ z = "y") ∧ ∀ H', Same H H' → Q (.bl true) H'
def spSigns : Sp := fun vs H Q _ => ∃ z : Str, vs = [.str z] ∧ (∀ c ∈ cs z, c = 97 ∨ c = 98) ∧ (cs z).length ≤ 2 ∧ ∀ H', Same H H' → Q (.bl true) H'
def spLetters : Sp := fun vs H Q _ => ∃ L : List Nat, vs = [.str (mkS L)] ∧ LOk L ∧ ∀ H', Same H H' → Q (.bl true) H'
section
variable {P : Program} {w : World} {K : PySem.W.Frag} {mg : Str → Option Value} {base : Heap}
abbrev CaWhole (P : Program) (w : World) (K : PySem.W.Frag) (mg : Str → Option Value) (base : Heap) : Prop := Ca P w K mg base 1 "is_whole" ["thing"] spWhole
abbrev CaWord (P : Program) (w : World) (K : PySem.W.Frag) (mg : Str → Option Value) (base : Heap) : Prop := Ca P w K mg base 1 "is_word" ["thing"] spWord
abbrev CaSigns (P : Program) (w : World) (K : PySem.W.Frag) (mg : Str → Option Value) (base : Heap) : Prop := Ca P w K mg base 1 "is_signs" ["thing"] spSigns
abbrev CaLetters (P : Program) (w : World) (K : PySem.W.Frag) (mg : Str → Option Value) (base : Heap) : Prop := Ca P w K mg base 2 "are_letters" ["thing"] spLetters
theorem scWhole : FnScope ["thing"] ["thing"] (defScope sWhole) := ⟨rfl, rfl, rfl, by decide +kernel, rfl, by decide +kernel, by decide +kernel⟩
theorem ok_whole {f : Addr} {fd : FuncData} (F : Fun K "is_whole" "is_whole" sWhole f fd) (B : Bl mg) : FnOk P w K mg base CX0 1 f fd ["thing"] spWhole := by
  refine F.ok scWhole (fun vs H Q E h => ?_) (fun cdv A outer s H vs Q E hr h => ?_)
  · obtain ⟨i, rfl, _⟩ := h
    rfl
  · obtain ⟨i, rfl, q⟩ := h
    refine ⟨_, pss_one (ps_ret (pe_and (pe_callB call_isi (by rfl) B.isi boot_isinstance (pa_cons (pv 0) (pa_cons (pe_bltn (by rfl) B.int PyProof.Rows.boot_int (v := .ty "int") rfl) pa_nil)))
      (pe_one (pe_not (pe_callB call_isi (by rfl) B.isi boot_isinstance (pa_cons (pv 0) (pa_cons (pe_bltn (by rfl) B.bool PyProof.Rows.boot_bool (v := .ty "bool") rfl) pa_nil))))))), ?_⟩
    exact ⟨_, rfl, _, _, _, _, true, rfl, .ty _, .base (.int i), kit_ty (by decide +kernel), true, rfl, _, rfl, _, _, _, _, false, rfl, .ty _, .base (.int i), kit_ty (by decide +kernel), false, rfl, q⟩
theorem scWord : FnScope ["thing", "sign"] ["thing"] (defScope sWord) := ⟨rfl, rfl, rfl, by decide +kernel, rfl, by decide +kernel, by decide +kernel⟩
theorem word_ok {z : Str} (h : z = "x" ∨ z = "y") : z.length = 1 ∧ ∀ c ∈ z.cps.toList, c ∈ sSmall.cps.toList := by
  rcases h with rfl | rfl <;> decide +kernel
theorem ok_word {f : Addr} {fd : FuncData} (F : Fun K "is_word" "is_word" sWord f fd) (B : Bl mg) (G : Gk mg) : FnOk P w K mg base CX0 1 f fd ["thing"] spWord := by
  refine F.ok scWord (fun vs H Q E h => ?_) (fun cdv A outer s H vs Q E hr h => ?_)
  · obtain ⟨z, rfl, _⟩ := h
    rfl
  · obtain ⟨z, rfl, hz, q⟩ := h
    obtain ⟨hl, hc⟩ := word_ok hz
    refine ⟨_, pss_one (ps_ret (pe_and (pe_callB call_isi (by rfl) B.isi boot_isinstance (pa_cons (pv 0) (pa_cons (pe_bltn (by rfl) B.str PyProof.Rows.boot_str (v := .ty "str") rfl) pa_nil)))
      (pe_and (pe_chain op_le op_le pe_int (pe_callB call_len_str (by rfl) B.len PySem.boot_len (pa_cons (pv 0) pa_nil)) pe_int)
      (pe_one (pe_callB (cr_all rfl) (by rfl) B.all PyProof.Rows.boot_all (pa_cons (pe_lc (own := [("sign", 1)]) rfl scWord.nd (pi_str (pv 0)) (blkOk_by (by kernel_rfl)) (fun _ _ _ _ _ => pg_name (i := 1) scWord.nd rfl (.inl rfl)) (fun _ _ _ _ _ => pts_nil)
        (fun _ _ _ _ _ => pe_cmpR op_in_sign (pv 1) (pe_gcv rfl G.small) (by rfl))) pa_nil)))))), ?_⟩
    refine ⟨_, rfl, _, _, _, _, true, rfl, .ty _, .base (.str z), kit_ty (by decide +kernel), true, rfl, ?_⟩
    refine ⟨_, rfl, z, rfl, by rw [hl]; decide, _, _, rfl, rfl, true, by rw [hl]; rfl, ?_⟩
    refine ⟨_, _, rfl, rfl, true, by rw [hl]; rfl, ?_⟩
    refine all_lc walk_str (n := z.cps.size) (by have : z.cps.size = 1 := hl; omega) (fun R h => ⟨_, rfl, _, rfl, h⟩) (fun _ _ => trivial) ?_ q
    rintro i x H1 H2 hi hS ⟨rfl, c, hcz, rfl⟩
    refine ⟨Same.refl _, fun Q' hQ => ⟨rfl, _, rfl, c, sSmall, rfl, rfl, ?_⟩⟩
    rw [decide_eq_true (hc c (by rw [Array.getElem?_eq_some_iff] at hcz; obtain ⟨h1, h2⟩ := hcz; rw [← h2]; simp))]
    exact hQ _ (Same.refl _)
theorem scSigns : FnScope ["thing", "sign"] ["thing"] (defScope sSignsD) := ⟨rfl, rfl, rfl, by decide +kernel, rfl, by decide +kernel, by decide +kernel⟩
theorem ok_signs {f : Addr} {fd : FuncData} (F : Fun K "is_signs" "is_signs" sSignsD f fd) (B : Bl mg) (G : Gk mg) : FnOk P w K mg base CX0 1 f fd ["thing"] spSigns := by
  refine F.ok scSigns (fun vs H Q E h => ?_) (fun cdv A outer s H vs Q E hr h => ?_)
  · obtain ⟨z, rfl, _⟩ := h
    rfl
  · obtain ⟨z, rfl, hz, hl, q⟩ := h
    refine ⟨_, pss_one (ps_ret (pe_and (pe_callB call_isi (by rfl) B.isi boot_isinstance (pa_cons (pv 0) (pa_cons (pe_bltn (by rfl) B.str PyProof.Rows.boot_str (v := .ty "str") rfl) pa_nil)))
      (pe_one (pe_callB (cr_all rfl) (by rfl) B.all PyProof.Rows.boot_all (pa_cons (pe_lc (own := [("sign", 1)]) rfl scSigns.nd (pi_str (pv 0)) (blkOk_by (by kernel_rfl)) (fun _ _ _ _ _ => pg_name (i := 1) scSigns.nd rfl (.inl rfl)) (fun _ _ _ _ _ => pts_nil)
        (fun _ _ _ _ _ => pe_cmpR op_in_sign (pv 1) (pe_gcv rfl G.signs) (by rfl))) pa_nil))))), ?_⟩
    refine ⟨_, rfl, _, _, _, _, true, rfl, .ty _, .base (.str z), kit_ty (by decide +kernel), true, rfl, ?_⟩
    have hsz : z.cps.size = (cs z).length := by simp
    refine all_lc walk_str (n := z.cps.size) (by omega) (fun R h => ⟨_, rfl, _, rfl, h⟩) (fun _ _ => trivial) ?_ q
    rintro i x H1 H2 hi hS ⟨rfl, c, hcz, rfl⟩
    have hm : c ∈ cs z := by rw [Array.getElem?_eq_some_iff] at hcz; obtain ⟨h1, h2⟩ := hcz; rw [← h2]; simp
    have hin : c ∈ sSigns.cps.toList := by rcases hz c hm with rfl | rfl <;> decide +kernel
    refine ⟨Same.refl _, fun Q' hQ => ⟨rfl, _, rfl, c, sSigns, rfl, rfl, ?_⟩⟩
    rw [decide_eq_true hin]
    exact hQ _ (Same.refl _)
theorem scLetters : FnScope ["thing"] ["thing"] (defScope sLetters) := ⟨rfl, rfl, rfl, by decide +kernel, rfl, by decide +kernel, by decide +kernel⟩
theorem LOk.chars {L : List Nat} (h : LOk L) : ∀ c ∈ L, c = 97 ∨ c = 98 := by rcases h with h | h <;> rw [h] <;> decide
theorem LOk.size {L : List Nat} (h : LOk L) : 1 ≤ L.length ∧ L.length ≤ 4 := by rcases h with h | h <;> rw [h] <;> decide
theorem LOk.signs {L : List Nat} (h : LOk L) : (signs (mkS L)).Nodup := by rcases h with h | h <;> rw [h] <;> decide +kernel
theorem ok_letters {f : Addr} {fd : FuncData} (F : Fun K "are_letters" "are_letters" sLetters f fd) (B : Bl mg) (G : Gk mg) (cS : CaSigns P w K mg base) : FnOk P w K mg base CX0 2 f fd ["thing"] spLetters := by
  refine F.ok scLetters (fun vs H Q E h => ?_) (fun cdv A outer s H vs Q E hr h => ?_)
  · obtain ⟨z, rfl, _⟩ := h
    rfl
  · obtain ⟨L, rfl, hL, q⟩ := h
    refine ⟨_, pss_one (ps_ret (pe_and (pe_ca cS hr (by decide) rfl (pa_cons (pv 0) pa_nil))
      (pe_and (pe_chain op_le op_le pe_int (pe_callB call_len_str (by rfl) B.len PySem.boot_len (pa_cons (pv 0) pa_nil)) (pe_gcv rfl G.mostL))
      (pe_one (pe_cmpR op_eq (pe_lenSetD rfl rfl B.len rfl B.set (pv 0)) (pe_callB call_len_str (by rfl) B.len PySem.boot_len (pa_cons (pv 0) pa_nil)) (nomark _)))))), ?_⟩
    have hsz : (mkS L).length = L.length := rfl
    have hsz2 : (mkS L).cps.size = L.length := rfl
    have h14 := hL.size
    have hle : (mkS L).length ≤ sizeLine := by rw [hsz]; exact Nat.le_trans h14.2 (by decide)
    refine ⟨_, rfl, mkS L, rfl, by rw [cs_mkS]; exact hL.chars, by rw [cs_mkS]; exact hL.len, fun H' hS => ⟨true, rfl, ?_⟩⟩
    refine ⟨_, rfl, mkS L, rfl, hle, _, _, rfl, rfl, true, bl_true (p := (1 : Int) ≤ (L.length : Nat)) (by omega), ?_⟩
    refine ⟨_, _, rfl, rfl, true, bl_true (p := ((L.length : Nat) : Int) ≤ 4) (by omega), ?_⟩
    refine ⟨_, rfl, .inl ⟨mkS L, rfl, hL.signs, by rw [hsz2]; omega, _, rfl, mkS L, rfl, hle, rfl, ?_⟩⟩
    rw [decide_eq_true (by rw [hsz, hsz2])]
    exact q H' hS
end
end Pt
end

section
set_option Elab.async false
set_option maxRecDepth 100000
set_option maxHeartbeats 2000000
set_option linter.unusedSectionVars false
set_option linter.unusedVariables false
namespace Pt
open PySem PySem.Spec PyProof.Rows L2
/-! ### rules with K named -/
section
variable {X : Cx}
theorem ix_tupK (K : PySem.W.Frag) (h : X.K = K) : IxR X (rIxT K) := by subst h; exact ix_tup
theorem op_neDK (K : PySem.W.Frag) (h : X.K = K) (hu : X.A.units + 64 < cLine) : OpR X (compareOp .NotEq) (rNeD K) := by subst h; exact op_neD hu
theorem op_in_seqK (K : PySem.W.Frag) (h : X.K = K) : OpR X (compareOp .In) (rIn K false) := by subst h; exact op_in_seq
theorem op_notIn_seqK (K : PySem.W.Frag) (h : X.K = K) : OpR X (compareOp .NotIn) (rIn K true) := by subst h; exact op_notIn_seq
end
theorem inV_mem {R : List Str} {r : Str} (h : r ∈ R) : inV (.str r) (R.map V.str) = true := by
  unfold inV
  rw [List.any_eq_true]
  exact ⟨.str r, List.mem_map.mpr ⟨r, h, rfl⟩, by simp [eqV]⟩
theorem flat_strs (R : List Str) : (R.map V.str).all flatV = true := by
  rw [List.all_eq_true]
  intro x hx
  obtain ⟨z, _, rfl⟩ := List.mem_map.mp hx
  rfl
theorem row_get {H : Hp} {vs : List V} {row : Row} {i : Nat} {v : V} (h : Paired (ItV H) vs row) (e : vs[i]? = some v) : ∃ it, row[i]? = some it ∧ ItV H v it := paired_at h e
abbrev sRowD : Stmt := top 17
def spRow (K : PySem.W.Frag) : Sp := fun vs H Q _ => ∃ (a r : Addr) (R : List Str) (row : Row), vs = [.ref a, .ref r] ∧ RowAt H a row ∧ H r = some (.lst (R.map V.str)) ∧ (∀ it ∈ row, ItOk R it) ∧ ∀ H', Same H H' → Q (.bl true) H'
section
variable {P : Program} {w : World} {K : PySem.W.Frag} {mg : Str → Option Value} {base : Heap}
abbrev CaRow (P : Program) (w : World) (K : PySem.W.Frag) (mg : Str → Option Value) (base : Heap) : Prop := Ca P w K mg base 2 "is_row" ["thing", "registers"] (spRow K)
theorem scRowD : FnScope ["thing", "registers", "item"] ["thing", "registers"] (defScope sRowD) := ⟨rfl, rfl, rfl, by decide +kernel, rfl, by decide +kernel, by decide +kernel⟩
theorem ok_row {f : Addr} {fd : FuncData} (F : Fun K "is_row" "is_row" sRowD f fd) (B : Bl mg) (cS : CaSigns P w K mg base) : FnOk P w K mg base CX0 2 f fd ["thing", "registers"] (spRow K) := by
  refine F.ok scRowD (fun vs H Q E h => ?_) (fun cdv A outer s H vs Q E hr h => ?_)
  · obtain ⟨a, r, R, row, rfl, _⟩ := h
    rfl
  · obtain ⟨a, r, R, row, rfl, ⟨vs, ha, hp⟩, hR, hok, q⟩ := h
    refine ⟨_, pss_cons (ps_if (pt_not (pt_val (pe_callB call_isi (by rfl) B.isi boot_isinstance (pa_cons (pv 0) (pa_cons (pe_bltn (by rfl) B.tuple PyProof.Rows.boot_tuple (v := .ty "tuple") rfl) pa_nil))))) (pss_one (ps_ret pe_bl)) pss_nil)
      (pss_cons (ps_for PassesOwn.never rfl (pi_tup (pv 0)) (pg_name (i := 2) scRowD.nd rfl (.inl rfl))
        (pss_one (ps_if (pt_val (pe_callB call_isi (by rfl) B.isi boot_isinstance (pa_cons (pv 2) (pa_cons (pe_bltn (by rfl) B.tuple PyProof.Rows.boot_tuple (v := .ty "tuple") rfl) pa_nil))))
          (pss_one (ps_if (PW.pt (pw_or (pt_cmpR op_ne (pe_callB call_len_seq (by rfl) B.len PySem.boot_len (pa_cons (pv 2) pa_nil)) pe_int (nomark _))
              (pw_or (pt_not (pt_val (pe_callB call_isi (by rfl) B.isi boot_isinstance (pa_cons (pe_ix ix_tup (pv 2) pe_int (fun _ _ => rfl)) (pa_cons (pe_bltn (by rfl) B.str PyProof.Rows.boot_str (v := .ty "str") rfl) pa_nil)))))
              (pw_or1 (pt_cmpR op_notIn_seq (pe_ix ix_tup (pv 2) pe_int (fun _ _ => rfl)) (pv 1) (by rfl)))))) (pss_one (ps_ret pe_bl)) pss_nil))
          (pss_one (ps_if (pt_not (pt_val (pe_ca cS hr (by decide) rfl (pa_cons (pv 2) pa_nil)))) (pss_one (ps_ret pe_bl)) pss_nil)))))
      (pss_one (ps_ret pe_bl))), ?_⟩
    refine ⟨_, rfl, _, _, _, _, true, rfl, .ty _, .base (.tup ha), kit_ty (by decide +kernel), true, rfl, ?_⟩
    refine ⟨_, rfl, _, rfl, ⟨_, SqT.of ha⟩, ?_⟩
    refine for_it (walk_tup (xs := vs)) (fun i σ H2 => ∃ x, σ = [some (.ref a), some (.ref r), x] ∧ Same H H2) ⟨none, rfl, Same.refl _⟩ (fun i σ H2 _ ⟨_, _, s⟩ => SqT.of (s _ _ ha)) ?_ ?_
    · rintro i x σ H2 H2' hi ⟨y, rfl, s⟩ ⟨rfl, hx⟩
      obtain ⟨it, hit, hv⟩ := row_get hp hx
      have hI := hok it (List.mem_of_getElem? hit)
      cases it with
      | txt z =>
        cases (show x = .str z from hv)
        have hz : SgOk z := hI
        refine ⟨_, rfl, _, _, _, _, false, rfl, .ty _, .base (.str z), kit_ty (by decide +kernel), false, rfl, ?_⟩
        exact ⟨_, rfl, z, rfl, hz.2, Nat.le_trans hz.1 (by decide), fun H' s' => ⟨true, rfl, _, rfl, s.trans s'⟩⟩
      | reg z =>
        obtain ⟨b, rfl, hb⟩ := hv
        have hzR : z ∈ R := hI
        have hb2 := s _ _ hb
        have hR2 := s _ _ hR
        refine ⟨_, rfl, _, _, _, _, true, rfl, .ty _, .base (.tup hb2), kit_ty (by decide +kernel), true, rfl, ?_⟩
        refine ⟨_, rfl, b, _, rfl, .inr (SqT.of hb2), rfl, false, rfl, ?_⟩
        refine ⟨_, rfl, b, _, _, _, rfl, rfl, SqT.of hb2, rfl, _, _, _, _, true, rfl, .ty _, .base (.str z), kit_ty (by decide +kernel), true, rfl, ?_⟩
        refine ⟨_, rfl, b, _, _, _, rfl, rfl, SqT.of hb2, rfl, _, rfl, r, _, rfl, .inl (SqL.of hR2), rfl, flat_strs R, ?_⟩
        refine ⟨false, by rw [inV_mem hzR]; rfl, _, rfl, s⟩
    · rintro σ H2 ⟨y, rfl, s⟩
      exact q _ s
end
/-! ### the text a row writes -/
theorem text_read {K : PySem.W.Frag} {tl td : TE} {σ : L2.St} {H : Hp} {Q : VK} {a d : Addr} {row : Row} {R : List Str} {h : Str → Str} {i0 : Nat} (hi : i0 < σ.length)
    (htl : ∀ (Q : VK), Q (.ref a) H → tl σ H Q) (htd : ∀ (v : V) (H' : Hp) (Q : VK), Q (.ref d) H' → td ((wipe σ [i0]).set i0 (some v)) H' Q) (hrow : RowAt H a row) (hh : HeldAt H d R h) (hR : ∀ r, It.reg r ∈ row → r ∈ R) (hl : row.length ≤ 1000) (hz : (cs (wr row h)).length ≤ 10 ^ 6)
    (q : ∀ H', Same H H' → Q (.str (wr row h)) H') :
    tM1 (fun x xs H Q => ∃ a p, ∃ ys : List Str, x = .str a ∧ xs = [.ref p] ∧ (SqL K H p (ys.map V.str) ∨ SqT K H p (ys.map V.str)) ∧ (ys.map (·.length)).sum + ys.length * a.length ≤ 16777216 ∧ Q (.str (Txt.join a ys)) H) (tC (.str ""))
      (tLc (iTup K tl) (gName i0) tYes (tIf (tB (tCB (rIsi K) (tCons (tVar i0) (tCons (tC (.ty "str")) tNil)))) (tVar i0) (tDGet td (tOp (rIxT K) (tVar i0) (tC (.int 0))))) [i0]) σ H Q := by
  obtain ⟨vs, ha, hp⟩ := hrow
  have hlen := paired_length hp
  refine ⟨⟨_, rfl⟩, htl _ ⟨a, rfl, ⟨_, SqT.of ha⟩, fun L hL => ?_⟩⟩
  have hl0 : i0 < (wipe σ [i0]).length := by rw [wipe_length]; exact hi
  refine lc_it (walk_tup (xs := vs)) (Qd := fun H' => ∃ a p, ∃ ys : List Str, (V.str "") = .str a ∧ [V.ref L] = [.ref p] ∧ (SqL K H' p (ys.map V.str) ∨ SqT K H' p (ys.map V.str)) ∧ (ys.map (·.length)).sum + ys.length * a.length ≤ 16777216 ∧ Q (.str (Txt.join a ys)) H')
    (fun i H2 => Same H H2 ∧ H2 L = some (.lst (((row.take i).map (wrI h)).map V.str))) ⟨same_new hL, upd_same⟩ (fun i H2 _ s => SqT.of (s.1 _ _ ha)) ?_ ?_
  · rintro i x H2 H2' hi' ⟨s, hLx⟩ ⟨rfl, hx⟩
    obtain ⟨it, hit, hv⟩ := row_get hp hx
    refine ⟨by simp [wipe], yes_then ?_⟩
    have fin : ∀ y, y = V.str (wrI h it) → ∃ acc, H2' L = some (.lst acc) ∧ acc.length < sizeLine ∧ Same H (upd H2' L (.lst (acc ++ [y]))) ∧ upd H2' L (.lst (acc ++ [y])) L = some (.lst (((row.take (i + 1)).map (wrI h)).map V.str)) := by
      rintro _ rfl
      refine ⟨_, hLx, ?_, fun b o e => ?_, ?_⟩
      · rw [List.length_map, List.length_map, List.length_take]
        exact Nat.lt_of_le_of_lt (Nat.le_trans (Nat.min_le_right ..) hl) (by decide)
      · rw [upd_ne (ne_of_none e hL)]
        exact s _ _ e
      · rw [upd_same, List.take_add_one, hit]
        simp
    cases it with
    | txt z =>
      cases (show x = .str z from hv)
      refine ⟨_, List.getElem?_set_self hl0, _, _, _, _, true, rfl, .ty _, .base (.str z), kit_ty (by decide +kernel), true, rfl, ?_⟩
      exact ⟨_, List.getElem?_set_self hl0, fin _ rfl⟩
    | reg z =>
      obtain ⟨b, rfl, hb⟩ := hv
      have hb2 := s _ _ hb
      refine ⟨_, List.getElem?_set_self hl0, _, _, _, _, false, rfl, .ty _, .base (.tup hb2), kit_ty (by decide +kernel), false, rfl, ?_⟩
      refine htd _ _ _ ⟨_, List.getElem?_set_self hl0, b, _, _, _, rfl, rfl, SqT.of hb2, rfl, d, _, rfl, (hh.stl (Stl.of (CR := 0) s)).get (hR z (List.mem_of_getElem? hit)), fin _ rfl⟩
  · rintro H2 ⟨s, hLx⟩
    rw [hlen, List.take_length] at hLx
    refine ⟨_, L, row.map (wrI h), rfl, rfl, .inl (SqL.of hLx), ?_, ?_⟩
    · rw [sum_wr]
      have e0 : (Str.length "") = 0 := rfl
      rw [e0, Nat.mul_zero]
      exact Nat.le_trans hz (by decide)
    · have e : Txt.join (Str.ofString "") (row.map (wrI h)) = wr row h := join_wr row h
      rw [e]
      exact q H2 s
abbrev sText : Stmt := top 19
def spText : Sp := fun vs H Q _ => ∃ (a d : Addr) (R : List Str) (h : Str → Str) (row : Row), vs = [.ref a, .ref d] ∧ RowAt H a row ∧ HeldAt H d R h ∧ (∀ r, It.reg r ∈ row → r ∈ R) ∧ row.length ≤ 1000 ∧ (cs (wr row h)).length ≤ 10 ^ 6 ∧ ∀ H', Same H H' → Q (.str (wr row h)) H'
section
variable {P : Program} {w : World} {K : PySem.W.Frag} {mg : Str → Option Value} {base : Heap}
abbrev CaText (P : Program) (w : World) (K : PySem.W.Frag) (mg : Str → Option Value) (base : Heap) : Prop := Ca P w K mg base 1 "text_of" ["row", "held"] spText
theorem scText : FnScope ["row", "held", "item"] ["row", "held"] (defScope sText) := ⟨rfl, rfl, rfl, by decide +kernel, rfl, by decide +kernel, by decide +kernel⟩
theorem ok_text {f : Addr} {fd : FuncData} (F : Fun K "text_of" "text_of" sText f fd) (B : Bl mg) : FnOk P w K mg base CX0 1 f fd ["row", "held"] spText := by
  refine F.ok scText (fun vs H Q E h => ?_) (fun cdv A outer s H vs Q E hr h => ?_)
  · obtain ⟨a, d, R, h, row, rfl, _⟩ := h
    rfl
  · obtain ⟨a, d, R, h, row, rfl, h1, h2, h3, h4, h5, q⟩ := h
    refine ⟨_, pss_one (ps_ret (pe_join pe_str (pe_lc (own := [("item", 2)]) rfl scText.nd (pi_tup (pv 0)) (blkOk_by (by kernel_rfl)) (fun _ _ _ _ _ => pg_name (i := 2) scText.nd rfl (.inl rfl)) (fun _ _ _ _ _ => pts_nil)
      (fun _ _ _ _ _ => pe_ifExp (pt_val (pe_callB (call_isiK' K rfl) (by rfl) B.isi boot_isinstance (pa_cons (pv 2) (pa_cons (pe_bltn (by rfl) B.str PyProof.Rows.boot_str (v := .ty "str") rfl) pa_nil)))) (pv 2) (pe_dget (hu1 hr) (pv 1) (pe_ix (ix_tupK K rfl) (pv 2) pe_int (fun _ _ => rfl)) (fun _ _ => rfl)))))), ?_⟩
    exact text_read (a := a) (d := d) (row := row) (R := R) (h := h) (i0 := 2) (by show 2 < 3; decide) (fun Q h => ⟨_, rfl, h⟩) (fun v H' Q h => ⟨_, rfl, h⟩) h1 h2 h3 h4 h5 q
abbrev sWrite : Stmt := top 36
abbrev CaWrite (P : Program) (w : World) (K : PySem.W.Frag) (mg : Str → Option Value) (base : Heap) : Prop := Ca P w K mg base 1 "_law_write" ["_law_row", "_law_held"] spText
theorem scWrite : FnScope ["_law_row", "_law_held", "_law_item"] ["_law_row", "_law_held"] (defScope sWrite) := ⟨rfl, rfl, rfl, by decide +kernel, rfl, by decide +kernel, by decide +kernel⟩
theorem ok_write {f : Addr} {fd : FuncData} (F : Fun K "_law_write" "_law_write" sWrite f fd) (B : Bl mg) : FnOk P w K mg base CX0 1 f fd ["_law_row", "_law_held"] spText := by
  refine F.ok scWrite (fun vs H Q E h => ?_) (fun cdv A outer s H vs Q E hr h => ?_)
  · obtain ⟨a, d, R, h, row, rfl, _⟩ := h
    rfl
  · obtain ⟨a, d, R, h, row, rfl, h1, h2, h3, h4, h5, q⟩ := h
    refine ⟨_, pss_one (ps_ret (pe_join pe_str (pe_lc (own := [("_law_item", 2)]) rfl scWrite.nd (pi_tup (pv 0)) (blkOk_by (by kernel_rfl)) (fun _ _ _ _ _ => pg_name (i := 2) scWrite.nd rfl (.inl rfl)) (fun _ _ _ _ _ => pts_nil)
      (fun _ _ _ _ _ => pe_ifExp (pt_val (pe_callB (call_isiK' K rfl) (by rfl) B.isi boot_isinstance (pa_cons (pv 2) (pa_cons (pe_bltn (by rfl) B.str PyProof.Rows.boot_str (v := .ty "str") rfl) pa_nil)))) (pv 2) (pe_dget (hu1 hr) (pv 1) (pe_ix (ix_tupK K rfl) (pv 2) pe_int (fun _ _ => rfl)) (fun _ _ => rfl)))))), ?_⟩
    exact text_read (a := a) (d := d) (row := row) (R := R) (h := h) (i0 := 2) (by show 2 < 3; decide) (fun Q h => ⟨_, rfl, h⟩) (fun v H' Q h => ⟨_, rfl, h⟩) h1 h2 h3 h4 h5 q
end
end Pt
end

section
set_option Elab.async false
set_option maxRecDepth 100000
set_option maxHeartbeats 2000000
set_option linter.unusedSectionVars false
set_option linter.unusedVariables false
namespace Pt
open PySem PySem.Spec PyProof.Rows L2
/-! ### items as data -/
def ItG (n : Nat) : It → Prop
  | .txt z => (cs z).length ≤ n ∧ ∀ c ∈ cs z, c = 97 ∨ c = 98
  | .reg r => r = "x" ∨ r = "y"
theorem ItG.mono {n m : Nat} (h : n ≤ m) : ∀ {it : It}, ItG n it → ItG m it
  | .txt _, x => ⟨Nat.le_trans x.1 h, x.2⟩
  | .reg _, x => x
theorem ItOk.g {R : List Str} (hR : RR R) : ∀ {it : It}, ItOk R it → ItG 1 it
  | .txt _, x => x
  | .reg r, x => by
    have h : r ∈ R := x
    show r = "x" ∨ r = "y"
    rcases hR with rfl | rfl | rfl
    · cases h
    · exact .inl (List.mem_singleton.mp h)
    · simpa using h
def dIt : It → PyData
  | .txt z => .str z
  | .reg r => .tuple [.str r]
theorem strOk_of {z : Str} (h : ∀ c ∈ cs z, c < 0x110000) : PyData.strOk z = true := by
  unfold PyData.strOk
  rw [← Array.all_toList, List.all_eq_true]
  exact fun c hc => decide_eq_true (h c hc)
theorem dIt_ok {n : Nat} : ∀ {it : It}, ItG n it → PyData.canLay0 (dIt it) = true ∧ PyData.depth (dIt it) ≤ 1
  | .txt z, x => ⟨by
      show PyData.canLay0 (.str z) = true
      rw [PyData.canLay0]
      exact strOk_of fun c hc => by rcases x.2 c hc with rfl | rfl <;> decide, by
      show PyData.depth (.str z) ≤ 1
      rw [PyData.depth]
      exact Nat.zero_le _⟩
  | .reg r, x => by
    rcases (show r = "x" ∨ r = "y" from x) with rfl | rfl <;> exact ⟨by decide +kernel, by decide +kernel⟩
theorem dIts_ok {n : Nat} : ∀ {row : Row}, (∀ it ∈ row, ItG n it) → PyData.canLayAll0 (row.map dIt) = true ∧ PyData.depthAll (row.map dIt) ≤ 1
  | [], _ => ⟨by rw [List.map_nil, PyData.canLayAll0], by rw [List.map_nil, PyData.depthAll]; exact Nat.zero_le _⟩
  | it :: r, h => by
    obtain ⟨h1, h2⟩ := dIt_ok (h it (List.mem_cons_self ..))
    obtain ⟨h3, h4⟩ := dIts_ok (row := r) fun y hy => h y (List.mem_cons_of_mem _ hy)
    rw [List.map_cons, PyData.canLayAll0, PyData.depthAll, h1, h3]
    exact ⟨rfl, Nat.max_le.mpr ⟨h2, h4⟩⟩
theorem shp_it {n : Nat} {it : It} (h : ItG n it) : SeqAt.shaped (dIt it) = true := by
  obtain ⟨h1, h2⟩ := dIt_ok h
  unfold SeqAt.shaped
  rw [h1, decide_eq_true (show PyData.depth (dIt it) ≤ 64 by omega)]
  rfl
theorem shp_row {n : Nat} {row : Row} (h : ∀ it ∈ row, ItG n it) : SeqAt.shaped (.list (row.map dIt)) = true := by
  obtain ⟨h1, h2⟩ := dIts_ok h
  unfold SeqAt.shaped
  rw [PyData.canLay0, PyData.depth, h1, decide_eq_true (show PyData.depthAll (row.map dIt) + 1 ≤ 64 by omega)]
  rfl
theorem dp_it {K : PySem.W.Frag} {H : Hp} {v : V} : ∀ {it : It}, ItV H v it → Dp K H v (dIt it)
  | .txt z, h => by
    cases (show v = .str z from h)
    exact .str z
  | .reg r, ⟨a, h1, h2⟩ => by
    subst h1
    exact .tup (SqT.of h2) (.cons (.str r) .nil)
theorem dp_row {K : PySem.W.Frag} {H : Hp} : ∀ {vs : List V} {row : Row}, Paired (ItV H) vs row → DpAll K H vs (row.map dIt)
  | _, _, .nil => .nil
  | _, _, .cons r t => .cons (dp_it r) (dp_row t)
theorem eqv_nil (ds : List PyData) : PyData.eqv (.list ds) (.list []) = ds.isEmpty := by
  cases ds with
  | nil => rw [PyData.eqv, PyData.eqvAll]; rfl
  | cons d r => rw [PyData.eqv, PyData.eqvAll]; rfl
theorem eqv_empty (it : It) : (!PyData.eqv (dIt it) (.str "")) = decide (it ≠ .txt Str.empty) := by
  cases it with
  | txt z =>
    show (!PyData.eqv (.str z) (.str "")) = _
    rw [PyData.eqv]
    have e : (z == ("" : Str)) = decide (It.txt z = .txt Str.empty) := by
      by_cases h : z = Str.empty
      · subst h; decide +kernel
      · rw [decide_eq_false (fun e => h (It.txt.inj e))]
        exact beq_eq_false_iff_ne.mpr h
    rw [e, decide_not]
  | reg r =>
    show (!PyData.eqv (.tuple [.str r]) (.str "")) = _
    rw [PyData.eqv, decide_eq_true (show It.reg r ≠ .txt Str.empty from fun e => nomatch e)]
    rfl
theorem paired_split {α β : Type} {F : α → β → Prop} : ∀ {m : List β} {l : List α} {b : β}, Paired F l (m ++ [b]) → ∃ l0 a, l = l0 ++ [a] ∧ Paired F l0 m ∧ F a b
  | [], _, _, .cons r .nil => ⟨[], _, rfl, .nil, r⟩
  | _ :: m, _, _, .cons r t => by
    obtain ⟨l0, a, e, h1, h2⟩ := paired_split (m := m) t
    subst e
    exact ⟨_ :: l0, a, rfl, .cons r h1, h2⟩
theorem atI_last {xs : List V} {v : V} : atI (xs ++ [v]) (-1) = some v := by
  unfold atI ixN
  rw [if_neg (by omega), if_pos (by rw [List.length_append, List.length_singleton]; omega)]
  show (xs ++ [v])[((-1 : Int) + ((xs ++ [v]).length : Nat)).toNat]? = some v
  have e : ((-1 : Int) + ((xs ++ [v]).length : Nat)).toNat = xs.length := by rw [List.length_append, List.length_singleton]; omega
  rw [e]
  simp
theorem ixN_last {xs : List V} {v : V} : ixN (xs ++ [v]).length (-1) = some xs.length := by
  unfold ixN
  rw [if_neg (by omega), if_pos (by rw [List.length_append, List.length_singleton]; omega)]
  congr 1
  rw [List.length_append, List.length_singleton]; omega
theorem set_last {xs : List V} {v u : V} : (xs ++ [v]).set xs.length u = xs ++ [u] := by simp
theorem jstep_g {n : Nat} {acc : Row} {it : It} (h : ∀ y ∈ acc, ItG n y) (hi : ItG 1 it) : ∀ y ∈ jstep acc it, ItG (n + 1) y := by
  intro y hy
  unfold jstep at hy
  split at hy
  · rename_i z u e
    rcases List.mem_append.mp hy with hy | hy
    · exact (h y (List.dropLast_subset _ hy)).mono (Nat.le_succ n)
    · rw [List.mem_singleton.mp hy]
      have hu : ItG n (.txt u) := h _ (List.mem_of_getLast? e)
      refine ⟨?_, fun c hc => ?_⟩
      · rw [cs_app, List.length_append]
        exact Nat.add_le_add hu.1 hi.1
      · rw [cs_app] at hc
        rcases List.mem_append.mp hc with hc | hc
        · exact hu.2 c hc
        · exact hi.2 c hc
  · rcases List.mem_append.mp hy with hy | hy
    · exact (h y hy).mono (Nat.le_succ n)
    · rw [List.mem_singleton.mp hy]
      exact hi.mono (Nat.succ_le_succ (Nat.zero_le n))
theorem jfold_g : ∀ (row : Row), (∀ it ∈ row, ItG 1 it) → ∀ {n : Nat} {acc : Row}, (∀ y ∈ acc, ItG n y) → ∀ y ∈ row.foldl jstep acc, ItG (n + row.length) y
  | [], _, n, acc, h => h
  | it :: r, hr, n, acc, h => by
    have := jfold_g r (fun y hy => hr y (List.mem_cons_of_mem _ hy)) (jstep_g h (hr it (List.mem_cons_self ..)))
    intro y hy
    have := this y hy
    rw [List.length_cons]
    rwa [show n + (r.length + 1) = n + 1 + r.length by omega]
end Pt
end

section
set_option Elab.async false
set_option maxRecDepth 100000
set_option maxHeartbeats 2000000
set_option linter.unusedSectionVars false
set_option linter.unusedVariables false
namespace Pt
open PySem PySem.Spec PyProof.Rows L2
abbrev sJoined : Stmt := top 18
def spJoined : Sp := fun vs H Q _ => ∃ (a : Addr) (row : Row), vs = [.ref a] ∧ RowAt H a row ∧ (∀ it ∈ row, ItG 1 it) ∧ row.length ≤ 10 ∧ ∀ t H', Same H H' → RowAt H' t (jn row) → Q (.ref t) H'
section
variable {P : Program} {w : World} {K : PySem.W.Frag} {mg : Str → Option Value} {base : Heap}
abbrev CaJoined (P : Program) (w : World) (K : PySem.W.Frag) (mg : Str → Option Value) (base : Heap) : Prop := Ca P w K mg base 1 "joined" ["row"] spJoined
theorem scJoined : FnScope ["row", "found", "item"] ["row"] (defScope sJoined) := ⟨rfl, rfl, rfl, by decide +kernel, rfl, by decide +kernel, by decide +kernel⟩
theorem foldl_snoc {row : Row} {i : Nat} {it : It} (h : row[i]? = some it) : (row.take (i + 1)).foldl jstep [] = jstep ((row.take i).foldl jstep []) it := by
  rw [List.take_add_one, h, List.foldl_append]
  rfl
theorem ok_joined {f : Addr} {fd : FuncData} (F : Fun K "joined" "joined" sJoined f fd) (B : Bl mg) : FnOk P w K mg base CX0 1 f fd ["row"] spJoined := by
  refine F.ok scJoined (fun vs H Q E h => ?_) (fun cdv A outer s H vs Q E hr h => ?_)
  · obtain ⟨a, row, rfl, _⟩ := h
    rfl
  · obtain ⟨a, row, rfl, ⟨vs, ha, hp⟩, hg, hl, q⟩ := h
    refine ⟨_, pss_cons (ps_set (i := 1) scJoined.nd rfl (.inl rfl) (pe_lst pa_nil))
      (pss_cons (ps_for PassesOwn.never rfl (pi_tup (pv 0)) (pg_name (i := 2) scJoined.nd rfl (.inl rfl))
        (pss_one (ps_if (PW.pt (pw_and (pt_val (pe_callB call_isi (by rfl) B.isi boot_isinstance (pa_cons (pv 2) (pa_cons (pe_bltn (by rfl) B.str PyProof.Rows.boot_str (v := .ty "str") rfl) pa_nil))))
            (pw_and (pt_cmpR (op_neD hr.units) (pv 1) (pe_lst pa_nil) (nomark _))
            (pw_and1 (pt_val (pe_callB call_isi (by rfl) B.isi boot_isinstance (pa_cons (pe_ix ix_list (pv 1) (pe_un un_neg pe_int) (fun _ _ => rfl)) (pa_cons (pe_bltn (by rfl) B.str PyProof.Rows.boot_str (v := .ty "str") rfl) pa_nil))))))))
          (pss_one (ps_asg (pe_op op_add_str (pe_ix ix_list (pv 1) (pe_un un_neg pe_int) (fun _ _ => rfl)) (pv 2)) (pg_sub (pv 1) (pe_un un_neg pe_int) set_list)))
          (pss_one (ps_expr (pe_bm PySem.F.plainAttrs_list PySem.F.slot_list_append PySem.F.type_list_append mt_append (pv 1) (pa_cons (pv 2) pa_nil)))))))
      (pss_one (ps_ret (pe_callTy (call_tupK K rfl) (by rfl) B.tuple PyProof.Rows.boot_tuple (pa_cons (pe_lc (own := [("item", 2)]) rfl scJoined.nd (pi_list (pv 1)) (blkOk_by (by kernel_rfl)) (fun _ _ _ _ _ => pg_name (i := 2) scJoined.nd rfl (.inl rfl))
        (fun _ _ _ _ _ => pts_one (pt_cmpR (op_neDK K rfl hr.units) (pv 2) pe_str (nomark _))) (fun _ _ _ _ _ => pv 2)) pa_nil))))), ?_⟩
    refine ⟨by show 0 ≤ sizeLine; decide, fun p hp0 => ?_⟩
    have s0 := same_new (o := .lst []) hp0
    refine ⟨_, rfl, _, rfl, ⟨_, SqT.of (s0 _ _ ha)⟩, ?_⟩
    refine for_it (walk_tup (xs := vs)) (fun i σ H2 => ∃ x ws, σ = [some (.ref a), some (.ref p), x] ∧ Same H H2 ∧ H2 p = some (.lst ws) ∧ Paired (ItV H) ws ((row.take i).foldl jstep [])) ⟨none, [], rfl, s0, upd_same, .nil⟩ (fun i σ H2 _ ⟨_, _, _, s, _⟩ => SqT.of (s _ _ ha)) ?_ ?_
    · rintro i x σ H2 H2' hi ⟨y, ws, rfl, s, hw, hpw⟩ ⟨rfl, hx⟩
      obtain ⟨it, hit, hv⟩ := row_get hp hx
      have hgi := hg it (List.mem_of_getElem? hit)
      have hgacc := jfold_g (row.take i) (fun z hz => hg z (List.take_subset _ _ hz)) (n := 0) (acc := []) (fun _ h => (nomatch h))
      have hlw : ws.length < sizeLine := by
        rw [paired_length hpw]
        have h1 := jfold_len (row.take i) []
        rw [List.length_take] at h1
        have h2 : ([] : Row).length = 0 := rfl
        have h3 : (20 : Nat) < sizeLine := by decide
        omega
      have hnew : ∀ {H3 : Hp} {ws' : List V}, Same H H3 → Same H (upd H3 p (.lst ws')) := fun s3 b o e => by
        rw [upd_ne (ne_of_none e hp0)]
        exact s3 _ _ e
      have app : ∀ H3, Same H H3 → H3 p = some (.lst ws) → jstep ((row.take i).foldl jstep []) it = (row.take i).foldl jstep [] ++ [it] →
          ∃ x' ws', [some (V.ref a), some (.ref p), some x] = [some (.ref a), some (.ref p), x'] ∧ Same H (upd H3 p (.lst (ws ++ [x]))) ∧ upd H3 p (.lst (ws ++ [x])) p = some (.lst ws') ∧ Paired (ItV H) ws' ((row.take (i + 1)).foldl jstep []) := fun H3 s3 hw3 hj => by
        refine ⟨_, _, rfl, hnew s3, upd_same, ?_⟩
        rw [foldl_snoc hit, hj]
        exact paired_snoc hpw hv
      cases it with
      | reg z =>
        have hv' : ItV H2' x (.reg z) := (hv.stl (Stl.of (CR := 0) s))
        obtain ⟨b, rfl, hb2⟩ := hv'
        refine ⟨_, rfl, _, _, _, _, false, rfl, .ty _, .base (.tup hb2), kit_ty (by decide +kernel), false, rfl, ?_⟩
        refine ⟨_, rfl, .inl ⟨rfl, _, SqL.of hw⟩, _, rfl, p, ws, _, rfl, rfl, hw, hlw, ?_⟩
        exact app _ s hw (jstep_add _ _ fun _ _ _ => fun e => nomatch e)
      | txt z =>
        cases (show x = .str z from hv)
        refine ⟨_, rfl, _, _, _, _, true, rfl, .ty _, .base (.str z), kit_ty (by decide +kernel), true, rfl, ?_⟩
        refine ⟨_, rfl, by show 0 ≤ sizeLine; decide, fun l2 hl2 => ?_⟩
        have s2 := same_new (o := .lst []) hl2
        have sB := s.trans s2
        have hwB := s2 _ _ hw
        refine ⟨_, _, .lst (SqL.of hwB) (dp_row (paired_imp hpw fun _ _ _ h => h.stl (Stl.of (CR := 0) sB))), .lst (SqL.of upd_same) .nil, shp_row hgacc, shp_row (n := 0) (row := []) (fun _ h => (nomatch h)), _, rfl, ?_⟩
        rw [eqv_nil]
        rcases List.eq_nil_or_concat ((row.take i).foldl jstep []) with e | ⟨acc, b, e⟩
        · rw [e]
          refine ⟨_, rfl, .inl ⟨rfl, _, SqL.of hwB⟩, _, rfl, p, ws, _, rfl, rfl, hwB, hlw, ?_⟩
          exact app _ sB hwB (by rw [e]; rfl)
        · rw [List.concat_eq_append] at e
          rw [e] at hpw hgacc
          obtain ⟨ws0, u, rfl, hp1, hu⟩ := paired_split hpw
          rw [e, List.map_append, List.map_singleton]
          rw [show (!(List.map dIt acc ++ [dIt b]).isEmpty) = true by simp]
          have hu' : ItV (upd H2' l2 (.lst [])) u b := hu.stl (Stl.of (CR := 0) sB)
          cases b with
          | reg b =>
            obtain ⟨bb, rfl, hb2⟩ := hu'
            refine ⟨_, rfl, _, rfl, p, _, _, _, rfl, rfl, SqL.of hwB, atI_last, _, _, _, _, false, rfl, .ty _, .base (.tup hb2), kit_ty (by decide +kernel), false, rfl, ?_⟩
            refine ⟨_, rfl, .inl ⟨rfl, _, SqL.of hwB⟩, _, rfl, p, _, _, rfl, rfl, hwB, hlw, ?_⟩
            exact app _ sB hwB (jstep_add _ _ fun y z' h => by rw [e, List.getLast?_concat] at h; cases h)
          | txt y2 =>
            cases (show u = .str y2 from hu')
            have hgy : ItG (0 + (row.take i).length) (.txt y2) := hgacc _ (by simp)
            have hgz : ItG 1 (.txt z) := hgi
            refine ⟨_, rfl, _, rfl, p, _, _, _, rfl, rfl, SqL.of hwB, atI_last, _, _, _, _, true, rfl, .ty _, .base (.str y2), kit_ty (by decide +kernel), true, rfl, ?_⟩
            refine ⟨_, rfl, _, rfl, p, _, _, _, rfl, rfl, SqL.of hwB, atI_last, _, rfl, _, _, rfl, rfl, ?_, ?_⟩
            · have h1 := hgy.1
              have h2 := hgz.1
              rw [List.length_take] at h1
              rw [len_cs, len_cs]
              have h3 : (20 : Nat) ≤ sizeLine := by decide
              omega
            · refine ⟨_, rfl, _, rfl, p, _, _, _, rfl, rfl, hwB, ixN_last, ?_⟩
              rw [set_last]
              refine ⟨_, _, rfl, hnew sB, upd_same, ?_⟩
              rw [foldl_snoc hit, e, jstep_join]
              exact paired_snoc hp1 rfl
    · rintro σ H2 ⟨y, ws, rfl, s, hw, hpw⟩
      rw [paired_length hp, List.take_length] at hpw
      have hgacc := jfold_g row hg (n := 0) (acc := []) (fun _ h => (nomatch h))
      have hlw : ws.length < sizeLine := by
        rw [paired_length hpw]
        have h1 := jfold_len row []
        have h2 : ([] : Row).length = 0 := rfl
        have h3 : (20 : Nat) < sizeLine := by decide
        omega
      refine nx_of (ret_of ?_)
      refine ⟨_, rfl, _, rfl, ⟨_, SqL.of hw⟩, fun L hL => ?_⟩
      refine lc_it (walk_list (xs := ws)) (Qd := fun H' => rTupK K [V.ref L] H' Q) (fun i H3 => Same H2 H3 ∧ ∃ us, H3 L = some (.lst us) ∧ Paired (ItV H) us (((row.foldl jstep []).take i).filter fun it => it ≠ .txt Str.empty)) ⟨same_new hL, [], upd_same, .nil⟩ (fun i H3 _ h => SqL.of (h.1 _ _ hw)) ?_ ?_
      · rintro i x H3 H3' hi ⟨s3, us, hu, hpu⟩ ⟨rfl, hx⟩
        obtain ⟨it, hit, hv⟩ := paired_at hpw hx
        have hv' : ItV H3' x it := hv.stl (Stl.of (CR := 0) (s.trans s3))
        refine ⟨by simp [wipe], _, rfl, _, _, dp_it hv', .str _, shp_it (hgacc it (List.mem_of_getElem? hit)), by decide +kernel, _, rfl, ?_⟩
        rw [eqv_empty]
        refine ite2 (fun hc => ?_) (fun hc => ?_)
        · refine ⟨_, rfl, _, hu, ?_, fun b o e => ?_, _, upd_same, ?_⟩
          · rw [paired_length hpu]
            refine Nat.lt_of_le_of_lt (List.length_filter_le ..) ?_
            rw [List.length_take]
            exact Nat.lt_of_le_of_lt (Nat.min_le_right ..) (by rw [← paired_length hpw]; exact hlw)
          · rw [upd_ne (ne_of_none e hL)]
            exact s3 _ _ e
          · rw [List.take_add_one, hit, List.filter_append]
            have e1 : (some it).toList.filter (fun it => decide (it ≠ It.txt Str.empty)) = [it] := List.filter_cons_of_pos (p := fun it => decide (it ≠ It.txt Str.empty)) hc
            rw [e1]
            exact paired_snoc hpu hv
        · refine ⟨s3, us, hu, ?_⟩
          rw [List.take_add_one, hit, List.filter_append]
          have e1 : (some it).toList.filter (fun it => decide (it ≠ It.txt Str.empty)) = [] := by
            show List.filter _ [it] = []
            rw [List.filter_cons_of_neg (p := fun it => decide (it ≠ It.txt Str.empty)) hc]
            rfl
          rw [e1, List.append_nil]
          exact hpu
      · rintro H3 ⟨s3, us, hu, hpu⟩
        rw [paired_length hpw, List.take_length] at hpu
        refine ⟨L, us, rfl, .inl ⟨SqL.of hu, fun t ht => ?_⟩⟩
        have s4 := same_new (o := .tup us) ht
        have sA := (s.trans s3).trans s4
        exact q t _ sA ⟨us, upd_same, paired_imp hpu fun _ _ _ h => h.stl (Stl.of (CR := 0) sA)⟩
end
end Pt
end

section
set_option Elab.async false
set_option maxRecDepth 100000
set_option maxHeartbeats 2000000
set_option linter.unusedSectionVars false
set_option linter.unusedVariables false
namespace Pt
open PySem PySem.Spec PyProof.Rows L2
theorem same_lock {H H' : Hp} {d : Addr} {u f : HO} (hd : H d = some u) (s : Same (upd H d f) H') : Same H (upd H' d u) := fun b o e => by
  by_cases h : b = d
  · subst h
    rw [hd] at e
    cases e
    exact upd_same
  · rw [upd_ne h]
    exact s b o (by rw [upd_ne h]; exact e)
theorem tups_lock {H : Hp} {d : Addr} {kvs : List (Key × V)} {f : HO} (hd : H d = some (.dK kvs)) : Tups H (upd H d f) := fun b l hb => by
  rw [upd_ne fun z => by subst z; rw [hd] at hb; cases hb]
  exact hb
theorem lst_lock {H : Hp} {d b : Addr} {kvs : List (Key × V)} {f : HO} {xs : List V} (hd : H d = some (.dK kvs)) (hb : H b = some (.lst xs)) : upd H d f b = some (.lst xs) := by
  rw [upd_ne fun z => by subst z; rw [hd] at hb; cases hb]
  exact hb
theorem zipF_at {H : Hp} {R : List Str} {f : Str → Row} {as : List Addr} {i : Nat} {kv : Key × V} (hp : Paired (fun a r => RowAt H a (f r)) as R) (h : (zipF (κ := Key) Sum.inr R as)[i]? = some kv) : ∃ r a, r ∈ R ∧ kv = (Sum.inr r, .ref a) ∧ RowAt H a (f r) := by
  obtain ⟨r, a, h1, h2, h3⟩ := zipF_get (κ := Key) h
  obtain ⟨r', h4, h5⟩ := paired_at hp h2
  rw [h1] at h4
  cases h4
  exact ⟨r, a, List.mem_of_getElem? h1, h3, h5⟩
abbrev sStep : Stmt := top 20
abbrev sWholeR : Stmt := top 21
def spStep (K : PySem.W.Frag) : Sp := fun vs H Q _ => ∃ (a r : Addr) (S : Nat) (R : List Str) (q : Nat × (Str → Row)), vs = [.ref a, .int (S : Nat), .ref r] ∧ StepAt H a R q ∧ q.1 < S ∧ RowsOk R q.2 ∧ R.length ≤ 2 ∧ H r = some (.lst (R.map V.str)) ∧ ∀ H', Same H H' → Q (.bl true) H'
def spWholeR (K : PySem.W.Frag) : Sp := fun vs H Q _ => ∃ (d r : Addr) (R : List Str) (f : Str → Row), vs = [.ref d, .ref r] ∧ RowsD H d R f ∧ RR R ∧ (∀ r ∈ R, (∀ it ∈ f r, ItG 1 it) ∧ (f r).length ≤ 10) ∧ H r = some (.lst (R.map V.str)) ∧ ∀ d' H', Same H H' → RowsD H' d' R (fun r => jn (f r)) → Q (.ref d') H'
section
variable {P : Program} {w : World} {K : PySem.W.Frag} {mg : Str → Option Value} {base : Heap}
abbrev CaStep (P : Program) (w : World) (K : PySem.W.Frag) (mg : Str → Option Value) (base : Heap) : Prop := Ca P w K mg base 3 "is_step" ["thing", "states", "registers"] (spStep K)
abbrev CaWholeR (P : Program) (w : World) (K : PySem.W.Frag) (mg : Str → Option Value) (base : Heap) : Prop := Ca P w K mg base 2 "whole_rows" ["rows", "registers"] (spWholeR K)
theorem scStep : FnScope ["thing", "states", "registers", "name", "row"] ["thing", "states", "registers"] (defScope sStep) := ⟨rfl, rfl, rfl, by decide +kernel, rfl, by decide +kernel, by decide +kernel⟩
theorem ok_step {f : Addr} {fd : FuncData} (F : Fun K "is_step" "is_step" sStep f fd) (B : Bl mg) (cW : CaWhole P w K mg base) (cR : CaRow P w K mg base) : FnOk P w K mg base CX0 3 f fd ["thing", "states", "registers"] (spStep K) := by
  refine F.ok scStep (fun vs H Q E h => ?_) (fun cdv A outer s H vs Q E hr h => ?_)
  · obtain ⟨a, r, S, R, q, rfl, _⟩ := h
    rfl
  · obtain ⟨a, r, S, R, ⟨n, f⟩, rfl, ⟨d, ha, as, hd, hp⟩, hn, hok, hR2, hR, q⟩ := h
    have hu := hu1 hr
    refine ⟨_, pss_cons (ps_if (PW.pt (pw_or (pt_not (pt_val (pe_callB call_isi (by rfl) B.isi boot_isinstance (pa_cons (pv 0) (pa_cons (pe_bltn (by rfl) B.tuple PyProof.Rows.boot_tuple (v := .ty "tuple") rfl) pa_nil)))))
        (pw_or (pt_cmpR op_ne (pe_callB call_len_seq (by rfl) B.len PySem.boot_len (pa_cons (pv 0) pa_nil)) pe_int (nomark _))
        (pw_or (pt_not (pt_val (pe_ca cW hr (by decide) rfl (pa_cons (pe_ix ix_tup (pv 0) pe_int (fun _ _ => rfl)) pa_nil))))
        (pw_or1 (pt_not (pt_chain op_le op_lt pe_int (pe_ix ix_tup (pv 0) pe_int (fun _ _ => rfl)) (pv 1)))))))) (pss_one (ps_ret pe_bl)) pss_nil)
      (pss_cons (ps_if (PW.pt (pw_or (pt_not (pt_val (pe_callB call_isi (by rfl) B.isi boot_isinstance (pa_cons (pe_ix ix_tup (pv 0) pe_int (fun _ _ => rfl)) (pa_cons (pe_bltn (by rfl) B.dict PyProof.Rows.boot_dict (v := .ty "dict") rfl) pa_nil)))))
        (pw_or1 (pt_not (pt_val (pe_lock (pe_callB (cr_all rfl) (by rfl) B.all PyProof.Rows.boot_all (pa_cons (pe_lc (own := [("name", 3)]) rfl scStep.nd (pi_keys (pe_ix ix_tup (pv 0) pe_int (fun _ _ => rfl))) (blkOk_by (by kernel_rfl)) (fun _ _ _ _ _ => pg_name (i := 3) scStep.nd rfl (.inl rfl)) (fun _ _ _ _ _ => pts_nil)
          (fun _ _ _ _ _ => pe_cmpR (op_in_seqK K rfl) (pv 3) (pv 2) (by rfl))) pa_nil)))))))) (pss_one (ps_ret pe_bl)) pss_nil)
      (pss_one (ps_ret (pe_lock (pe_callB (cr_all rfl) (by rfl) B.all PyProof.Rows.boot_all (pa_cons (pe_lc (own := [("row", 4)]) rfl scStep.nd (pi_values (pe_ix ix_tup (pv 0) pe_int (fun _ _ => rfl))) (blkOk_by (by kernel_rfl)) (fun _ _ _ _ _ => pg_name (i := 4) scStep.nd rfl (.inl rfl)) (fun _ _ _ _ _ => pts_nil)
          (fun _ _ _ _ _ => pe_ca (sp := spRow K) cR hr (by decide) rfl (pa_cons (pv 4) (pa_cons (pv 2) pa_nil)))) pa_nil)))))), ?_⟩
    have hneg : ¬ ((n : Int) < 0) := by omega
    refine ⟨_, rfl, _, _, _, _, true, rfl, .ty _, .base (.tup ha), kit_ty (by decide +kernel), true, rfl, ?_⟩
    refine ⟨_, rfl, a, _, rfl, .inr (SqT.of ha), rfl, false, rfl, ?_⟩
    refine ⟨_, rfl, a, _, _, _, rfl, rfl, SqT.of ha, rfl, _, rfl, true, rfl, ?_⟩
    refine ⟨_, rfl, a, _, _, _, rfl, rfl, SqT.of ha, rfl, _, _, rfl, rfl, true, bl_true (p := (0 : Int) ≤ (n : Nat)) (by omega), ?_⟩
    refine ⟨_, rfl, _, _, rfl, rfl, true, bl_true (p := ((n : Nat) : Int) < (S : Nat)) (by have : n < S := hn; omega), ?_⟩
    refine ⟨_, rfl, a, _, _, _, rfl, rfl, SqT.of ha, rfl, _, _, _, _, true, rfl, .ty _, .base (.dK hd), kit_ty (by decide +kernel), true, rfl, ?_⟩
    have hlenR : (zipF (κ := Key) Sum.inr R as).length ≤ 1000 := by rw [zipF_len (paired_length hp)]; omega
    refine ⟨d, _, hd, trivial, fun od => ?_⟩
    refine all_lc (walk_keys (d := d) (o := od) (kvs := zipF (κ := Key) Sum.inr R as)) hlenR (fun Rr h => ⟨_, rfl, a, _, _, _, rfl, rfl, SqT.of (tups_lock hd _ _ ha), rfl, d, od, rfl, .inl ⟨_, upd_same, h⟩⟩) (fun H2 s2 => s2 _ _ upd_same) ?_ (fun H' s' => ⟨s' _ _ upd_same, true, rfl, ?_⟩)
    · rintro i x H2 H2' hi s2 ⟨rfl, k, v, hk, rfl⟩
      obtain ⟨z, b, hz, e, hb⟩ := zipF_at hp hk
      cases e
      refine ⟨Same.refl _, fun Q' hQ => ⟨by simp [wipe], _, rfl, _, rfl, r, _, rfl, .inl (SqL.of (s2 _ _ (lst_lock hd hR))), rfl, flat_strs R, ?_⟩⟩
      have e : inV (kV (Sum.inr z)) (R.map V.str) = true := inV_mem hz
      rw [e]
      exact hQ _ (Same.refl _)
    · have s3 := same_lock hd s'
      have hd3 := s3 _ _ hd
      have ha3 := s3 _ _ ha
      refine ⟨d, _, hd3, trivial, fun od => ?_⟩
      refine all_lc (walk_values (d := d) (o := od) (kvs := zipF (κ := Key) Sum.inr R as)) hlenR (fun Rr h => ⟨_, rfl, a, _, _, _, rfl, rfl, SqT.of (tups_lock hd3 _ _ ha3), rfl, d, od, _, rfl, upd_same, h⟩) (fun H2 s2 => s2 _ _ upd_same) ?_ (fun H'' s'' => ⟨s'' _ _ upd_same, ?_⟩)
      · rintro i x H2 H2' hi s2 ⟨rfl, k, hk⟩
        obtain ⟨z, b, hz, e, hb⟩ := zipF_at hp hk
        cases e
        refine ⟨Same.refl _, fun Q' hQ => ⟨by simp [wipe], _, rfl, _, rfl, b, r, R, f z, rfl, ?_, s2 _ _ (lst_lock hd3 (s3 _ _ hR)), hok.ok z hz, fun H5 s5 => hQ _ s5⟩⟩
        exact ((hb.tups (Tups.same s3)).tups (tups_lock hd3)).tups (Tups.same s2)
      · exact q _ (s3.trans (same_lock hd3 s''))
theorem scWholeR : FnScope ["rows", "registers", "name"] ["rows", "registers"] (defScope sWholeR) := ⟨rfl, rfl, rfl, by decide +kernel, rfl, by decide +kernel, by decide +kernel⟩
theorem ok_wholeR {f : Addr} {fd : FuncData} (F : Fun K "whole_rows" "whole_rows" sWholeR f fd) (B : Bl mg) (cJ : CaJoined P w K mg base) : FnOk P w K mg base CX0 2 f fd ["rows", "registers"] (spWholeR K) := by
  refine F.ok scWholeR (fun vs H Q E h => ?_) (fun cdv A outer s H vs Q E hr h => ?_)
  · obtain ⟨d, r, R, f, rfl, _⟩ := h
    rfl
  · obtain ⟨d, r, R, f, rfl, hd, hR, hok, hr2, q⟩ := h
    have hu := hu1 hr
    refine ⟨_, pss_one (ps_ret (pe_dc (own := [("name", 2)]) rfl scWholeR.nd (pi_list (pv 1)) (blkOk_by (by kernel_rfl)) (fun _ _ _ _ _ => pg_name (i := 2) scWholeR.nd rfl (.inl rfl)) (fun _ _ _ _ _ => pts_nil) (fun _ _ _ _ _ => pv 2)
      (fun _ _ _ _ _ => pe_ifExp (pt_cmp (pc_din hu (pv 2) (pv 0))) (pe_ca (sp := spJoined) cJ hr (by decide) rfl (pa_cons (pe_dget hu (pv 0) (pv 2) (fun _ _ => rfl)) pa_nil)) (pe_tup (pa_cons (pe_tup (pa_cons (pv 2) pa_nil)) pa_nil))))), ?_⟩
    refine ⟨_, rfl, _, rfl, ⟨_, SqL.of hr2⟩, fun D hD => ?_⟩
    refine dc_it (walk_list (xs := R.map V.str)) (Qd := fun H' => Q (.ref D) H') (fun i H2 => Same H H2 ∧ ∃ as, H2 D = some (.dK (zipF (κ := Key) Sum.inr (R.take i) as)) ∧ Paired (fun a r => RowAt H2 a (jn (f r))) as (R.take i)) ⟨same_new hD, [], upd_same, .nil⟩ (fun i H2 _ h => SqL.of (h.1 _ _ hr2)) ?_ ?_
    · rintro i x H2 H2' hi ⟨s2, as, hD2, hp⟩ ⟨rfl, hx⟩
      rw [List.getElem?_map] at hx
      obtain ⟨n, hn, rfl⟩ := Option.map_eq_some_iff.mp hx
      have hnR := mem_of_get hn
      have hdx := hd.stl (Stl.of (CR := 0) s2)
      obtain ⟨b, hg1, hb1⟩ := hdx.get hnR
      refine ⟨by simp [wipe], yes_then ?_⟩
      refine ⟨_, rfl, _, rfl, _, rfl, d, _, rfl, hg1, true, rfl, ?_⟩
      refine ⟨_, rfl, _, rfl, d, _, rfl, hg1, b, f n, rfl, hb1, (hok n hnR).1, (hok n hnR).2, fun t H3 s3 ht => ?_⟩
      have hD3 := s3 _ _ hD2
      have hnn : n ∉ R.take i := fun hm => by
        have h1 : (R.take (i + 1)).Nodup := hR.nd.sublist (List.take_sublist _ _)
        rw [List.take_add_one, hn, List.nodup_append] at h1
        exact h1.2.2 n hm n (by simp) rfl
      have hval : valV (zipF (κ := Key) Sum.inr (R.take i) as) (Sum.inr n) = none := zipF_none fun y hy z => hnn (by rw [← Sum.inr.inj z]; exact hy)
      have hlen := paired_length hp
      refine ⟨_, Sum.inr n, rfl, hD3, ?_, fun b o e => ?_, as ++ [t], ?_, ?_⟩
      · rw [zipF_len hlen, List.length_take]
        exact Nat.lt_of_le_of_lt (Nat.min_le_right ..) (Nat.lt_of_le_of_lt hR.len (by decide))
      · rw [upd_ne (ne_of_none e hD)]
        exact s3 _ _ (s2 _ _ e)
      · rw [upd_same, putK_new _ hval, List.take_add_one, hn, ← zipF_snoc hlen]
        rfl
      · rw [List.take_add_one, hn]
        have tp : Tups H3 (upd H3 D (.dK (putK (zipF (κ := Key) Sum.inr (R.take i) as) (Sum.inr n) (.ref t)))) := tups_lock hD3
        exact paired_snoc (paired_imp hp fun _ _ _ h => (h.tups (Tups.same s3)).tups tp) (ht.tups tp)
    · rintro H2 ⟨s2, as, hD2, hp⟩
      rw [List.length_map, List.take_length] at hD2 hp
      exact q D H2 s2 ⟨as, hD2, hp⟩
end
end Pt
end

section
set_option Elab.async false
set_option maxRecDepth 100000
set_option maxHeartbeats 2000000
set_option linter.unusedSectionVars false
set_option linter.unusedVariables false
namespace Pt
open PySem PySem.Spec PyProof.Rows L2
/-- the pairs of a state and a letter, laid -/
def DueAt (H : Hp) (ps : List Addr) (ks : List (Nat × Nat)) : Prop := Paired (fun p (k : Nat × Nat) => H p = some (.tup [.int (k.1 : Nat), .str (mkS [k.2])])) ps ks
theorem DueAt.same {H H' : Hp} {ps : List Addr} {ks : List (Nat × Nat)} (e : Tups H H') (x : DueAt H ps ks) : DueAt H' ps ks := paired_imp x fun _ _ _ h => e _ _ h
theorem due_read {wi wi1 : TI} {i j : Nat} {σ : L2.St} {H : Hp} {Q : VK} {S : Nat} {L : List Nat} (hS : S ≤ 2) (hL : L.length ≤ 2)
    (hw : ∀ R : L2.It → Hp → Prop, R (Itr 0 S) H → wi σ H R) (hw1 : ∀ (s : V) (H' : Hp) (R : L2.It → Hp → Prop), R (Its (mkS L)) H' → wi1 ((wipe σ [i, j]).set i (some s)) H' R)
    (hwi : ∀ s, wipe ((wipe σ [i, j]).set i (some s)) [i, j] = wipe σ [i, j]) (hwj : ∀ s c, wipe ((wipe ((wipe σ [i, j]).set i (some s)) [j]).set j (some c)) [j] = wipe ((wipe σ [i, j]).set i (some s)) [j])
    (hgi : ∀ s c, ((wipe ((wipe σ [i, j]).set i (some s)) [j]).set j (some c))[i]? = some (some s)) (hgj : ∀ s c, ((wipe ((wipe σ [i, j]).set i (some s)) [j]).set j (some c))[j]? = some (some c))
    (hd : ∀ D H' ps, Same H H' → H' D = some (.lst (ps.map V.ref)) → DueAt H' ps (duo S L) → Q (.ref D) H') :
    tLc2 wi (gName i) tYes wi1 (gName j) tYes (tTup (tCons (tVar i) (tCons (tVar j) tNil))) [i, j] [j] σ H Q := by
  refine hw _ fun D hD => ?_
  have stepD : ∀ {H2 : Hp} {ps : List Addr} {ks : List (Nat × Nat)} {s c : Nat}, Same H H2 → H2 D = some (.lst (ps.map V.ref)) → DueAt H2 ps ks → ∀ p, H2 p = none →
      upd H2 p (.tup [.int (s : Nat), .str (mkS [c])]) D = some (.lst (ps.map V.ref)) ∧ Same H (upd (upd H2 p (.tup [.int (s : Nat), .str (mkS [c])])) D (.lst (ps.map V.ref ++ [.ref p]))) ∧
        upd (upd H2 p (.tup [.int (s : Nat), .str (mkS [c])])) D (.lst (ps.map V.ref ++ [.ref p])) D = some (.lst ((ps ++ [p]).map V.ref)) ∧ DueAt (upd (upd H2 p (.tup [.int (s : Nat), .str (mkS [c])])) D (.lst (ps.map V.ref ++ [.ref p]))) (ps ++ [p]) (ks ++ [(s, c)]) := by
    intro H2 ps ks s c hS2 hD2 hdu p hp
    have hne : D ≠ p := ne_of_none hD2 hp
    have s1 := same_new (o := .tup [.int (s : Nat), .str (mkS [c])]) hp
    refine ⟨s1 _ _ hD2, fun b o e => ?_, by rw [upd_same, List.map_append]; rfl, paired_snoc (paired_imp hdu fun q k _ h => ?_) ?_⟩
    · rw [upd_ne (ne_of_none e hD)]
      exact s1 _ _ (hS2 _ _ e)
    · rw [upd_ne (fun z => by subst z; rw [hD2] at h; cases h)]
      exact s1 _ _ h
    · rw [upd_ne hne.symm, upd_same]
  have hsz : ∀ {H2 : Hp} {ps : List Addr} {ks : List (Nat × Nat)}, DueAt H2 ps ks → ks.length ≤ 100 → (ps.map V.ref).length < sizeLine := fun h hk => by
    rw [List.length_map, paired_length h]
    exact Nat.lt_of_le_of_lt hk (by decide)
  have hduo : ∀ n, n ≤ 2 → (duo n L).length ≤ 4 := fun n hn => by
    rw [duo_len]
    exact Nat.mul_le_mul hn hL
  refine ⟨fun n m H2 => m = S - n ∧ n ≤ S ∧ Same H H2 ∧ ∃ ps, H2 D = some (.lst (ps.map V.ref)) ∧ DueAt H2 ps (duo n L), ⟨S, by simp, Nat.zero_le _, same_new hD, [], upd_same, .nil⟩, ?_⟩
  rintro n m H2 ⟨rfl, hn, s2, ps, hD2, hdu⟩
  by_cases hlt : n < S
  · refine .inr ⟨hlt, fun H3 => Same H H3 ∧ ∃ ps, H3 D = some (.lst (ps.map V.ref)) ∧ DueAt H3 ps (duo (n + 1) L), fun H' ⟨h1, ps', h2, h3⟩ => ⟨S - (n + 1), by omega, rfl, hlt, h1, ps', h2, h3⟩, fun x H3 hy => ?_⟩
    obtain ⟨rfl, rfl⟩ := hy
    refine ⟨hwi _, yes_then ?_⟩
    refine hw1 _ _ _ ?_
    refine ⟨fun k m H4 => m = L.length - k ∧ k ≤ L.length ∧ Same H H4 ∧ ∃ ps, H4 D = some (.lst (ps.map V.ref)) ∧ DueAt H4 ps (duo n L ++ (L.take k).map fun c => (n, c)), ⟨L.length, by simp, Nat.zero_le _, s2, ps, hD2, by simpa using hdu⟩, ?_⟩
    rintro k m H4 ⟨rfl, hk, s4, ps4, hD4, hdu4⟩
    by_cases hlt2 : k < L.length
    · refine .inr ⟨hlt2, fun H5 => Same H H5 ∧ ∃ ps, H5 D = some (.lst (ps.map V.ref)) ∧ DueAt H5 ps (duo n L ++ (L.take (k + 1)).map fun c => (n, c)), fun H' ⟨h1, ps', h2, h3⟩ => ⟨L.length - (k + 1), by omega, rfl, hlt2, h1, ps', h2, h3⟩, fun x H5 hy => ?_⟩
      obtain ⟨rfl, c, hc, rfl⟩ := hy
      have hcL := sign_get hc
      refine ⟨hwj _ _, yes_then ?_⟩
      have e0 : V.int ((0 : Int) + (n : Nat)) = .int (n : Nat) := by rw [Int.zero_add]
      refine ⟨_, hgi _ _, _, hgj _ _, by show 2 ≤ sizeLine; decide, fun p hp => ?_⟩
      rw [e0]
      obtain ⟨f1, f2, f3, f4⟩ := stepD (s := n) (c := c) s4 hD4 hdu4 p hp
      refine ⟨_, f1, hsz hdu4 ?_, f2, ps4 ++ [p], f3, ?_⟩
      · rw [List.length_append, List.length_map, List.length_take]
        have := hduo n (by omega)
        omega
      · rw [List.take_add_one, hcL, List.map_append, ← List.append_assoc]
        exact f4
    · have e : k = L.length := by omega
      subst e
      rw [List.take_length] at hdu4
      exact .inl ⟨Nat.le_refl _, s4, ps4, hD4, by rw [duo_succ]; exact hdu4⟩
  · have e : n = S := by omega
    subst e
    exact .inl ⟨Nat.le_refl _, hd D H2 ps s2 hD2 hdu⟩
/-- the pairs stand in order -/
theorem due_ord {S : Nat} (h1 : 1 ≤ S) (h2 : S ≤ 2) {L : List Nat} (hL : LOk L) : ∀ (i j : Nat) (p q : Int × Str), i ≤ j → ((duo S L).map fun k => ((k.1 : Int), mkS [k.2]))[i]? = some p → ((duo S L).map fun k => ((k.1 : Int), mkS [k.2]))[j]? = some q → (listOrd itemOrd).blt (keyP q) (keyP p) = false := by
  intro i j p q hij hp hq
  have key : ∀ (ks : List (Int × Str)), (∀ i, i < ks.length → ∀ j, j < ks.length → i ≤ j → (listOrd itemOrd).blt (keyP (ks.getD j (0, Str.empty))) (keyP (ks.getD i (0, Str.empty))) = false) → ks[i]? = some p → ks[j]? = some q → (listOrd itemOrd).blt (keyP q) (keyP p) = false := fun ks h e1 e2 => by
    obtain ⟨l1, g1⟩ := List.getElem?_eq_some_iff.mp e1
    obtain ⟨l2, g2⟩ := List.getElem?_eq_some_iff.mp e2
    have := h i l1 j l2 hij
    rw [List.getD_eq_getElem?_getD, List.getD_eq_getElem?_getD, e1, e2] at this
    exact this
  refine key _ ?_ hp hq
  have hS : S = 1 ∨ S = 2 := by omega
  rcases hS with rfl | rfl <;> rcases hL with rfl | rfl <;> decide +kernel
theorem sorted_regs {R ys : List Str} (hR : RR R) (hp : ys.Perm R) (hs : sortedS ys = true) : ys = R := by
  rcases hR with rfl | rfl | rfl
  · exact List.perm_nil.mp hp
  · exact List.perm_singleton.mp hp
  · have hl := hp.length_eq
    match ys, hl with
    | [a, b], _ =>
      have ha : a ∈ [("x" : Str), ("y" : Str)] := hp.mem_iff.mp (by simp)
      have hb : b ∈ [("x" : Str), ("y" : Str)] := hp.mem_iff.mp (by simp)
      have nd : [a, b].Nodup := hp.nodup_iff.mpr (by decide +kernel)
      rcases (by simpa using ha : a = "x" ∨ a = "y") with rfl | rfl <;> rcases (by simpa using hb : b = "x" ∨ b = "y") with rfl | rfl
      · exact absurd nd (by decide +kernel)
      · rfl
      · exact absurd hs (by decide +kernel)
      · exact absurd nd (by decide +kernel)
theorem sorted_letters {L : List Nat} (hL : LOk L) {ys : List Str} (hp : ys.Perm (signs (mkS L))) (hs : sortedS ys = true) : Txt.join (Str.ofString "") ys = mkS L := by
  rcases hL with rfl | rfl
  · have e1 : signs (mkS [97, 98]) = [("a" : Str), ("b" : Str)] := by decide +kernel
    rw [e1] at hp
    have hl := hp.length_eq
    match ys, hl with
    | [a, b], _ =>
      have ha : a ∈ [("a" : Str), ("b" : Str)] := hp.mem_iff.mp (by simp)
      have hb : b ∈ [("a" : Str), ("b" : Str)] := hp.mem_iff.mp (by simp)
      have nd : [a, b].Nodup := hp.nodup_iff.mpr (by decide +kernel)
      rcases (by simpa using ha : a = "a" ∨ a = "b") with rfl | rfl <;> rcases (by simpa using hb : b = "a" ∨ b = "b") with rfl | rfl
      · exact absurd nd (by decide +kernel)
      · decide +kernel
      · exact absurd hs (by decide +kernel)
      · exact absurd nd (by decide +kernel)
  · have e1 : signs (mkS [98]) = [("b" : Str)] := by decide +kernel
    rw [e1] at hp
    rw [List.perm_singleton.mp hp]
    decide +kernel
theorem sorted_ends {S : Nat} (h2 : S ≤ 2) {E : Nat → Option Row} {ys : List Int} (hp : ys.Perm ((endL S E).map fun s : Nat => (s : Int))) (hs : ys.Pairwise (· ≤ ·)) : ys = (endL S E).map fun s : Nat => (s : Int) := by
  have cases : endL S E = [] ∨ endL S E = [0] ∨ endL S E = [1] ∨ endL S E = [0, 1] := by
    have hS : S = 0 ∨ S = 1 ∨ S = 2 := by omega
    rcases hS with rfl | rfl | rfl
    · exact .inl rfl
    · rw [endL_succ]
      have e : endL 0 E = [] := rfl
      rw [e]
      split
      · exact .inr (.inl rfl)
      · exact .inl rfl
    · rw [endL_succ, endL_succ]
      have e : endL 0 E = [] := rfl
      rw [e]
      split <;> split
      · exact .inr (.inr (.inr rfl))
      · exact .inr (.inl rfl)
      · exact .inr (.inr (.inl rfl))
      · exact .inl rfl
  rcases cases with e | e | e | e <;> rw [e] at hp ⊢
  · exact List.perm_nil.mp hp
  · exact List.perm_singleton.mp hp
  · exact List.perm_singleton.mp hp
  · have hl := hp.length_eq
    match ys, hl with
    | [a, b], _ =>
      have ha : a ∈ [(0 : Int), 1] := hp.mem_iff.mp (by simp)
      have hb : b ∈ [(0 : Int), 1] := hp.mem_iff.mp (by simp)
      have nd : [a, b].Nodup := hp.nodup_iff.mpr (by decide)
      rcases (by simpa using ha : a = 0 ∨ a = 1) with rfl | rfl <;> rcases (by simpa using hb : b = 0 ∨ b = 1) with rfl | rfl
      · exact absurd nd (by decide)
      · rfl
      · exact absurd hs (by decide)
      · exact absurd nd (by decide)
end Pt
end

section
set_option Elab.async false
set_option maxRecDepth 100000
set_option maxHeartbeats 4000000
set_option linter.unusedSectionVars false
set_option linter.unusedVariables false
namespace Pt
open PySem PySem.Spec PyProof.Rows L2
/-- what joined has made of the machine's rows -/
def jnM (T : Mach) : Mach := { T with step := fun s c => ((T.step s c).1, fun r => jn ((T.step s c).2 r)), ends := fun s => (T.ends s).map jn }
structure PrK (K : PySem.W.Frag) (CP : Addr) : Prop where
  cls : Cls K CP
  a1 : NoAttr K CP "letters"
  a2 : NoAttr K CP "states"
  a3 : NoAttr K CP "registers"
  a4 : NoAttr K CP "firsts"
  a5 : NoAttr K CP "steps"
  a6 : NoAttr K CP "ends"
/-- a Program at p -/
def ProgAt (H : Hp) (CP p : Addr) (T : Mach) : Prop := ∃ dx r d1 d2 d3, H p = some (.ins CP dx [("letters", .str (mkS T.letters)), ("states", .int (T.S : Nat)), ("registers", .ref r), ("firsts", .ref d1), ("steps", .ref d2), ("ends", .ref d3)]) ∧
  H r = some (.lst (T.R.map V.str)) ∧ HeldAt H d1 T.R T.firsts ∧ StepsD H d2 T.R (duo T.S T.letters) (jnM T).step ∧ EndsD H d3 (endL T.S T.ends) (jnM T).ends
theorem bl_false {p : Prop} [Decidable p] (h : ¬ p) : V.bl (decide p) = .bl false := by rw [decide_eq_false h]
theorem bl_ne {x y : V} (h : x = y) : V.bl (!decide (x = y)) = .bl false := by rw [decide_eq_true h]; rfl
theorem dget_frz {H : Hp} {d : Addr} {o : Obj} {kvs : List (Key × V)} {k : Key} {v : V} (h : H d = some (.frz o (.dK kvs))) (hv : valV kvs k = some v) : DGet H d (kV k) (some v) := .inl ⟨kvs, k, .inr ⟨o, h⟩, rfl, hv.symm⟩
theorem bl_in {b : Bool} (h : b = true) : V.bl (if false = true then !b else b) = .bl true := by rw [h]; rfl
theorem seq_fld {K : PySem.W.Frag} {ta tv : TE} {f : Str} {u : TS} {D : Ends} {σ : L2.St} {H : Hp} (h : tv σ H fun y H1 => ta σ H1 fun x H2 => ∃ a C dx fs, x = .ref a ∧ H2 a = some (.ins C dx fs) ∧ Cls K C ∧ NoAttr K C f ∧ fs.length < 1000 ∧ u D σ (upd H2 a (.ins C dx (putF f y fs)))) : tSeq (sFld K ta tv f) u D σ H := h
theorem fld_of {K : PySem.W.Frag} {ta tv : TE} {f : Str} {D : Ends} {σ : L2.St} {H : Hp} (h : tv σ H fun y H1 => ta σ H1 fun x H2 => ∃ a C dx fs, x = .ref a ∧ H2 a = some (.ins C dx fs) ∧ Cls K C ∧ NoAttr K C f ∧ fs.length < 1000 ∧ D.nx σ (upd H2 a (.ins C dx (putF f y fs)))) : sFld K ta tv f D σ H := h
theorem putF_new {f : Str} {v : V} : ∀ {fs : List (Str × V)}, f ∉ fs.map (·.1) → putF f v fs = fs ++ [(f, v)]
  | [], _ => rfl
  | (g, x) :: r, h => by
    rw [List.map_cons, List.mem_cons, not_or] at h
    show (if g = f then (g, v) :: r else (g, x) :: putF f v r) = _
    rw [if_neg (Ne.symm h.1), putF_new h.2]
    rfl
/-- the object at x grows field by field, all else stays -/
structure FS (H0 : Hp) (CP x dx : Addr) (fs : List (Str × V)) (H : Hp) : Prop where
  but : But x H0 H
  ins : H x = some (.ins CP dx fs)
theorem FS.same {H0 H H' : Hp} {CP x dx : Addr} {fs : List (Str × V)} (a : FS H0 CP x dx fs H) (s : Same H H') : FS H0 CP x dx fs H' := ⟨a.but.trans (But.of s), s _ _ a.ins⟩
theorem FS.put {H0 H : Hp} {CP x dx : Addr} {fs : List (Str × V)} (a : FS H0 CP x dx fs H) {f : Str} {v : V} (h : f ∉ fs.map (·.1)) : FS H0 CP x dx (fs ++ [(f, v)]) (upd H x (.ins CP dx (putF f v fs))) := ⟨a.but.trans But.upd, by rw [upd_same, putF_new h]⟩
theorem FS.fld {K : PySem.W.Frag} {H0 H : Hp} {CP x dx : Addr} {fs : List (Str × V)} (a : FS H0 CP x dx fs H) {f : Str} {v : V} (c : Cls K CP) (n : NoAttr K CP f) (hl : fs.length < 1000) (hf : f ∉ fs.map (·.1)) {Qd : Hp → Prop} (h : ∀ H', FS H0 CP x dx (fs ++ [(f, v)]) H' → But x H H' → Qd H') :
    ∃ b C dx' fs', V.ref x = .ref b ∧ H b = some (.ins C dx' fs') ∧ Cls K C ∧ NoAttr K C f ∧ fs'.length < 1000 ∧ Qd (upd H b (.ins C dx' (putF f v fs'))) := ⟨x, CP, dx, fs, rfl, a.ins, c, n, hl, h _ (a.put hf) But.upd⟩
theorem FS.stl {H0 H : Hp} {CP x dx : Addr} {fs0 fs : List (Str × V)} (h0 : H0 x = some (.ins CP dx fs0)) (a : FS H0 CP x dx fs H) : Stl CP H0 H := Stl.but a.but fun o ho hf => by
  rw [h0] at ho
  cases ho
  exact hf rfl
theorem StepAt.tups {H H' : Hp} {a : Addr} {R : List Str} {q : Nat × (Str → Row)} (e : Tups H H') (hd : ∀ d kvs, H d = some (.dK kvs) → H' d = some (.dK kvs)) (x : StepAt H a R q) : StepAt H' a R q := by
  obtain ⟨d, h1, h2⟩ := x
  exact ⟨d, e _ _ h1, h2.tups e fun kvs h => hd d kvs h⟩
theorem duo_nd {S : Nat} (h2 : S ≤ 2) {L : List Nat} (hL : LOk L) : (duo S L).Nodup := by
  have hS : S = 0 ∨ S = 1 ∨ S = 2 := by omega
  rcases hS with rfl | rfl | rfl <;> rcases hL with rfl | rfl <;> decide
theorem endL_nd (S : Nat) (E : Nat → Option Row) : (endL S E).Nodup := List.nodup_range.filter _
theorem not_take {α : Type} {l : List α} (nd : l.Nodup) {i : Nat} {x : α} (h : l[i]? = some x) : x ∉ l.take i := fun hm => by
  have h1 : (l.take (i + 1)).Nodup := nd.sublist (List.take_sublist _ _)
  rw [List.take_add_one, h, List.nodup_append] at h1
  exact h1.2.2 x hm x (by simp) rfl
theorem zipF_keys {κ X : Type} {kf : X → κ} : ∀ {xs : List X} {as : List Addr}, as.length = xs.length → (zipF kf xs as).map (·.1) = xs.map kf
  | [], [], _ => rfl
  | x :: xs, a :: as, h => by
    show kf x :: (zipF kf xs as).map (·.1) = kf x :: xs.map kf
    rw [zipF_keys (Nat.succ.inj h)]
theorem pe_fldK {X : Cx} {e : Expr} {f : Str} {pos : Pos} {ta : TE} (K : PySem.W.Frag) (h : X.K = K) (he : PE X e ta) (hb : attributeBase e f X.env (eval e X.env) = eval e X.env) : PE X (.Attribute e f pos) (tFld K ta f) := by
  subst h
  exact pe_fld he hb
abbrev sInit : Stmt := inClass (top 22) 0
def spInit (CP : Addr) : Sp := fun vs H Q _ => ∃ (x dx r d1 d2 d3 : Addr) (T : Mach), vs = [.ref x, .str (mkS T.letters), .int (T.S : Nat), .ref r, .ref d1, .ref d2, .ref d3] ∧ H x = some (.ins CP dx []) ∧ WF T ∧ H r = some (.lst (T.R.map V.str)) ∧ HeldAt H d1 T.R T.firsts ∧ StepsD H d2 T.R (duo T.S T.letters) T.step ∧ EndsD H d3 (endL T.S T.ends) T.ends ∧
  ∀ H', But x H H' → ProgAt H' CP x T → Q .non H'
section
variable {P : Program} {w : World} {K : PySem.W.Frag} {mg : Str → Option Value} {base : Heap}
theorem scInit : FnScope ["self", "letters", "states", "registers", "firsts", "steps", "ends", "due", "name", "state", "letter", "one", "row"] ["self", "letters", "states", "registers", "firsts", "steps", "ends"] (defScope sInit) := ⟨rfl, rfl, rfl, by decide +kernel, rfl, by decide +kernel, by decide +kernel⟩
theorem ok_init {CP : Addr} {f : Addr} {fd : FuncData} (F : Fun K "__init__" "Program.__init__" sInit f fd) (B : Bl mg) (G : Gk mg) (C : PrK K CP) (cL : CaLetters P w K mg base) (cWh : CaWhole P w K mg base) (cWd : CaWord P w K mg base) (cS : CaSigns P w K mg base) (cSt : CaStep P w K mg base) (cR : CaRow P w K mg base) (cWR : CaWholeR P w K mg base) (cJ : CaJoined P w K mg base) :
    FnOk P w K mg base CX0 4 f fd ["self", "letters", "states", "registers", "firsts", "steps", "ends"] (spInit CP) := by
  refine F.ok scInit (fun vs H Q E h => ?_) (fun cdv A outer s H vs Q E hr h => ?_)
  · obtain ⟨x, dx, r, d1, d2, d3, T, rfl, _⟩ := h
    rfl
  · obtain ⟨x, dx, r, d1, d2, d3, T, rfl, hx, W, hrr, hh, hst, hen, q⟩ := h
    have hu := hu1 hr
    have nd := scInit.nd
    refine ⟨_, pss_cons (ps_if (pt_not (pt_val (pe_ca cL hr (by decide) rfl (pa_cons (pv 1) pa_nil)))) pss_never pss_nil)
      (pss_cons (ps_if (PW.pt (pw_or (pt_not (pt_val (pe_ca cWh hr (by decide) rfl (pa_cons (pv 2) pa_nil)))) (pw_or1 (pt_not (pt_chain op_le op_le pe_int (pv 2) (pe_gcv rfl G.mostS)))))) pss_never pss_nil)
      (pss_cons (ps_if (PW.pt (pw_or (pt_not (pt_val (pe_callB call_isiT (by rfl) B.isi boot_isinstance (pa_cons (pv 3) (pa_cons (pe_tup (pa_cons (pe_bltn (by rfl) B.list PyProof.Rows.boot_list (v := .ty "list") rfl) (pa_cons (pe_bltn (by rfl) B.tuple PyProof.Rows.boot_tuple (v := .ty "tuple") rfl) pa_nil))) pa_nil))))) (pw_or1 (pt_cmpR op_gt (pe_callB call_len_seq (by rfl) B.len PySem.boot_len (pa_cons (pv 3) pa_nil)) (pe_gcv rfl G.mostR) (nomark _))))) pss_never pss_nil)
      (pss_cons (ps_if (PW.pt (pw_or (pt_not (pt_val (pe_callB (cr_all rfl) (by rfl) B.all PyProof.Rows.boot_all (pa_cons (pe_lc (own := [("name", 8)]) rfl nd (pi_list (pv 3)) (blkOk_by (by kernel_rfl)) (fun _ _ _ _ _ => pg_name (i := 8) nd rfl (.inl rfl)) (fun _ _ _ _ _ => pts_nil) (fun _ _ _ _ _ => pe_ca (sp := spWord) cWd hr (by decide) rfl (pa_cons (pv 8) pa_nil))) pa_nil)))) (pw_or1 (pt_cmpR op_ne (pe_lenSetD rfl rfl B.len rfl B.set (pv 3)) (pe_callB call_len_seq (by rfl) B.len PySem.boot_len (pa_cons (pv 3) pa_nil)) (nomark _))))) pss_never pss_nil)
      (pss_cons (ps_if (PW.pt (pw_or (pt_not (pt_val (pe_callB call_isi (by rfl) B.isi boot_isinstance (pa_cons (pv 4) (pa_cons (pe_bltn (by rfl) B.dict PyProof.Rows.boot_dict (v := .ty "dict") rfl) pa_nil))))) (pw_or1 (pt_not (pt_val (pe_lock (pe_callB (cr_all rfl) (by rfl) B.all PyProof.Rows.boot_all (pa_cons (pe_lc (own := [("name", 8)]) rfl nd (pi_keys (pv 4)) (blkOk_by (by kernel_rfl)) (fun _ _ _ _ _ => pg_name (i := 8) nd rfl (.inl rfl)) (fun _ _ _ _ _ => pts_nil) (fun _ _ _ _ _ => pe_and (pe_cmpR (op_in_seqK K rfl) (pv 8) (pv 3) (by rfl)) (pe_one (pe_ca (sp := spSigns) cS hr (by decide) rfl (pa_cons (pe_dget hu (pv 4) (pv 8) (fun _ _ => rfl)) pa_nil))))) pa_nil)))))))) pss_never pss_nil)
      (pss_cons (ps_setLc2 (i := 7) (own := [("state", 9), ("letter", 10)]) (vs1 := [10]) rfl nd rfl rfl rfl (pi_range1 rfl B.range (pa_cons (pv 2) pa_nil)) (blkOk_by (by kernel_rfl)) (by decide) (fun _ _ _ _ _ => pg_name (i := 9) nd rfl (.inl rfl)) (fun _ _ _ _ _ => pts_nil) (fun _ _ _ _ _ => pi_str (pv 1)) (fun _ _ _ _ _ => pg_name (i := 10) nd rfl (.inl rfl)) (fun _ _ _ _ _ => pts_nil) (fun _ _ _ _ _ => pe_tup (pa_cons (pv 9) (pa_cons (pv 10) pa_nil))))
      (pss_cons (ps_if (PW.pt (pw_or (pt_not (pt_val (pe_callB call_isi (by rfl) B.isi boot_isinstance (pa_cons (pv 5) (pa_cons (pe_bltn (by rfl) B.dict PyProof.Rows.boot_dict (v := .ty "dict") rfl) pa_nil))))) (pw_or (pt_cmpR op_ne (pe_callB call_len_dT (by rfl) B.len PySem.boot_len (pa_cons (pv 5) pa_nil)) (pe_callB call_len_seq (by rfl) B.len PySem.boot_len (pa_cons (pv 7) pa_nil)) (nomark _)) (pw_or1 (pt_not (pt_val (pe_callB (cr_all rfl) (by rfl) B.all PyProof.Rows.boot_all (pa_cons (pe_lc (own := [("one", 11)]) rfl nd (pi_list (pv 7)) (blkOk_by (by kernel_rfl)) (fun _ _ _ _ _ => pg_name (i := 11) nd rfl (.inl rfl)) (fun _ _ _ _ _ => pts_nil) (fun _ _ _ _ _ => pe_cmp (pc_din hu (pv 11) (pv 5)))) pa_nil)))))))) pss_never pss_nil)
      (pss_cons (ps_if (pt_not (pt_val (pe_callB (cr_all rfl) (by rfl) B.all PyProof.Rows.boot_all (pa_cons (pe_lc (own := [("one", 11)]) rfl nd (pi_list (pv 7)) (blkOk_by (by kernel_rfl)) (fun _ _ _ _ _ => pg_name (i := 11) nd rfl (.inl rfl)) (fun _ _ _ _ _ => pts_nil) (fun _ _ _ _ _ => pe_ca (sp := spStep K) cSt hr (by decide) rfl (pa_cons (pe_dget hu (pv 5) (pv 11) (fun _ _ => rfl)) (pa_cons (pv 2) (pa_cons (pv 3) pa_nil))))) pa_nil)))) pss_never pss_nil)
      (pss_cons (ps_if (PW.pt (pw_or (pt_not (pt_val (pe_callB call_isi (by rfl) B.isi boot_isinstance (pa_cons (pv 6) (pa_cons (pe_bltn (by rfl) B.dict PyProof.Rows.boot_dict (v := .ty "dict") rfl) pa_nil))))) (pw_or1 (pt_not (pt_val (pe_lock (pe_callB (cr_all rfl) (by rfl) B.all PyProof.Rows.boot_all (pa_cons (pe_lc (own := [("one", 11)]) rfl nd (pi_keys (pv 6)) (blkOk_by (by kernel_rfl)) (fun _ _ _ _ _ => pg_name (i := 11) nd rfl (.inl rfl)) (fun _ _ _ _ _ => pts_nil) (fun _ _ _ _ _ => pe_and (pe_ca (sp := spWhole) cWh hr (by decide) rfl (pa_cons (pv 11) pa_nil)) (pe_one (pe_chain op_le op_lt pe_int (pv 11) (pv 2))))) pa_nil)))))))) pss_never pss_nil)
      (pss_cons (ps_if (pt_not (pt_val (pe_lock (pe_callB (cr_all rfl) (by rfl) B.all PyProof.Rows.boot_all (pa_cons (pe_lc (own := [("row", 12)]) rfl nd (pi_values (pv 6)) (blkOk_by (by kernel_rfl)) (fun _ _ _ _ _ => pg_name (i := 12) nd rfl (.inl rfl)) (fun _ _ _ _ _ => pts_nil) (fun _ _ _ _ _ => pe_ca (sp := spRow K) cR hr (by decide) rfl (pa_cons (pv 12) (pa_cons (pv 3) pa_nil)))) pa_nil))))) pss_never pss_nil)
      (pss_cons (ps_fld (pv 0) (pe_join pe_str (pe_callB (call_sortedStr rfl) (by rfl) B.sorted PyProof.Rows.boot_sorted (pa_cons (pv 1) pa_nil))) rfl)
      (pss_cons (ps_fld (pv 0) (pv 2) rfl)
      (pss_cons (ps_fld (pv 0) (pe_callB cr_sortedS (by rfl) B.sorted PyProof.Rows.boot_sorted (pa_cons (pv 3) pa_nil)) rfl)
      (pss_cons (ps_fld (pv 0) (pe_dc (own := [("name", 8)]) rfl nd (pi_list (pe_fld (pv 0) rfl)) (blkOk_by (by kernel_rfl)) (fun _ _ _ _ _ => pg_name (i := 8) nd rfl (.inl rfl)) (fun _ _ _ _ _ => pts_nil) (fun _ _ _ _ _ => pv 8) (fun _ _ _ _ _ => pe_dget2 hu (pv 4) (pv 8) pe_str ⟨rfl, rfl, rfl, rfl⟩)) rfl)
      (pss_cons (ps_fld (pv 0) (pe_dcT (own := [("one", 11)]) rfl hu nd (pi_list (pe_callB call_sortedPairs (by rfl) B.sorted PyProof.Rows.boot_sorted (pa_cons (pv 7) pa_nil))) (blkOk_by (by kernel_rfl)) (fun _ _ _ _ _ => pg_name (i := 11) nd rfl (.inl rfl)) (fun _ _ _ _ _ => pts_nil) (fun _ _ _ _ _ => pv 11) (fun _ _ _ _ _ => pe_tup (pa_cons (pe_ix (ix_tupK K rfl) (pe_dget hu (pv 5) (pv 11) (fun _ _ => rfl)) pe_int (fun _ _ => rfl)) (pa_cons (pe_ca (sp := spWholeR K) cWR hr (by decide) rfl (pa_cons (pe_ix (ix_tupK K rfl) (pe_dget hu (pv 5) (pv 11) (fun _ _ => rfl)) pe_int (fun _ _ => rfl)) (pa_cons (pe_fldK K rfl (pv 0) rfl) pa_nil))) pa_nil)))) rfl)
      (pss_one (ps_fld (pv 0) (pe_dc (own := [("state", 9)]) rfl nd (pi_list (pe_callB (call_sortedDI rfl) (by rfl) B.sorted PyProof.Rows.boot_sorted (pa_cons (pv 6) pa_nil))) (blkOk_by (by kernel_rfl)) (fun _ _ _ _ _ => pg_name (i := 9) nd rfl (.inl rfl)) (fun _ _ _ _ _ => pts_nil) (fun _ _ _ _ _ => pv 9) (fun _ _ _ _ _ => pe_ca (sp := spJoined) cJ hr (by decide) rfl (pa_cons (pe_dget hu (pv 6) (pv 9) (fun _ _ => rfl)) pa_nil))) rfl)))))))))))))))), ?_⟩
    obtain ⟨L, S, R, fs, stp, ens⟩ := T
    have hL : LOk L := W.let_
    have hR : RR R := W.R
    have hS1 : 1 ≤ S := W.S1
    have hS2 : S ≤ 2 := W.S2
    have hR2 : R.length ≤ 2 := hR.len
    replace hrr : H r = some (.lst (R.map V.str)) := hrr
    replace hh : HeldAt H d1 R fs := hh
    replace hst : StepsD H d2 R (duo S L) stp := hst
    replace hen : EndsD H d3 (endL S ens) ens := hen
    have hst0 := hst
    have hen0 := hen
    -- letters
    refine ⟨_, rfl, L, rfl, hL, fun H1 s1 => ⟨true, rfl, ?_⟩⟩
    -- states
    refine ⟨_, rfl, (S : Nat), rfl, true, rfl, _, rfl, _, _, rfl, rfl, true, bl_true (p := (1 : Int) ≤ (S : Nat)) (by omega), _, _, rfl, rfl, true, bl_true (p := ((S : Nat) : Int) ≤ 300) (by omega), ?_⟩
    -- registers
    have hr1 := s1 _ _ hrr
    refine ⟨_, rfl, by show 2 ≤ sizeLine; decide, fun tp htp => ⟨.ref r, tp, _, .type "list", _, true, rfl, upd_same, .cons (.ty _) (.cons (.ty _) .nil), .base (.lst (same_new htp _ _ hr1)), kitAny_cons (b := true) (kit_ty (by decide +kernel)) (fun z => nomatch z) (fun _ => rfl), true, rfl, ?_⟩⟩
    have s2 := s1.trans (same_new (o := .tup [V.ty "list", V.ty "tuple"]) htp)
    refine ⟨_, rfl, r, _, rfl, .inl (SqL.of (s2 _ _ hrr)), _, _, rfl, rfl, false, bl_false (p := (60 : Int) < ((R.map V.str).length : Nat)) (by rw [List.length_map]; omega), ?_⟩
    -- words
    refine no_if (nx_of (seq_if (or_not ?_)))
    refine all_lc (walk_list (xs := R.map V.str)) (by rw [List.length_map]; omega) (fun Rr h => ⟨_, rfl, r, rfl, ⟨_, SqL.of (s2 _ _ hrr)⟩, h⟩) (fun H2 s => SqL.of (s _ _ (s2 _ _ hrr))) ?_ (fun H3 s3' => ⟨true, rfl, ?_⟩)
    · rintro i v H2 H2' hi s ⟨rfl, hv⟩
      rw [List.getElem?_map] at hv
      obtain ⟨z, hz, rfl⟩ := Option.map_eq_some_iff.mp hv
      have hzx : z = "x" ∨ z = "y" := ItOk.g hR (it := .reg z) (mem_of_get hz)
      exact ⟨Same.refl _, fun Q' hQ => ⟨by simp [wipe], _, rfl, z, rfl, hzx, fun H5 s5 => hQ _ s5⟩⟩
    have s3 := s2.trans s3'
    refine ⟨_, rfl, .inr ⟨r, R, rfl, SqL.of (s3 _ _ hrr), hR.nd, by omega, _, rfl, r, _, rfl, .inl (SqL.of (s3 _ _ hrr)), rfl, false, bl_ne (by rw [List.length_map]), ?_⟩⟩
    -- firsts
    have hh3 : HeldAt _ d1 R fs := s3 _ _ hh
    refine no_if (nx_of (seq_if (or_not ⟨_, rfl, _, _, _, _, true, rfl, .ty _, .base (.dK hh3), kit_ty (by decide +kernel), true, rfl, ?_⟩)))
    refine if_no (not_of ⟨d1, _, hh3, trivial, fun od => ?_⟩)
    refine all_lc (walk_keys (d := d1) (o := od) (kvs := heldK R fs)) (by rw [heldK_len]; omega) (fun Rr h => ⟨_, rfl, d1, od, rfl, .inl ⟨_, upd_same, h⟩⟩) (fun H2 s => s _ _ upd_same) ?_ (fun H4 s4' => ⟨s4' _ _ upd_same, true, rfl, ?_⟩)
    · rintro i v H2 H2' hi s ⟨rfl, k, y, hk, rfl⟩
      unfold heldK at hk
      rw [List.getElem?_map] at hk
      obtain ⟨z, hz, e⟩ := Option.map_eq_some_iff.mp hk
      cases e
      have hzR := mem_of_get hz
      have hr5 := s _ _ (lst_lock (f := .frz od (.dK (heldK R fs))) hh3 (s3 _ _ hrr))
      refine ⟨Same.refl _, fun Q' hQ => ⟨by simp [wipe], _, rfl, _, rfl, r, _, rfl, .inl (SqL.of hr5), rfl, flat_strs R, true, bl_in (inV_mem hzR), ?_⟩⟩
      have hf := W.first z hzR
      exact ⟨_, rfl, _, rfl, d1, _, rfl, dget_frz (k := Sum.inr z) (s _ _ upd_same) (heldK_val hzR), fs z, rfl, fun c hc => .inl (hf.2 c hc), Nat.le_trans hf.1 (by decide), fun H5 s5 => hQ _ s5⟩
    have s4 := s3.trans (same_lock hh3 s4')
    -- due
    refine no_if (nx_of (seq_asg ?_))
    refine due_read hS2 hL.len (fun Rr h => ⟨_, rfl, S, rfl, by omega, by omega, by rw [Int.toNat_natCast]; exact h⟩) (fun s' H' Rr h => ⟨_, rfl, _, rfl, h⟩) (fun _ => rfl) (fun _ _ => rfl) (fun _ _ => rfl) (fun _ _ => rfl) (fun due H5 ps s5' hdue hdu => ?_)
    have s5 := s4.trans s5'
    obtain ⟨as2, hs2, hp2⟩ := hst
    have hlen2 := paired_length hp2
    have hlenD := paired_length hdu
    have hduo4 : (duo S L).length ≤ 4 := by
      rw [duo_len]
      exact Nat.mul_le_mul hS2 hL.len
    refine seq_if (or_not ⟨_, rfl, _, _, _, _, true, rfl, .ty _, .base (.dT (s5 _ _ hs2)), kit_ty (by decide +kernel), true, rfl, ?_⟩)
    refine if_no ⟨_, rfl, d2, _, rfl, s5 _ _ hs2, _, rfl, due, _, rfl, .inl (SqL.of hdue), rfl, false, bl_ne (by rw [List.length_map, zipF_len hlen2, hlenD]), ?_⟩
    refine if_no (not_of ?_)
    have dueK : ∀ {i : Nat} {v : V} {H2 : Hp}, Same H5 H2 → (ps.map V.ref)[i]? = some v → ∃ p s c, v = .ref p ∧ s < S ∧ c ∈ L ∧ H2 p = some (.tup [.int (s : Nat), .str (mkS [c])]) := fun {i v H2} s hv => by
      rw [List.getElem?_map] at hv
      obtain ⟨p, hp, rfl⟩ := Option.map_eq_some_iff.mp hv
      obtain ⟨⟨s', c⟩, hk, hpk⟩ := paired_at hdu hp
      have := mem_duo.mp (List.mem_of_getElem? hk)
      exact ⟨p, s', c, rfl, this.1, this.2, s _ _ hpk⟩
    have stepK : ∀ {H2 : Hp}, Same H5 H2 → StepsD H2 d2 R (duo S L) stp := fun s => StepsD.stl (CR := 0) (Stl.of (s5.trans s)) ⟨as2, hs2, hp2⟩
    refine all_lc (walk_list (xs := ps.map V.ref)) (by rw [List.length_map]; omega) (fun Rr h => ⟨_, rfl, due, rfl, ⟨_, SqL.of hdue⟩, h⟩) (fun H2 s => SqL.of (s _ _ hdue)) ?_ (fun H6 s6' => ⟨true, rfl, ?_⟩)
    · rintro i v H2 H2' hi s ⟨rfl, hv⟩
      obtain ⟨p, s', c, rfl, h1, h2, h3⟩ := dueK s hv
      obtain ⟨a, hg, _⟩ := (stepK s).get h1 h2 h3
      exact ⟨Same.refl _, fun Q' hQ => ⟨by simp [wipe], _, rfl, _, rfl, d2, _, rfl, hg, hQ _ (Same.refl _)⟩⟩
    -- steps
    refine no_if (nx_of (seq_if (not_of ?_)))
    refine all_lc (walk_list (xs := ps.map V.ref)) (by rw [List.length_map]; omega) (fun Rr h => ⟨_, rfl, due, rfl, ⟨_, SqL.of (s6' _ _ hdue)⟩, h⟩) (fun H2 s => SqL.of (s _ _ (s6' _ _ hdue))) ?_ (fun H7 s7' => ⟨true, rfl, ?_⟩)
    · rintro i v H2 H2' hi s ⟨rfl, hv⟩
      obtain ⟨p, s', c, rfl, h1, h2, h3⟩ := dueK (s6'.trans s) hv
      obtain ⟨a, hg, ha⟩ := (stepK (s6'.trans s)).get h1 h2 h3
      exact ⟨Same.refl _, fun Q' hQ => ⟨by simp [wipe], _, rfl, _, rfl, d2, _, rfl, hg, _, rfl, _, rfl, a, r, S, R, stp s' c, rfl, ha, W.nxt s' c h1 h2, W.rows s' c h1 h2, hR2, s _ _ (s6' _ _ (s5 _ _ hrr)), fun H5 s5 => hQ _ s5⟩⟩
    have s7b := s6'.trans s7'
    have s7 := s5.trans s7b
    -- ends
    obtain ⟨as3, hs3, hp3⟩ := hen
    have hlen3 := paired_length hp3
    have hend2 : (endL S ens).length ≤ 2 := Nat.le_trans (endL_len S ens) hS2
    have hs37 := s7 _ _ hs3
    refine no_if (nx_of (seq_if (or_not ⟨_, rfl, _, _, _, _, true, rfl, .ty _, .base (.dK hs37), kit_ty (by decide +kernel), true, rfl, ?_⟩)))
    refine if_no (not_of ⟨d3, _, hs37, trivial, fun od => ?_⟩)
    refine all_lc (walk_keys (d := d3) (o := od) (kvs := zipF (κ := Key) (fun s : Nat => Sum.inl (s : Int)) (endL S ens) as3)) (by rw [zipF_len hlen3]; omega) (fun Rr h => ⟨_, rfl, d3, od, rfl, .inl ⟨_, upd_same, h⟩⟩) (fun H2 s => s _ _ upd_same) ?_ (fun H8 s8' => ⟨s8' _ _ upd_same, true, rfl, ?_⟩)
    · rintro i v H2 H2' hi s ⟨rfl, k, y, hk, rfl⟩
      obtain ⟨z, a, h1, h2, h3⟩ := zipF_get (κ := Key) hk
      cases h3
      have hz := mem_endL (List.mem_of_getElem? h1)
      exact ⟨Same.refl _, fun Q' hQ => ⟨by simp [wipe], _, rfl, (z : Nat), rfl, true, rfl, _, rfl, _, _, rfl, rfl, true, bl_true (p := (0 : Int) ≤ (z : Nat)) (by omega), _, rfl, _, _, rfl, rfl, by
        show Q' (V.bl (decide (((z : Nat) : Int) < ((S : Nat) : Int)))) _
        rw [bl_true (by omega)]
        exact hQ _ (Same.refl _)⟩⟩
    have s8 := s7.trans (same_lock hs37 s8')
    have hs38 := s8 _ _ hs3
    refine no_if (nx_of (seq_if (not_of ⟨d3, _, hs38, trivial, fun od => ?_⟩)))
    refine all_lc (walk_values (d := d3) (o := od) (kvs := zipF (κ := Key) (fun s : Nat => Sum.inl (s : Int)) (endL S ens) as3)) (by rw [zipF_len hlen3]; omega) (fun Rr h => ⟨_, rfl, d3, od, _, rfl, upd_same, h⟩) (fun H2 s => s _ _ upd_same) ?_ (fun H9 s9' => ⟨s9' _ _ upd_same, true, rfl, ?_⟩)
    · rintro i v H2 H2' hi s ⟨rfl, k, hk⟩
      obtain ⟨z, a, h1, h2, h3⟩ := zipF_get (κ := Key) hk
      cases h3
      obtain ⟨z', h4, row, h5, h6⟩ := paired_at hp3 h2
      rw [h1] at h4
      cases h4
      refine ⟨Same.refl _, fun Q' hQ => ⟨by simp [wipe], _, rfl, _, rfl, a, r, R, row, rfl, ?_, s _ _ (lst_lock hs38 (s8 _ _ hrr)), (W.ends z row h5).2.ok, fun H5 s5 => hQ _ s5⟩⟩
      exact ((h6.tups (Tups.same s8)).tups (tups_lock hs38)).tups (Tups.same s)
    have s9c := same_lock hs38 s9'
    have s9 := s8.trans s9c
    have hdue9 := s9c _ _ ((same_lock hs37 s8') _ _ (s7b _ _ hdue))
    have hdu9 : DueAt _ ps (duo S L) := (((hdu.same (Tups.same s7b)).same (Tups.same (same_lock hs37 s8'))).same (Tups.same s9c))
    have hx9 := s9 _ _ hx
    refine no_if (nx_of (seq_fld ?_))
    have hrA := s9 _ _ hrr
    have hhA : HeldAt _ d1 R fs := s9 _ _ hh
    have hstA := StepsD.stl (Stl.of (CR := CP) s9) hst0
    have henA := EndsD.stl (Stl.of (CR := CP) s9) hen0
    generalize upd H9 d3 (HO.dK (zipF (κ := Key) (fun s : Nat => Sum.inl (s : Int)) (endL S ens) as3)) = HA at hrA hhA hstA henA s9 hdue9 hdu9 hx9 ⊢
    have F0 : FS HA CP x dx [] HA := ⟨But.refl x HA, hx9⟩
    -- self.letters
    refine ⟨⟨_, rfl⟩, _, rfl, mkS L, rfl, by show L.length < 64; have := hL.len; omega, fun ys p11 hperm hsort hp11 => ⟨_, p11, ys, rfl, rfl, .inl (SqL.of upd_same), ?_, ?_⟩⟩
    · have e0 : (Str.length "") = 0 := rfl
      have e1 : ∀ l : List Str, (∀ z ∈ l, z.length = 1) → (l.map (·.length)).sum = l.length := fun l => by
        induction l with
        | nil => intro _; rfl
        | cons a t ih => intro h; rw [List.map_cons, List.sum_cons, ih fun z hz => h z (List.mem_cons_of_mem _ hz), h a (List.mem_cons_self ..), List.length_cons]; omega
      rw [e0, Nat.mul_zero, e1 ys fun z hz => by
        have := hperm.mem_iff.mp hz
        unfold signs at this
        obtain ⟨c, _, rfl⟩ := List.mem_map.mp this
        rfl, hperm.length_eq, signs_length]
      have := hL.len
      show L.length + 0 ≤ _
      omega
    rw [sorted_letters hL hperm hsort]
    have F1 := F0.same (same_new (o := .lst (ys.map V.str)) hp11)
    refine ⟨_, rfl, F1.fld C.cls C.a1 (by show 0 < 1000; decide) (by show _ ∉ []; decide +kernel) fun H12 F2 _ => ?_⟩
    -- self.states
    refine seq_fld ⟨_, rfl, _, rfl, F2.fld C.cls C.a2 (by show 1 < 1000; decide) (by show _ ∉ [("letters" : Str)]; decide +kernel) fun H13 F3 _ => ?_⟩
    -- self.registers
    refine seq_fld ?_
    have hr3 := F3.stl hx9 _ _ hrA (fz_strs R)
    refine ⟨_, rfl, r, R, rfl, SqL.of hr3, by omega, fun ys2 p hperm2 hsort2 hp => ?_⟩
    rw [sorted_regs hR hperm2 hsort2]
    have F4 := F3.same (same_new (o := .lst (R.map V.str)) hp)
    have nex : p ≠ x := (ne_of_none F3.ins hp).symm
    refine ⟨_, rfl, F4.fld C.cls C.a3 (by show 2 < 1000; decide) (by show _ ∉ [("letters" : Str), "states"]; decide +kernel) fun H15 F5 b5 => ?_⟩
    have hp5 := b5 _ _ upd_same nex
    -- self.firsts
    refine seq_fld ?_
    refine ⟨_, rfl, x, CP, dx, _, .ref p, rfl, F5.ins, C.cls, C.a3, rfl, p, rfl, ⟨_, SqL.of hp5⟩, fun D hD => ?_⟩
    have hh5 : HeldAt H15 d1 R fs := hhA.stl (F5.stl hx9)
    refine dc_it (walk_list (xs := R.map V.str)) (fun i H2 => Same H15 H2 ∧ H2 D = some (.dK (heldK (R.take i) fs))) ⟨same_new hD, upd_same⟩ (fun i H2 _ h => SqL.of (h.1 _ _ hp5)) ?_ ?_
    · rintro i v H2 H2' hi ⟨s2, hD2⟩ ⟨rfl, hv⟩
      rw [List.getElem?_map] at hv
      obtain ⟨z, hz, rfl⟩ := Option.map_eq_some_iff.mp hv
      have hzR := mem_of_get hz
      have hh6 : HeldAt H2' d1 R fs := s2 _ _ hh5
      refine ⟨by simp [wipe], yes_then ⟨_, rfl, _, rfl, d1, rfl, .inl ⟨_, .inl hh6⟩, _, rfl, _, hh6.get hzR, _, Sum.inr z, rfl, hD2, ?_, fun b o e => ?_, ?_⟩⟩
      · rw [heldK_len, List.length_take]
        exact Nat.lt_of_le_of_lt (Nat.min_le_right ..) (Nat.lt_of_le_of_lt hR2 (by decide))
      · rw [upd_ne (ne_of_none e hD)]
        exact s2 _ _ e
      · have hzn : z ∉ R.take i := fun hm => by
          have h1 : (R.take (i + 1)).Nodup := hR.nd.sublist (List.take_sublist _ _)
          rw [List.take_add_one, hz, List.nodup_append] at h1
          exact h1.2.2 z hm z (by simp) rfl
        rw [upd_same, List.take_add_one, hz]
        show some (HO.dK (putK (heldK (R.take i) fs) (Sum.inr z) (.str (fs z)))) = _
        rw [heldK_snoc hzn]
        rfl
    rintro H16 ⟨s16, hD16⟩
    rw [List.length_map, List.take_length] at hD16
    have F6 := F5.same s16
    have neD : D ≠ x := (ne_of_none F5.ins hD).symm
    refine ⟨_, rfl, F6.fld C.cls C.a4 (by show 3 < 1000; decide) (by show _ ∉ [("letters" : Str), "states", "registers"]; decide +kernel) fun H17 F7 b7 => ?_⟩
    have hp7 := b7 _ _ (s16 _ _ hp5) nex
    have hh7 : HeldAt H17 D R fs := b7 _ _ hD16 neD
    -- self.steps
    refine seq_fld ?_
    have hdue7 := F7.stl hx9 _ _ hdue9 (fun i h => by obtain ⟨z, _, e⟩ := List.mem_map.mp h; cases e)
    have hdu7 := hdu9.same (Tups.stl (F7.stl hx9))
    have hst7 := hstA.stl (F7.stl hx9)
    refine ⟨_, rfl, due, ps, (duo S L).map fun k => ((k.1 : Int), mkS [k.2]), rfl, SqL.of hdue7, paired_map hdu7 (fun _ _ h => h), due_ord hS1 hS2 hL, fun p2 hp2' => ?_⟩
    have s18 := same_new (o := .lst (ps.map V.ref)) hp2'
    have F8 := F7.same s18
    generalize hH18 : upd H17 p2 (.lst (ps.map V.ref)) = H18 at s18 F8 ⊢
    have hp2 : H18 p2 = some (.lst (ps.map V.ref)) := by rw [← hH18, upd_same]
    refine ⟨p2, rfl, ⟨_, SqL.of hp2⟩, fun D2 hD2 => ?_⟩
    refine dcT_it (walk_list (xs := ps.map V.ref)) (fun i H2 => Same H18 H2 ∧ ∃ as, H2 D2 = some (.dT (zipF duoK ((duo S L).take i) as)) ∧ Paired (fun a (k : Nat × Nat) => StepAt H2 a R ((stp k.1 k.2).1, fun r => jn ((stp k.1 k.2).2 r))) as ((duo S L).take i)) ⟨same_new hD2, [], upd_same, .nil⟩ (fun i H2 _ h => SqL.of (h.1 _ _ hp2)) ?_ ?_
    · rintro i v H2 H2' hi ⟨s2, as, hDa, hpa⟩ ⟨rfl, hv⟩
      rw [List.getElem?_map] at hv
      obtain ⟨q1, hq1, rfl⟩ := Option.map_eq_some_iff.mp hv
      obtain ⟨⟨s', c⟩, hk, hqk⟩ := paired_at hdu7 hq1
      have hsc := mem_duo.mp (List.mem_of_getElem? hk)
      have hqk2 := s2 _ _ (s18 _ _ hqk)
      have hst8 : StepsD H2' d2 R (duo S L) stp := (hst7.stl (Stl.of (CR := CP) s18)).stl (Stl.of (CR := CP) s2)
      obtain ⟨a, hg, d, ha1, hd1⟩ := hst8.get hsc.1 hsc.2 hqk2
      have F8' := F8.same s2
      have hro := W.rows s' c hsc.1 hsc.2
      refine ⟨by simp [wipe], yes_then ⟨_, rfl, ?_⟩⟩
      refine ⟨_, rfl, _, rfl, d2, _, rfl, hg, a, _, _, _, rfl, rfl, SqT.of ha1, rfl, ?_⟩
      refine ⟨_, rfl, _, rfl, d2, _, rfl, hg, a, _, _, _, rfl, rfl, SqT.of ha1, rfl, _, rfl, x, CP, dx, _, .ref p, rfl, F8'.ins, C.cls, C.a3, rfl, ?_⟩
      refine ⟨d, p, R, (stp s' c).2, rfl, hd1, hR, fun r hr => ⟨fun it hit => (hro.ok r hr it hit).g hR, Nat.le_trans (hro.len r hr) (by decide)⟩, s2 _ _ (s18 _ _ hp7), fun d' H3 s3 hd' => ⟨by show 2 ≤ sizeLine; decide, fun t ht => ?_⟩⟩
      have s4 := s3.trans (same_new (o := .tup [.int ((stp s' c).1 : Nat), .ref d']) ht)
      have hDa4 := s4 _ _ hDa
      have hval : valV (zipF duoK ((duo S L).take i) as) (duoK (s', c)) = none := zipF_none fun y hy z => not_take (duo_nd hS2 hL) hk (by rw [← duoK_inj z]; exact hy)
      have hlenA := paired_length hpa
      refine ⟨_, duoK (s', c), q1, rfl, s4 _ _ hqk2, hDa4, ?_, fun b o e => ?_, as ++ [t], ?_, ?_⟩
      · rw [zipF_len hlenA, List.length_take]
        exact Nat.lt_of_le_of_lt (Nat.le_trans (Nat.min_le_right ..) hduo4) (by decide)
      · rw [upd_ne (ne_of_none e hD2)]
        exact s4 _ _ (s2 _ _ e)
      · rw [upd_same, putK_new _ hval, List.take_add_one, hk, ← zipF_snoc hlenA]
        rfl
      · rw [List.take_add_one, hk]
        have tp : ∀ {o : HO}, Tups (upd H3 t (.tup [.int ((stp s' c).1 : Nat), .ref d'])) (upd (upd H3 t (.tup [.int ((stp s' c).1 : Nat), .ref d'])) D2 o) := fun b l hb => by
          rw [upd_ne fun z => by subst z; rw [hDa4] at hb; cases hb]
          exact hb
        have dk : ∀ {o : HO} d kvs, (upd H3 t (.tup [.int ((stp s' c).1 : Nat), .ref d'])) d = some (.dK kvs) → (upd (upd H3 t (.tup [.int ((stp s' c).1 : Nat), .ref d'])) D2 o) d = some (.dK kvs) := fun d kvs hb => by
          rw [upd_ne fun z => by subst z; rw [hDa4] at hb; cases hb]
          exact hb
        refine paired_snoc (paired_imp hpa fun _ _ _ h => (h.stl (Stl.of (CR := CP) s4)).tups tp dk) ?_
        exact StepAt.tups tp dk ⟨d', upd_same, hd'.stl (Stl.of (CR := CP) (same_new ht))⟩
    rintro H19 ⟨s19, as19, hD19, hp19⟩
    rw [List.length_map, hlenD, List.take_length] at hD19 hp19
    have F9 := F8.same s19
    have neD2 : D2 ≠ x := (ne_of_none F8.ins hD2).symm
    refine ⟨_, rfl, F9.fld C.cls C.a5 (by show 4 < 1000; decide) (by show _ ∉ [("letters" : Str), "states", "registers", "firsts"]; decide +kernel) fun H20 F10 b10 => ?_⟩
    have sl10 : Stl CP H19 H20 := Stl.but b10 fun o ho hf => by rw [F9.ins] at ho; cases ho; exact hf rfl
    have hp10 := b10 _ _ (s19 _ _ (s18 _ _ hp7)) nex
    have hh10 : HeldAt H20 D R fs := b10 _ _ (s19 _ _ (s18 _ _ hh7)) neD
    have hst10 : StepsD H20 D2 R (duo S L) (fun s c => ((stp s c).1, fun r => jn ((stp s c).2 r))) := StepsD.stl sl10 ⟨as19, hD19, hp19⟩
    -- self.ends
    refine fld_of ?_
    have hen10 := henA.stl (F10.stl hx9)
    obtain ⟨as20, hE20, hpE20⟩ := hen10
    have hlen20 := paired_length hpE20
    refine ⟨_, rfl, d3, _, (endL S ens).map fun s : Nat => (s : Int), rfl, .inl hE20, by rw [zipF_keys hlen20, List.map_map]; rfl, by rw [List.length_map]; omega, fun ys3 p3 hperm3 hsort3 hp3' => ?_⟩
    rw [sorted_ends hS2 hperm3 hsort3]
    have s21 := same_new (o := .lst (((endL S ens).map fun s : Nat => (s : Int)).map V.int)) hp3'
    have F11 := F10.same s21
    generalize hH21 : upd H20 p3 (.lst (((endL S ens).map fun s : Nat => (s : Int)).map V.int)) = H21 at s21 F11 ⊢
    have hp21 : H21 p3 = some (.lst (((endL S ens).map fun s : Nat => (s : Int)).map V.int)) := by rw [← hH21, upd_same]
    refine ⟨p3, rfl, ⟨_, SqL.of hp21⟩, fun D3 hD3 => ?_⟩
    refine dc_it (walk_list (xs := ((endL S ens).map fun s : Nat => (s : Int)).map V.int)) (fun i H2 => Same H21 H2 ∧ ∃ as, H2 D3 = some (.dK (zipF (κ := Key) (fun s : Nat => Sum.inl (s : Int)) ((endL S ens).take i) as)) ∧ Paired (fun a s => ∃ e, (ens s).map jn = some e ∧ RowAt H2 a e) as ((endL S ens).take i)) ⟨same_new hD3, [], upd_same, .nil⟩ (fun i H2 _ h => SqL.of (h.1 _ _ hp21)) ?_ ?_
    · rintro i v H2 H2' hi ⟨s2, as, hDa, hpa⟩ ⟨rfl, hv⟩
      rw [List.map_map, List.getElem?_map] at hv
      obtain ⟨s', hk, rfl⟩ := Option.map_eq_some_iff.mp hv
      have hmem := List.mem_of_getElem? hk
      have hsS := mem_endL hmem
      have hen22 : EndsD H2' d3 (endL S ens) ens := (EndsD.stl (Stl.of (CR := CP) s21) ⟨as20, hE20, hpE20⟩).stl (Stl.of (CR := CP) s2)
      have hsome : (ens s').isSome = true := (List.mem_filter.mp hmem).2
      rcases hen22.get hsS with ⟨hn, _⟩ | ⟨row, a, he, hg, hrow⟩
      · rw [hn] at hsome
        cases hsome
      have heo := (W.ends s' row he).2
      refine ⟨by simp [wipe], yes_then ⟨_, rfl, ?_⟩⟩
      refine ⟨_, rfl, _, rfl, d3, _, rfl, hg, a, row, rfl, hrow, fun it hit => (heo.ok it hit).g hR, Nat.le_trans heo.len (by decide), fun t H3 s3 ht => ?_⟩
      have hDa4 := s3 _ _ hDa
      have hval : valV (zipF (κ := Key) (fun s : Nat => Sum.inl (s : Int)) ((endL S ens).take i) as) (Sum.inl (s' : Int)) = none := zipF_none fun y hy z => not_take (endL_nd S ens) hk (by
        have e : (y : Int) = s' := Sum.inl.inj z
        have e : y = s' := by omega
        rw [← e]; exact hy)
      have hlenA := paired_length hpa
      refine ⟨_, Sum.inl (s' : Int), rfl, hDa4, ?_, fun b o e => ?_, as ++ [t], ?_, ?_⟩
      · rw [zipF_len hlenA, List.length_take]
        exact Nat.lt_of_le_of_lt (Nat.le_trans (Nat.min_le_right ..) hend2) (by decide)
      · rw [upd_ne (ne_of_none e hD3)]
        exact s3 _ _ (s2 _ _ e)
      · rw [upd_same, putK_new _ hval, List.take_add_one, hk, ← zipF_snoc (kf := fun s : Nat => (Sum.inl (s : Int) : Key)) hlenA]
        rfl
      · rw [List.take_add_one, hk]
        refine paired_snoc (paired_imp hpa fun _ _ _ ⟨e, h1, h2⟩ => ⟨e, h1, (h2.tups (Tups.same s3)).tups (tups_lock hDa4)⟩) ⟨jn row, by rw [he]; rfl, ht.tups (tups_lock hDa4)⟩
    rintro H22 ⟨s22, as22, hD22, hp22⟩
    rw [List.length_map, List.length_map, List.take_length] at hD22 hp22
    have F12 := F11.same s22
    have neD3 : D3 ≠ x := (ne_of_none F11.ins hD3).symm
    refine ⟨_, rfl, F12.fld C.cls C.a6 (by show 5 < 1000; decide) (by show _ ∉ [("letters" : Str), "states", "registers", "firsts", "steps"]; decide +kernel) fun H23 F13 b13 => ?_⟩
    have sl13 : Stl CP H22 H23 := Stl.but b13 fun o ho hf => by rw [F12.ins] at ho; cases ho; exact hf rfl
    have s23 := s21.trans s22
    refine q H23 ((But.of s9).trans F13.but) ⟨dx, p, D, D2, D3, F13.ins, b13 _ _ (s23 _ _ hp10) nex, b13 _ _ (s23 _ _ hh10) neD, (hst10.stl (Stl.of (CR := CP) s23)).stl sl13, ?_⟩
    exact EndsD.stl sl13 ⟨as22, hD22, hp22⟩
end
end Pt
end

section
set_option Elab.async false
set_option maxRecDepth 100000
set_option maxHeartbeats 2000000
set_option linter.unusedSectionVars false
set_option linter.unusedVariables false
namespace Pt
open PySem PySem.Spec PyProof.Rows L2
/-! ### methods by their names -/
structure Me (P : Program) (w : World) (K : PySem.W.Frag) (mg : Str → Option Value) (base : Heap) (CX : CXT) (k : Nat) (C : Addr) (m : Str) (ps : List Str) (sp : Sp) : Prop where
  ex : ∃ f fd, Meth K C m f ∧ FnOk P w K mg base CX k f fd ps sp ∧ L2.Binds K fd ps []
section
variable {X : Cx} {CX : CXT} {k j : Nat} {C : Addr} {m : Str} {ps : List Str} {sp : Sp} {ta : TE} {t : TA} {o e : Expr} {es : List Expr} {apos pos : Pos} {E : XK}
theorem pe_me {pl : Sem Bool} (c : Me X.prog X.w X.K X.mg X.base CX k C m ps sp) (cc : Cls X.K C) (hr : Room j X.A) (hk : k ≤ j) (hx : Passes CX X E) (ho : PE X o ta) (ha : PA X (e :: es) t)
    (hst : starEach (e :: es) X.env = (false, eval e X.env) :: starEach es X.env := by rfl) (hpl : (backTo pos (starEach es X.env)).any (·.1) = false := by rfl)
    (ht : eval (.Call (.Attribute o m apos) (e :: es) [] pos) X.env = (do
      let ov ← eval o X.env
      standAt apos.atName
      let (f, first) ← holding [ov] (getMethod ov m pl)
      callWith pos f first (backTo pos (starEach (e :: es) X.env)) (backToKw pos (keywordEach [] X.env))) := by rfl) :
    PE X (.Call (.Attribute o m apos) (e :: es) [] pos) (tMeth C m sp [] E ta t) := by
  obtain ⟨f, fd, hm, F, b⟩ := c.ex
  exact pe_meth (pl := pl) ho cc hm F (hr.mono hk) b .nil hx ha hst hpl ht
theorem pe_me0 {pl : Sem Bool} (c : Me X.prog X.w X.K X.mg X.base CX k C m ps sp) (cc : Cls X.K C) (hr : Room j X.A) (hk : k ≤ j) (hx : Passes CX X E) (ho : PE X o ta)
    (ht : eval (.Call (.Attribute o m apos) [] [] pos) X.env = (do
      let ov ← eval o X.env
      standAt apos.atName
      let (f, first) ← holding [ov] (getMethod ov m pl)
      callWith pos f first (backTo pos (starEach [] X.env)) (backToKw pos (keywordEach [] X.env))) := by rfl) :
    PE X (.Call (.Attribute o m apos) [] [] pos) (tMeth C m sp [] E ta tNil) := by
  obtain ⟨f, fd, hm, F, b⟩ := c.ex
  exact pe_meth0 (pl := pl) ho cc hm F (hr.mono hk) b .nil hx ht
end
/-! ### BadWord -/
structure BwK (P : Program) (w : World) (K : PySem.W.Frag) (mg : Str → Option Value) (base : Heap) (CB : Addr) : Prop where
  oex : OexC K CB
  gl : mg "BadWord" = some (.ref CB)
  no : PySem.W.findIn K (.ref CB) "place" = some none
  xf : XfC K CB
  ini : ∃ fI, PySem.W.findIn K (.ref CB) "__init__" = some (some (.ref fI)) ∧ PySem.W.typeIn K (.ref fI) = some (.type "function") ∧ ∃ fd, Fun K "__init__" "BadWord.__init__" (inClass (top 4) 0) fI fd ∧ L2.Binds K fd ["self", "place"] []
def spBW (CB : Addr) : Sp := fun vs H Q _ => ∃ (a : Addr) (v : V), vs = [.ref a, v] ∧ H a = some (exo a CB none) ∧ ∀ dx, H dx = none → dx ≠ a → Q .non (upd (upd H dx (exd dx [("place", v)])) a (exo a CB (some dx)))
section
variable {P : Program} {w : World} {K : PySem.W.Frag} {mg : Str → Option Value} {base : Heap}
theorem scBW : FnScope ["self", "place"] ["self", "place"] (defScope (inClass (top 4) 0)) := ⟨rfl, rfl, rfl, by decide +kernel, rfl, by decide +kernel, by decide +kernel⟩
theorem ok_bw {CB : Addr} {f : Addr} {fd : FuncData} (F : Fun K "__init__" "BadWord.__init__" (inClass (top 4) 0) f fd) (T : OexC K CB) (no : PySem.W.findIn K (.ref CB) "place" = some none) : FnOk P w K mg base CX0 1 f fd ["self", "place"] (spBW CB) := by
  refine F.ok scBW (fun vs H Q E h => ?_) (fun cdv A outer s H vs Q E hr h => ?_)
  · obtain ⟨a, v, rfl, _⟩ := h
    rfl
  · obtain ⟨a, v, rfl, ha, q⟩ := h
    refine ⟨_, pss_one (ps_ost (pv 0) (pv 1) rfl), ?_⟩
    exact ⟨_, rfl, _, rfl, a, CB, rfl, T, no, .inl ⟨ha, q⟩⟩
/-- BadWord(e) in a raise: what is raised -/
theorem pmk_bw {X : Cx} {CB : Addr} (T : BwK X.prog X.w X.K X.mg X.base CB) {j : Nat} (hr : Room j X.A) (hj : 2 ≤ j) {e : Expr} {ta : TA} {p pos : Pos} (hg : Gl X "BadWord") (ha : PA X [e] ta)
    (he : starEach [e] X.env = (false, eval e X.env) :: starEach [] X.env := by rfl) :
    PMk X (.Call (.Name "BadWord" p) [e] [] pos) (tMkO CB (spBW CB) [] ta) := by
  obtain ⟨fI, iC, tI, fd, F, b⟩ := T.ini
  exact pmk_oex T.oex iC tI (ok_bw F T.oex T.no) (hr.mono hj) b .nil pass0 hg T.gl ha (by decide) he rfl
/-- .. the reading -/
theorem bw_raised {CB : Addr} {ta : TA} {σ : L2.St} {H : Hp} {Q : XK} {v : V} {H1 : Hp} (hv : ∀ R : List V → Hp → Prop, R [v] H1 → ta σ H R) (q : ∀ d H', Same H1 H' → H' d = some (.xd [("place", v)]) → Q (.ref CB) (some d) H') : tMkO CB (spBW CB) [] ta σ H Q := by
  refine hv _ ⟨by show 1 ≤ 1000; decide, fun a hn => ⟨a, v, rfl, upd_same, fun dx hdx hne => ?_⟩⟩
  have hdx1 : H1 dx = none := by rw [upd_ne hne] at hdx; exact hdx
  refine ⟨rfl, dx, [("place", v)], upd_same, by rw [upd_ne hne, upd_same], hdx1, q dx _ (fun b o e => ?_) upd_same⟩
  have n1 := ne_of_none e hdx1
  have n2 := ne_of_none e hn
  rw [upd_ne n1, del_ne n2, upd_ne n2, upd_ne n1, upd_ne n2]
  exact e
end
/-! ### check -/
abbrev sCheck : Stmt := inClass (top 22) 2
def spCheck0 (CP : Addr) : Sp := fun vs H Q _ => ∃ (p : Addr) (T : Mach) (z : Str), vs = [.ref p, .str z] ∧ ProgAt H CP p T ∧ (∀ c ∈ cs z, c ∈ T.letters) ∧ ∀ H', Same H H' → Q .non H'
def BadAt (L : List Nat) (z : Str) (i : Nat) : Prop := (∃ c, z.cps[i]? = some c ∧ c ∉ L) ∧ ∀ j c, j < i → z.cps[j]? = some c → c ∈ L
def spCheckX (CP CB : Addr) : Sp := fun vs H Q E => ∃ (p : Addr) (T : Mach) (t : V), vs = [.ref p, t] ∧ ProgAt H CP p T ∧
  ((∃ z i, t = .str z ∧ BadAt T.letters z i ∧ ∀ d H', Same H H' → H' d = some (.xd [("place", .int (i : Nat))]) → E (.ref CB) (some d) H') ∨
    (t = .non ∧ ∀ d H', Same H H' → H' d = some (.xd [("place", .non)]) → E (.ref CB) (some d) H'))
section
variable {P : Program} {w : World} {K : PySem.W.Frag} {mg : Str → Option Value} {base : Heap}
theorem scCheck : FnScope ["self", "text", "place", "letter"] ["self", "text"] (defScope sCheck) := ⟨rfl, rfl, rfl, by decide +kernel, rfl, by decide +kernel, by decide +kernel⟩
theorem ProgAt.same {H H' : Hp} {CP p : Addr} {T : Mach} (s : Same H H') (x : ProgAt H CP p T) : ProgAt H' CP p T := by
  obtain ⟨dx, r, d1, d2, d3, h0, h1, h2, h3, h4⟩ := x
  exact ⟨dx, r, d1, d2, d3, s _ _ h0, s _ _ h1, s _ _ h2, h3.stl (Stl.of (CR := 0) s), h4.stl (Stl.of (CR := 0) s)⟩
theorem ok_check0 {CP : Addr} {f : Addr} {fd : FuncData} (F : Fun K "check" "Program.check" sCheck f fd) (B : Bl mg) (C : PrK K CP) : FnOk P w K mg base CX0 1 f fd ["self", "text"] (spCheck0 CP) := by
  refine F.ok scCheck (fun vs H Q E h => ?_) (fun cdv A outer s H vs Q E hr h => ?_)
  · obtain ⟨p, T, z, rfl, _⟩ := h
    rfl
  · obtain ⟨p, T, z, rfl, hp, hz, q⟩ := h
    refine ⟨_, pss_cons (ps_if (pt_not (pt_val (pe_callB call_isi (by rfl) B.isi boot_isinstance (pa_cons (pv 1) (pa_cons (pe_bltn (by rfl) B.str PyProof.Rows.boot_str (v := .ty "str") rfl) pa_nil))))) pss_never pss_nil)
      (pss_one (ps_for PassesOwn.never rfl (pi_enumS rfl B.enum (pa_cons (pv 1) pa_nil)) (pg_tup rfl (pgs_cons (pg_name (i := 2) scCheck.nd rfl (.inl rfl)) (pgs_cons (pg_name (i := 3) scCheck.nd rfl (.inl rfl)) pgs_nil)))
        (pss_one (ps_if (pt_cmpR op_notIn_sign (pv 3) (pe_fld (pv 0) rfl) (by rfl)) pss_never pss_nil)))), ?_⟩
    refine ⟨_, rfl, _, _, _, _, true, rfl, .ty _, .base (.str z), kit_ty (by decide +kernel), true, rfl, ?_⟩
    refine ⟨_, rfl, z, rfl, ?_⟩
    refine for_it walk_enumS (fun i σ H2 => ∃ x2 x3, σ = [some (.ref p), some (.str z), x2, x3] ∧ Same H H2) ⟨none, none, rfl, Same.refl _⟩ (fun _ _ _ _ _ => trivial) ?_ ?_
    · rintro i x σ H2 H2' hi ⟨x2, x3, rfl, s2⟩ ⟨T1, c, rfl, hn, hc, rfl⟩
      have s3 := s2.trans (same_new (o := .tup [.int (i : Nat), .str ⟨#[c]⟩]) hn)
      obtain ⟨dx, r, d1, d2, d3, h0, _⟩ := hp.same s3
      have hcL : c ∈ T.letters := hz c (by rw [Array.getElem?_eq_some_iff] at hc; obtain ⟨h1, h2⟩ := hc; rw [← h2]; simp)
      refine ⟨T1, _, rfl, SqT.of upd_same, rfl, _, _, rfl, _, _, rfl, rfl, ?_⟩
      refine ⟨_, rfl, _, rfl, p, CP, dx, _, _, rfl, h0, C.cls, C.a1, rfl, c, mkS T.letters, rfl, rfl, false, ?_, _, _, rfl, s3⟩
      rw [show (mkS T.letters).cps.toList = T.letters from cs_mkS _, decide_eq_true hcL]
      rfl
    · rintro σ H2 ⟨x2, x3, rfl, s2⟩
      exact q H2 s2
theorem ok_checkX {CP CB : Addr} {f : Addr} {fd : FuncData} (F : Fun K "check" "Program.check" sCheck f fd) (B : Bl mg) (C : PrK K CP) (W : BwK P w K mg base CB) : FnOk P w K mg base (L2.CX P w) 3 f fd ["self", "text"] (spCheckX CP CB) := by
  refine F.okX scCheck (fun vs H Q E h => ?_) (fun cdv A outer s H vs Q E hr h => ?_)
  · obtain ⟨p, T, z, rfl, _⟩ := h
    rfl
  · obtain ⟨p, T, t, rfl, hp, h⟩ := h
    have tk : Takes (cxOf (L2.CX P w) P w K mg base ["self", "text", "place", "letter"] "Program.check" (defScope sCheck) f cdv A outer s H E) (fun cls d _ H => E cls d H) := takes_of rfl rfl rfl rfl
    refine ⟨_, pss_cons (ps_if (pt_not (pt_val (pe_callB call_isi (by rfl) B.isi boot_isinstance (pa_cons (pv 1) (pa_cons (pe_bltn (by rfl) B.str PyProof.Rows.boot_str (v := .ty "str") rfl) pa_nil)))))
        (pss_one (ps_raise rfl tk (pmk_bw W hr (by decide) rfl (pa_cons pe_non pa_nil)))) pss_nil)
      (pss_one (ps_for (passes_of rfl) rfl (pi_enumS rfl B.enum (pa_cons (pv 1) pa_nil)) (pg_tup rfl (pgs_cons (pg_name (i := 2) scCheck.nd rfl (.inl rfl)) (pgs_cons (pg_name (i := 3) scCheck.nd rfl (.inl rfl)) pgs_nil)))
        (pss_one (ps_if (pt_cmpR op_notIn_sign (pv 3) (pe_fld (pv 0) rfl) (by rfl)) (pss_one (ps_raise rfl tk (pmk_bw W hr (by decide) rfl (pa_cons (pv 2) pa_nil)))) pss_nil)))), ?_⟩
    rcases h with ⟨z, i, rfl, hbad, q⟩ | ⟨rfl, q⟩
    · refine ⟨_, rfl, _, _, _, _, true, rfl, .ty _, .base (.str z), kit_ty (by decide +kernel), true, rfl, ?_⟩
      refine ⟨_, rfl, z, rfl, ?_⟩
      obtain ⟨⟨c0, hc0, hnL⟩, hall⟩ := hbad
      have hi0 : i < z.cps.size := (Array.getElem?_eq_some_iff.mp hc0).1
      refine for_it walk_enumS (fun k σ H2 => k ≤ i ∧ ∃ x2 x3, σ = [some (.ref p), some (.str z), x2, x3] ∧ Same H H2) ⟨Nat.zero_le _, none, none, rfl, Same.refl _⟩ (fun _ _ _ _ _ => trivial) ?_ ?_
      · rintro k x σ H2 H2' hi ⟨hki, x2, x3, rfl, s2⟩ ⟨T1, c, rfl, hn, hc, rfl⟩
        have s3 := s2.trans (same_new (o := .tup [.int (k : Nat), .str ⟨#[c]⟩]) hn)
        obtain ⟨dx, r, d1, d2, d3, h0, _⟩ := hp.same s3
        refine ⟨T1, _, rfl, SqT.of upd_same, rfl, _, _, rfl, _, _, rfl, rfl, ?_⟩
        refine ⟨_, rfl, _, rfl, p, CP, dx, _, _, rfl, h0, C.cls, C.a1, rfl, c, mkS T.letters, rfl, rfl, _, rfl, ?_⟩
        rw [show (mkS T.letters).cps.toList = T.letters from cs_mkS _]
        by_cases hk : k = i
        · subst hk
          rw [hc0] at hc
          cases hc
          rw [decide_eq_false hnL]
          refine if_yes ?_
          exact bw_raised (fun R h => ⟨_, rfl, h⟩) fun d H' s' hd => q d H' (s3.trans s') hd
        · have hcL := hall k c (by omega) hc
          rw [decide_eq_true hcL]
          exact ⟨by omega, _, _, rfl, s3⟩
      · rintro σ H2 ⟨hki, _⟩
        omega
    · refine ⟨_, rfl, _, _, _, _, false, rfl, .ty _, .base .non, kit_ty (by decide +kernel), false, rfl, ?_⟩
      refine if_yes ?_
      exact bw_raised (fun R h => h) fun d H' s' hd => q d H' s' hd
end
end Pt
end

section
set_option Elab.async false
set_option maxRecDepth 100000
set_option maxHeartbeats 2000000
set_option linter.unusedSectionVars false
set_option linter.unusedVariables false
namespace Pt
open PySem PySem.Spec PyProof.Rows L2
theorem pg_tupK {X : Cx} {pos : Pos} {es : List Expr} {k : Nat} {t : TGs} {n : Nat} (K : PySem.W.Frag) (hK : X.K = K) (hc : X.calm = true) (h : PGs X es t) (hn : (assignEach es X.env).length = n := by rfl) (hst : (assignEach es X.env).findIdx? (·.1) = none := by rfl) : PG X (.Tuple es k pos) (gTup K n t) := by
  subst hK
  exact pg_tup hc h hn hst
/-- {name: text_of(row, held) for name, row in rows.items()} -/
theorem rows_read {K : PySem.W.Frag} {tl tx : TE} {σ : L2.St} {H : Hp} {Q : VK} {i j : Nat} {d hd : Addr} {R : List Str} {f : Str → Row} {h : Str → Str} (nd : R.Nodup) (hz : R.length ≤ 1000) (hrd : RowsD H d R f) (hh : HeldAt H hd R h)
    (htl : ∀ (H' : Hp) (Q : VK), Q (.ref d) H' → tl σ H' Q) (htx : ∀ (x y : V) (H' : Hp) (Q : VK), (∀ b o, H b = some o → b ≠ d → H' b = some o) → Q (.ref hd) H' → tx (((wipe σ [i, j]).set i (some x)).set j (some y)) H' Q)
    (hw : ∀ x y, wipe (((wipe σ [i, j]).set i (some x)).set j (some y)) [i, j] = wipe σ [i, j]) (hi : ∀ x y, (((wipe σ [i, j]).set i (some x)).set j (some y))[i]? = some (some x)) (hj : ∀ x y, (((wipe σ [i, j]).set i (some x)).set j (some y))[j]? = some (some y))
    (hreg : ∀ r ∈ R, ∀ x, It.reg x ∈ f r → x ∈ R) (hlen : ∀ r ∈ R, (f r).length ≤ 1000) (hsz : ∀ r ∈ R, (cs (wr (f r) h)).length ≤ 10 ^ 6)
    (q : ∀ d' H', Same H H' → HeldAt H' d' R (fun r => wr (f r) h) → Q (.ref d') H') :
    tLockE (tDc (iItems tl) (gTup K 2 (gCons (gName i) (gCons (gName j) gNil))) tYes (tVar i) (tCall spText [] E0 (tCons (tVar j) (tCons tx tNil))) [i, j]) σ H Q := by
  obtain ⟨as, hd0, hp⟩ := hrd
  have hlenA := paired_length hp
  refine ⟨d, _, hd0, trivial, fun od => ?_⟩
  refine htl _ _ ⟨d, od, _, rfl, upd_same, fun D hD => ?_⟩
  have neDd : D ≠ d := fun z => by subst z; rw [upd_same] at hD; cases hD
  refine dc_it (walk_items (d := d) (o := od) (kvs := zipF (κ := Key) Sum.inr R as)) (Qd := fun H' => H' d = some (.frz od (.dK (zipF (κ := Key) Sum.inr R as))) ∧ Q (.ref D) (upd H' d (.dK (zipF (κ := Key) Sum.inr R as))))
    (fun k H2 => Same (upd H d (.frz od (.dK (zipF (κ := Key) Sum.inr R as)))) H2 ∧ H2 D = some (.dK (heldK (R.take k) fun r => wr (f r) h))) ⟨same_new hD, upd_same⟩ (fun k H2 _ s => s.1 _ _ upd_same) ?_ ?_
  · rintro k v H2 H2' hk ⟨s2, hD2⟩ ⟨T, x, y, rfl, hT, rfl, hx, hy⟩
    obtain ⟨kv, hkv, e1⟩ := Option.map_eq_some_iff.mp hx
    have hy' : ((zipF (κ := Key) Sum.inr R as)[k]?).map Prod.snd = some y := hy
    rw [hkv] at hy'
    have e2 : kv.2 = y := Option.some.inj hy'
    obtain ⟨r, a, h1, h2, h3⟩ := zipF_get (κ := Key) hkv
    subst h3
    obtain ⟨r', h4, hrow⟩ := paired_at hp h2
    rw [h1] at h4
    cases h4
    have e1 : V.str r = x := e1
    have e2 : V.ref a = y := e2
    subst e1 e2
    have hrR := mem_of_get h1
    have s3 := s2.trans (same_new (o := .tup [.str r, .ref a]) hT)
    have ne1 : hd ≠ d := fun z => by
      subst z
      have hh' : H hd = some (.dK (heldK R h)) := hh
      rw [hd0] at hh'
      have e3 := HO.dK.inj (Option.some.inj hh')
      rw [e3] at hkv
      unfold heldK at hkv
      rw [List.getElem?_map] at hkv
      obtain ⟨z2, _, e4⟩ := Option.map_eq_some_iff.mp hkv
      cases e4
    have keep : ∀ b o, H b = some o → b ≠ d → (upd H2 T (.tup [.str r, .ref a])) b = some o := fun b o hb hn => s3 b o (by rw [upd_ne hn]; exact hb)
    refine ⟨T, _, rfl, SqT.of upd_same, rfl, _, _, rfl, _, _, rfl, rfl, hw _ _, yes_then ⟨_, hi _ _, _, hj _ _, ?_⟩⟩
    refine htx _ _ _ _ keep ⟨a, hd, R, h, f r, rfl, ((hrow.tups (tups_lock hd0)).tups (Tups.same s3)), keep _ _ hh ne1, hreg r hrR, hlen r hrR, hsz r hrR, fun H5 s5 => ?_⟩
    have hD5 := s5 _ _ (same_new (o := .tup [.str r, .ref a]) hT _ _ hD2)
    refine ⟨_, Sum.inr r, rfl, hD5, ?_, fun b o e => ?_, ?_⟩
    · rw [heldK_len, List.length_take]
      exact Nat.lt_of_le_of_lt (Nat.le_trans (Nat.min_le_right ..) hz) (by decide)
    · rw [upd_ne (ne_of_none e hD)]
      exact s5 _ _ (s3 _ _ e)
    · rw [upd_same, List.take_add_one, h1]
      show some (HO.dK (putK (heldK (R.take k) fun r => wr (f r) h) (Sum.inr r) (.str (wr (f r) h)))) = _
      rw [heldK_snoc (h := fun r => wr (f r) h) (not_take nd h1)]
      rfl
  · rintro H2 ⟨s2, hD2⟩
    rw [zipF_len hlenA, List.take_length] at hD2
    refine ⟨s2 _ _ upd_same, q D _ (same_lock hd0 s2) ?_⟩
    show upd H2 d _ D = _
    rw [upd_ne neDd]
    exact hD2
theorem take_mem {z : Str} {L : List Nat} (hz : ∀ c ∈ cs z, c ∈ L) (k : Nat) : ∀ c ∈ (cs z).take k, c ∈ L := fun c hc => hz c (List.take_subset _ _ hc)
theorem cps_get {z : Str} {k c : Nat} (h : z.cps[k]? = some c) : (cs z)[k]? = some c := by
  show z.cps.toList[k]? = some c
  rw [Array.getElem?_toList]
  exact h
theorem run_take {T : Mach} {l : List Nat} {k c : Nat} (h : l[k]? = some c) : T.run (l.take (k + 1)) = T.stp (T.run (l.take k)) c := by
  rw [List.take_add_one, h]
  exact Mach.run_snoc T _ c
/-- what a step leaves is short -/
theorem step_size {T : Mach} (W : WF T) {l : List Nat} (hl : ∀ c ∈ l, c ∈ T.letters) {c : Nat} (hc : c ∈ T.letters) {r : Str} (hr : r ∈ T.R) : (cs (wr ((T.step (T.run l).1 c).2 r) (T.run l).2)).length ≤ 2 + 2 * (l.length + 1) := by
  have h1 := W.size (l := l ++ [c]) fun x hx => by
    rcases List.mem_append.mp hx with hx | hx
    · exact hl x hx
    · rw [List.mem_singleton.mp hx]; exact hc
  rw [List.length_append, List.length_singleton, Mach.run_snoc] at h1
  exact Nat.le_trans (le_sumR (g := fun r => (cs ((T.stp (T.run l) c).2 r)).length) hr) h1
theorem step_regs {T : Mach} (W : WF T) {s c : Nat} (hs : s < T.S) (hc : c ∈ T.letters) {r : Str} (hr : r ∈ T.R) {x : Str} (hx : It.reg x ∈ (T.step s c).2 r) : x ∈ T.R := (W.rows s c hs hc).ok r hr _ hx
abbrev sAfter : Stmt := inClass (top 22) 3
def spAfter (CP : Addr) : Sp := fun vs H Q _ => ∃ (p : Addr) (T : Mach) (z : Str), vs = [.ref p, .str z] ∧ ProgAt H CP p T ∧ WF T ∧ (∀ c ∈ cs z, c ∈ T.letters) ∧ (cs z).length ≤ 1000 ∧
  ∀ t d H', Same H H' → H' t = some (.tup [.int ((T.run (cs z)).1 : Nat), .ref d]) → HeldAt H' d T.R (T.run (cs z)).2 → Q (.ref t) H'
section
variable {P : Program} {w : World} {K : PySem.W.Frag} {mg : Str → Option Value} {base : Heap}
theorem scAfter : FnScope ["self", "text", "state", "held", "letter", "rows", "name", "row"] ["self", "text"] (defScope sAfter) := ⟨rfl, rfl, rfl, by decide +kernel, rfl, by decide +kernel, by decide +kernel⟩
abbrev MeCheck (P : Program) (w : World) (K : PySem.W.Frag) (mg : Str → Option Value) (base : Heap) (CP : Addr) : Prop := Me P w K mg base CX0 1 CP "check" ["self", "text"] (spCheck0 CP)
theorem ok_after {CP : Addr} {f : Addr} {fd : FuncData} (F : Fun K "after" "Program.after" sAfter f fd) (B : Bl mg) (C : PrK K CP) (cC : MeCheck P w K mg base CP) (cT : CaText P w K mg base) : FnOk P w K mg base CX0 2 f fd ["self", "text"] (spAfter CP) := by
  refine F.ok scAfter (fun vs H Q E h => ?_) (fun cdv A outer s H vs Q E hr h => ?_)
  · obtain ⟨p, T, z, rfl, _⟩ := h
    rfl
  · obtain ⟨p, T, z, rfl, hp, W, hz, hl, q⟩ := h
    have hu := hu1 hr
    have nd := scAfter.nd
    refine ⟨_, pss_cons (ps_expr (pe_me cC C.cls hr (by decide) pass0 (pv 0) (pa_cons (pv 1) pa_nil)))
      (pss_cons (ps_asg (pe_tup (pa_cons pe_int (pa_cons (pe_callTy call_dictD (by rfl) B.dict PyProof.Rows.boot_dict (pa_cons (pe_fld (pv 0) rfl) pa_nil)) pa_nil))) (pg_tup rfl (pgs_cons (pg_name (i := 2) nd rfl (.inl rfl)) (pgs_cons (pg_name (i := 3) nd rfl (.inr rfl)) pgs_nil))))
      (pss_cons (ps_for PassesOwn.never rfl (pi_str (pv 1)) (pg_name (i := 4) nd rfl (.inl rfl))
        (pss_cons (ps_asg (pe_dget hu (pe_fld (pv 0) rfl) (pe_tup (pa_cons (pv 2) (pa_cons (pv 4) pa_nil))) (fun _ _ => rfl)) (pg_tup rfl (pgs_cons (pg_name (i := 2) nd rfl (.inl rfl)) (pgs_cons (pg_name (i := 5) nd rfl (.inl rfl)) pgs_nil))))
        (pss_one (ps_set (i := 3) nd rfl (.inr rfl) (pe_lock (pe_dc (own := [("name", 6), ("row", 7)]) rfl nd (pi_items (pv 5)) (blkOk_by (by kernel_rfl)) (fun _ _ _ _ _ => pg_tupK (n := 2) K rfl rfl (pgs_cons (pg_name (i := 6) nd rfl (.inl rfl)) (pgs_cons (pg_name (i := 7) nd rfl (.inl rfl)) pgs_nil))) (fun _ _ _ _ _ => pts_nil) (fun _ _ _ _ _ => pv 6)
          (fun _ _ _ _ _ => pe_ca (sp := spText) cT hr (by decide) rfl (pa_cons (pv 7) (pa_cons (pv 3) pa_nil)))))))))
      (pss_one (ps_ret (pe_tup (pa_cons (pv 2) (pa_cons (pv 3) pa_nil))))))), ?_⟩
    obtain ⟨dx, r, d1, d2, d3, h0, h1, h2, h3, h4⟩ := id hp
    refine ⟨_, rfl, p, dx, _, rfl, h0, rfl, _, rfl, p, T, z, rfl, hp, hz, fun H1 s1 => ?_⟩
    have h21 : HeldAt H1 d1 T.R T.firsts := s1 _ _ h2
    refine ⟨_, rfl, p, CP, dx, _, .ref d1, rfl, s1 _ _ h0, C.cls, C.a4, rfl, d1, _, rfl, .inl h21, fun d hd => ⟨by show 2 ≤ sizeLine; decide, fun t ht => ?_⟩⟩
    have s3 := (same_new (o := .dK (heldK T.R T.firsts)) hd).trans (same_new (o := .tup [.int 0, .ref d]) ht)
    refine ⟨t, _, rfl, SqT.of upd_same, rfl, _, _, rfl, _, _, rfl, rfl, ?_⟩
    refine ⟨_, rfl, _, rfl, ?_⟩
    refine for_it walk_str (fun k σ H2 => ∃ d x4 x5, σ = [some (.ref p), some (.str z), some (.int ((T.run ((cs z).take k)).1 : Nat)), some (.ref d), x4, x5, none, none] ∧ Same H H2 ∧ HeldAt H2 d T.R (T.run ((cs z).take k)).2) ⟨d, none, none, rfl, s1.trans s3, same_new ht _ _ upd_same⟩ (fun _ _ _ _ _ => trivial) ?_ ?_
    · rintro k x σ H2 H2' hk ⟨d, x4, x5, rfl, s2, hd2⟩ ⟨rfl, c, hc, rfl⟩
      have hcl := cps_get hc
      have hcL : c ∈ T.letters := hz c (List.mem_of_getElem? hcl)
      have hlk := take_mem hz k
      have hst := W.state hlk
      refine seq_asg ⟨_, rfl, p, CP, dx, _, .ref d2, rfl, s2 _ _ h0, C.cls, C.a5, rfl, ?_⟩
      refine ⟨_, rfl, _, rfl, by show 2 ≤ sizeLine; decide, fun b hb => ?_⟩
      have s3 := s2.trans (same_new (o := .tup [.int ((T.run ((cs z).take k)).1 : Nat), .str ⟨#[c]⟩]) hb)
      obtain ⟨a, hg, rd, ha, hrd⟩ := (h3.stl (Stl.of (CR := 0) s3)).get hst hcL (b := b) upd_same
      refine ⟨d2, _, rfl, hg, a, _, rfl, SqT.of ha, rfl, _, _, rfl, _, _, rfl, rfl, ?_⟩
      have hd3 : HeldAt _ d T.R (T.run ((cs z).take k)).2 := same_new (o := .tup [.int ((T.run ((cs z).take k)).1 : Nat), .str ⟨#[c]⟩]) hb _ _ hd2
      refine asg_of (rows_read W.nd (Nat.le_trans W.R2 (by decide)) hrd hd3 (fun H' Q h => ⟨_, rfl, h⟩) (fun x y H' Q _ h => ⟨_, rfl, h⟩) (fun _ _ => rfl) (fun _ _ => rfl) (fun _ _ => rfl)
        (fun r hr x hx => step_regs W hst hcL hr (jn_reg hx)) (fun r hr => Nat.le_trans (jn_len _) (Nat.le_trans ((W.rows _ _ hst hcL).len r hr) (by decide))) (fun r hr => ?_) (fun d' H5 s5 hd5 => ?_))
      · show (cs (wr (jn _) _)).length ≤ _
        rw [wr_jn]
        have h6 := step_size W hlk hcL hr
        have h7 : ((cs z).take k).length ≤ 1000 := by rw [List.length_take]; omega
        omega
      · refine ⟨d', some (.str ⟨#[c]⟩), some (.ref rd), ?_, s3.trans s5, ?_⟩
        · rw [run_take hcl]
          rfl
        · rw [run_take hcl]
          have e : (fun r => wr (((jnM T).step (T.run ((cs z).take k)).1 c).2 r) (T.run ((cs z).take k)).2) = (T.stp (T.run ((cs z).take k)) c).2 := by
            funext r
            exact wr_jn _ _
          rw [← e]
          exact hd5
    · rintro σ H2 ⟨d, x4, x5, rfl, s2, hd2⟩
      have e : (cs z).take z.cps.size = cs z := by
        have : z.cps.size = (cs z).length := by simp
        rw [this, List.take_length]
      rw [e] at hd2
      refine nx_of (ret_of ⟨_, rfl, _, rfl, by show 2 ≤ sizeLine; decide, fun t ht => ?_⟩)
      rw [e]
      have s3 := same_new (o := .tup [.int ((T.run (cs z)).1 : Nat), .ref d]) ht
      exact q t d _ (s2.trans s3) upd_same (s3 _ _ hd2)
end
end Pt
end

section
set_option Elab.async false
set_option maxRecDepth 100000
set_option maxHeartbeats 2000000
set_option linter.unusedSectionVars false
set_option linter.unusedVariables false
namespace Pt
open PySem PySem.Spec PyProof.Rows L2
/-! ### check_program -/
structure PrI (K : PySem.W.Frag) (mg : Str → Option Value) (CP : Addr) : Prop where
  gl : mg "Program" = some (.ref CP)
  ha : PySem.W.findIn K (.ref CP) "__class__" = some (some (.builtin "object.__class__"))
  hn : PySem.W.specialIn K (.builtin "object.__class__") "__get__" = some (some (.builtin "getset_descriptor.__get__"))
  htk : PySem.W.takesIn K (.builtin "object.__class__") = some true
  hm : PySem.W.mroIn K CP (.type "object") = some true
  kit : PySem.W.kitOne K (.ref CP) (.ref CP) = some true
abbrev sCheckP : Stmt := top 23
def spCheckP (CP : Addr) : Sp := fun vs H Q _ => ∃ (p dx : Addr) (fs : List (Str × V)), vs = [.ref p] ∧ H p = some (.ins CP dx fs) ∧ Q .non H
section
variable {P : Program} {w : World} {K : PySem.W.Frag} {mg : Str → Option Value} {base : Heap}
abbrev CaCheckP (P : Program) (w : World) (K : PySem.W.Frag) (mg : Str → Option Value) (base : Heap) (CP : Addr) : Prop := Ca P w K mg base 1 "check_program" ["thing"] (spCheckP CP)
theorem scCheckP : FnScope ["thing"] ["thing"] (defScope sCheckP) := ⟨rfl, rfl, rfl, by decide +kernel, rfl, by decide +kernel, by decide +kernel⟩
theorem ok_checkP {CP : Addr} {f : Addr} {fd : FuncData} (F : Fun K "check_program" "check_program" sCheckP f fd) (B : Bl mg) (C : PrK K CP) (I : PrI K mg CP) : FnOk P w K mg base CX0 1 f fd ["thing"] (spCheckP CP) := by
  refine F.ok scCheckP (fun vs H Q E h => ?_) (fun cdv A outer s H vs Q E hr h => ?_)
  · obtain ⟨p, dx, fs, rfl, _⟩ := h
    rfl
  · obtain ⟨p, dx, fs, rfl, hp, q⟩ := h
    refine ⟨_, pss_one (ps_if (pt_not (pt_val (pe_callB call_isi (by rfl) B.isi boot_isinstance (pa_cons (pv 0) (pa_cons (pe_glob (v := .ref CP) (by rfl) I.gl rfl) pa_nil))))) pss_never pss_nil), ?_⟩
    exact ⟨_, rfl, _, _, _, _, true, rfl, .own CP, .base (.ins hp C.cls I.ha I.hn I.htk I.hm), I.kit, true, rfl, q⟩
end
/-! ### a Run -/
structure RnK (K : PySem.W.Frag) (CR : Addr) : Prop where
  cls : Cls K CR
  a1 : NoAttr K CR "program"
  a2 : NoAttr K CR "state"
  a3 : NoAttr K CR "held"
  a4 : NoAttr K CR "past"
  most : ∃ u, Con K CR "MOST" (.int 1000) u
/-- the k-th entry of the past of a run that has read l -/
def PEnt (H : Hp) (T : Mach) (l : List Nat) (a : Addr) (k : Nat) : Prop := ∃ c h, l[k]? = some c ∧ H a = some (.tup [.str (mkS [c]), .int ((T.run (l.take k)).1 : Nat), .ref h]) ∧ HeldAt H h T.R (T.run (l.take k)).2
def PastAt (H : Hp) (T : Mach) (l : List Nat) (pa : Addr) : Prop := ∃ ts, H pa = some (.lst (ts.map V.ref)) ∧ Paired (PEnt H T l) ts (List.range l.length)
abbrev runFs (p : Addr) (T : Mach) (l : List Nat) (hd pa : Addr) : List (Str × V) := [("program", .ref p), ("state", .int ((T.run l).1 : Nat)), ("held", .ref hd), ("past", .ref pa)]
/-- what a Run's fields hold -/
structure RunIn (H : Hp) (CP : Addr) (T : Mach) (l : List Nat) (p hd pa : Addr) : Prop where
  prog : ProgAt H CP p T
  held : HeldAt H hd T.R (T.run l).2
  past : PastAt H T l pa
def RunAt (H : Hp) (CR CP : Addr) (T : Mach) (l : List Nat) (p r : Addr) : Prop := ∃ dx hd pa, H r = some (.ins CR dx (runFs p T l hd pa)) ∧ RunIn H CP T l p hd pa
theorem PEnt.stl {CR : Addr} {H H' : Hp} (e : Stl CR H H') {T : Mach} {l : List Nat} {a : Addr} {k : Nat} (x : PEnt H T l a k) : PEnt H' T l a k := by
  obtain ⟨c, h, h1, h2, h3⟩ := x
  exact ⟨c, h, h1, e _ _ h2 trivial, h3.stl e⟩
theorem PastAt.stl {CR : Addr} {H H' : Hp} (e : Stl CR H H') {T : Mach} {l : List Nat} {pa : Addr} (x : PastAt H T l pa) : PastAt H' T l pa := by
  obtain ⟨ts, h1, h2⟩ := x
  exact ⟨ts, e _ _ h1 (fun i h => by obtain ⟨z, _, e⟩ := List.mem_map.mp h; cases e), paired_imp h2 fun _ _ _ h => h.stl e⟩
theorem ProgAt.stl {CR : Addr} {H H' : Hp} (e : Stl CR H H') {CP p : Addr} (n : CP ≠ CR) {T : Mach} (x : ProgAt H CP p T) : ProgAt H' CP p T := by
  obtain ⟨dx, r, d1, d2, d3, h0, h1, h2, h3, h4⟩ := x
  exact ⟨dx, r, d1, d2, d3, e _ _ h0 n, e _ _ h1 (fz_strs _), h2.stl e, h3.stl e, h4.stl e⟩
theorem RunIn.stl {CR : Addr} {H H' : Hp} (e : Stl CR H H') {CP p hd pa : Addr} (n : CP ≠ CR) {T : Mach} {l : List Nat} (x : RunIn H CP T l p hd pa) : RunIn H' CP T l p hd pa :=
  ⟨x.prog.stl e n, x.held.stl e, x.past.stl e⟩
theorem RunIn.same {H H' : Hp} (e : Same H H') {CP p hd pa : Addr} {T : Mach} {l : List Nat} (x : RunIn H CP T l p hd pa) : RunIn H' CP T l p hd pa := ⟨x.prog.same e, x.held.stl (Stl.of (CR := 0) e), x.past.stl (Stl.of (CR := 0) e)⟩
theorem RunAt.same {H H' : Hp} (e : Same H H') {CR CP p r : Addr} {T : Mach} {l : List Nat} (x : RunAt H CR CP T l p r) : RunAt H' CR CP T l p r := by
  obtain ⟨dx, hd, pa, h1, h2⟩ := x
  exact ⟨dx, hd, pa, e _ _ h1, h2.same e⟩
/-- all but the Run stays: what is frozen stays -/
theorem stl_run {H H' : Hp} {CR r dx : Addr} {fs : List (Str × V)} (h : H r = some (.ins CR dx fs)) (b : But r H H') : Stl CR H H' := Stl.but b fun o ho hf => by
  rw [h] at ho
  cases ho
  exact hf rfl
abbrev sRInit : Stmt := inClass (top 25) 1
abbrev sRLen : Stmt := inClass (top 25) 2
abbrev sRText : Stmt := inClass (top 25) 4
abbrev sRCont : Stmt := inClass (top 25) 5
abbrev sRWrit : Stmt := inClass (top 25) 6
def spRInit (CR CP : Addr) : Sp := fun vs H Q _ => ∃ (x dx p : Addr) (T : Mach), vs = [.ref x, .ref p] ∧ H x = some (.ins CR dx []) ∧ ProgAt H CP p T ∧ CP ≠ CR ∧ ∀ H', But x H H' → RunAt H' CR CP T [] p x → Q .non H'
def spRLen (CR CP : Addr) : Sp := fun vs H Q _ => ∃ (r p : Addr) (T : Mach) (l : List Nat), vs = [.ref r] ∧ RunAt H CR CP T l p r ∧ Q (.int (l.length : Nat)) H
def spRText (CR CP : Addr) : Sp := fun vs H Q _ => ∃ (r p : Addr) (T : Mach) (l : List Nat), vs = [.ref r] ∧ RunAt H CR CP T l p r ∧ l.length ≤ 1000 ∧ ∀ H', Same H H' → Q (.str (mkS l)) H'
def spRCont (CR CP : Addr) : Sp := fun vs H Q _ => ∃ (r p : Addr) (T : Mach) (l : List Nat), vs = [.ref r] ∧ RunAt H CR CP T l p r ∧ ∀ d H', H d = none → Same H H' → HeldAt H' d T.R (T.run l).2 → Q (.ref d) H'
def outV : Option Str → V
  | none => .non
  | some z => .str z
def spRWrit (CR CP : Addr) : Sp := fun vs H Q _ => ∃ (r p : Addr) (T : Mach) (l : List Nat), vs = [.ref r] ∧ RunAt H CR CP T l p r ∧ WF T ∧ (∀ c ∈ l, c ∈ T.letters) ∧ l.length ≤ 1000 ∧ ∀ H', Same H H' → Q (outV (T.out l)) H'
theorem join_letters (l : List Nat) : Txt.join (Str.ofString "") (l.map fun c => mkS [c]) = mkS l := cs_inj (by
  have e := join_cs (l.map fun c => mkS [c])
  have e2 : cs (Txt.join (Str.ofString "") (l.map fun c => mkS [c])) = (l.map fun c => mkS [c]).flatMap cs := e
  rw [e2, List.flatMap_map]
  show _ = l
  induction l with
  | nil => rfl
  | cons a t ih =>
    rw [List.flatMap_cons, ih (join_cs _) (join_cs _)]
    rfl)
theorem end_size {T : Mach} (W : WF T) {l : List Nat} (hl : ∀ c ∈ l, c ∈ T.letters) {s : Nat} {e : Row} (he : T.ends s = some e) : (cs (wr e (T.run l).2)).length ≤ 3 + 2 * l.length := by
  have h1 := (W.ends s e he).2.wt (fun r => (cs ((T.run l).2 r)).length)
  rw [len_wr]
  have h2 := W.size hl
  omega
section
variable {P : Program} {w : World} {K : PySem.W.Frag} {mg : Str → Option Value} {base : Heap}
theorem scRInit : FnScope ["self", "program"] ["self", "program"] (defScope sRInit) := ⟨rfl, rfl, rfl, by decide +kernel, rfl, by decide +kernel, by decide +kernel⟩
theorem ok_rinit {CR CP : Addr} {f : Addr} {fd : FuncData} (F : Fun K "__init__" "Run.__init__" sRInit f fd) (B : Bl mg) (C : PrK K CP) (R : RnK K CR) (cC : CaCheckP P w K mg base CP) : FnOk P w K mg base CX0 2 f fd ["self", "program"] (spRInit CR CP) := by
  refine F.ok scRInit (fun vs H Q E h => ?_) (fun cdv A outer s H vs Q E hr h => ?_)
  · obtain ⟨x, dx, p, T, rfl, _⟩ := h
    rfl
  · obtain ⟨x, dx, p, T, rfl, hx, hp, hne, q⟩ := h
    obtain ⟨dp, r, d1, d2, d3, h0, h1, h2, h3, h4⟩ := id hp
    refine ⟨_, pss_cons (ps_expr (pe_ca cC hr (by decide) rfl (pa_cons (pv 1) pa_nil)))
      (pss_cons (ps_fld (pv 0) (pv 1) rfl)
      (pss_cons (ps_fld (pv 0) pe_int rfl)
      (pss_cons (ps_fld (pv 0) (pe_callTy call_dictD (by rfl) B.dict PyProof.Rows.boot_dict (pa_cons (pe_fld (pv 1) rfl) pa_nil)) rfl)
      (pss_one (ps_fld (pv 0) (pe_lst pa_nil) rfl))))), ?_⟩
    have F0 : FS H CR x dx [] H := ⟨But.refl x H, hx⟩
    refine ⟨_, rfl, p, dp, _, rfl, h0, ?_⟩
    refine nx_of (seq_fld ?_)
    refine ⟨_, rfl, _, rfl, F0.fld R.cls R.a1 (by show 0 < 1000; decide) (by show _ ∉ []; decide +kernel) fun H1 F1 _ => ?_⟩
    refine seq_fld ⟨_, rfl, F1.fld R.cls R.a2 (by show 1 < 1000; decide) (by show _ ∉ [("program" : Str)]; decide +kernel) fun H2 F2 _ => ?_⟩
    have st2 := F2.stl hx
    have hp2 := st2 _ _ h0 hne
    have h22 : HeldAt H2 d1 T.R T.firsts := h2.stl st2
    refine seq_fld ⟨_, rfl, p, CP, dp, _, .ref d1, rfl, hp2, C.cls, C.a4, rfl, d1, _, rfl, .inl h22, fun d hd => ?_⟩
    have F3 := F2.same (same_new (o := .dK (heldK T.R T.firsts)) hd)
    have ned : d ≠ x := (ne_of_none F2.ins hd).symm
    refine ⟨_, rfl, F3.fld R.cls R.a3 (by show 2 < 1000; decide) (by show _ ∉ [("program" : Str), "state"]; decide +kernel) fun H4 F4 b4 => ?_⟩
    have hd4 : HeldAt H4 d T.R T.firsts := b4 _ _ upd_same ned
    refine fld_of ?_
    refine ⟨by show 0 ≤ sizeLine; decide, fun pa hpa => ⟨_, rfl, ?_⟩⟩
    have s5 := same_new (o := .lst []) hpa
    have nep : pa ≠ x := (ne_of_none F4.ins hpa).symm
    refine (F4.same s5).fld R.cls R.a4 (by show 3 < 1000; decide) (by show _ ∉ [("program" : Str), "state", "held"]; decide +kernel) fun H6 F6 b6 => ?_
    exact q H6 F6.but ⟨dx, d, pa, F6.ins, hp.stl (F6.stl hx) hne, b6 _ _ (s5 _ _ hd4) ned, [], b6 _ _ upd_same nep, .nil⟩
theorem scRLen : FnScope ["self"] ["self"] (defScope sRLen) := ⟨rfl, rfl, rfl, by decide +kernel, rfl, by decide +kernel, by decide +kernel⟩
theorem ok_rlen {CR CP : Addr} {f : Addr} {fd : FuncData} (F : Fun K "__len__" "Run.__len__" sRLen f fd) (B : Bl mg) (R : RnK K CR) : FnOk P w K mg base CX0 1 f fd ["self"] (spRLen CR CP) := by
  refine F.ok scRLen (fun vs H Q E h => ?_) (fun cdv A outer s H vs Q E hr h => ?_)
  · obtain ⟨r, p, T, l, rfl, _⟩ := h
    rfl
  · obtain ⟨r, p, T, l, rfl, ⟨dx, hd, pa, h0, h1, h2, ts, h3, h4⟩, q⟩ := h
    refine ⟨_, pss_one (ps_ret (pe_callB call_len_seq (by rfl) B.len PySem.boot_len (pa_cons (pe_fld (pv 0) rfl) pa_nil))), ?_⟩
    refine ⟨_, rfl, r, CR, dx, _, .ref pa, rfl, h0, R.cls, R.a4, rfl, pa, _, rfl, .inl (SqL.of h3), ?_⟩
    rw [List.length_map, paired_length h4, List.length_range]
    exact q
theorem scRCont : FnScope ["self"] ["self"] (defScope sRCont) := ⟨rfl, rfl, rfl, by decide +kernel, rfl, by decide +kernel, by decide +kernel⟩
theorem ok_rcont {CR CP : Addr} {f : Addr} {fd : FuncData} (F : Fun K "contents" "Run.contents" sRCont f fd) (B : Bl mg) (R : RnK K CR) : FnOk P w K mg base CX0 1 f fd ["self"] (spRCont CR CP) := by
  refine F.ok scRCont (fun vs H Q E h => ?_) (fun cdv A outer s H vs Q E hr h => ?_)
  · obtain ⟨r, p, T, l, rfl, _⟩ := h
    rfl
  · obtain ⟨r, p, T, l, rfl, ⟨dx, hd, pa, h0, h1, h2, h3⟩, q⟩ := h
    refine ⟨_, pss_one (ps_ret (pe_callTy call_dictD (by rfl) B.dict PyProof.Rows.boot_dict (pa_cons (pe_fld (pv 0) rfl) pa_nil))), ?_⟩
    exact ⟨_, rfl, r, CR, dx, _, .ref hd, rfl, h0, R.cls, R.a3, rfl, hd, _, rfl, .inl h2, fun d hn => q d _ hn (same_new hn) upd_same⟩
theorem scRText : FnScope ["self", "letter", "state", "held"] ["self"] (defScope sRText) := ⟨rfl, rfl, rfl, by decide +kernel, rfl, by decide +kernel, by decide +kernel⟩
theorem ok_rtext {CR CP : Addr} {f : Addr} {fd : FuncData} (F : Fun K "text" "Run.text" sRText f fd) (B : Bl mg) (R : RnK K CR) : FnOk P w K mg base CX0 1 f fd ["self"] (spRText CR CP) := by
  refine F.ok scRText (fun vs H Q E h => ?_) (fun cdv A outer s H vs Q E hr h => ?_)
  · obtain ⟨r, p, T, l, rfl, _⟩ := h
    rfl
  · obtain ⟨r, p, T, l, rfl, ⟨dx, hd, pa, h0, h1, h2, ts, h3, h4⟩, hl, q⟩ := h
    have nd := scRText.nd
    refine ⟨_, pss_one (ps_ret (pe_join pe_str (pe_lc (own := [("letter", 1), ("state", 2), ("held", 3)]) rfl nd (pi_list (pe_fld (pv 0) rfl)) (blkOk_by (by kernel_rfl)) (fun _ _ _ _ _ => pg_tupK (n := 3) K rfl rfl (pgs_cons (pg_name (i := 1) nd rfl (.inl rfl)) (pgs_cons (pg_name (i := 2) nd rfl (.inl rfl)) (pgs_cons (pg_name (i := 3) nd rfl (.inl rfl)) pgs_nil)))) (fun _ _ _ _ _ => pts_nil) (fun _ _ _ _ _ => pv 1)))), ?_⟩
    refine ⟨⟨_, rfl⟩, _, rfl, r, CR, dx, _, .ref pa, rfl, h0, R.cls, R.a4, rfl, pa, rfl, ⟨_, SqL.of h3⟩, fun L hL => ?_⟩
    refine lc_it (walk_list (xs := ts.map V.ref)) (Qd := fun H' => ∃ a p, ∃ ys : List Str, (V.str "") = .str a ∧ [V.ref L] = [.ref p] ∧ (SqL K H' p (ys.map V.str) ∨ SqT K H' p (ys.map V.str)) ∧ (ys.map (·.length)).sum + ys.length * a.length ≤ 16777216 ∧ Q (.str (Txt.join a ys)) H')
      (fun i H2 => Same H H2 ∧ H2 L = some (.lst (((l.take i).map fun c => mkS [c]).map V.str))) ⟨same_new hL, upd_same⟩ (fun i H2 _ s => SqL.of (s.1 _ _ h3)) ?_ ?_
    · rintro i x H2 H2' hi ⟨s, hLx⟩ ⟨rfl, hx⟩
      rw [List.getElem?_map] at hx
      obtain ⟨a, ha, rfl⟩ := Option.map_eq_some_iff.mp hx
      obtain ⟨k, hk, c, hh, h5, h6, h7⟩ := paired_at h4 ha
      have hki : k = i := by
        have := List.getElem?_eq_some_iff.mp hk
        obtain ⟨e1, e2⟩ := this
        rw [List.getElem_range] at e2
        exact e2.symm
      subst hki
      refine ⟨a, _, rfl, SqT.of (s _ _ h6), rfl, _, _, rfl, _, _, rfl, _, _, rfl, rfl, rfl, yes_then ⟨_, rfl, _, hLx, ?_, fun b o e => ?_, ?_⟩⟩
      · rw [List.length_map, List.length_map, List.length_take]
        exact Nat.lt_of_le_of_lt (Nat.le_trans (Nat.min_le_right ..) hl) (by decide)
      · rw [upd_ne (ne_of_none e hL)]
        exact s _ _ e
      · rw [upd_same, List.take_add_one, h5]
        simp
    · rintro H2 ⟨s, hLx⟩
      rw [List.length_map, paired_length h4, List.length_range, List.take_length] at hLx
      refine ⟨_, L, l.map fun c => mkS [c], rfl, rfl, .inl (SqL.of hLx), ?_, ?_⟩
      · have e0 : (Str.length "") = 0 := rfl
        have e1 : ((l.map fun c => mkS [c]).map (·.length)).sum = l.length := by
          clear hl hLx
          rw [List.map_map]
          have : (fun x : Str => x.length) ∘ (fun c => mkS [c]) = fun _ => 1 := by funext c; rfl
          rw [this, List.map_const', List.sum_replicate_nat]
          omega
        rw [e0, e1]
        have : (1000 : Nat) ≤ 16777216 := by decide
        omega
      · rw [join_letters]
        exact q H2 s
theorem scRWrit : FnScope ["self", "row"] ["self"] (defScope sRWrit) := ⟨rfl, rfl, rfl, by decide +kernel, rfl, by decide +kernel, by decide +kernel⟩
theorem ok_rwrit {CR CP : Addr} {f : Addr} {fd : FuncData} (F : Fun K "written" "Run.written" sRWrit f fd) (B : Bl mg) (C : PrK K CP) (R : RnK K CR) (cT : CaText P w K mg base) : FnOk P w K mg base CX0 2 f fd ["self"] (spRWrit CR CP) := by
  refine F.ok scRWrit (fun vs H Q E h => ?_) (fun cdv A outer s H vs Q E hr h => ?_)
  · obtain ⟨r, p, T, l, rfl, _⟩ := h
    rfl
  · obtain ⟨r, p, T, l, rfl, ⟨dx, hd, pa, h0, hp, h2, h3⟩, W, hl, hl2, q⟩ := h
    obtain ⟨dp, rr, d1, d2, d3, g0, g1, g2, g3, g4⟩ := id hp
    refine ⟨_, pss_cons (ps_set (i := 1) scRWrit.nd rfl (.inl rfl) (pe_dget1 (hu1 hr) (pe_fld (pe_fld (pv 0) rfl) rfl) (pe_fld (pv 0) rfl) ⟨rfl, rfl, rfl, rfl⟩))
      (pss_one (ps_ret (pe_ifExp (pt_cmp (pc_isN (pv 1))) pe_non (pe_ca cT hr (by decide) rfl (pa_cons (pv 1) (pa_cons (pe_fld (pv 0) rfl) pa_nil)))))), ?_⟩
    obtain ⟨as, e1, e2⟩ := id g4
    refine ⟨_, rfl, r, CR, dx, _, .ref p, rfl, h0, R.cls, R.a1, rfl, p, CP, dp, _, .ref d3, rfl, g0, C.cls, C.a6, rfl, d3, rfl, .inl ⟨_, .inl e1⟩, ?_⟩
    refine ⟨_, rfl, r, CR, dx, _, .int ((T.run l).1 : Nat), rfl, h0, R.cls, R.a2, rfl, ?_⟩
    have hendL : endL T.S T.ends = endL T.S (jnM T).ends := by
      unfold endL
      exact List.filter_congr fun s _ => by show _ = ((T.ends s).map jn).isSome; cases T.ends s <;> rfl
    have g4' : EndsD H d3 (endL T.S (jnM T).ends) (jnM T).ends := by rw [← hendL]; exact g4
    rcases g4'.get (W.state hl) with ⟨hn, hg⟩ | ⟨e, a, he, hg, hrow⟩
    · refine ⟨none, hg, _, rfl, true, rfl, ?_⟩
      have hout : T.out l = none := by
        show (T.ends (T.run l).1).map _ = none
        have hn : (T.ends (T.run l).1).map jn = none := hn
        cases hE : T.ends (T.run l).1 with
        | none => rfl
        | some e => rw [hE] at hn; cases hn
      have := q H (Same.refl _)
      rw [hout] at this
      exact this
    · obtain ⟨e0, he0, rfl⟩ := Option.map_eq_some_iff.mp (show (T.ends (T.run l).1).map jn = some e from he)
      refine ⟨_, hg, _, rfl, false, rfl, ?_⟩
      have heo := (W.ends _ _ he0).2
      have hout : T.out l = some (wr e0 (T.run l).2) := by
        show (T.ends (T.run l).1).map _ = _
        rw [he0]
        rfl
      rw [hout] at q
      refine ⟨_, rfl, _, rfl, r, CR, dx, _, .ref hd, rfl, h0, R.cls, R.a3, rfl, a, hd, T.R, (T.run l).2, jn e0, rfl, hrow, h2, fun x hx => heo.ok _ (jn_reg hx), Nat.le_trans (jn_len _) (Nat.le_trans heo.len (by decide)), ?_, fun H' s' => ?_⟩
      · rw [wr_jn]
        have := end_size W hl he0
        omega
      · rw [wr_jn]
        exact q H' s'
end
end Pt
end

section
set_option Elab.async false
set_option maxRecDepth 100000
set_option maxHeartbeats 2000000
set_option linter.unusedSectionVars false
set_option linter.unusedVariables false
namespace Pt
open PySem PySem.Spec PyProof.Rows L2
theorem ix_listK {X : Cx} (K : PySem.W.Frag) (h : X.K = K) : IxR X (rIxL K) := by subst h; exact ix_list
/-- a Run's fields, one by one -/
abbrev rnFs (p : V) (st : V) (hd pa : V) : List (Str × V) := [("program", p), ("state", st), ("held", hd), ("past", pa)]
theorem putF_head {f : Str} {v x : V} {r : List (Str × V)} : putF f v ((f, x) :: r) = (f, v) :: r := if_pos rfl
theorem putF_tail {f g : Str} {v x : V} {r : List (Str × V)} (h : g ≠ f) : putF f v ((g, x) :: r) = (g, x) :: putF f v r := if_neg h
theorem put_state {p st hd pa v : V} : putF "state" v (rnFs p st hd pa) = rnFs p v hd pa := by
  rw [putF_tail (by decide +kernel), putF_head]
theorem put_held {p st hd pa v : V} : putF "held" v (rnFs p st hd pa) = rnFs p st v pa := by
  rw [putF_tail (by decide +kernel), putF_tail (by decide +kernel), putF_head]
theorem put_past {p st hd pa v : V} : putF "past" v (rnFs p st hd pa) = rnFs p st hd v := by
  rw [putF_tail (by decide +kernel), putF_tail (by decide +kernel), putF_tail (by decide +kernel), putF_head]
/-- a field of the object at r is set -/
theorem rn_set {K : PySem.W.Frag} {H : Hp} {CR r dx : Addr} {fs fs' : List (Str × V)} {f : Str} {v : V} (h : H r = some (.ins CR dx fs)) (c : Cls K CR) (n : NoAttr K CR f) (hl : fs.length < 1000) (e : putF f v fs = fs') {Qd : Hp → Prop} (q : ∀ H', But r H H' → H' r = some (.ins CR dx fs') → Qd H') :
    ∃ a C dx' fs'', V.ref r = .ref a ∧ H a = some (.ins C dx' fs'') ∧ Cls K C ∧ NoAttr K C f ∧ fs''.length < 1000 ∧ Qd (upd H a (.ins C dx' (putF f v fs''))) := ⟨r, CR, dx, fs, rfl, h, c, n, hl, q _ But.upd (by rw [upd_same, e])⟩
/-- the past, one more -/
theorem past_snoc {H H' : Hp} {T : Mach} {m : List Nat} {c : Nat} {ts : List Addr} {t hd : Addr} (hp : Paired (PEnt H T m) ts (List.range m.length)) (e : ∀ a k, PEnt H T m a k → PEnt H' T m a k) (ht : H' t = some (.tup [.str (mkS [c]), .int ((T.run m).1 : Nat), .ref hd])) (hh : HeldAt H' hd T.R (T.run m).2) :
    Paired (PEnt H' T (m ++ [c])) (ts ++ [t]) (List.range (m ++ [c]).length) := by
  rw [List.length_append, List.length_singleton, List.range_succ]
  refine paired_snoc (paired_imp hp fun a k hk h => ?_) ⟨c, hd, by simp, ?_, ?_⟩
  · obtain ⟨c', h', h1, h2, h3⟩ := e a k h
    have hk' : k < m.length := List.mem_range.mp hk
    refine ⟨c', h', by rw [List.getElem?_append_left hk']; exact h1, ?_, ?_⟩ <;> rw [List.take_append_of_le_length (Nat.le_of_lt hk')] <;> assumption
  · rw [List.take_left]
    exact ht
  · rw [List.take_left]
    exact hh
abbrev sRead : Stmt := inClass (top 25) 3
def spRead0 (CR CP : Addr) : Sp := fun vs H Q _ => ∃ (r p : Addr) (T : Mach) (l : List Nat) (z : Str), vs = [.ref r, .str z] ∧ RunAt H CR CP T l p r ∧ WF T ∧ CP ≠ CR ∧ (∀ c ∈ cs z, c ∈ T.letters) ∧ (∀ c ∈ l, c ∈ T.letters) ∧ l.length + (cs z).length ≤ 1000 ∧
  ∀ H', But r H H' → RunAt H' CR CP T (l ++ cs z) p r → Q (.ref r) H'
def spReadX (CR CP CB : Addr) : Sp := fun vs H Q E => ∃ (r p : Addr) (T : Mach) (l : List Nat) (t : V), vs = [.ref r, t] ∧ RunAt H CR CP T l p r ∧
  ((∃ z i, t = .str z ∧ BadAt T.letters z i ∧ ∀ d H', Same H H' → H' d = some (.xd [("place", .int (i : Nat))]) → E (.ref CB) (some d) H') ∨
    (t = .non ∧ ∀ d H', Same H H' → H' d = some (.xd [("place", .non)]) → E (.ref CB) (some d) H'))
section
variable {P : Program} {w : World} {K : PySem.W.Frag} {mg : Str → Option Value} {base : Heap}
abbrev MeCheckX (P : Program) (w : World) (K : PySem.W.Frag) (mg : Str → Option Value) (base : Heap) (CP CB : Addr) : Prop := Me P w K mg base (L2.CX P w) 3 CP "check" ["self", "text"] (spCheckX CP CB)
theorem scRead : FnScope ["self", "text", "letter", "rows", "name", "row"] ["self", "text"] (defScope sRead) := ⟨rfl, rfl, rfl, by decide +kernel, rfl, by decide +kernel, by decide +kernel⟩
theorem ok_readX {CR CP CB : Addr} {f : Addr} {fd : FuncData} (F : Fun K "read" "Run.read" sRead f fd) (C : PrK K CP) (R : RnK K CR) (cC : MeCheckX P w K mg base CP CB) : FnOk P w K mg base (L2.CX P w) 4 f fd ["self", "text"] (spReadX CR CP CB) := by
  refine F.okX scRead (fun vs H Q E h => ?_) (fun cdv A outer s H vs Q E hr h => ?_)
  · obtain ⟨r, p, T, l, t, rfl, _⟩ := h
    rfl
  · obtain ⟨r, p, T, l, t, rfl, ⟨dx, hd, pa, h0, hp, h2, h3⟩, h⟩ := h
    have tk : Takes (cxOf (L2.CX P w) P w K mg base ["self", "text", "letter", "rows", "name", "row"] "Run.read" (defScope sRead) f cdv A outer s H E) (fun cls d _ H => E cls d H) := takes_of rfl rfl rfl rfl
    refine ⟨_, pss_cons (ps_expr (pe_me cC C.cls hr (by decide) (passes_call (E := E) tk fun _ _ _ _ h => h) (pe_fld (pv 0) rfl) (pa_cons (pv 1) pa_nil))) pss_never, ?_⟩
    obtain ⟨dp, rr, d1, d2, d3, g0, g1, g2, g3, g4⟩ := id hp
    exact ⟨_, rfl, r, CR, dx, _, .ref p, rfl, h0, R.cls, R.a1, rfl, p, dp, _, rfl, g0, rfl, _, rfl, p, T, t, rfl, hp, h⟩
theorem ok_read0 {CR CP : Addr} {f : Addr} {fd : FuncData} (F : Fun K "read" "Run.read" sRead f fd) (B : Bl mg) (C : PrK K CP) (R : RnK K CR) (cC : MeCheck P w K mg base CP) (cT : CaText P w K mg base) : FnOk P w K mg base CX0 2 f fd ["self", "text"] (spRead0 CR CP) := by
  refine F.ok scRead (fun vs H Q E h => ?_) (fun cdv A outer s H vs Q E hr h => ?_)
  · obtain ⟨r, p, T, l, z, rfl, _⟩ := h
    rfl
  · obtain ⟨r, p, T, l, z, rfl, ⟨dx, hd, pa, h0, ⟨hp, h2, ⟨ts, h3, h4⟩⟩⟩, W, hne, hz, hlL, hlen, q⟩ := h
    have nd := scRead.nd
    have hu := hu1 hr
    obtain ⟨uM, hM⟩ := R.most
    refine ⟨_, pss_cons (ps_expr (pe_me cC C.cls hr (by decide) pass0 (pe_fld (pv 0) rfl) (pa_cons (pv 1) pa_nil)))
      (pss_cons (ps_if (pt_cmpR op_gt (pe_op op_add (pe_callB call_len_seq (by rfl) B.len PySem.boot_len (pa_cons (pe_fld (pv 0) rfl) pa_nil)) (pe_callB call_len_str (by rfl) B.len PySem.boot_len (pa_cons (pv 1) pa_nil))) (pe_con (pv 0) rfl) (nomark _)) pss_never pss_nil)
      (pss_cons (ps_for PassesOwn.never rfl (pi_str (pv 1)) (pg_name (i := 2) nd rfl (.inl rfl))
        (pss_cons (ps_fld (pv 0) (pe_lst (StX.pa_star (pe_fld (pv 0) rfl) (pa_cons (pe_tup (pa_cons (pv 2) (pa_cons (pe_fld (pv 0) rfl) (pa_cons (pe_fld (pv 0) rfl) pa_nil)))) pa_nil))) rfl)
        (pss_cons (ps_asg (pe_dget hu (pe_fld (pe_fld (pv 0) rfl) rfl) (pe_tup (pa_cons (pe_fld (pv 0) rfl) (pa_cons (pv 2) pa_nil))) (fun _ _ => rfl)) (pg_tup rfl (pgs_cons (pg_fld (pv 0)) (pgs_cons (pg_name (i := 3) nd rfl (.inl rfl)) pgs_nil))))
        (pss_one (ps_fld (pv 0) (pe_lock (pe_dc (own := [("name", 4), ("row", 5)]) rfl nd (pi_items (pv 3)) (blkOk_by (by kernel_rfl)) (fun _ _ _ _ _ => pg_tupK (n := 2) K rfl rfl (pgs_cons (pg_name (i := 4) nd rfl (.inl rfl)) (pgs_cons (pg_name (i := 5) nd rfl (.inl rfl)) pgs_nil))) (fun _ _ _ _ _ => pts_nil) (fun _ _ _ _ _ => pv 4)
          (fun _ _ _ _ _ => pe_ca (sp := spText) cT hr (by decide) rfl (pa_cons (pv 5) (pa_cons (pe_ix (ix_tupK K rfl) (pe_ix (ix_listK K rfl) (pe_fldK K rfl (pv 0) rfl) (pe_un un_neg pe_int) (fun _ _ => rfl)) pe_int (fun _ _ => rfl)) pa_nil))))) rfl)))))
      (pss_one (ps_ret (pv 0))))), ?_⟩
    obtain ⟨dp, rr, d1, d2, d3, g0, g1, g2, g3, g4⟩ := id hp
    refine ⟨_, rfl, r, CR, dx, _, .ref p, rfl, h0, R.cls, R.a1, rfl, p, dp, _, rfl, g0, rfl, _, rfl, p, T, z, rfl, hp, hz, fun H1 s1 => ?_⟩
    have hlen3 : (ts.map V.ref).length = l.length := by rw [List.length_map, paired_length h4, List.length_range]
    have hzl : z.length = (cs z).length := len_cs z
    refine nx_of (seq_if ?_)
    refine ⟨_, rfl, r, CR, dx, _, .ref pa, rfl, s1 _ _ h0, R.cls, R.a4, rfl, pa, _, rfl, .inl (SqL.of (s1 _ _ h3)), ?_⟩
    refine ⟨_, rfl, z, rfl, by rw [hzl]; exact Nat.le_trans (show (cs z).length ≤ 1000 by omega) (by decide), _, _, rfl, rfl, ?_⟩
    refine ⟨_, rfl, r, CR, dx, _, .int 1000, uM, rfl, s1 _ _ h0, R.cls, hM, rfl, _, _, rfl, rfl, false, bl_false (p := (1000 : Int) < ((ts.map V.ref).length : Nat) + (z.length : Nat)) (by rw [hlen3, hzl]; omega), ?_⟩
    refine no_if (nx_of ?_)
    refine ⟨_, rfl, _, rfl, ?_⟩
    have b1 : But r H H1 := But.of s1
    refine for_it walk_str (fun k σ H2 => ∃ x2 x3, σ = [some (.ref r), some (.str z), x2, x3, none, none] ∧ But r H H2 ∧ RunAt H2 CR CP T (l ++ (cs z).take k) p r) ⟨none, none, rfl, b1, ?_⟩ (fun _ _ _ _ _ => trivial) ?_ ?_
    · rw [List.take_zero, List.append_nil]
      exact ⟨dx, hd, pa, s1 _ _ h0, (RunIn.same s1 ⟨hp, h2, ts, h3, h4⟩)⟩
    · rintro k x σ H2 H2' hk ⟨x2, x3, rfl, b2, dx2, hd2, pa2, i0, ip, ih, ts2, i3, i4⟩ ⟨rfl, c, hc, rfl⟩
      have hcl := cps_get hc
      have hcL : c ∈ T.letters := hz c (List.mem_of_getElem? hcl)
      have hkl : k < (cs z).length := (List.getElem?_eq_some_iff.mp hcl).1
      generalize hm : l ++ (cs z).take k = m at i0 ip ih i3 i4
      have hmL : ∀ c ∈ m, c ∈ T.letters := fun c hcm => by
        rw [← hm] at hcm
        rcases List.mem_append.mp hcm with h | h
        · exact hlL c h
        · exact hz c (List.take_subset _ _ h)
      have hml : m.length ≤ 1000 := by rw [← hm, List.length_append, List.length_take]; omega
      have hml2 : m.length < 1000 := by rw [← hm, List.length_append, List.length_take]; omega
      have hst := W.state hmL
      -- self.past
      refine seq_fld ?_
      refine ⟨_, rfl, r, CR, dx2, _, .ref pa2, rfl, i0, R.cls, R.a4, rfl, pa2, _, rfl, .inr (SqL.of i3), ?_⟩
      refine ⟨_, rfl, _, rfl, r, CR, dx2, _, .int ((T.run m).1 : Nat), rfl, i0, R.cls, R.a2, rfl, _, rfl, r, CR, dx2, _, .ref hd2, rfl, i0, R.cls, R.a3, rfl, by show 3 ≤ sizeLine; decide, fun t ht => ⟨?_, fun pa' hpa' => ?_⟩⟩
      · rw [List.length_append, List.length_map, paired_length i4, List.length_range]
        exact Nat.le_trans (Nat.add_le_add_right hml 1) (by decide)
      have sA := (same_new (o := .tup [.str ⟨#[c]⟩, .int ((T.run m).1 : Nat), .ref hd2]) ht).trans (same_new (o := .lst (ts2.map V.ref ++ [.ref t])) hpa')
      have netr : t ≠ r := (ne_of_none i0 ht).symm
      have nepr : pa' ≠ r := (ne_of_none (same_new (o := .tup [.str ⟨#[c]⟩, .int ((T.run m).1 : Nat), .ref hd2]) ht _ _ i0) hpa').symm
      refine ⟨_, rfl, rn_set (sA _ _ i0) R.cls R.a4 (by show 4 < 1000; decide) put_past fun H3 b3 k0 => ?_⟩
      have bB : But r H2' H3 := (But.of sA).trans b3
      have stB : Stl CR H2' H3 := stl_run i0 bB
      have kt := b3 _ _ (same_new (o := .lst (ts2.map V.ref ++ [.ref t])) hpa' _ _ upd_same) netr
      have kpa := b3 _ _ upd_same nepr
      have kp := ip.stl stB hne
      have kh : HeldAt H3 hd2 T.R (T.run m).2 := ih.stl stB
      obtain ⟨dp3, rr3, e1, e2, e3, f0, f1, f2, f3, f4⟩ := id kp
      -- self.state, rows
      refine seq_asg ⟨_, rfl, r, CR, dx2, _, .ref p, rfl, k0, R.cls, R.a1, rfl, p, CP, dp3, _, .ref e2, rfl, f0, C.cls, C.a5, rfl, ?_⟩
      refine ⟨_, rfl, r, CR, dx2, _, .int ((T.run m).1 : Nat), rfl, k0, R.cls, R.a2, rfl, _, rfl, by show 2 ≤ sizeLine; decide, fun b hb => ?_⟩
      have s4 := same_new (o := .tup [.int ((T.run m).1 : Nat), .str ⟨#[c]⟩]) hb
      obtain ⟨a, hg, rd, ha, hrd⟩ := (f3.stl (Stl.of (CR := 0) s4)).get hst hcL (b := b) upd_same
      refine ⟨e2, _, rfl, hg, a, _, rfl, SqT.of ha, rfl, _, _, rfl, _, rfl, rn_set (Qd := fun Hq => gCons (gName 3) gNil [V.ref rd] _ Hq _) (s4 _ _ k0) R.cls R.a2 (by show 4 < 1000; decide) put_state fun H5 b5 j0 => ?_⟩
      have b35 : But r H3 H5 := (But.of s4).trans b5
      have st35 : Stl CR H3 H5 := stl_run k0 b35
      have st45 := stl_run (s4 _ _ k0) b5
      refine ⟨_, _, rfl, rfl, ?_⟩
      have jt : H5 t = _ := st35 _ _ kt trivial
      have jpa : H5 pa' = _ := st35 _ _ kpa (fun i h => by
        rcases List.mem_append.mp h with h | h
        · obtain ⟨z, _, e⟩ := List.mem_map.mp h; cases e
        · cases List.mem_singleton.mp h)
      have jh : HeldAt H5 hd2 T.R (T.run m).2 := kh.stl st35
      have jrd := hrd.stl st45
      have hin : ∃ kvs, H5 rd = some (.dK kvs) := by
        obtain ⟨as, q1, _⟩ := jrd
        exact ⟨_, q1⟩
      obtain ⟨kvs, hkvs⟩ := hin
      -- self.held
      refine fld_of (rows_read W.nd (Nat.le_trans W.R2 (by decide)) jrd jh (fun H' Q h => ⟨_, rfl, h⟩) (fun x y H' Q keep h => ?_) (fun _ _ => rfl) (fun _ _ => rfl) (fun _ _ => rfl)
        (fun r hr x hx => step_regs W hst hcL hr (jn_reg hx)) (fun r hr => Nat.le_trans (jn_len _) (Nat.le_trans ((W.rows _ _ hst hcL).len r hr) (by decide))) (fun r hr => ?_) (fun d' H6 s6 hd6 => ?_))
      · have ne1 : r ≠ rd := fun z => by subst z; rw [j0] at hkvs; cases hkvs
        have ne2 : pa' ≠ rd := fun z => by subst z; rw [jpa] at hkvs; cases hkvs
        have ne3 : t ≠ rd := fun z => by subst z; rw [jt] at hkvs; cases hkvs
        exact ⟨_, rfl, r, CR, dx2, _, .ref pa', rfl, keep _ _ j0 ne1, R.cls, R.a4, rfl, _, rfl, pa', _, _, _, rfl, rfl, SqL.of (keep _ _ jpa ne2), atI_last, t, _, _, _, rfl, rfl, SqT.of (keep _ _ jt ne3), rfl, h⟩
      · show (cs (wr (jn _) _)).length ≤ _
        rw [wr_jn]
        have h6 := step_size W hmL hcL hr
        omega
      · refine ⟨_, rfl, rn_set (s6 _ _ j0) R.cls R.a3 (by show 4 < 1000; decide) put_held fun H7 b7 l0 => ?_⟩
        have b57 : But r H5 H7 := (But.of s6).trans b7
        have st67 : Stl CR H6 H7 := stl_run (s6 _ _ j0) b7
        have st57 : Stl CR H5 H7 := stl_run j0 b57
        have st27 : Stl CR H2' H7 := (stB.trans st35).trans st57
        have b27 : But r H H7 := ((b2.trans bB).trans b35).trans b57
        have erun : T.run (m ++ [c]) = T.stp (T.run m) c := Mach.run_snoc T m c
        have em : l ++ (cs z).take (k + 1) = m ++ [c] := by rw [← hm, List.take_add_one, hcl, List.append_assoc]; rfl
        have eh : (fun r => wr (((jnM T).step (T.run m).1 c).2 r) (T.run m).2) = (T.run (m ++ [c])).2 := by
          rw [erun]
          funext r
          exact wr_jn _ _
        rw [eh] at hd6
        refine ⟨some (.str ⟨#[c]⟩), some (.ref rd), rfl, b27, dx2, d', pa', ?_, ?_, ?_, ts2 ++ [t], ?_, ?_⟩
        · rw [l0, em]
          show some (HO.ins CR dx2 (rnFs _ (.int (((jnM T).step (T.run m).1 c).1 : Nat)) _ _)) = some (HO.ins CR dx2 (rnFs _ (.int ((T.run (m ++ [c])).1 : Nat)) _ _))
          rw [erun]
          rfl
        · exact ip.stl st27 hne
        · rw [em]
          exact hd6.stl st67
        · rw [st57 _ _ jpa (fun i h => by
            rcases List.mem_append.mp h with h | h
            · obtain ⟨z, _, e⟩ := List.mem_map.mp h; cases e
            · cases List.mem_singleton.mp h), List.map_append]
          rfl
        · rw [em]
          exact past_snoc i4 (fun a k h => h.stl st27) (st57 _ _ jt trivial) (jh.stl st57)
    · rintro σ H2 ⟨x2, x3, rfl, b2, hr2⟩
      have e : (cs z).take z.cps.size = cs z := by
        have : z.cps.size = (cs z).length := by simp
        rw [this, List.take_length]
      rw [e] at hr2
      exact nx_of (ret_of ⟨_, rfl, q H2 b2 hr2⟩)
end
end Pt
end

section
set_option Elab.async false
set_option maxRecDepth 100000
set_option maxHeartbeats 2000000
set_option linter.unusedSectionVars false
set_option linter.unusedVariables false
namespace Pt
open PySem PySem.Spec PyProof.Rows L2
/-- an own error without an __init__ -/
structure OwX (K : PySem.W.Frag) (mg : Str → Option Value) (x : Str) (C : Addr) : Prop where
  ex : ∃ (B newId initId : String) (bmB : List Value), ExcBaseFacts B newId initId bmB ∧ PySem.W.excIn K C bmB newId = true
  gl : mg x = some (.ref C)
  kp : PySem.W.keepIn K (.ref C) = true
  sub : PySem.W.subIn K (.ref C) (.type "BaseException") = some true
  ty : PySem.W.typeIn K (.ref C) = some (.type "type")
theorem pmk_ow {X : Cx} {C : Addr} {x m : Str} {j : Nat} {p p2 pos : Pos} (o : OwX X.K X.mg x C) (hg : Gl X x) (hdb : (x == ("__debug__" : Str)) = false := by decide) : PMk X (.Call (.Name x p) [.Constant (.str m) j p2] [] pos) (fun _ H Q => Q (.ref C) none H) := by
  obtain ⟨B, newId, initId, bmB, F, q⟩ := o.ex
  exact pmk_own F q o.gl o.kp (raises_own o.sub o.ty) hg hdb
theorem next_of {D : Ends} {σ : L2.St} {H : Hp} (h : D.nx σ H) : tNext D σ H := h
theorem cut_last {xs : List V} {v : V} : cutV (xs ++ [v]) none (some (-1)) = xs := by
  unfold cutV
  have e1 : HT.sIx (xs ++ [v]).length 0 none = 0 := rfl
  have e2 : HT.sIx (xs ++ [v]).length (xs ++ [v]).length (some (-1)) = xs.length := by
    show (if (-1 : Int) < 0 then ((-1 : Int) + ((xs ++ [v]).length : Nat)).toNat else min (-1 : Int).toNat (xs ++ [v]).length) = _
    rw [if_pos (by decide), List.length_append, List.length_singleton]
    omega
  rw [e1, e2, List.drop_zero, Nat.sub_zero, List.take_left]
/-- the last of the past -/
theorem past_last {H : Hp} {T : Mach} {m : List Nat} {c : Nat} {ts : List Addr} (hp : Paired (PEnt H T (m ++ [c])) ts (List.range (m ++ [c]).length)) :
    ∃ ts0 t h, ts = ts0 ++ [t] ∧ Paired (PEnt H T m) ts0 (List.range m.length) ∧ H t = some (.tup [.str (mkS [c]), .int ((T.run m).1 : Nat), .ref h]) ∧ HeldAt H h T.R (T.run m).2 := by
  rw [List.length_append, List.length_singleton, List.range_succ] at hp
  obtain ⟨ts0, t, rfl, h1, c', h, h2, h3, h4⟩ := paired_split hp
  have e : c' = c := by simpa using h2.symm
  subst e
  rw [List.take_left] at h3 h4
  refine ⟨ts0, t, h, rfl, paired_imp h1 fun a k hk x => ?_, h3, h4⟩
  have hk' : k < m.length := List.mem_range.mp hk
  obtain ⟨c1, h', g1, g2, g3⟩ := x
  rw [List.getElem?_append_left hk'] at g1
  rw [List.take_append_of_le_length (Nat.le_of_lt hk')] at g2 g3
  exact ⟨c1, h', g1, g2, g3⟩
abbrev sBack : Stmt := inClass (top 25) 7
def spBack0 (CR CP : Addr) : Sp := fun vs H Q _ => ∃ (r p : Addr) (T : Mach) (l : List Nat) (n : Nat), vs = [.ref r, .int (n : Nat)] ∧ RunAt H CR CP T l p r ∧ CP ≠ CR ∧ n ≤ l.length ∧ l.length ≤ 1000 ∧
  ∀ H', But r H H' → RunAt H' CR CP T (l.take (l.length - n)) p r → Q (.ref r) H'
def spBackX (CR CP CN CU : Addr) : Sp := fun vs H Q E => ∃ (r p : Addr) (T : Mach) (l : List Nat) (k : Int), vs = [.ref r, .int k] ∧ RunAt H CR CP T l p r ∧ ((0 ≤ k ∧ (l.length : Int) < k ∧ E (.ref CN) none H) ∨ (k < 0 ∧ E (.ref CU) none H))
abbrev FunB (K : PySem.W.Frag) (f : Addr) (fd : FuncData) : Prop := FunD K "back" "Run.back" (defArgs sBack) (defBody sBack) (defScope sBack) [.int 1] [] f fd
section
variable {P : Program} {w : World} {K : PySem.W.Frag} {mg : Str → Option Value} {base : Heap}
theorem scBack : FnScope ["self", "many", "turn", "letter"] ["self", "many"] (defScope sBack) := ⟨rfl, rfl, rfl, by decide +kernel, rfl, by decide +kernel, by decide +kernel⟩
theorem back_binds {f : Addr} {fd : FuncData} (F : FunB K f fd) : L2.Binds K fd ["self", "many"] [] := by
  obtain ⟨ds, h1, h2⟩ := F.binds1 (ps := ["self", "many"]) 2 1 (List.cons_ne_nil _ _) rfl (fun T kV doc pm an cdv ct us its hu hi => by
    match us, hu, its, hi with
    | [a, b], _, [c], _ => exact ⟨_, rfl, rfl⟩)
  cases h1
  exact h2
theorem ok_backX {CR CP CN CU : Addr} {f : Addr} {fd : FuncData} (F : FunB K f fd) (B : Bl mg) (R : RnK K CR) (cW : CaWhole P w K mg base) (oN : OwX K mg "NothingDone" CN) (oU : OwX K mg "BadNumber" CU) : FnOk P w K mg base (L2.CX P w) 2 f fd ["self", "many"] (spBackX CR CP CN CU) := by
  refine F.ok scBack (fun vs H Q E h => ?_) (fun cdv A outer s H vs Q E hr h => ?_)
  · obtain ⟨r, p, T, l, k, rfl, _⟩ := h
    rfl
  · obtain ⟨r, p, T, l, k, rfl, ⟨dx, hd, pa, h0, h1, h2, ts, h3, h4⟩, h⟩ := h
    have tk : Takes (cxOf (L2.CX P w) P w K mg base ["self", "many", "turn", "letter"] "Run.back" (defScope sBack) f cdv A outer s H E) (fun cls d _ H => E cls d H) := takes_of rfl rfl rfl rfl
    refine ⟨_, pss_cons (ps_if (PW.pt (pw_or (pt_not (pt_val (pe_ca cW hr (by decide) rfl (pa_cons (pv 1) pa_nil)))) (pw_or1 (pt_cmpR op_lt (pv 1) pe_int (nomark _))))) (pss_one (ps_raise rfl tk (pmk_ow oU rfl))) pss_nil)
      (pss_cons (ps_if (pt_cmpR op_gt (pv 1) (pe_callB call_len_seq (by rfl) B.len PySem.boot_len (pa_cons (pe_fld (pv 0) rfl) pa_nil)) (nomark _)) (pss_one (ps_raise rfl tk (pmk_ow oN rfl))) pss_nil) pss_never), ?_⟩
    rcases h with ⟨k0, hk, q⟩ | ⟨hk, q⟩
    · refine ⟨_, rfl, k, rfl, true, rfl, _, rfl, _, _, rfl, rfl, false, bl_false (p := k < 0) (by omega), ?_⟩
      refine if_no (next_of (nx_of (seq_if ?_)))
      refine ⟨_, rfl, _, rfl, r, CR, dx, _, .ref pa, rfl, h0, R.cls, R.a4, rfl, pa, _, rfl, .inl (SqL.of h3), _, _, rfl, rfl, true, bl_true (p := ((ts.map V.ref).length : Nat) < k) (by rw [List.length_map, paired_length h4, List.length_range]; omega), ?_⟩
      exact if_yes q
    · refine ⟨_, rfl, k, rfl, true, rfl, _, rfl, _, _, rfl, rfl, true, bl_true (p := k < 0) hk, ?_⟩
      exact if_yes q
theorem ok_back0 {CR CP : Addr} {f : Addr} {fd : FuncData} (F : FunB K f fd) (B : Bl mg) (R : RnK K CR) (cW : CaWhole P w K mg base) : FnOk P w K mg base CX0 2 f fd ["self", "many"] (spBack0 CR CP) := by
  refine F.ok scBack (fun vs H Q E h => ?_) (fun cdv A outer s H vs Q E hr h => ?_)
  · obtain ⟨r, p, T, l, k, rfl, _⟩ := h
    rfl
  · obtain ⟨r, p, T, l, n, rfl, ⟨dx, hd, pa, h0, h1, h2, ts, h3, h4⟩, hne, hn, hl, q⟩ := h
    have nd := scBack.nd
    have key : ∃ t, PSs (cxOf CX0 P w K mg base ["self", "many", "turn", "letter"] "Run.back" (defScope sBack) f cdv A outer s H E).nox (defBody sBack) t ∧ t { nx := fun _ H' => Q .non H', rt := Q } (start ["self", "many", "turn", "letter"] [.ref r, .int (n : Nat)]) H := by
      refine ⟨_, pss_cons (ps_if (PW.pt (pw_or (pt_not (pt_val (pe_ca cW hr (by decide) rfl (pa_cons (pv 1) pa_nil)))) (pw_or1 (pt_cmpR op_lt (pv 1) pe_int (nomark _))))) pss_never pss_nil)
        (pss_cons (ps_if (pt_cmpR op_gt (pv 1) (pe_callB call_len_seq (by rfl) B.len PySem.boot_len (pa_cons (pe_fld (pv 0) rfl) pa_nil)) (nomark _)) pss_never pss_nil)
        (pss_cons (ps_for PassesOwn.never rfl (pi_range1 rfl B.range (pa_cons (pv 1) pa_nil)) (pg_name (i := 2) nd rfl (.inl rfl))
          (pss_cons (ps_asg (pe_ix ix_list (pe_fld (pv 0) rfl) (pe_un un_neg pe_int) (fun _ _ => rfl)) (pg_tup rfl (pgs_cons (pg_name (i := 3) nd rfl (.inl rfl)) (pgs_cons (pg_fld (pv 0)) (pgs_cons (pg_fld (pv 0)) pgs_nil)))))
          (pss_one (ps_fld (pv 0) (pe_slice sl_list (pe_fld (pv 0) rfl) po_none (po_some (pe_un un_neg pe_int))) rfl))))
        (pss_one (ps_ret (pv 0))))), ?_⟩
      refine ⟨_, rfl, (n : Nat), rfl, true, rfl, _, rfl, _, _, rfl, rfl, false, bl_false (p := ((n : Nat) : Int) < 0) (by omega), ?_⟩
      refine no_if (nx_of (seq_if ?_))
      refine ⟨_, rfl, _, rfl, r, CR, dx, _, .ref pa, rfl, h0, R.cls, R.a4, rfl, pa, _, rfl, .inl (SqL.of h3), _, _, rfl, rfl, false, bl_false (p := (((ts.map V.ref).length : Nat) : Int) < (n : Nat)) (by rw [List.length_map, paired_length h4, List.length_range]; omega), ?_⟩
      refine no_if (nx_of ?_)
      refine ⟨_, rfl, (n : Nat), rfl, by omega, by omega, ?_⟩
      rw [Int.toNat_natCast]
      refine for_range (lo := 0) (n := n) (fun i σ H2 => ∃ x2 x3, σ = [some (.ref r), some (.int (n : Nat)), x2, x3] ∧ But r H H2 ∧ RunAt H2 CR CP T (l.take (l.length - i)) p r) ⟨none, none, rfl, But.refl r H, ?_⟩ ?_ ?_
      · rw [Nat.sub_zero, List.take_length]
        exact ⟨dx, hd, pa, h0, h1, h2, ts, h3, h4⟩
      · rintro i σ H2 hi ⟨x2, x3, rfl, b2, dx2, hd2, pa2, i0, ip, ih, ts2, i3, i4⟩
        obtain ⟨c, hc⟩ : ∃ c, l[l.length - (i + 1)]? = some c := ⟨l[l.length - (i + 1)]'(by omega), List.getElem?_eq_getElem _⟩
        have em : l.take (l.length - i) = l.take (l.length - (i + 1)) ++ [c] := by
          rw [show l.length - i = l.length - (i + 1) + 1 by omega, List.take_add_one, hc]
          rfl
        generalize l.take (l.length - i) = m at em i0 ip ih i3 i4
        subst em
        generalize hm0 : l.take (l.length - (i + 1)) = m0 at i0 ip ih i3 i4 ⊢
        obtain ⟨ts0, t, h, rfl, g1, g2, g3⟩ := past_last i4
        rw [List.map_append] at i3
        refine seq_asg ⟨_, rfl, r, CR, dx2, _, .ref pa2, rfl, i0, R.cls, R.a4, rfl, _, rfl, pa2, _, _, _, rfl, rfl, SqL.of i3, atI_last, ?_⟩
        refine ⟨t, _, rfl, SqT.of g2, rfl, _, _, rfl, _, _, rfl, _, rfl, rn_set (Qd := fun Hq => gCons (gFld K (tVar 0) "held") gNil [V.ref h] _ Hq _) i0 R.cls R.a2 (by show 4 < 1000; decide) put_state fun H3 b3 j0 => ?_⟩
        refine ⟨_, _, rfl, _, rfl, rn_set (Qd := fun Hq => gNil [] _ Hq _) j0 R.cls R.a3 (by show 4 < 1000; decide) put_held fun H4 b4 k0 => ?_⟩
        have b24 := b3.trans b4
        have st24 : Stl CR H2 H4 := stl_run i0 b24
        have fzl : ∀ {xs : List Addr}, Fz CR (.lst (xs.map V.ref)) := fun {xs} i h => by
          obtain ⟨z, _, e⟩ := List.mem_map.mp h
          cases e
        have fzl2 : Fz CR (.lst (ts0.map V.ref ++ [V.ref t])) := fun i h => by
          rcases List.mem_append.mp h with h | h
          · obtain ⟨z, _, e⟩ := List.mem_map.mp h; cases e
          · cases List.mem_singleton.mp h
        refine ⟨rfl, fld_of ?_⟩
        refine ⟨_, rfl, r, CR, dx2, _, .ref pa2, rfl, k0, R.cls, R.a4, rfl, _, rfl, _, rfl, pa2, _, rfl, SqL.of (st24 _ _ i3 fzl2), fun pa3 hpa3 => ?_⟩
        rw [show List.map V.ref [t] = [V.ref t] from rfl, cut_last]
        have s5 := same_new (o := .lst (ts0.map V.ref)) hpa3
        have ne3 : pa3 ≠ r := (ne_of_none k0 hpa3).symm
        refine ⟨_, rfl, rn_set (s5 _ _ k0) R.cls R.a4 (by show 4 < 1000; decide) put_past fun H6 b6 l0 => ?_⟩
        have b46 := (But.of (D := r) s5).trans b6
        have st46 : Stl CR H4 H6 := stl_run k0 b46
        have st26 := st24.trans st46
        refine ⟨_, _, rfl, b2.trans (b24.trans b46), dx2, h, pa3, l0, ip.stl st26 hne, g3.stl st26, ts0, b6 _ _ upd_same ne3, paired_imp g1 fun _ _ _ x => x.stl st26⟩
      · rintro σ H2 ⟨x2, x3, rfl, b2, hr2⟩
        exact nx_of (ret_of ⟨_, rfl, q H2 b2 hr2⟩)
    obtain ⟨t, h1, h2⟩ := key
    exact ⟨t, h1.nox, h2⟩
end
end Pt
end

section
set_option Elab.async false
set_option maxRecDepth 100000
set_option maxHeartbeats 2000000
set_option linter.unusedSectionVars false
set_option linter.unusedVariables false
namespace Pt
open PySem PySem.Spec PyProof.Rows L2
abbrev trFs (r st hd pa : V) : List (Str × V) := [("run", r), ("state", st), ("held", hd), ("past", pa)]
structure TrK (K : PySem.W.Frag) (CT : Addr) : Prop where
  cls : Cls K CT
  a1 : NoAttr K CT "run"
  a2 : NoAttr K CT "state"
  a3 : NoAttr K CT "held"
  a4 : NoAttr K CT "past"
theorem tr_state {p st hd pa v : V} : putF "state" v (trFs p st hd pa) = trFs p v hd pa := by
  rw [putF_tail (by decide +kernel), putF_head]
theorem tr_held {p st hd pa v : V} : putF "held" v (trFs p st hd pa) = trFs p st v pa := by
  rw [putF_tail (by decide +kernel), putF_tail (by decide +kernel), putF_head]
theorem tr_past {p st hd pa v : V} : putF "past" v (trFs p st hd pa) = trFs p st hd v := by
  rw [putF_tail (by decide +kernel), putF_tail (by decide +kernel), putF_tail (by decide +kernel), putF_head]
abbrev sTInit : Stmt := inClass (top 26) 0
abbrev sEnter : Stmt := inClass (top 26) 1
abbrev sExit : Stmt := inClass (top 26) 2
abbrev sTrial : Stmt := inClass (top 25) 8
abbrev sAttempt : Stmt := inClass (top 25) 9
def spTInit (CR CT : Addr) : Sp := fun vs H Q _ => ∃ (x dx r dr : Addr) (p st hd pa : V), vs = [.ref x, .ref r] ∧ H x = some (.ins CT dx []) ∧ H r = some (.ins CR dr (rnFs p st hd pa)) ∧ ∀ H', But x H H' → H' x = some (.ins CT dx (trFs (.ref r) st hd pa)) → Q .non H'
def spTrial (CR CT : Addr) : Sp := fun vs H Q _ => ∃ (r dr : Addr) (p st hd pa : V), vs = [.ref r] ∧ H r = some (.ins CR dr (rnFs p st hd pa)) ∧ ∀ x dx H', H x = none → Same H H' → H' x = some (.ins CT dx (trFs (.ref r) st hd pa)) → Q (.ref x) H'
def spEnter (CR CT : Addr) : Sp := fun vs H Q _ => ∃ (t dt r dr : Addr) (p st hd pa a b c : V), vs = [.ref t] ∧ H t = some (.ins CT dt (trFs (.ref r) a b c)) ∧ H r = some (.ins CR dr (rnFs p st hd pa)) ∧ t ≠ r ∧ ∀ H', But t H H' → H' t = some (.ins CT dt (trFs (.ref r) st hd pa)) → Q (.ref r) H'
def spExit (CR CT : Addr) : SpQ := fun vs H Q => ∃ (t : Addr) (k e tr : V), vs = [.ref t, k, e, tr] ∧ ((k = .non ∧ Q .non H) ∨
  ∃ (C dt r dr : Addr) (p st hd pa a b c : V), k = .ref C ∧ H t = some (.ins CT dt (trFs (.ref r) st hd pa)) ∧ H r = some (.ins CR dr (rnFs p a b c)) ∧ t ≠ r ∧ ∀ H', But r H H' → H' r = some (.ins CR dr (rnFs p st hd pa)) → Q .non H')
section
variable {P : Program} {w : World} {K : PySem.W.Frag} {mg : Str → Option Value} {base : Heap}
theorem scTInit : FnScope ["self", "run"] ["self", "run"] (defScope sTInit) := ⟨rfl, rfl, rfl, by decide +kernel, rfl, by decide +kernel, by decide +kernel⟩
theorem ok_tinit {CR CT : Addr} {f : Addr} {fd : FuncData} (F : Fun K "__init__" "Trial.__init__" sTInit f fd) (R : RnK K CR) (C : TrK K CT) : FnOk P w K mg base CX0 1 f fd ["self", "run"] (spTInit CR CT) := by
  refine F.ok scTInit (fun vs H Q E h => ?_) (fun cdv A outer s H vs Q E hr h => ?_)
  · obtain ⟨x, dx, r, dr, p, st, hd, pa, rfl, _⟩ := h
    rfl
  · obtain ⟨x, dx, r, dr, p, st, hd, pa, rfl, hx, hr0, q⟩ := h
    have nrx : r ≠ x := fun z => by subst z; rw [hx] at hr0; cases hr0
    refine ⟨_, pss_cons (ps_fld (pv 0) (pv 1) rfl) (pss_cons (ps_fld (pv 0) (pe_fld (pv 1) rfl) rfl) (pss_cons (ps_fld (pv 0) (pe_fld (pv 1) rfl) rfl) (pss_one (ps_fld (pv 0) (pe_fld (pv 1) rfl) rfl)))), ?_⟩
    have F0 : FS H CT x dx [] H := ⟨But.refl x H, hx⟩
    refine seq_fld ⟨_, rfl, _, rfl, F0.fld C.cls C.a1 (by show 0 < 1000; decide) (by show _ ∉ []; decide +kernel) fun H1 F1 _ => ?_⟩
    refine seq_fld ⟨_, rfl, r, CR, dr, _, st, rfl, F1.but _ _ hr0 nrx, R.cls, R.a2, rfl, _, rfl, F1.fld C.cls C.a2 (by show 1 < 1000; decide) (by show _ ∉ [("run" : Str)]; decide +kernel) fun H2 F2 _ => ?_⟩
    refine seq_fld ⟨_, rfl, r, CR, dr, _, hd, rfl, F2.but _ _ hr0 nrx, R.cls, R.a3, rfl, _, rfl, F2.fld C.cls C.a3 (by show 2 < 1000; decide) (by show _ ∉ [("run" : Str), "state"]; decide +kernel) fun H3 F3 _ => ?_⟩
    exact fld_of ⟨_, rfl, r, CR, dr, _, pa, rfl, F3.but _ _ hr0 nrx, R.cls, R.a4, rfl, _, rfl, F3.fld C.cls C.a4 (by show 3 < 1000; decide) (by show _ ∉ [("run" : Str), "state", "held"]; decide +kernel) fun H4 F4 _ => q H4 F4.but F4.ins⟩
theorem scTrial : FnScope ["self"] ["self"] (defScope sTrial) := ⟨rfl, rfl, rfl, by decide +kernel, rfl, by decide +kernel, by decide +kernel⟩
theorem ok_trial {CR CT : Addr} {f fI : Addr} {fd fdI : FuncData} (F : Fun K "trial" "Run.trial" sTrial f fd) (R : RnK K CR) (C : TrK K CT) (M : Mk K CT fI) (gl : mg "Trial" = some (.ref CT)) (FI : Fun K "__init__" "Trial.__init__" sTInit fI fdI) (bI : L2.Binds K fdI ["self", "run"] []) :
    FnOk P w K mg base CX0 3 f fd ["self"] (spTrial CR CT) := by
  refine F.ok scTrial (fun vs H Q E h => ?_) (fun cdv A outer s H vs Q E hr h => ?_)
  · obtain ⟨r, dr, p, st, hd, pa, rfl, _⟩ := h
    rfl
  · obtain ⟨r, dr, p, st, hd, pa, rfl, hr0, q⟩ := h
    refine ⟨_, pss_one (ps_ret (pe_make (E := E0) M (ok_tinit (P := P) (w := w) (mg := mg) (base := base) FI R C) hr (by rfl) gl bI .nil pass0 (pa_cons (pv 0) pa_nil))), ?_⟩
    refine ⟨_, rfl, fun x dx hx hdx hne => ?_⟩
    have sA : Same H (upd (upd H dx (.own x)) x (.ins CT dx [])) := fun b o e => by rw [upd_ne (ne_of_none e hx), upd_ne (ne_of_none e hdx)]; exact e
    exact ⟨x, dx, r, dr, p, st, hd, pa, rfl, upd_same, sA _ _ hr0, fun H' b' hx' => ⟨rfl, q x dx H' hx (fun b o e => b' _ _ (sA b o e) (ne_of_none e hx)) hx'⟩⟩
theorem scEnter : FnScope ["self"] ["self"] (defScope sEnter) := ⟨rfl, rfl, rfl, by decide +kernel, rfl, by decide +kernel, by decide +kernel⟩
theorem ok_enter {CR CT : Addr} {f : Addr} {fd : FuncData} (F : Fun K "__enter__" "Trial.__enter__" sEnter f fd) (R : RnK K CR) (C : TrK K CT) : FnOk P w K mg base CX0 1 f fd ["self"] (spEnter CR CT) := by
  refine F.ok scEnter (fun vs H Q E h => ?_) (fun cdv A outer s H vs Q E hr h => ?_)
  · obtain ⟨t, dt, r, dr, p, st, hd, pa, a, b, c, rfl, _⟩ := h
    rfl
  · obtain ⟨t, dt, r, dr, p, st, hd, pa, a, b, c, rfl, ht, hr0, ne, q⟩ := h
    refine ⟨_, pss_cons (ps_fld (pv 0) (pe_fld (pe_fld (pv 0) rfl) rfl) rfl) (pss_cons (ps_fld (pv 0) (pe_fld (pe_fld (pv 0) rfl) rfl) rfl) (pss_cons (ps_fld (pv 0) (pe_fld (pe_fld (pv 0) rfl) rfl) rfl) (pss_one (ps_ret (pe_fld (pv 0) rfl))))), ?_⟩
    refine seq_fld ⟨_, rfl, t, CT, dt, _, .ref r, rfl, ht, C.cls, C.a1, rfl, r, CR, dr, _, st, rfl, hr0, R.cls, R.a2, rfl, _, rfl, rn_set ht C.cls C.a2 (by show 4 < 1000; decide) tr_state fun H1 b1 h1 => ?_⟩
    have r1 := b1 _ _ hr0 ne.symm
    refine seq_fld ⟨_, rfl, t, CT, dt, _, .ref r, rfl, h1, C.cls, C.a1, rfl, r, CR, dr, _, hd, rfl, r1, R.cls, R.a3, rfl, _, rfl, rn_set h1 C.cls C.a3 (by show 4 < 1000; decide) tr_held fun H2 b2 h2 => ?_⟩
    have r2 := b2 _ _ r1 ne.symm
    refine seq_fld ⟨_, rfl, t, CT, dt, _, .ref r, rfl, h2, C.cls, C.a1, rfl, r, CR, dr, _, pa, rfl, r2, R.cls, R.a4, rfl, _, rfl, rn_set h2 C.cls C.a4 (by show 4 < 1000; decide) tr_past fun H3 b3 h3 => ?_⟩
    exact ret_of ⟨_, rfl, t, CT, dt, _, .ref r, rfl, h3, C.cls, C.a1, rfl, q H3 ((b1.trans b2).trans b3) h3⟩
theorem scExit : FnScope ["self", "kind", "error", "trace"] ["self", "kind", "error", "trace"] (defScope sExit) := ⟨rfl, rfl, rfl, by decide +kernel, rfl, by decide +kernel, by decide +kernel⟩
theorem ok_exit {CR CT : Addr} {f : Addr} {fd : FuncData} (F : Fun K "__exit__" "Trial.__exit__" sExit f fd) (hb : L2.Binds K fd ["self", "kind", "error", "trace"] []) (R : RnK K CR) (C : TrK K CT) : FnQ P w K mg base 1 f ["self", "kind", "error", "trace"] (spExit CR CT) := by
  refine fnq_of F scExit hb (fun vs H Q h => ?_) (fun cdv A outer s H vs Q hr h => ?_)
  · obtain ⟨t, k, e, tr, rfl, _⟩ := h
    rfl
  · obtain ⟨t, k, e, tr, rfl, h⟩ := h
    refine ⟨_, pss_one (ps_if (pt_cmp (pc_notN (pv 1))) (pss_cons (ps_fld (pe_fld (pv 0) rfl) (pe_fld (pv 0) rfl) rfl) (pss_cons (ps_fld (pe_fld (pv 0) rfl) (pe_fld (pv 0) rfl) rfl) (pss_one (ps_fld (pe_fld (pv 0) rfl) (pe_fld (pv 0) rfl) rfl)))) pss_nil), ?_⟩
    rcases h with ⟨rfl, q⟩ | ⟨Ck, dt, r, dr, p, st, hd, pa, a, b, c, rfl, ht, hr0, ne, q⟩
    · exact ⟨_, rfl, false, rfl, q⟩
    · refine ⟨_, rfl, true, rfl, ?_⟩
      refine if_yes (seq_fld ?_)
      refine ⟨_, rfl, t, CT, dt, _, st, rfl, ht, C.cls, C.a2, rfl, _, rfl, t, CT, dt, _, .ref r, rfl, ht, C.cls, C.a1, rfl, rn_set hr0 R.cls R.a2 (by show 4 < 1000; decide) put_state fun H1 b1 h1 => ?_⟩
      have t1 := b1 _ _ ht ne
      refine seq_fld ⟨_, rfl, t, CT, dt, _, hd, rfl, t1, C.cls, C.a3, rfl, _, rfl, t, CT, dt, _, .ref r, rfl, t1, C.cls, C.a1, rfl, rn_set h1 R.cls R.a3 (by show 4 < 1000; decide) put_held fun H2 b2 h2 => ?_⟩
      have t2 := b2 _ _ t1 ne
      exact fld_of ⟨_, rfl, t, CT, dt, _, pa, rfl, t2, C.cls, C.a4, rfl, _, rfl, t, CT, dt, _, .ref r, rfl, t2, C.cls, C.a1, rfl, rn_set h2 R.cls R.a4 (by show 4 < 1000; decide) put_past fun H3 b3 h3 => q H3 ((b1.trans b2).trans b3) h3⟩
end
end Pt
end

section
set_option Elab.async false
set_option maxRecDepth 100000
set_option maxHeartbeats 2000000
set_option linter.unusedSectionVars false
set_option linter.unusedVariables false
namespace Pt
open PySem PySem.Spec PyProof.Rows L2
section
variable {P : Program} {w : World} {K : PySem.W.Frag} {mg : Str → Option Value} {base : Heap}
def spAttempt (P : Program) (w : World) (K : PySem.W.Frag) (mg : Str → Option Value) (base : Heap) (CR CT : Addr) (n : Nat) : SpS := fun L s vs H Q E => ∃ (r f dr : Addr) (p st hd pa : V) (spl : Sp), vs = [.ref r, .ref f] ∧ Acts P w K mg base L s H n f spl ∧ H r = some (.ins CR dr (rnFs p st hd pa)) ∧
  ∀ t dt H1, H t = none → Same H H1 → H1 t = some (.ins CT dt (trFs (.ref r) st hd pa)) → ∀ (Q' : VK) (E' : XK), (∀ v H2, Q v H2 → Q' v H2) → (∀ cls d H2, (∃ C' : Addr, cls = .ref C' ∧ H2 t = some (.ins CT dt (trFs (.ref r) st hd pa)) ∧ ∃ (dr' : Addr) (a b c : V), H2 r = some (.ins CR dr' (rnFs p a b c)) ∧ ∀ H3, But r H2 H3 → H3 r = some (.ins CR dr' (rnFs p st hd pa)) → E cls d H3) → E' cls d H2) → spl [.ref r] H1 Q' E'
theorem scAttempt : FnScope ["self", "work", "run"] ["self", "work"] (defScope sAttempt) := ⟨rfl, rfl, rfl, by decide +kernel, rfl, by decide +kernel, by decide +kernel⟩
theorem ok_attempt {CR CT : Addr} {n : Nat} {f fE fX : Addr} {fd fdE : FuncData} (F : Fun K "attempt" "Run.attempt" sAttempt f fd) (hb : L2.Binds K fd ["self", "work"] []) (R : RnK K CR) (C : TrK K CT) (mT : Me P w K mg base CX0 3 CR "trial" ["self"] (spTrial CR CT))
    (mE : Meth K CT "__enter__" fE) (FE : Fun K "__enter__" "Trial.__enter__" sEnter fE fdE) (bE : L2.Binds K fdE ["self"] []) (mX : Meth K CT "__exit__" fX) {fdX : FuncData} (FX : Fun K "__exit__" "Trial.__exit__" sExit fX fdX) (bX : L2.Binds K fdX ["self", "kind", "error", "trace"] []) (hn : 3 ≤ n) :
    FnS P w K mg base (L2.CX P w) (n + 1) f ["self", "work"] (spAttempt P w K mg base CR CT n) := by
  refine fns_of F scAttempt hb (fun L s vs H Q E h => ?_) (fun cdv A outer s H vs Q E hr h => ?_)
  · obtain ⟨r, f, dr, p, st, hd, pa, spl, rfl, _⟩ := h
    rfl
  · obtain ⟨r, fw, dr, p, st, hd, pa, spl, rfl, ac, hr0, q⟩ := h
    have tk : Takes (cxOf (L2.CX P w) P w K mg base ["self", "work", "run"] "Run.attempt" (defScope sAttempt) f cdv A outer s H E) (fun cls d _ H => E cls d H) := takes_of rfl rfl rfl rfl
    refine ⟨_, pss_one (ps_with (i := 2) (tb := fun W => tRet (tAct 1 fw spl (fun cls d H => ∀ σ, W cls d σ H) (tCons (tVar 2) tNil))) rfl rfl rfl tk (hr.mono (j := 1) (by omega)) scAttempt.nd rfl (.inl rfl) mE (ok_enter (P := P) (w := w) (mg := mg) (base := base) FE R C) bE mX (ok_exit FX bX R C) (pe_me0 mT R.cls hr hn pass0 (pv 0))
      (fun W pn xe tk' => pss_one (ps_ret (pe_act1 ac rfl hr (passes_call tk' fun _ _ σ _ h => h σ) rfl (.inl rfl) (pa_cons (pv 2) pa_nil))))), ?_⟩
    refine ⟨_, rfl, r, dr, _, rfl, hr0, rfl, r, dr, p, st, hd, pa, rfl, hr0, fun t dt H1 ht s1 h1 => ?_⟩
    have ntr : t ≠ r := (ne_of_none hr0 ht).symm
    refine ⟨t, dt, _, rfl, h1, t, dt, r, dr, p, st, hd, pa, _, _, _, rfl, h1, s1 _ _ hr0, ntr, fun H2 b2 h2 => ?_⟩
    have s2 : Same H H2 := fun b o e => b2 _ _ (s1 _ _ e) (ne_of_none e ht)
    refine ⟨rfl, _, rfl, ?_⟩
    refine q t dt H2 ht s2 h2 _ _ (fun v H3 h => ⟨t, _, _, _, rfl, .inl ⟨rfl, h⟩⟩) fun cls d H3 h σ => ?_
    obtain ⟨C', rfl, g1, dr', a, b, c, g2, g3⟩ := h
    exact ⟨C', rfl, fun e tr he => ⟨t, _, _, _, rfl, .inr ⟨C', dt, r, dr', p, st, hd, pa, a, b, c, rfl, g1, g2, ntr, fun H4 b4 h4 => ⟨rfl, g3 H4 b4 h4⟩⟩⟩⟩
theorem passes_len {X : Cx} {W : WX} {E : XK} (tk : Takes X W) (hW : ∀ cls d σ H, σ.length = X.N.length → E cls d H → W cls d σ H) : Passes (L2.CX X.prog X.w) X E := fun _ σ _ _ e s' I c => tk e s' (XE.of_call I (fun cls d H' h => hW cls d σ H' I.len h) c)
/-! ### _law_tried, _law_fails -/
structure ExM (K : PySem.W.Frag) (CB CN CU : Addr) : Prop where
  bb : PySem.W.exmOne K (.ref CB) (.ref CB) = some true
  nb : PySem.W.exmOne K (.ref CN) (.ref CB) = some false
  nn : PySem.W.exmOne K (.ref CN) (.ref CN) = some true
  ub : PySem.W.exmOne K (.ref CU) (.ref CB) = some false
  un : PySem.W.exmOne K (.ref CU) (.ref CN) = some false
  uu : PySem.W.exmOne K (.ref CU) (.ref CU) = some true
abbrev sTried : Stmt := top 39
abbrev sFails : Stmt := top 40
/-- what is made of an error -/
def eTried (CB CN CU : Addr) (Q : VK) : XK := fun cls d H1 => (∃ dd v, cls = .ref CB ∧ d = some dd ∧ H1 dd = some (.xd [("place", v)]) ∧ ∀ t, H1 t = none → Q (.ref t) (upd H1 t (.tup [.str "word", v]))) ∨ (cls = .ref CN ∧ Q (.str "nothing") H1) ∨ (cls = .ref CU ∧ Q (.str "number") H1)
def spTried (P : Program) (w : World) (K : PySem.W.Frag) (mg : Str → Option Value) (base : Heap) (CB CN CU : Addr) (n : Nat) : SpS := fun L s vs H Q E => ∃ (f : Addr) (spl : Sp), vs = [.ref f] ∧ Acts P w K mg base L s H n f spl ∧
  ∀ (Q' : VK) (E' : XK), (∀ v H2, Q v H2 → Q' v H2) → (∀ cls d H2, eTried CB CN CU Q cls d H2 → E' cls d H2) → spl [] H Q' E'
theorem scTried : FnScope ["_law_work", "bad"] ["_law_work"] (defScope sTried) := ⟨rfl, rfl, rfl, by decide +kernel, rfl, by decide +kernel, by decide +kernel⟩
theorem ok_tried {CB CN CU : Addr} {n : Nat} {f : Addr} {fd : FuncData} (F : Fun K "_law_tried" "_law_tried" sTried f fd) (hb : L2.Binds K fd ["_law_work"] []) (W : BwK P w K mg base CB) (gN : mg "NothingDone" = some (.ref CN)) (gU : mg "BadNumber" = some (.ref CU)) (M : ExM K CB CN CU) :
    FnS P w K mg base CX0 (n + 1) f ["_law_work"] (spTried P w K mg base CB CN CU n) := by
  refine fns_of F scTried hb (fun L s vs H Q E h => ?_) (fun cdv A outer s H vs Q E hr h => ?_)
  · obtain ⟨f, spl, rfl, _⟩ := h
    rfl
  · obtain ⟨fw, spl, rfl, ac, q⟩ := h
    refine ⟨_, pss_one (ps_tryH (tb := fun W => tRet (tAct 0 fw spl (fun cls d H => ∀ σ : L2.St, σ.length = 2 → W cls d σ H) tNil)) rfl rfl takes0 (fun W pn xe tk' _ => pss_one (ps_ret (pe_act0 ac rfl hr (passes_len tk' fun _ _ σ _ hl h => h σ hl) rfl (.inl rfl))))
      (.named (i := 1) scTried.nd rfl rfl ⟨rfl, by decide, .inl W.gl⟩ (fun a oe cls d pn hz hf => pss_one (ps_ret (pe_tup (pa_cons pe_str (pa_cons (pe_xf W.xf W.no hz hf (pv 1) rfl) pa_nil)))))
        (.plain ⟨rfl, by decide, .inl gN⟩ (fun a oe cls d pn hz hf => pss_one (ps_ret pe_str)) (.plain ⟨rfl, by decide, .inl gU⟩ (fun a oe cls d pn hz hf => pss_one (ps_ret pe_str)) .nil)))), ?_⟩
    refine ⟨rfl, q _ _ (fun v H2 h => h) fun cls d H2 h σ hl => ?_⟩
    rcases h with ⟨dd, v, rfl, rfl, h1, h2⟩ | ⟨rfl, h2⟩ | ⟨rfl, h2⟩
    · refine ⟨true, M.bb, fun _ a ha => ?_, fun z => nomatch z⟩
      refine ⟨_, List.getElem?_set_self (by omega), rfl, rfl, dd, _, v, rfl, h1, rfl, by show 2 ≤ sizeLine; decide, h2⟩
    · exact ⟨false, M.nb, (fun z => nomatch z), fun _ => ⟨true, M.nn, fun _ a ha => h2, fun z => nomatch z⟩⟩
    · exact ⟨false, M.ub, (fun z => nomatch z), fun _ => ⟨false, M.un, (fun z => nomatch z), fun _ => ⟨true, M.uu, fun _ a ha => h2, fun z => nomatch z⟩⟩⟩
end
end Pt
end

section
set_option Elab.async false
set_option maxRecDepth 100000
set_option maxHeartbeats 2000000
set_option linter.unusedSectionVars false
set_option linter.unusedVariables false
namespace Pt
open PySem PySem.Spec PyProof.Rows L2
theorem RunAt.meth {H : Hp} {CR CP p r : Addr} {T : Mach} {l : List Nat} (x : RunAt H CR CP T l p r) {m : Str} (hm : m ∉ ([("program" : Str), "state", "held", "past"] : List Str)) : ∃ dx fs, H r = some (.ins CR dx fs) ∧ fs.lookup m = none := by
  obtain ⟨dx, hd, pa, h0, _⟩ := x
  refine ⟨dx, _, h0, ?_⟩
  rw [List.lookup_eq_none_iff]
  intro q hq
  simp only [runFs, List.mem_cons, List.not_mem_nil, or_false] at hq hm
  rcases hq with rfl | rfl | rfl | rfl <;> simp_all
def spFails (CR CP CB : Addr) : Sp := fun vs H Q E => ∃ (r p : Addr) (T : Mach) (l : List Nat) (z : Str), vs = [.ref r, .str z] ∧ RunAt H CR CP T l p r ∧ WF T ∧ CP ≠ CR ∧ (∀ c ∈ cs z, c ∈ T.letters) ∧ (∀ c ∈ l, c ∈ T.letters) ∧ l.length + (cs z).length ≤ 1000 ∧
  ∀ H1, But r H H1 → RunAt H1 CR CP T (l ++ cs z) p r → ∀ d H', Same H1 H' → H' d = some (.xd [("place", .int 0)]) → E (.ref CB) (some d) H'
theorem bad_sign {L : List Nat} (hL : LOk L) {z : Str} {c : Nat} (hc : cs z = [c]) (h : c ≠ 97 ∧ c ≠ 98) : BadAt L z 0 := by
  have e : z = mkS [c] := by rw [← hc, mkS_cs]
  subst e
  refine ⟨⟨c, rfl, fun hm => ?_⟩, fun j _ hj => absurd hj (Nat.not_lt_zero j)⟩
  rcases hL.chars c hm with e | e
  · exact h.1 e
  · exact h.2 e
section
variable {P : Program} {w : World} {K : PySem.W.Frag} {mg : Str → Option Value} {base : Heap}
abbrev MeRead0 (P : Program) (w : World) (K : PySem.W.Frag) (mg : Str → Option Value) (base : Heap) (CR CP : Addr) : Prop := Me P w K mg base CX0 2 CR "read" ["self", "text"] (spRead0 CR CP)
abbrev MeReadX (P : Program) (w : World) (K : PySem.W.Frag) (mg : Str → Option Value) (base : Heap) (CR CP CB : Addr) : Prop := Me P w K mg base (L2.CX P w) 4 CR "read" ["self", "text"] (spReadX CR CP CB)
theorem scFails : FnScope ["_law_run_here", "_law_text"] ["_law_run_here", "_law_text"] (defScope sFails) := ⟨rfl, rfl, rfl, by decide +kernel, rfl, by decide +kernel, by decide +kernel⟩
theorem ok_fails {CR CP CB : Addr} {f : Addr} {fd : FuncData} (F : Fun K "_law_fails" "_law_fails" sFails f fd) (R : RnK K CR) (c0 : MeRead0 P w K mg base CR CP) (cX : MeReadX P w K mg base CR CP CB) : FnOk P w K mg base (L2.CX P w) 5 f fd ["_law_run_here", "_law_text"] (spFails CR CP CB) := by
  refine F.okX scFails (fun vs H Q E h => ?_) (fun cdv A outer s H vs Q E hr h => ?_)
  · obtain ⟨r, p, T, l, z, rfl, _⟩ := h
    rfl
  · obtain ⟨r, p, T, l, z, rfl, hR, W, hne, hz, hl, hlen, q⟩ := h
    have tk : Takes (cxOf (L2.CX P w) P w K mg base ["_law_run_here", "_law_text"] "_law_fails" (defScope sFails) f cdv A outer s H E) (fun cls d _ H => E cls d H) := takes_of rfl rfl rfl rfl
    refine ⟨_, pss_cons (ps_expr (pe_me c0 R.cls hr (by decide) pass0 (pv 0) (pa_cons (pv 1) pa_nil))) (pss_one (ps_ret (pe_me cX R.cls hr (by decide) (passes_call (E := E) tk fun _ _ _ _ h => h) (pv 0) (pa_cons pe_str pa_nil)))), ?_⟩
    obtain ⟨dx, fs, h0, h1⟩ := hR.meth (m := "read") (by decide +kernel)
    refine ⟨_, rfl, r, dx, fs, rfl, h0, h1, _, rfl, r, p, T, l, z, rfl, hR, W, hne, hz, hl, hlen, fun H1 b1 hR1 => ?_⟩
    obtain ⟨dx1, fs1, h2, h3⟩ := hR1.meth (m := "read") (by decide +kernel)
    exact ⟨_, rfl, r, dx1, fs1, rfl, h2, h3, r, p, T, _, .str "?", rfl, hR1, .inl ⟨"?", 0, rfl, bad_sign W.let_ (c := 63) (by decide +kernel) (by decide), fun d H' s' hd => q H1 b1 hR1 d H' s' hd⟩⟩
/-! ### _law_made -/
abbrev sMade : Stmt := top 38
def spMade (CP : Addr) : Sp := fun vs H Q _ => ∃ (t : Addr) (T : Mach), vs = [.ref t] ∧ ToldAt H t T ∧ WF T ∧ ∀ p H', H p = none → Same H H' → ProgAt H' CP p T → Q (.ref p) H'
theorem scMade : FnScope ["_law_program_here", "_law_letters", "_law_states", "_law_registers", "_law_firsts", "_law_steps", "_law_ends"] ["_law_program_here"] (defScope sMade) := ⟨rfl, rfl, rfl, by decide +kernel, rfl, by decide +kernel, by decide +kernel⟩
theorem ok_made {CP fI : Addr} {f : Addr} {fd fdI : FuncData} (F : Fun K "_law_made" "_law_made" sMade f fd) (M : Mk K CP fI) (gl : mg "Program" = some (.ref CP)) (FI : FnOk P w K mg base CX0 4 fI fdI ["self", "letters", "states", "registers", "firsts", "steps", "ends"] (spInit CP)) (bI : L2.Binds K fdI ["self", "letters", "states", "registers", "firsts", "steps", "ends"] []) :
    FnOk P w K mg base CX0 6 f fd ["_law_program_here"] (spMade CP) := by
  refine F.ok scMade (fun vs H Q E h => ?_) (fun cdv A outer s H vs Q E hr h => ?_)
  · obtain ⟨t, T, rfl, _⟩ := h
    rfl
  · obtain ⟨t, T, rfl, ⟨r, d1, d2, d3, h0, h1, h2, h3, h4⟩, W, q⟩ := h
    have nd := scMade.nd
    refine ⟨_, pss_cons (ps_asg (pv 0) (pg_tup rfl (pgs_cons (pg_name (i := 1) nd rfl (.inl rfl)) (pgs_cons (pg_name (i := 2) nd rfl (.inl rfl)) (pgs_cons (pg_name (i := 3) nd rfl (.inl rfl)) (pgs_cons (pg_name (i := 4) nd rfl (.inl rfl)) (pgs_cons (pg_name (i := 5) nd rfl (.inl rfl)) (pgs_cons (pg_name (i := 6) nd rfl (.inl rfl)) pgs_nil))))))))
      (pss_one (ps_ret (pe_make (E := E0) M FI hr (by rfl) gl bI .nil pass0 (pa_cons (pv 1) (pa_cons (pv 2) (pa_cons (pv 3) (pa_cons (pv 4) (pa_cons (pv 5) (pa_cons (pv 6) pa_nil))))))))), ?_⟩
    refine ⟨_, rfl, t, _, rfl, SqT.of h0, rfl, _, _, rfl, _, _, rfl, _, _, rfl, _, _, rfl, _, _, rfl, _, _, rfl, rfl, ?_⟩
    refine ⟨_, rfl, _, rfl, _, rfl, _, rfl, _, rfl, _, rfl, fun x dx hx hdx hne => ?_⟩
    have sA : Same H (upd (upd H dx (.own x)) x (.ins CP dx [])) := fun b o e => by rw [upd_ne (ne_of_none e hx), upd_ne (ne_of_none e hdx)]; exact e
    exact ⟨x, dx, r, d1, d2, d3, T, rfl, upd_same, W, sA _ _ h1, sA _ _ h2, h3.stl (Stl.of (CR := 0) sA), h4.stl (Stl.of (CR := 0) sA), fun H' b' hp => ⟨rfl, q x H' hx (fun b o e => b' _ _ (sA b o e) (ne_of_none e hx)) hp⟩⟩
/-! ### _law_run -/
abbrev sRunL : Stmt := top 37
def spRunL : Sp := fun vs H Q _ => ∃ (t : Addr) (T : Mach) (z : Str), vs = [.ref t, .str z] ∧ ToldAt H t T ∧ WF T ∧ (∀ c ∈ cs z, c ∈ T.letters) ∧ (cs z).length ≤ 1000 ∧ ∀ H', Same H H' → Q (outV (T.out (cs z))) H'
theorem scRunL : FnScope ["_law_program_here", "_law_text", "_law_letters", "_law_states", "_law_registers", "_law_firsts", "_law_steps", "_law_ends", "_law_state", "_law_held", "_law_letter", "_law_rows_here", "_law_name"] ["_law_program_here", "_law_text"] (defScope sRunL) := ⟨rfl, rfl, rfl, by decide +kernel, rfl, by decide +kernel, by decide +kernel⟩
theorem ok_runL {f : Addr} {fd : FuncData} (F : Fun K "_law_run" "_law_run" sRunL f fd) (B : Bl mg) (cW : CaWrite P w K mg base) : FnOk P w K mg base CX0 2 f fd ["_law_program_here", "_law_text"] spRunL := by
  refine F.ok scRunL (fun vs H Q E h => ?_) (fun cdv A outer s H vs Q E hr h => ?_)
  · obtain ⟨t, T, z, rfl, _⟩ := h
    rfl
  · obtain ⟨t, T, z, rfl, ⟨r, d1, d2, d3, h0, h1, h2, h3, h4⟩, W, hz, hl, q⟩ := h
    have nd := scRunL.nd
    have hu := hu1 hr
    refine ⟨_, pss_cons (ps_asg (pv 0) (pg_tup rfl (pgs_cons (pg_name (i := 2) nd rfl (.inl rfl)) (pgs_cons (pg_name (i := 3) nd rfl (.inl rfl)) (pgs_cons (pg_name (i := 4) nd rfl (.inl rfl)) (pgs_cons (pg_name (i := 5) nd rfl (.inl rfl)) (pgs_cons (pg_name (i := 6) nd rfl (.inl rfl)) (pgs_cons (pg_name (i := 7) nd rfl (.inl rfl)) pgs_nil))))))))
      (pss_cons (ps_asg (pe_tup (pa_cons pe_int (pa_cons (pe_callTy call_dictD (by rfl) B.dict PyProof.Rows.boot_dict (pa_cons (pv 5) pa_nil)) pa_nil))) (pg_tup rfl (pgs_cons (pg_name (i := 8) nd rfl (.inl rfl)) (pgs_cons (pg_name (i := 9) nd rfl (.inr rfl)) pgs_nil))))
      (pss_cons (ps_for PassesOwn.never rfl (pi_str (pv 1)) (pg_name (i := 10) nd rfl (.inl rfl))
        (pss_cons (ps_asg (pe_dget hu (pv 6) (pe_tup (pa_cons (pv 8) (pa_cons (pv 10) pa_nil))) (fun _ _ => rfl)) (pg_tup rfl (pgs_cons (pg_name (i := 8) nd rfl (.inl rfl)) (pgs_cons (pg_name (i := 11) nd rfl (.inr rfl)) pgs_nil))))
        (pss_one (ps_set (i := 9) nd rfl (.inr rfl) (pe_callTy (call_dictP rfl) (by rfl) B.dict PyProof.Rows.boot_dict (pa_cons (pe_lc (own := [("_law_name", 12)]) rfl nd (pi_list (pv 4)) (blkOk_by (by kernel_rfl)) (fun _ _ _ _ _ => pg_name (i := 12) nd rfl (.inl rfl)) (fun _ _ _ _ _ => pts_nil)
          (fun _ _ _ _ _ => pe_tup (pa_cons (pv 12) (pa_cons (pe_ifExp (pt_cmp (pc_din hu (pv 12) (pv 11))) (pe_ca (sp := spText) cW hr (by decide) rfl (pa_cons (pe_dget hu (pv 11) (pv 12) (fun _ _ => rfl)) (pa_cons (pv 9) pa_nil))) (pe_dget hu (pv 9) (pv 12) (fun _ _ => rfl))) pa_nil)))) pa_nil))))))
      (pss_one (ps_ret (pe_ifExp (pt_cmp (pc_din hu (pv 8) (pv 7))) (pe_ca cW hr (by decide) rfl (pa_cons (pe_dget hu (pv 7) (pv 8) (fun _ _ => rfl)) (pa_cons (pv 9) pa_nil))) pe_non))))), ?_⟩
    refine ⟨_, rfl, t, _, rfl, SqT.of h0, rfl, _, _, rfl, _, _, rfl, _, _, rfl, _, _, rfl, _, _, rfl, _, _, rfl, rfl, ?_⟩
    refine nx_of (seq_asg ⟨_, rfl, d1, _, rfl, .inl h2, fun d hd => ⟨by show 2 ≤ sizeLine; decide, fun tt ht => ?_⟩⟩)
    have s3 := (same_new (o := .dK (heldK T.R T.firsts)) hd).trans (same_new (o := .tup [.int 0, .ref d]) ht)
    refine ⟨tt, _, rfl, SqT.of upd_same, rfl, _, _, rfl, _, _, rfl, rfl, ?_⟩
    refine ⟨_, rfl, _, rfl, ?_⟩
    refine for_it walk_str (fun k σ H2 => ∃ d x10 x11, σ = [some (.ref t), some (.str z), some (.str (mkS T.letters)), some (.int (T.S : Nat)), some (.ref r), some (.ref d1), some (.ref d2), some (.ref d3), some (.int ((T.run ((cs z).take k)).1 : Nat)), some (.ref d), x10, x11, none] ∧ Same H H2 ∧ HeldAt H2 d T.R (T.run ((cs z).take k)).2) ⟨d, none, none, rfl, s3, same_new ht _ _ upd_same⟩ (fun _ _ _ _ _ => trivial) ?_ ?_
    · rintro k x σ H2 H2' hk ⟨d, x10, x11, rfl, s2, hd2⟩ ⟨rfl, c, hc, rfl⟩
      have hcl := cps_get hc
      have hcL : c ∈ T.letters := hz c (List.mem_of_getElem? hcl)
      have hlk := take_mem hz k
      have hst := W.state hlk
      refine seq_asg ⟨_, rfl, _, rfl, _, rfl, by show 2 ≤ sizeLine; decide, fun b hb => ?_⟩
      have s4 := same_new (o := .tup [.int ((T.run ((cs z).take k)).1 : Nat), .str ⟨#[c]⟩]) hb
      have s3 := s2.trans s4
      obtain ⟨a, hg, rd, ha, hrd⟩ := (h3.stl (Stl.of (CR := 0) s3)).get hst hcL (b := b) upd_same
      refine ⟨d2, _, rfl, hg, a, _, rfl, SqT.of ha, rfl, _, _, rfl, _, _, rfl, rfl, ?_⟩
      have hd3 : HeldAt _ d T.R (T.run ((cs z).take k)).2 := s4 _ _ hd2
      generalize hHb : upd H2' b (.tup [.int ((T.run ((cs z).take k)).1 : Nat), .str ⟨#[c]⟩]) = Hb at s4 s3 hg ha hrd hd3 ⊢
      refine asg_of ?_
      have hdx := hrd
      refine dict_lc (CR := 0) r (fun L i vs H' => Hb L = none ∧ Same Hb H' ∧ vs = (T.R.take i).map fun y => V.str (wr ((T.step (T.run ((cs z).take k)).1 c).2 y) (T.run ((cs z).take k)).2)) W.nd (Nat.le_trans W.R2 (by decide)) ?_ (fun _ h => ⟨_, rfl, h⟩) (SqL.of (s3 _ _ h1)) ?_ ?_ ?_ ?_ ?_
      · show 12 < 13; decide
      · exact fun L hL => ⟨hL, same_new hL, rfl⟩
      · exact fun L i vs H' h => SqL.of (h.2.1 _ _ (s3 _ _ h1))
      · rintro L i vs H1 H3 _ ⟨hL, hS, rfl⟩ hb
        exact ⟨hL, fun b o e => hb _ _ (hS _ _ e) (ne_of_none e hL), rfl⟩
      · rintro L i y vs H1 hL _ hy hv ⟨hL', hS, rfl⟩ Q' hQ
        have hyR := mem_of_get hy
        obtain ⟨ra, hg2, hrow⟩ := (hrd.stl (Stl.of (CR := 0) hS)).get hyR
        refine ⟨_, rfl, _, rfl, rd, _, rfl, hg2, true, rfl, ?_⟩
        refine ⟨_, rfl, _, rfl, rd, _, rfl, hg2, _, rfl, ra, d, T.R, (T.run ((cs z).take k)).2, _, rfl, hrow, hS _ _ hd3, fun x hx => step_regs W hst hcL hyR hx, Nat.le_trans ((W.rows _ _ hst hcL).len y hyR) (by decide), ?_, fun H5 s5 => hQ _ _ (Stl.of s5) ⟨hL, hS.trans s5, ?_⟩⟩
        · have h6 := step_size W hlk hcL hyR
          have h7 : ((cs z).take k).length ≤ 1000 := by rw [List.length_take]; omega
          omega
        · rw [List.take_add_one, hy, List.map_append]
          rfl
      · rintro L vs H1 hL hv ⟨_, hS, rfl⟩ p hp
        rw [List.take_length, pairK_held]
        refine ⟨p, some (.str ⟨#[c]⟩), some (.ref rd), ?_, (s3.trans hS).trans (same_new hp), ?_⟩
        · rw [run_take hcl]
          rfl
        · rw [run_take hcl]
          exact upd_same
    · rintro σ H2 ⟨d, x10, x11, rfl, s2, hd2⟩
      have e : (cs z).take z.cps.size = cs z := by
        have : z.cps.size = (cs z).length := by simp
        rw [this, List.take_length]
      rw [e] at hd2
      have h42 := h4.stl (Stl.of (CR := 0) s2)
      refine nx_of (ret_of ?_)
      rw [e]
      rcases h42.get (W.state hz) with ⟨hn, hg⟩ | ⟨row, a, he, hg, hrow⟩
      · refine ⟨_, rfl, _, rfl, d3, _, rfl, hg, false, rfl, ?_⟩
        have hout : T.out (cs z) = none := by
          show (T.ends (T.run (cs z)).1).map _ = none
          rw [hn]
          rfl
        have := q H2 s2
        rw [hout] at this
        exact this
      · refine ⟨_, rfl, _, rfl, d3, _, rfl, hg, true, rfl, ?_⟩
        have heo := (W.ends _ _ he).2
        have hout : T.out (cs z) = some (wr row (T.run (cs z)).2) := by
          show (T.ends (T.run (cs z)).1).map _ = _
          rw [he]
          rfl
        rw [hout] at q
        refine ⟨_, rfl, _, rfl, d3, _, rfl, hg, _, rfl, a, d, T.R, (T.run (cs z)).2, row, rfl, hrow, hd2, fun x hx => heo.ok _ hx, Nat.le_trans heo.len (by decide), ?_, fun H' s' => q H' (s2.trans s')⟩
        have := end_size W hz he
        omega
end
end Pt
end

section
set_option Elab.async false
set_option maxRecDepth 100000
set_option maxHeartbeats 2000000
set_option linter.unusedSectionVars false
set_option linter.unusedVariables false
namespace Pt
open PySem PySem.Spec PyProof.Rows L2
/-- two promises of one def, one of them raising -/
theorem fnok_or {P : Program} {w : World} {K : PySem.W.Frag} {mg : Str → Option Value} {base : Heap} {k : Nat} {f : Addr} {fd : FuncData} {ps : List Str} {sp spX : Sp} (F : FnOk P w K mg base CX0 k f fd ps sp) (G : FnOk P w K mg base (L2.CX P w) k f fd ps spX) : FnOk P w K mg base (L2.CX P w) k f fd ps (fun vs H Q E => sp vs H Q E0 ∨ spX vs H Q E) := by
  refine ⟨fun vs H Q E h => h.elim (F.len vs H Q E0) (G.len vs H Q E), fun A outer s H args us vs Q E hr e0 b r h => ?_⟩
  rcases h with h | h
  · refine codeAny_mono (F.run A outer s H args us vs Q E0 hr e0 b r h) fun r s' hq => ?_
    cases r with
    | error e => exact (show False from hq).elim
    | ok fl => cases fl <;> exact hq
  · exact G.run A outer s H args us vs Q E hr e0 b r h
section
variable {P : Program} {w : World} {K : PySem.W.Frag} {mg : Str → Option Value} {base : Heap}
def spBackA (CR CP CN CU : Addr) : Sp := fun vs H Q E => spBack0 CR CP vs H Q E0 ∨ spBackX CR CP CN CU vs H Q E
abbrev MeBack0 (P : Program) (w : World) (K : PySem.W.Frag) (mg : Str → Option Value) (base : Heap) (CR CP : Addr) : Prop := Me P w K mg base CX0 2 CR "back" ["self", "many"] (spBack0 CR CP)
abbrev MeBackA (P : Program) (w : World) (K : PySem.W.Frag) (mg : Str → Option Value) (base : Heap) (CR CP CN CU : Addr) : Prop := Me P w K mg base (L2.CX P w) 2 CR "back" ["self", "many"] (spBackA CR CP CN CU)
end
/-- what attempt asks of its work -/
def TTa (CR CT : Addr) : Sp → V → V → Hp → VK → XK → Prop := fun spl x v H Q E => ∃ (r f dr : Addr) (p st hd pa : V), x = .ref r ∧ v = .ref f ∧ H r = some (.ins CR dr (rnFs p st hd pa)) ∧
  ∀ t dt H1, H t = none → Same H H1 → H1 t = some (.ins CT dt (trFs (.ref r) st hd pa)) → ∀ (Q' : VK) (E' : XK), (∀ v H2, Q v H2 → Q' v H2) → (∀ cls d H2, (∃ C' : Addr, cls = .ref C' ∧ H2 t = some (.ins CT dt (trFs (.ref r) st hd pa)) ∧ ∃ (dr' : Addr) (a b c : V), H2 r = some (.ins CR dr' (rnFs p a b c)) ∧ ∀ H3, But r H2 H3 → H3 r = some (.ins CR dr' (rnFs p st hd pa)) → E cls d H3) → E' cls d H2) → spl [.ref r] H1 Q' E'
def TTt (CB CN CU : Addr) : Sp → V → Hp → VK → XK → Prop := fun spl v H Q E => ∃ f : Addr, v = .ref f ∧ ∀ (Q' : VK) (E' : XK), (∀ v H2, Q v H2 → Q' v H2) → (∀ cls d H2, eTried CB CN CU Q cls d H2 → E' cls d H2) → spl [] H Q' E'
/-! ### the state of the law -/
abbrev q1 : Str := ("law.<locals>." : Str) ++ "<lambda>"
structure LS (K : PySem.W.Frag) (CR CP P : Addr) (q q2 : Str) (D e t p r : Addr) (T : Mach) (l : List Nat) (H : Hp) : Prop where
  draw : DrawAt K H D e
  tab : Tab2 q q2 H P
  told : ToldAt H t T
  run : RunAt H CR CP T l p r
section
variable {K : PySem.W.Frag} {CR CP P : Addr} {q q2 : Str} {D e t p r : Addr} {T : Mach} {l l' : List Nat} {H H' : Hp}
theorem tabs_but {b : Addr} (h : ∀ o, H b = some o → ¬ IsTab o) (x : But b H H') : TabsKept H H' := fun a o ha hi => x a o ha fun z => by subst z; exact h _ ha hi
theorem notTab_lst {xs : List V} : ¬ IsTab (.lst xs) := fun z => by
  rcases z with ⟨_, z⟩ | ⟨_, z⟩ <;> cases z
theorem notTab_ins {C dx : Addr} {fs : List (Str × V)} : ¬ IsTab (.ins C dx fs) := fun z => by
  rcases z with ⟨_, z⟩ | ⟨_, z⟩ <;> cases z
theorem LS.neDr (x : LS K CR CP P q q2 D e t p r T l H) : r ≠ D ∧ r ≠ e := by
  obtain ⟨s, k, ns, h1, h2, h3⟩ := x.draw
  obtain ⟨dx, hd, pa, h4, _⟩ := x.run
  refine ⟨fun z => ?_, fun z => ?_⟩
  · subst z; rw [h1] at h4; cases h4
  · subst z; rw [h2] at h4; cases h4
theorem LS.drawn (n : CP ≠ CR) (x : LS K CR CP P q q2 D e t p r T l H) (h : Drawn K D e H H') : LS K CR CP P q q2 D e t p r T l H' := by
  have st : Stl CR H H' := x.draw.stl h.1
  obtain ⟨dx, hd, pa, h4, h5⟩ := x.run
  obtain ⟨s, k, ns, h1, h2, h3⟩ := x.draw
  refine ⟨h.2, x.tab.ext (tabs_but (fun o ho => by rw [h1] at ho; cases ho; exact notTab_lst) h.1), x.told.stl st, dx, hd, pa, h.1 _ _ h4 x.neDr.1, h5.stl st n⟩
theorem LS.same (x : LS K CR CP P q q2 D e t p r T l H) (h : Same H H') : LS K CR CP P q q2 D e t p r T l H' :=
  ⟨x.draw.same h, x.tab.ext (TabsKept.of h), x.told.stl (Stl.of (CR := CR) h), x.run.same h⟩
/-- the Run alone has changed -/
theorem LS.moved (x : LS K CR CP P q q2 D e t p r T l H) (b : But r H H') (h : RunAt H' CR CP T l' p r) : LS K CR CP P q q2 D e t p r T l' H' := by
  obtain ⟨dx, hd, pa, h4, _⟩ := x.run
  have st : Stl CR H H' := stl_run h4 b
  exact ⟨x.draw.but b x.neDr.1.symm x.neDr.2.symm, x.tab.ext (tabs_but (fun o ho => by rw [h4] at ho; cases ho; exact notTab_ins) b), x.told.stl st, h⟩
/-- the law's table has grown -/
theorem LS.tabbed (n : CP ≠ CR) (x : LS K CR CP P q q2 D e t p r T l H) (b : But P H H') (h : Tab2 q q2 H' P) : LS K CR CP P q q2 D e t p r T l H' := by
  obtain ⟨ps, hP, _⟩ := x.tab
  obtain ⟨dx, hd, pa, h4, h5⟩ := x.run
  obtain ⟨s, k, ns, h1, h2, h3⟩ := x.draw
  have st : Stl CR H H' := Stl.but b fun o ho hf => by rw [hP] at ho; cases ho; exact hf
  refine ⟨x.draw.but b (fun z => by subst z; rw [h1] at hP; cases hP) (fun z => by subst z; rw [h2] at hP; cases hP), h, x.told.stl st, dx, hd, pa, b _ _ h4 (fun z => by subst z; rw [h4] at hP; cases hP), h5.stl st n⟩
/-- a nested table has grown -/
theorem LS.tabbed1 {P1 : Addr} {ps : Array Value} (n : CP ≠ CR) (x : LS K CR CP P q q2 D e t p r T l H) (hP1 : H P1 = some (.tbl ps)) (ne : P1 ≠ P) (b : But P1 H H') (h : Tab1 q2 H' P1) : LS K CR CP P q q2 D e t p r T l H' := by
  obtain ⟨dx, hd, pa, h4, h5⟩ := x.run
  obtain ⟨s, k, ns, h1, h2, h3⟩ := x.draw
  have st : Stl CR H H' := Stl.but b fun o ho hf => by rw [hP1] at ho; cases ho; exact hf
  refine ⟨x.draw.but b (fun z => by subst z; rw [h1] at hP1; cases hP1) (fun z => by subst z; rw [h2] at hP1; cases hP1), Tab2.grown x.tab ne (fun a o ha _ hn => b a o ha hn) hP1 h, x.told.stl st, dx, hd, pa, b _ _ h4 (fun z => by subst z; rw [h4] at hP1; cases hP1), h5.stl st n⟩
end
end Pt
end

section
set_option Elab.async false
set_option maxRecDepth 100000
set_option maxHeartbeats 2000000
set_option linter.unusedSectionVars false
set_option linter.unusedVariables false
namespace Pt
open PySem PySem.Spec PyProof.Rows L2
theorem seq_via {t u : TS} {D : Ends} {σ : L2.St} {H : Hp} (S : L2.St → Hp → Prop) (h : ∀ D' : Ends, (∀ σ' H', S σ' H' → D'.nx σ' H') → t D' σ H) (hq : ∀ σ' H', S σ' H' → u D σ' H') : tSeq t u D σ H := h _ hq
theorem cut_ints {ns : List Int} {lo hi : Option Int} : ∃ ms : List Int, cutV (ns.map V.int) lo hi = ms.map V.int := by
  unfold cutV
  exact ⟨_, by rw [← List.map_drop, ← List.map_take]⟩
theorem cut_read {l : List Nat} {k : Nat} (h : k ≤ l.length) : cutS (mkS l) none (some (((mkS l).length : Int) - (k : Nat))) = mkS (l.take (l.length - k)) := by
  have e0 : (mkS l).length = l.length := rfl
  rw [e0]
  unfold cutS
  have e1 : HT.sIx (mkS l).length 0 none = 0 := rfl
  have e2 : HT.sIx (mkS l).length (mkS l).length (some ((l.length : Int) - (k : Nat))) = l.length - k := by
    show (if ((l.length : Int) - (k : Nat)) < 0 then (((l.length : Int) - (k : Nat)) + ((mkS l).length : Nat)).toNat else min ((l.length : Int) - (k : Nat)).toNat (mkS l).length) = _
    rw [if_neg (by omega), e0]
    omega
  rw [e1, e2, List.drop_zero, Nat.sub_zero]
  rfl
theorem held_same {R : List Str} {h : Str → Str} : ∀ p ∈ heldK R h, valV (heldK R h) p.1 = some p.2 ∧ flatB p.2 = true := fun p hp => by
  unfold heldK at hp
  obtain ⟨r, hr, rfl⟩ := List.mem_map.mp hp
  exact ⟨heldK_val hr, rfl⟩
theorem scal_out (o : Option Str) : scal (outV o) (outV o) = true := by cases o <;> rfl
theorem ifs_of {c : TT} {t u : TS} {D : Ends} {σ : L2.St} {H : Hp} (h : c σ H fun b H1 => if b = true then t D σ H1 else u D σ H1) : tIfS c t u D σ H := h
theorem test_op {r : R2} {ta tb : TE} {σ : L2.St} {H : Hp} {Q : Bool → Hp → Prop} (h : ta σ H fun x H1 => tb σ H1 fun y H2 => r x y H2 fun z H3 => ∃ k, z = .bl k ∧ Q k H3) : tTest (tOp r ta tb) σ H Q := h
theorem or_op {r : R2} {ta tb : TE} {u : TT} {σ : L2.St} {H : Hp} {Q : Bool → Hp → Prop} (h : ta σ H fun x H1 => tb σ H1 fun y H2 => r x y H2 fun z H3 => ∃ k, z = .bl k ∧ if k = true then Q true H3 else u σ H3 Q) : tOr (tTest (tOp r ta tb)) u σ H Q := h
theorem dp_word {K : PySem.W.Frag} {H : Hp} {a : Addr} {x : V} {d : PyData} (h : H a = some (.tup [.str "word", x])) (hx : Dp K H x d) : Dp K H (.ref a) (.tuple [.str "word", d]) := .tup (SqT.of h) (.cons (.str _) (.cons hx .nil))
theorem shp_word {d : PyData} (h : d = .none ∨ ∃ i, d = .int i) : SeqAt.shaped (.tuple [.str "word", d]) = true := by
  unfold SeqAt.shaped
  rcases h with rfl | ⟨i, rfl⟩
  · decide +kernel
  · rw [PyData.canLay0, PyData.canLayAll0, PyData.canLayAll0, PyData.canLayAll0, PyData.canLay0, PyData.canLay0, PyData.depth, PyData.depthAll, PyData.depthAll, PyData.depthAll, PyData.depth, PyData.depth]
    decide +kernel
theorem eqv_word {d : PyData} (h : d = .none ∨ ∃ i, d = .int i) : PyData.eqv (.tuple [.str "word", d]) (.tuple [.str "word", d]) = true := by
  rcases h with rfl | ⟨i, rfl⟩
  · decide +kernel
  · rw [PyData.eqv, PyData.eqvAll, PyData.eqvAll, PyData.eqvAll, PyData.eqv, PyData.eqv]
    simp
theorem mkS_app (a b : List Nat) : mkS a ++ mkS b = mkS (a ++ b) := cs_inj (by rw [cs_app, cs_mkS, cs_mkS, cs_mkS])
theorem bad_z {L : List Nat} (hL : LOk L) {m : List Nat} (hm : ∀ c ∈ m, c ∈ L) : BadAt L (mkS m ++ "Z" ++ mkS m) m.length := by
  have e : mkS m ++ "Z" ++ mkS m = mkS (m ++ [90] ++ m) := by
    rw [show ("Z" : Str) = mkS [90] from by decide +kernel, mkS_app, mkS_app]
  rw [e]
  have g : ∀ j : Nat, (mkS (m ++ [90] ++ m)).cps[j]? = (m ++ [90] ++ m)[j]? := fun j => by
    have : (mkS (m ++ [90] ++ m)).cps = (m ++ [90] ++ m).toArray := rfl
    rw [this]
    simp
  refine ⟨⟨90, by rw [g]; simp, fun h => ?_⟩, fun j c hj hc => ?_⟩
  · rcases hL.chars 90 h with h | h <;> omega
  · rw [g, List.append_assoc, List.getElem?_append_left hj] at hc
    exact hm c (List.mem_of_getElem? hc)
theorem mkS_len (a : List Nat) : (mkS a).length = a.length := by rw [len_cs, cs_mkS]
theorem sign_of {L : List Nat} {z : Str} (h : z ∈ signs (mkS L)) : ∃ c ∈ L, z = mkS [c] := by
  unfold signs at h
  obtain ⟨c, hc, rfl⟩ := List.mem_map.mp h
  exact ⟨c, hc, rfl⟩
/-- ''.join([pick(draw_here, list(told[0])) for more in range(next(draw_here, 4))]) -/
theorem text_draw {K : PySem.W.Frag} {D e t : Addr} {T : Mach} {σ : L2.St} {H : Hp} {Q : VK} (hL : LOk T.letters) (dr : DrawAt K H D e) (hT : ToldAt H t T) (h1 : σ[1]? = some (some (.ref D))) (h9 : ∀ x : V, ((wipe σ [9]).set 9 (some x))[1]? = some (some (.ref D))) (h92 : ∀ x : V, ((wipe σ [9]).set 9 (some x))[2]? = some (some (.ref t))) (hw : ∀ x : V, wipe ((wipe σ [9]).set 9 (some x)) [9] = wipe σ [9])
    (q : ∀ (m : List Nat) H', m.length ≤ 3 → (∀ c ∈ m, c ∈ T.letters) → Drawn K D e H H' → Q (.str (mkS m)) H') :
    tM1 (fun x xs H Q => ∃ a p, ∃ ys : List Str, x = .str a ∧ xs = [.ref p] ∧ (SqL K H p (ys.map V.str) ∨ SqT K H p (ys.map V.str)) ∧ (ys.map (·.length)).sum + ys.length * a.length ≤ 16777216 ∧ Q (.str (Txt.join a ys)) H) (tC (.str ""))
      (tLc (iRng1 (tCons (tCall (spNext K) [] E0 (tCons (tVar 1) (tCons (tC (.int 4)) tNil))) tNil)) (gName 9) tYes
        (tCall (spPick K) [] E0 (tCons (tVar 1) (tCons (tCB (fun xs H Q => ∃ z : Str, xs = [.str z] ∧ z.cps.size ≤ sizeLine ∧ ∀ p, H p = none → Q (.ref p) (upd H p (.lst ((signs z).map V.str)))) (tCons (tOp (rIxT K) (tVar 2) (tC (.int 0))) tNil)) tNil))) [9]) σ H Q := by
  obtain ⟨r, d1, d2, d3, ht, _⟩ := hT
  have ntD : t ≠ D := dr.ne ht fun _ => trivial
  refine ⟨⟨_, rfl⟩, _, h1, D, e, 4, rfl, dr, by decide, fun n H2 hn hd2 => ⟨(n : Nat), rfl, by omega, by omega, fun L hL => ?_⟩⟩
  rw [Int.toNat_natCast]
  refine lc_it walk_range (Qd := fun H' => ∃ a p, ∃ ys : List Str, (V.str "") = .str a ∧ [V.ref L] = [.ref p] ∧ (SqL K H' p (ys.map V.str) ∨ SqT K H' p (ys.map V.str)) ∧ (ys.map (·.length)).sum + ys.length * a.length ≤ 16777216 ∧ Q (.str (Txt.join a ys)) H')
    (fun k H3 => Drawn K D e H2 H3 ∧ ∃ m : List Nat, m.length = k ∧ (∀ c ∈ m, c ∈ T.letters) ∧ H3 L = some (.lst ((m.map fun c => mkS [c]).map V.str))) ⟨⟨But.of (same_new hL), hd2.2.same (same_new hL)⟩, [], rfl, fun _ h => (nomatch h), upd_same⟩ (fun _ _ _ _ => trivial) ?_ ?_
  · rintro k x H3 H3' hk ⟨d3, m, hm, hmL, hLm⟩ ⟨rfl, rfl⟩
    refine ⟨hw _, yes_then ?_⟩
    have ht3 : H3' t = _ := d3.1 _ _ (hd2.1 _ _ ht ntD) ntD
    refine ⟨_, h9 _, _, h92 _, t, _, _, _, rfl, rfl, SqT.of ht3, rfl, mkS T.letters, rfl, ?_, fun l hl => ?_⟩
    · have h2 := (show LOk T.letters from ‹LOk T.letters›).len
      show T.letters.length ≤ _
      exact Nat.le_trans h2 (by decide)
    have hLD : L ≠ D := (hd2.2.nn hL).1.symm
    refine new_pick d3 (fun z => ?_) (fun x H4 hx d4 d34 => ?_) l hl
    · have h2 := congrArg List.length z
      rw [List.length_map, signs_length] at h2
      have h3 := (show LOk T.letters from ‹LOk T.letters›).size
      have h4 : (mkS T.letters).cps.size = T.letters.length := rfl
      simp only [List.length_nil] at h2
      omega
    · obtain ⟨y, hy, rfl⟩ := List.mem_map.mp hx
      obtain ⟨c, hc, rfl⟩ := sign_of hy
      have hL4 := d34.1 _ _ hLm hLD
      refine ⟨_, hL4, ?_, ⟨fun b o e1 n1 => ?_, ?_⟩, m ++ [c], by rw [List.length_append, hm]; rfl, fun x hx => ?_, by rw [upd_same]; simp⟩
      · rw [List.length_map, List.length_map, hm]
        exact Nat.lt_of_lt_of_le hk (Nat.le_trans (show n ≤ 4 by omega) (by decide))
      · rw [upd_ne (ne_of_none e1 hL)]
        exact d4.1 b o e1 n1
      · exact d4.2.but But.upd (hd2.2.nn hL).1 (hd2.2.nn hL).2
      · rcases List.mem_append.mp hx with hx | hx
        · exact hmL x hx
        · rw [List.mem_singleton.mp hx]; exact hc
  · rintro H3 ⟨d3, m, hm, hmL, hLm⟩
    refine ⟨_, L, m.map fun c => mkS [c], rfl, rfl, .inl (SqL.of hLm), ?_, ?_⟩
    · have e0 : (Str.length "") = 0 := rfl
      have e1 : ((m.map fun c => mkS [c]).map (·.length)).sum = m.length := by
        rw [List.map_map]
        have : (fun x : Str => x.length) ∘ (fun c => mkS [c]) = fun _ => 1 := by funext c; rfl
        rw [this, List.map_const', List.sum_replicate_nat]
        omega
      rw [e0, e1]
      have : (1000 : Nat) ≤ 16777216 := by decide
      omega
    · rw [join_letters]
      exact q m H3 (by omega) hmL (hd2.trans d3)
end Pt
end

section
set_option Elab.async false
set_option maxRecDepth 100000
set_option maxHeartbeats 4000000
set_option linter.unusedSectionVars false
set_option linter.unusedVariables false
namespace Pt
open PySem PySem.Spec PyProof.Rows L2
def ql : Str := (("law" : Str) ++ ".<locals>.") ++ "<lambda>"
def ql2 : Str := (ql ++ ".<locals>.") ++ "<lambda>"
def rLenS : List V → Hp → VK → Prop := fun xs H Q => ∃ z, xs = [.str z] ∧ z.length ≤ sizeLine ∧ Q (.int z.length) H
theorem lenS {X : Cx} : CallR X (.builtin "len") rLenS := call_len_str
def rAddS : R2 := fun x y H Q => ∃ i j, x = .str i ∧ y = .str j ∧ i.length + j.length ≤ sizeLine ∧ Q (.str (i ++ j)) H
theorem addS {X : Cx} : OpR X (binaryOp .Add) rAddS := op_add_str
structure CaX (P : Program) (w : World) (K : PySem.W.Frag) (mg : Str → Option Value) (base : Heap) (k : Nat) (x : Str) (ps : List Str) (sp : Sp) : Prop where
  ex : ∃ f fd, FnOk P w K mg base (L2.CX P w) k f fd ps sp ∧ mg x = some (.ref f) ∧ PySem.W.keepIn K (.ref f) = true ∧ L2.Binds K fd ps []
section
variable {X : Cx} {k j : Nat} {x : Str} {ps : List Str} {sp : Sp} {t : TA} {e : Expr} {es : List Expr} {p pos : Pos} {E : XK}
theorem pe_caX (c : CaX X.prog X.w X.K X.mg X.base k x ps sp) (hr : Room j X.A) (hk : k ≤ j) (hg : Gl X x) (hx : Passes (L2.CX X.prog X.w) X E) (ha : PA X (e :: es) t)
    (hdb : (x == ("__debug__" : Str)) = false := by decide) (he : starEach (e :: es) X.env = (false, eval e X.env) :: starEach es X.env := by rfl) (hpl : (backTo pos (starEach es X.env)).any (·.1) = false := by rfl) :
    PE X (.Call (.Name x p) (e :: es) [] pos) (tCall sp [] E t) := by
  obtain ⟨f, fd, F, m, kp, b⟩ := c.ex
  exact pe_call F (hr.mono hk) hg m kp b .nil hx ha hdb he hpl
end
theorem att_sp {P : Program} {w : World} {K : PySem.W.Frag} {mg : Str → Option Value} {base : Heap} {CR CT : Addr} {n : Nat} (L : List Env) (s : Shared) (H : Hp) (f : Addr) (spl : Sp) (x : V) (Q : VK) (E : XK) (ac : Acts P w K mg base L s H n f spl) (h : TTa CR CT spl x (.ref f) H Q E) : spAttempt P w K mg base CR CT n L s [x, .ref f] H Q E := by
  obtain ⟨r, f', dr, p, st, hd, pa, rfl, hf, h1, h2⟩ := h
  cases hf
  exact ⟨r, f, dr, p, st, hd, pa, spl, rfl, ac, h1, h2⟩
theorem tried_sp {P : Program} {w : World} {K : PySem.W.Frag} {mg : Str → Option Value} {base : Heap} {CB CN CU : Addr} {n : Nat} (L : List Env) (s : Shared) (H : Hp) (f : Addr) (spl : Sp) (Q : VK) (E : XK) (ac : Acts P w K mg base L s H n f spl) (h : TTt CB CN CU spl (.ref f) H Q E) : spTried P w K mg base CB CN CU n L s [.ref f] H Q E := by
  obtain ⟨f', hf, h1⟩ := h
  cases hf
  exact ⟨f, spl, rfl, ac, h1⟩
/-- all that the law calls -/
structure LawK (P : Program) (w : World) (K : PySem.W.Frag) (mg : Str → Option Value) (base : Heap) (CR CP CT CB CN CU : Addr) : Prop where
  B : Bl mg
  R : RnK K CR
  CC : CmpC K CR
  ne : CP ≠ CR
  pc : Cls K CP
  next : CaNext P w K mg base
  pick : CaPick P w K mg base
  prog : Ca P w K mg base 6 "_law_program" ["_law_draw_here", "_law_signs"] (spProg K)
  made : Ca P w K mg base 6 "_law_made" ["_law_program_here"] (spMade CP)
  runL : Ca P w K mg base 2 "_law_run" ["_law_program_here", "_law_text"] spRunL
  glR : mg "Run" = some (.ref CR)
  mkR : ∃ fI fd, Mk K CR fI ∧ FnOk P w K mg base CX0 2 fI fd ["self", "program"] (spRInit CR CP) ∧ L2.Binds K fd ["self", "program"] []
  read0 : MeRead0 P w K mg base CR CP
  readX : MeReadX P w K mg base CR CP CB
  back0 : MeBack0 P w K mg base CR CP
  backA : MeBackA P w K mg base CR CP CN CU
  text : Me P w K mg base CX0 1 CR "text" ["self"] (spRText CR CP)
  cont : Me P w K mg base CX0 1 CR "contents" ["self"] (spRCont CR CP)
  writ : Me P w K mg base CX0 2 CR "written" ["self"] (spRWrit CR CP)
  len : ∃ f fd, Meth K CR "__len__" f ∧ FnOk P w K mg base CX0 1 f fd ["self"] (spRLen CR CP) ∧ L2.Binds K fd ["self"] []
  after : Me P w K mg base CX0 2 CP "after" ["self", "text"] (spAfter CP)
  att : ∃ g, Meth K CR "attempt" g ∧ FnS P w K mg base (L2.CX P w) 7 g ["self", "work"] (spAttempt P w K mg base CR CT 6)
  tried : ∃ g, FnS P w K mg base CX0 9 g ["_law_work"] (spTried P w K mg base CB CN CU 8) ∧ mg "_law_tried" = some (.ref g) ∧ PySem.W.keepIn K (.ref g) = true
  fails : CaX P w K mg base 5 "_law_fails" ["_law_run_here", "_law_text"] (spFails CR CP CB)
abbrev sLaw : Stmt := top 41
abbrev NL : List Str := ["_law_script", "_law_draw_here", "_law_told", "_law_program_here", "_law_read", "_law_run_here", "_law_turn", "_law_way", "_law_text", "_law_more", "_law_found", "_law_many", "_law_state", "_law_held", "_law_told_held"]
theorem scLaw : FnScope NL ["_law_script"] (defScope sLaw) := ⟨rfl, rfl, rfl, by decide +kernel, rfl, by decide +kernel, by decide +kernel⟩
theorem hdis1 : ∀ x ∈ NL, x ∉ [("_law_same" : Str)] := by decide +kernel
theorem hdis0 : ∀ x ∈ NL, x ∉ ([] : List Str) := fun _ _ h => nomatch h
def spLaw (K : PySem.W.Frag) (PT : Addr) : Sp := fun vs H Q _ => ∃ (a : Addr) (ns : List Int), vs = [.ref a] ∧ H PT = some (.tbl #[]) ∧ SqL K H a (ns.map V.int) ∧ ∀ H', Q (.bl true) H'
section
variable {P : Program} {w : World} {K : PySem.W.Frag} {mg : Str → Option Value} {base : Heap} {CR CP CT CB CN CU : Addr}
theorem ok_law {c PT f : Addr} {fd : FuncData} (F : Fun K "law" "law" sLaw f fd) (hcode : fd.code = .ref c) (TB : LamX.TabB base mg c PT) (LK : LawK P w K mg base CR CP CT CB CN CU) : FnOk P w K mg base CX0 10 f fd ["_law_script"] (spLaw K PT) := by
  obtain ⟨oc, od, kV, doc, pm, an, cdv, ct, osl, rfl, lk, hcd⟩ := F.ex
  have ec : cdv = .ref c := hcode
  subst ec
  refine fn_of lk hcd scLaw (fun vs H Q E h => ?_) fun A outer s H vs Q E hr h => ?_
  · obtain ⟨a, ns, rfl, _⟩ := h
    rfl
  · obtain ⟨a, ns, rfl, hPT, hS, q⟩ := h
    obtain ⟨fR, fdR, MR, FR, bR⟩ := LK.mkR
    obtain ⟨fL, fdL, mL, FL, bL⟩ := LK.len
    obtain ⟨gA, mA, FA⟩ := LK.att
    obtain ⟨gT, FT, mT, kT⟩ := LK.tried
    have nd := scLaw.nd
    have hu := hu1 hr
    have key : ∃ t, PSs (cxOf CX0 P w K mg base NL "law" (defScope sLaw) f (.ref c) A outer s H E).nox (defBody sLaw) t ∧ t { nx := fun _ H' => Q .non H', rt := Q } (start NL [.ref a]) H := by
      refine ⟨_, pss_cons (ps_set (i := 1) nd rfl (.inr rfl) (pe_lst (pa_cons (pe_slice sl_list (pv 0) po_none (po_some pe_int)) (pa_cons (pe_int) (pa_cons (pe_int) pa_nil)))))
      (pss_cons (ps_set (i := 2) nd rfl (.inr rfl) (pe_ca LK.prog hr (by decide) rfl (pa_cons (pv 1) (pa_cons (pe_lst (pa_cons (pe_str) (pa_cons (pe_str) pa_nil))) pa_nil))))
      (pss_cons (ps_asg (pe_tup (pa_cons (pe_ca LK.made hr (by decide) rfl (pa_cons (pv 2) pa_nil)) (pa_cons (pe_str) pa_nil))) (pg_tup rfl (pgs_cons (pg_name (i := 3) nd rfl (.inl rfl)) (pgs_cons (pg_name (i := 4) nd rfl (.inr rfl)) pgs_nil))))
      (pss_cons (ps_set (i := 5) nd rfl (.inr rfl) (pe_make (E := E0) MR FR (hr.mono (by decide)) rfl LK.glR bR .nil pass0 (pa_cons (pv 3) pa_nil)))
      (pss_cons (ps_for PassesOwn.never rfl (pi_range1 rfl LK.B.range (pa_cons pe_int pa_nil)) (pg_name (i := 6) nd rfl (.inl rfl)) (pss_cons (ps_asg (pe_tup (pa_cons (pe_ca LK.next hr (by decide) rfl (pa_cons (pv 1) (pa_cons (pe_int) pa_nil))) (pa_cons (pe_join pe_str (pe_lc (own := [("_law_more", 9)]) rfl nd (pi_range1 rfl LK.B.range (pa_cons (pe_ca LK.next hr (by decide) rfl (pa_cons (pv 1) (pa_cons (pe_int) pa_nil))) pa_nil)) (blkOk_by (by kernel_rfl)) (fun _ _ _ _ _ => pg_name (i := 9) nd rfl (.inl rfl)) (fun _ _ _ _ _ => pts_nil) (fun _ _ _ _ _ => pe_ca (sp := spPick K) LK.pick hr (by decide) rfl (pa_cons (pv 1) (pa_cons (pe_callTy (call_listStr rfl) (by rfl) LK.B.list PyProof.Rows.boot_list (pa_cons (pe_ix (ix_tupK K rfl) (pv 2) pe_int (fun _ _ => rfl)) pa_nil)) pa_nil))))) pa_nil))) (pg_tup rfl (pgs_cons (pg_name (i := 7) nd rfl (.inl rfl)) (pgs_cons (pg_name (i := 8) nd rfl (.inr rfl)) pgs_nil))))
      (pss_cons (ps_if (pt_cmpR op_lt (pv 7) (pe_int) (nomark _)) (pss_cons (ps_set (i := 10) nd rfl (.inl rfl) (pe_ifExp (pt_cmpR op_eq (pv 7) (pe_int) (nomark _)) (pe_me LK.read0 LK.R.cls hr (by decide) pass0 (pv 5) (pa_cons (pv 8) pa_nil)) (pe_methLam (G := fun _ => True) (R := Tab1 ql2) (TT := TTa CR CT) (lps := ["_law_same"]) (k2 := 5) (tb := fun E' c' P' => tMeth CR "read" (spRead0 CR CP) [] E0 (tVar 0) (tCons (tVar 9) tNil)) tabOk_one (pv 5) LK.R.cls mA FA att_sp (hr.mono (by decide)) (passes_call (E := E0) takes0 fun _ _ _ _ h => h) (fun _ _ _ _ I _ _ => tabH_base TB I) rfl (lamP_by (by kernel_rfl)) hdis1 rfl (fun _ _ _ _ _ us h => match us, h with | [_], _ => rfl) (fun A outer s H E f c' P' hr2 => pe_me LK.read0 LK.R.cls hr2 (by decide) pass0 (pv 0) (pa_cons (pv 9) pa_nil)))))
      (pss_cons (ps_if (pt_cmpR (op_ne_self hu LK.CC) (pv 10) (pv 5) (nomark _)) pss_never pss_nil)
      (pss_one (ps_set (i := 4) nd rfl (.inr rfl) (pe_op op_add_str (pv 4) (pv 8)))))) (pss_one (ps_if (pt_cmpR op_eq (pv 7) (pe_int) (nomark _)) (pss_cons (ps_set (i := 11) nd rfl (.inr rfl) (pe_ca LK.next hr (by decide) rfl (pa_cons (pv 1) (pa_cons (pe_int) pa_nil))))
      (pss_cons (ps_set (i := 10) nd rfl (.inl rfl) (pe_callLam (G := fun _ => True) (R := Tab1 ql2) (TT := TTt CB CN CU) (lps := []) (k2 := 7) (tb := fun E' c' P' => tMeth CR "back" (spBackA CR CP CN CU) [] E' (tVar 5) (tCons (tVar 11) tNil)) tabOk_one FT tried_sp hr pass0 rfl mT kT (fun _ _ _ _ I _ _ => tabH_base TB I) rfl (lamP_by (by kernel_rfl)) hdis0 rfl (fun _ _ _ _ _ us h => match us, h with | [], _ => rfl) (fun A outer s H E f c' P' hr2 => pe_me LK.backA LK.R.cls hr2 (by decide) (passes_call (E := E) (takes_of rfl rfl rfl rfl) fun _ _ _ _ h => h) (pv 5) (pa_cons (pv 11) pa_nil))))
      (pss_cons (ps_if (PW.pt (pw_or (pt_cmpR op_ne (pe_cmpR (op_eq_txt hu LK.CC) (pv 10) (pe_str) (nomark _)) (pe_cmpR op_gt (pv 11) (pe_callB call_len_str (by rfl) LK.B.len PySem.boot_len (pa_cons (pv 4) pa_nil)) (nomark _)) (nomark _)) (pw_or1 (PW.pt (pw_and (pt_cmpR (op_ne_txt hu LK.CC) (pv 10) (pe_str) (nomark _)) (pw_and1 (pt_cmpR (op_ne_self hu LK.CC) (pv 10) (pv 5) (nomark _)))))))) pss_never pss_nil)
      (pss_one (ps_set (i := 4) nd rfl (.inr rfl) (pe_ifExp (pt_cmpR op_le (pv 11) (pe_callB call_len_str (by rfl) LK.B.len PySem.boot_len (pa_cons (pv 4) pa_nil)) (nomark _)) (pe_slice sl_str (pv 4) po_none (po_some (pe_op op_sub (pe_callB call_len_str (by rfl) LK.B.len PySem.boot_len (pa_cons (pv 4) pa_nil)) (pv 11)))) (pv 4))))))) (pss_one (ps_if (pt_cmpR op_eq (pv 7) (pe_int) (nomark _)) (pss_one (ps_if (pt_cmpR (op_neD hr.units) (pe_callLam (G := fun _ => True) (R := Tab1 ql2) (TT := TTt CB CN CU) (lps := []) (k2 := 7) (tb := fun E' c' P' => tMethL CR "attempt" (tVar 5) fun x => tLamE (fun H => H c' = some (CodeT c' ql P')) (fun _ _ => True) ql2 P' (fun spl => TTa CR CT spl x) ["_law_same"] (fun E2 _ _ => tCall (spFails CR CP CB) [] E2 (tCons (tVar 0) (tCons (tVar 9) tNil))) E') tabOk_one FT tried_sp hr pass0 rfl mT kT (fun _ _ _ _ I _ _ => tabH_base TB I) rfl (lamP_by (by kernel_rfl)) hdis0 rfl (fun _ _ _ _ _ us h => match us, h with | [], _ => rfl) (fun A outer s H E f c' P' hr2 => pe_methLam (G := fun H => H c' = some (CodeT c' ql P')) (R := fun _ _ => True) (TT := TTa CR CT) (lps := ["_law_same"]) (k2 := 5) (tb := fun E' c' P' => tCall (spFails CR CP CB) [] E' (tCons (tVar 0) (tCons (tVar 9) tNil))) tabOk_true (pv 5) LK.R.cls mA FA att_sp (hr2.mono (by decide)) (passes_call (E := E) (takes_of rfl rfl rfl rfl) fun _ _ _ _ h => h) (fun _ _ _ _ I hG hT => by obtain ⟨ps, hP, _⟩ := hT; exact tabH_code TB I hG hP) rfl (lamP_by (by kernel_rfl)) hdis1 rfl (fun _ _ _ _ _ us h => match us, h with | [_], _ => rfl) (fun A outer s H E f c' P' hr2 => pe_caX LK.fails hr2 (by decide) rfl (passes_call (E := E) (takes_of rfl rfl rfl rfl) fun _ _ _ _ h => h) (pa_cons (pv 0) (pa_cons (pv 9) pa_nil))))) (pe_tup (pa_cons (pe_str) (pa_cons (pe_int) pa_nil))) (nomark _)) pss_never pss_nil)) (pss_one (ps_if (pt_cmpR op_eq (pv 7) (pe_int) (nomark _)) (pss_one (ps_if (pt_cmpR (op_neD hr.units) (pe_callLam (G := fun _ => True) (R := Tab1 ql2) (TT := TTt CB CN CU) (lps := []) (k2 := 7) (tb := fun E' c' P' => tMeth CR "read" (spReadX CR CP CB) [] E' (tVar 5) (tCons (tOp rAddS (tOp rAddS (tVar 8) (tC (.str "Z"))) (tVar 8)) tNil)) tabOk_one FT tried_sp hr pass0 rfl mT kT (fun _ _ _ _ I _ _ => tabH_base TB I) rfl (lamP_by (by kernel_rfl)) hdis0 rfl (fun _ _ _ _ _ us h => match us, h with | [], _ => rfl) (fun A outer s H E f c' P' hr2 => pe_me LK.readX LK.R.cls hr2 (by decide) (passes_call (E := E) (takes_of rfl rfl rfl rfl) fun _ _ _ _ h => h) (pv 5) (pa_cons (pe_op addS (pe_op addS (pv 8) pe_str) (pv 8)) pa_nil))) (pe_tup (pa_cons (pe_str) (pa_cons (pe_callB call_len_str (by rfl) LK.B.len PySem.boot_len (pa_cons (pv 8) pa_nil)) pa_nil))) (nomark _)) pss_never pss_nil)) (pss_one (ps_if (pt_cmpR (op_ne_self hu LK.CC) (pe_methLam (G := fun _ => True) (R := Tab1 ql2) (TT := TTa CR CT) (lps := ["_law_same"]) (k2 := 5) (tb := fun E' c' P' => tMeth CR "back" (spBack0 CR CP) [] E0 ((tMeth CR "read" (spRead0 CR CP) [] E0 (tVar 0) (tCons (tVar 9) tNil))) (tCons (tCB rLenS (tCons (tVar 9) tNil)) tNil)) tabOk_one (pv 5) LK.R.cls mA FA att_sp (hr.mono (by decide)) (passes_call (E := E0) takes0 fun _ _ _ _ h => h) (fun _ _ _ _ I _ _ => tabH_base TB I) rfl (lamP_by (by kernel_rfl)) hdis1 rfl (fun _ _ _ _ _ us h => match us, h with | [_], _ => rfl) (fun A outer s H E f c' P' hr2 => pe_me LK.back0 LK.R.cls hr2 (by decide) pass0 (pe_me LK.read0 LK.R.cls hr2 (by decide) pass0 (pv 0) (pa_cons (pv 9) pa_nil)) (pa_cons (pe_callB lenS (by rfl) LK.B.len PySem.boot_len (pa_cons (pv 9) pa_nil)) pa_nil))) (pv 5) (nomark _)) pss_never pss_nil)))))))))
      (pss_cons (ps_asg (pe_me LK.after LK.pc hr (by decide) pass0 (pv 3) (pa_cons (pv 4) pa_nil)) (pg_tup rfl (pgs_cons (pg_name (i := 12) nd rfl (.inl rfl)) (pgs_cons (pg_name (i := 13) nd rfl (.inl rfl)) pgs_nil))))
      (pss_cons (ps_if (PW.pt (pw_or (pt_cmpR op_ne (pe_me0 LK.text LK.R.cls hr (by decide) pass0 (pv 5)) (pv 4) (nomark _)) (pw_or (pt_cmpR op_ne (pe_lenO rfl LK.B.len mL FL (hr.mono (by decide)) bL (pv 5)) (pe_callB call_len_str (by rfl) LK.B.len PySem.boot_len (pa_cons (pv 4) pa_nil)) (nomark _)) (pw_or (pt_cmpR op_ne (pe_fld (pv 5) rfl) (pv 12) (nomark _)) (pw_or1 (pt_cmpR (op_ne_dictA hr.units0) (pe_me0 LK.cont LK.R.cls hr (by decide) pass0 (pv 5)) (pv 13) (nomark _))))))) pss_never pss_nil)
      (pss_one (ps_if (pt_cmpR op_ne (pe_me0 LK.writ LK.R.cls hr (by decide) pass0 (pv 5)) (pe_ca LK.runL hr (by decide) rfl (pa_cons (pv 2) (pa_cons (pv 4) pa_nil))) (nomark _)) pss_never pss_nil)))))))
      (pss_cons (ps_set (i := 14) nd rfl (.inl rfl) (pe_me0 LK.cont LK.R.cls hr (by decide) pass0 (pv 5)))
      (pss_cons (ps_asg pe_str (pg_sub (pv 14) pe_str (set_dict hu)))
      (pss_cons (ps_if (PW.pt (pw_or (pt_cmpR op_ne (pe_callLam (G := fun _ => True) (R := Tab1 ql2) (TT := TTt CB CN CU) (lps := []) (k2 := 7) (tb := fun E' c' P' => tMeth CR "back" (spBackA CR CP CN CU) [] E' (tVar 5) (tCons (tOp (rI0 fun i j => .int (i + j)) (tCB rLenS (tCons (tVar 4) tNil)) (tC (.int 1))) tNil)) tabOk_one FT tried_sp hr pass0 rfl mT kT (fun _ _ _ _ I _ _ => tabH_base TB I) rfl (lamP_by (by kernel_rfl)) hdis0 rfl (fun _ _ _ _ _ us h => match us, h with | [], _ => rfl) (fun A outer s H E f c' P' hr2 => pe_me LK.backA LK.R.cls hr2 (by decide) (passes_call (E := E) (takes_of rfl rfl rfl rfl) fun _ _ _ _ h => h) (pv 5) (pa_cons (pe_op op_add (pe_callB lenS (by rfl) LK.B.len PySem.boot_len (pa_cons (pv 4) pa_nil)) pe_int) pa_nil))) (pe_str) (nomark _)) (pw_or1 (pt_cmpR (op_ne_dictA hr.units0) (pe_me0 LK.cont LK.R.cls hr (by decide) pass0 (pv 5)) (pe_ix ix_tup (pe_me LK.after LK.pc hr (by decide) pass0 (pv 3) (pa_cons (pv 4) pa_nil)) pe_int (fun _ _ => rfl)) (nomark _))))) pss_never pss_nil)
      (pss_cons (ps_if (pt_cmpR op_ne (pe_callLam (G := fun _ => True) (R := Tab1 ql2) (TT := TTt CB CN CU) (lps := []) (k2 := 7) (tb := fun E' c' P' => tMeth CR "back" (spBackA CR CP CN CU) [] E' (tVar 5) (tCons (tUn (rU fun i => .int (-i)) (tC (.int 1))) tNil)) tabOk_one FT tried_sp hr pass0 rfl mT kT (fun _ _ _ _ I _ _ => tabH_base TB I) rfl (lamP_by (by kernel_rfl)) hdis0 rfl (fun _ _ _ _ _ us h => match us, h with | [], _ => rfl) (fun A outer s H E f c' P' hr2 => pe_me LK.backA LK.R.cls hr2 (by decide) (passes_call (E := E) (takes_of rfl rfl rfl rfl) fun _ _ _ _ h => h) (pv 5) (pa_cons (pe_un un_neg pe_int) pa_nil))) (pe_str) (nomark _)) pss_never pss_nil)
      (pss_one (ps_ret (pe_cmpR (op_eqD hr.units) (pe_callLam (G := fun _ => True) (R := Tab1 ql2) (TT := TTt CB CN CU) (lps := []) (k2 := 7) (tb := fun E' c' P' => tMeth CR "read" (spReadX CR CP CB) [] E' (tVar 5) (tCons (tC .non) tNil)) tabOk_one FT tried_sp hr pass0 rfl mT kT (fun _ _ _ _ I _ _ => tabH_base TB I) rfl (lamP_by (by kernel_rfl)) hdis0 rfl (fun _ _ _ _ _ us h => match us, h with | [], _ => rfl) (fun A outer s H E f c' P' hr2 => pe_me LK.readX LK.R.cls hr2 (by decide) (passes_call (E := E) (takes_of rfl rfl rfl rfl) fun _ _ _ _ h => h) (pv 5) (pa_cons (pe_non) pa_nil))) (pe_tup (pa_cons (pe_str) (pa_cons (pe_non) pa_nil))) (nomark _)))))))))))), ?_⟩
      obtain ⟨ns1, hns1⟩ := cut_ints (ns := ns) (lo := none) (hi := some 63)
      refine seq_asg ?_
      refine ⟨_, rfl, 63, rfl, a, _, rfl, hS, fun e he => ⟨by show 3 ≤ sizeLine; decide, fun D hD => ?_⟩⟩
      rw [hns1] at hD ⊢
      have sA := (same_new (o := .lst (ns1.map V.int)) he).trans (same_new (o := .lst [.ref e, .int 0, .int 0]) hD)
      have dr0 : DrawAt K (upd (upd H e (.lst (ns1.map V.int))) D (.lst [.ref e, .int 0, .int 0])) D e := ⟨0, 0, ns1, upd_same, same_new hD _ _ upd_same, ne_of_none upd_same hD⟩
      have p0 := sA _ _ hPT
      generalize upd (upd H e (.lst (ns1.map V.int))) D (.lst [.ref e, .int 0, .int 0]) = H1 at sA dr0 p0 ⊢
      -- told
      refine seq_asg ?_
      refine ⟨_, rfl, by show 2 ≤ sizeLine; decide, fun g hg => ⟨D, e, g, rfl, dr0.same (same_new hg), upd_same, fun t T H2 W hT hd2 => ?_⟩⟩
      have d2 : Drawn K D e H1 H2 := ⟨fun b o h n => hd2.1 b o (same_new hg b o h) n, hd2.2⟩
      have nPD : PT ≠ D := fun z => by
        obtain ⟨s', k', ns', h1, _⟩ := dr0
        subst z
        rw [p0] at h1
        cases h1
      have p2 := d2.1 _ _ p0 nPD
      -- the program
      refine seq_asg ?_
      refine ⟨_, rfl, t, T, rfl, hT, W, fun p H3 hpn s3 hp => ⟨by show 2 ≤ sizeLine; decide, fun tp htp => ⟨tp, _, rfl, SqT.of upd_same, rfl, _, _, rfl, _, _, rfl, rfl, ?_⟩⟩⟩
      have s4 := s3.trans (same_new (o := .tup [.ref p, .str ""]) htp)
      have hp4 := hp.same (same_new (o := .tup [.ref p, .str ""]) htp)
      have dr4 := d2.2.same s4
      have hT4 := hT.stl (Stl.of (CR := CR) s4)
      have p4 := s4 _ _ p2
      generalize upd H3 tp (.tup [.ref p, .str ""]) = H4 at s4 hp4 dr4 hT4 p4 ⊢
      -- the run
      refine seq_asg ?_
      refine ⟨_, rfl, fun r dx hx hdx hne => ⟨r, dx, p, T, rfl, upd_same, ?_, LK.ne, fun H5 b5 hR5 => ⟨rfl, ?_⟩⟩⟩
      · exact hp4.same fun b o e => by rw [upd_ne (ne_of_none e hx), upd_ne (ne_of_none e hdx)]; exact e
      have s5 : Same H4 H5 := fun b o e => b5 _ _ (by rw [upd_ne (ne_of_none e hx), upd_ne (ne_of_none e hdx)]; exact e) (ne_of_none e hx)
      have ls5 : LS K CR CP PT ql ql2 D e t p r T [] H5 := ⟨dr4.same s5, TabR.nil (s5 _ _ p4), hT4.stl (Stl.of (CR := CR) s5), hR5⟩
      have hL : LOk T.letters := W.let_
      refine ⟨8, rfl, by decide, by decide, ?_⟩
      refine for_range (lo := 0) (n := 8) (fun i σ H => ∃ (l : List Nat) (x6 x7 x8 x10 x11 x12 x13 : Option V), σ = [some (.ref a), some (.ref D), some (.ref t), some (.ref p), some (.str (mkS l)), some (.ref r), x6, x7, x8, none, x10, x11, x12, x13, none] ∧ LS K CR CP PT ql ql2 D e t p r T l H ∧ (∀ c ∈ l, c ∈ T.letters) ∧ l.length ≤ 3 * i) ⟨[], none, none, none, none, none, none, none, rfl, ls5, fun _ h => (nomatch h), Nat.le_refl _⟩ ?_ ?_
      · rintro i σ H6 hi ⟨l, x6, x7, x8, x10, x11, x12, x13, rfl, ls, hlL, hll⟩
        -- way, text
        refine seq_asg ?_
        refine ⟨_, rfl, D, e, 6, rfl, ls.draw, by decide, fun n H7 hn hd7 => ?_⟩
        have ls7 := ls.drawn LK.ne hd7
        refine text_draw hL ls7.draw ls7.told rfl (fun _ => rfl) (fun _ => rfl) (fun _ => rfl) fun m H8 hm hmL hd8 => ?_
        have ls8 := ls7.drawn LK.ne hd8
        refine ⟨by show 2 ≤ sizeLine; decide, fun tw htw => ⟨tw, _, rfl, SqT.of upd_same, rfl, _, _, rfl, _, _, rfl, rfl, ?_⟩⟩
        have ls9 := ls8.same (same_new (o := .tup [.int (n : Nat), .str (mkS m)]) htw)
        generalize upd H8 tw (.tup [.int (n : Nat), .str (mkS m)]) = H9 at ls9 ⊢
        have hlm : (l ++ m).length ≤ 3 * (i + 1) := by rw [List.length_append]; omega
        have hlmL : ∀ c ∈ l ++ m, c ∈ T.letters := fun c hc => (List.mem_append.mp hc).elim (hlL c) (hmL c)
        refine seq_via (fun σ' H' => ∃ (l' : List Nat) (y10 y11 : Option V), σ' = [some (.ref a), some (.ref D), some (.ref t), some (.ref p), some (.str (mkS l')), some (.ref r), some (.int (0 + (i : Nat))), some (.int (n : Nat)), some (.str (mkS m)), none, y10, y11, x12, x13, none] ∧ LS K CR CP PT ql ql2 D e t p r T l' H' ∧ (∀ c ∈ l', c ∈ T.letters) ∧ l'.length ≤ 3 * (i + 1)) (fun D' hD' => ?_) ?_
        · refine ⟨_, rfl, _, _, rfl, rfl, _, rfl, ite2 (fun c1 => ?_) (fun c1 => ?_)⟩
          · -- ways 0, 1
            refine seq_asg (via (fun x H' => x = .ref r ∧ LS K CR CP PT ql ql2 D e t p r T (l ++ m) H') (fun Q' hQ => ?_) ?_)
            · refine ⟨_, rfl, rfl, _, rfl, ite2 (fun _ => ?_) (fun _ => ?_)⟩
              · obtain ⟨dx, fs, h0, h1⟩ := ls9.run.meth (m := "read") (by decide +kernel)
                exact ⟨_, rfl, r, dx, fs, rfl, h0, h1, _, rfl, r, p, T, l, mkS m, rfl, ls9.run, W, LK.ne, by rw [cs_mkS]; exact hmL, hlL, by rw [cs_mkS]; omega, fun H1 b1 hR1 => hQ _ _ ⟨rfl, ls9.moved b1 (by rw [cs_mkS] at hR1; exact hR1)⟩⟩
              · obtain ⟨dx, hd, pa, h0, hin⟩ := ls9.run
                refine ⟨_, rfl, r, dx, _, rfl, h0, rfl, trivial, ls9.tab, fun f c' P' H1 b1 T1 hc' hne' hr1 => ?_⟩
                have lsA := ls9.tabbed LK.ne b1 T1
                obtain ⟨dx1, hd1, pa1, g0, g1⟩ := id lsA.run
                refine ⟨r, f, dx1, _, _, _, _, rfl, rfl, g0, fun t' dt H2 ht' s2 h2 Q2 E2 hQ2 hE2 => ⟨rfl, s2 _ _ hc', ?_⟩⟩
                have lsB := lsA.same s2
                obtain ⟨dx2, fs2, k0, k1⟩ := lsB.run.meth (m := "read") (by decide +kernel)
                exact ⟨_, rfl, r, dx2, fs2, rfl, k0, k1, _, rfl, r, p, T, l, mkS m, rfl, lsB.run, W, LK.ne, by rw [cs_mkS]; exact hmL, hlL, by rw [cs_mkS]; omega, fun H3 b3 hR3 => hQ2 _ _ (hQ _ _ ⟨rfl, lsB.moved b3 (by rw [cs_mkS] at hR3; exact hR3)⟩)⟩
            rintro _ H10 ⟨rfl, ls10⟩
            obtain ⟨dx, hd, pa, h0, _⟩ := id ls10.run
            refine seq_if ?_
            refine ⟨_, rfl, _, rfl, r, dx, _, rfl, rfl, h0, false, rfl, ?_⟩
            refine no_if (nx_of (asg_of ?_))
            refine ⟨_, rfl, _, rfl, _, _, rfl, rfl, ?_, ?_⟩
            · rw [mkS_len, mkS_len, ← List.length_append]
              exact Nat.le_trans (show (l ++ m).length ≤ 1000 by omega) (by decide)
            · exact hD' _ _ ⟨l ++ m, some (.ref r), x11, by rw [← mkS_app]; rfl, ls10, hlmL, hlm⟩
          · refine ⟨_, rfl, rfl, _, rfl, ite2 (fun c2 => ?_) (fun c2 => ?_)⟩
            · -- way 2
              refine seq_asg ?_
              refine ⟨_, rfl, D, e, 4, rfl, ls9.draw, by decide, fun k H10 hk hd10 => ?_⟩
              have ls10 := ls9.drawn LK.ne hd10
              refine seq_asg (via (fun x H' => (k ≤ l.length ∧ x = .ref r ∧ LS K CR CP PT ql ql2 D e t p r T (l.take (l.length - k)) H') ∨ (l.length < k ∧ x = .str "nothing" ∧ LS K CR CP PT ql ql2 D e t p r T l H')) (fun Q' hQ => ?_) ?_)
              · refine ⟨trivial, ls10.tab, fun f c' P' H1 b1 T1 hc' hne' hr1 => ⟨f, rfl, fun Q2 E2 hQ2 hE2 => ⟨rfl, hc', ?_⟩⟩⟩
                have lsA := ls10.tabbed LK.ne b1 T1
                obtain ⟨dx1, fs1, k0, k1⟩ := lsA.run.meth (m := "back") (by decide +kernel)
                refine ⟨_, rfl, r, dx1, fs1, rfl, k0, k1, _, rfl, ?_⟩
                by_cases hkl : k ≤ l.length
                · exact .inl ⟨r, p, T, l, k, rfl, lsA.run, LK.ne, hkl, by omega, fun H2 b2 hR2 => hQ2 _ _ (hQ _ _ (.inl ⟨hkl, rfl, lsA.moved b2 hR2⟩))⟩
                · exact .inr ⟨r, p, T, l, (k : Nat), rfl, lsA.run, .inl ⟨by omega, by omega, hE2 _ _ _ (.inr (.inl ⟨rfl, hQ _ _ (.inr ⟨by omega, rfl, lsA⟩)⟩))⟩⟩
              rintro x H11 hx
              have hll2 : (mkS l).length ≤ sizeLine := by rw [mkS_len]; exact Nat.le_trans (show l.length ≤ 1000 by omega) (by decide)
              refine seq_if ?_
              rcases hx with ⟨hkl, rfl, ls11⟩ | ⟨hkl, rfl, ls11⟩
              · obtain ⟨dx, hd, pa, h0, _⟩ := id ls11.run
                have e1 : V.bl (decide (((mkS l).length : Int) < (k : Nat))) = .bl false := bl_false (by rw [mkS_len]; omega)
                refine ⟨_, rfl, .inr ⟨r, dx, _, _, rfl, rfl, h0, _, rfl, _, rfl, mkS l, rfl, hll2, _, _, rfl, rfl, ?_⟩⟩
                refine ⟨rfl, false, ?_, ?_⟩
                · show V.bl (!decide (V.bl false = V.bl (decide (((mkS l).length : Int) < (k : Nat))))) = .bl false
                  rw [e1]
                  rfl
                refine if_no ?_
                refine ⟨_, rfl, .inr ⟨r, dx, _, _, rfl, rfl, h0, true, rfl, ?_⟩⟩
                refine if_yes ?_
                refine ⟨_, rfl, _, rfl, r, dx, _, rfl, rfl, h0, false, rfl, ?_⟩
                refine no_if (nx_of (asg_of ?_))
                refine ⟨_, rfl, _, rfl, mkS l, rfl, hll2, _, _, rfl, rfl, true, ?_, ?_⟩
                · exact bl_true (p := ((k : Nat) : Int) ≤ ((mkS l).length : Nat)) (by rw [mkS_len]; omega)
                refine if_yes ?_
                refine ⟨_, rfl, _, rfl, mkS l, rfl, hll2, _, rfl, _, _, rfl, rfl, _, rfl, _, rfl, hll2, ?_⟩
                have ec : cutS (mkS l) none (some (((mkS l).length : Int) - (k : Nat))) = mkS (l.take (l.length - k)) := cut_read hkl
                refine hD' _ _ ⟨l.take (l.length - k), some (.ref r), some (.int (k : Nat)), ?_, ls11, fun c hc => hlL c (List.take_subset _ _ hc), by rw [List.length_take]; omega⟩
                rw [← ec]
                rfl
              · have e1 : V.bl (decide (((mkS l).length : Int) < (k : Nat))) = .bl true := bl_true (by rw [mkS_len]; omega)
                refine ⟨_, rfl, .inl ⟨_, _, rfl, rfl, _, rfl, _, rfl, mkS l, rfl, hll2, _, _, rfl, rfl, ?_⟩⟩
                refine ⟨rfl, false, ?_, ?_⟩
                · show V.bl (!decide (V.bl (decide (("nothing" : Str) = "nothing")) = V.bl (decide (((mkS l).length : Int) < (k : Nat))))) = .bl false
                  rw [e1, decide_eq_true (show ("nothing" : Str) = "nothing" from rfl)]
                  rfl
                refine if_no ?_
                refine ⟨_, rfl, .inl ⟨_, _, rfl, rfl, false, ?_, ?_⟩⟩
                · show V.bl (!decide (("nothing" : Str) = "nothing")) = .bl false
                  rw [decide_eq_true (show ("nothing" : Str) = "nothing" from rfl)]
                  rfl
                refine if_no ?_
                refine no_if (nx_of (asg_of ?_))
                refine ⟨_, rfl, _, rfl, mkS l, rfl, hll2, _, _, rfl, rfl, false, ?_, ?_⟩
                · exact bl_false (p := ((k : Nat) : Int) ≤ ((mkS l).length : Nat)) (by rw [mkS_len]; omega)
                refine if_no ?_
                exact ⟨_, rfl, hD' _ _ ⟨l, some (.str "nothing"), some (.int (k : Nat)), rfl, ls11, hlL, by omega⟩⟩
            · refine ⟨_, rfl, rfl, _, rfl, ite2 (fun c3 => ?_) (fun c3 => ?_)⟩
              · -- way 3
                refine ifs_of (test_op (via (fun x H' => ∃ tt, x = .ref tt ∧ H' tt = some (.tup [.str "word", .int 0]) ∧ LS K CR CP PT ql ql2 D e t p r T l H') (fun Q' hQ => ?_) ?_))
                · refine ⟨trivial, ls9.tab, fun f c' P' H1 b1 T1 hc' hne' hr1 => ⟨f, rfl, fun Q2 E2 hQ2 hE2 => ⟨rfl, hc', ?_⟩⟩⟩
                  have lsA := ls9.tabbed LK.ne b1 T1
                  obtain ⟨ps, hP1, _⟩ := id hr1
                  obtain ⟨dx1, hd1, pa1, g0, g1⟩ := id lsA.run
                  refine ⟨_, rfl, r, dx1, _, rfl, g0, rfl, hc', hr1, fun f2 c2 P2 H2 b2 T2 hc2 hne2 _ => ?_⟩
                  have lsB := lsA.tabbed1 LK.ne hP1 hne' b2 T2
                  obtain ⟨dx2, hd2, pa2, k0, k1⟩ := id lsB.run
                  refine ⟨r, f2, dx2, _, _, _, _, rfl, rfl, k0, fun t' dt H3 ht' s3 h3 Q3 E3 hQ3 hE3 => ⟨rfl, s3 _ _ hc2, ?_⟩⟩
                  have lsC := lsB.same s3
                  have k03 := s3 _ _ k0
                  have ntr : t' ≠ r := (ne_of_none k0 ht').symm
                  refine ⟨_, rfl, _, rfl, r, p, T, l, mkS m, rfl, lsC.run, W, LK.ne, by rw [cs_mkS]; exact hmL, hlL, by rw [cs_mkS]; omega, fun H4 b4 hR4 d H5 s5 hd5 => ?_⟩
                  obtain ⟨dx4, hd4, pa4, j0, _⟩ := id hR4
                  refine hE3 _ _ _ ⟨CB, rfl, s5 _ _ (b4 _ _ h3 ntr), dx4, _, _, _, s5 _ _ j0, fun H6 b6 h6 => ?_⟩
                  have ndr : d ≠ r := fun z => by
                    subst z
                    rw [s5 _ _ j0] at hd5
                    cases hd5
                  have b36 : But r H3 H6 := (b4.trans (But.of s5)).trans b6
                  have lsD : LS K CR CP PT ql ql2 D e t p r T l H6 := lsC.moved b36 ⟨dx4, hd2, pa2, h6, (k1.same s3).stl (stl_run k03 b36) LK.ne⟩
                  refine hE2 _ _ _ (.inl ⟨d, .int 0, rfl, rfl, b6 _ _ hd5 ndr, fun tt htt => hQ _ _ ⟨tt, rfl, upd_same, lsD.same (same_new htt)⟩⟩)
                rintro _ H10 ⟨tt, rfl, htt, ls10⟩
                refine ⟨by show 2 ≤ sizeLine; decide, fun t2 ht2 => ?_⟩
                have s11 := same_new (o := .tup [.str "word", .int 0]) ht2
                refine ⟨_, _, dp_word (s11 _ _ htt) (.int 0), dp_word upd_same (.int 0), shp_word (.inr ⟨0, rfl⟩), shp_word (.inr ⟨0, rfl⟩), false, by rw [eqv_word (.inr ⟨0, rfl⟩)]; rfl, ?_⟩
                exact no_if (hD' _ _ ⟨l, x10, x11, rfl, ls10.same s11, hlL, by omega⟩)
              · refine ⟨_, rfl, rfl, _, rfl, ite2 (fun c4 => ?_) (fun c4 => ?_)⟩
                · -- way 4
                  refine ifs_of (test_op (via (fun x H' => ∃ tt, x = .ref tt ∧ H' tt = some (.tup [.str "word", .int (m.length : Nat)]) ∧ LS K CR CP PT ql ql2 D e t p r T l H') (fun Q' hQ => ?_) ?_))
                  · refine ⟨trivial, ls9.tab, fun f c' P' H1 b1 T1 hc' hne' hr1 => ⟨f, rfl, fun Q2 E2 hQ2 hE2 => ⟨rfl, hc', ?_⟩⟩⟩
                    have lsA := ls9.tabbed LK.ne b1 T1
                    obtain ⟨dx1, fs1, k0, k1⟩ := lsA.run.meth (m := "read") (by decide +kernel)
                    refine ⟨_, rfl, r, dx1, fs1, rfl, k0, k1, _, rfl, _, _, rfl, rfl, ?_, _, rfl, _, _, rfl, rfl, ?_, ?_⟩
                    · rw [mkS_len]
                      exact Nat.le_trans (show m.length + 1 ≤ 1000 by omega) (by decide)
                    · rw [show (mkS m ++ "Z").length = m.length + 1 from by rw [len_cs, cs_app, List.length_append, cs_mkS]; rfl, mkS_len]
                      exact Nat.le_trans (show m.length + 1 + m.length ≤ 1000 by omega) (by decide)
                    · exact ⟨r, p, T, l, _, rfl, lsA.run, .inl ⟨_, m.length, rfl, bad_z hL hmL, fun d H' s' hd => hE2 _ _ _ (.inl ⟨d, _, rfl, rfl, hd, fun tt htt => hQ _ _ ⟨tt, rfl, upd_same, (lsA.same s').same (same_new htt)⟩⟩)⟩⟩
                  rintro _ H10 ⟨tt, rfl, htt, ls10⟩
                  refine ⟨_, rfl, mkS m, rfl, by rw [mkS_len]; exact Nat.le_trans (show m.length ≤ 1000 by omega) (by decide), by show 2 ≤ sizeLine; decide, fun t2 ht2 => ?_⟩
                  have s11 := same_new (o := .tup [.str "word", .int ((mkS m).length : Nat)]) ht2
                  refine ⟨_, _, dp_word (s11 _ _ htt) (.int _), dp_word upd_same (.int _), shp_word (.inr ⟨_, rfl⟩), shp_word (.inr ⟨_, rfl⟩), false, by rw [show ((mkS m).length : Int) = (m.length : Nat) from by rw [mkS_len], eqv_word (.inr ⟨_, rfl⟩)]; rfl, ?_⟩
                  exact no_if (hD' _ _ ⟨l, x10, x11, rfl, ls10.same s11, hlL, by omega⟩)
                · -- way 5
                  refine ifs_of (test_op (via (fun x H' => x = .ref r ∧ LS K CR CP PT ql ql2 D e t p r T l H') (fun Q' hQ => ?_) ?_))
                  · obtain ⟨dx, hd, pa, h0, hin⟩ := ls9.run
                    refine ⟨_, rfl, r, dx, _, rfl, h0, rfl, trivial, ls9.tab, fun f c' P' H1 b1 T1 hc' hne' hr1 => ?_⟩
                    have lsA := ls9.tabbed LK.ne b1 T1
                    obtain ⟨dx1, hd1, pa1, g0, g1⟩ := id lsA.run
                    refine ⟨r, f, dx1, _, _, _, _, rfl, rfl, g0, fun t' dt H2 ht' s2 h2 Q2 E2 hQ2 hE2 => ⟨rfl, s2 _ _ hc', ?_⟩⟩
                    have lsB := lsA.same s2
                    obtain ⟨dx2, fs2, k0, k1⟩ := lsB.run.meth (m := "read") (by decide +kernel)
                    refine ⟨_, rfl, r, dx2, fs2, rfl, k0, k1, _, rfl, r, p, T, l, mkS m, rfl, lsB.run, W, LK.ne, by rw [cs_mkS]; exact hmL, hlL, by rw [cs_mkS]; omega, fun H3 b3 hR3 => ?_⟩
                    rw [cs_mkS] at hR3
                    have lsC := lsB.moved b3 hR3
                    obtain ⟨dx3, fs3, j0, j1⟩ := lsC.run.meth (m := "back") (by decide +kernel)
                    refine ⟨r, dx3, fs3, rfl, j0, j1, _, rfl, mkS m, rfl, by rw [mkS_len]; exact Nat.le_trans (show m.length ≤ 1000 by omega) (by decide), r, p, T, l ++ m, m.length, by rw [mkS_len]; rfl, lsC.run, LK.ne, by rw [List.length_append]; omega, by omega, fun H4 b4 hR4 => hQ2 _ _ (hQ _ _ ⟨rfl, ?_⟩)⟩
                    rw [List.length_append, Nat.add_sub_cancel, List.take_left] at hR4
                    exact lsC.moved b4 hR4
                  rintro _ H10 ⟨rfl, ls10⟩
                  obtain ⟨dx, hd, pa, h0, _⟩ := id ls10.run
                  refine ⟨_, rfl, r, dx, _, rfl, rfl, h0, false, rfl, ?_⟩
                  exact no_if (hD' _ _ ⟨l, x10, x11, rfl, ls10, hlL, by omega⟩)
        · rintro σ' H10 ⟨l', y10, y11, rfl, ls10, hl', hll'⟩
          refine seq_asg ?_
          obtain ⟨dx, hd, pa, h0, hin⟩ := id ls10.run
          obtain ⟨dp, rr, d1, d2, d3, g0, _⟩ := id hin.prog
          refine ⟨_, rfl, p, dp, _, rfl, g0, rfl, _, rfl, p, T, mkS l', rfl, hin.prog, W, by rw [cs_mkS]; exact hl', by rw [cs_mkS]; omega, fun tt hd1 H11 s11 htt hh => ?_⟩
          rw [cs_mkS] at htt hh
          refine ⟨tt, _, rfl, SqT.of htt, rfl, _, _, rfl, _, _, rfl, rfl, ?_⟩
          have ls11 := ls10.same s11
          refine seq_if (or_op ?_)
          obtain ⟨dx2, fs2, k0, k1⟩ := ls11.run.meth (m := "text") (by decide +kernel)
          refine ⟨_, rfl, r, dx2, fs2, rfl, k0, k1, r, p, T, l', rfl, ls11.run, by omega, fun H12 s12 => ⟨_, rfl, rfl, false, bl_ne rfl, ?_⟩⟩
          have ls12 := ls11.same s12
          obtain ⟨dx3, hd3, pa3, j0, j1⟩ := id ls12.run
          have hlz : (mkS l').length ≤ sizeLine := by rw [mkS_len]; exact Nat.le_trans (show l'.length ≤ 1000 by omega) (by decide)
          refine if_no (or_op ?_)
          refine ⟨_, rfl, r, dx3, _, rfl, j0, r, p, T, l', rfl, ls12.run, l'.length, rfl, by omega, _, rfl, mkS l', rfl, hlz, rfl, false, bl_ne (by rw [mkS_len]), ?_⟩
          refine if_no (or_op ?_)
          refine ⟨_, rfl, r, CR, dx3, _, .int ((T.run l').1 : Nat), rfl, j0, LK.R.cls, LK.R.a2, rfl, _, rfl, rfl, false, bl_ne rfl, ?_⟩
          refine if_no ?_
          refine ⟨_, rfl, r, dx3, _, rfl, j0, rfl, r, p, T, l', rfl, ls12.run, fun d H13 hdn s13 hdh => ⟨_, rfl, d, hd1, _, _, rfl, rfl, hdh, (s12.trans s13) _ _ hh, rfl, held_same, false, rfl, ?_⟩⟩
          have ls13 := ls12.same s13
          refine no_if (nx_of (ifs_of (test_op ?_)))
          obtain ⟨dx4, fs4, q0, q1⟩ := ls13.run.meth (m := "written") (by decide +kernel)
          refine ⟨_, rfl, r, dx4, fs4, rfl, q0, q1, r, p, T, l', rfl, ls13.run, W, hl', by omega, fun H14 s14 => ⟨_, rfl, _, rfl, t, T, mkS l', rfl, (ls13.same s14).told, W, by rw [cs_mkS]; exact hl', by rw [cs_mkS]; omega, fun H15 s15 => ?_⟩⟩
          rw [cs_mkS]
          refine ⟨scal_out _, false, bl_ne rfl, ?_⟩
          exact no_if ⟨l', _, _, _, _, _, _, _, rfl, (ls13.same s14).same s15, hl', hll'⟩
      · rintro σ H6 ⟨l, x6, x7, x8, x10, x11, x12, x13, rfl, ls, hlL, hll⟩
        have hlz : (mkS l).length ≤ sizeLine := by rw [mkS_len]; exact Nat.le_trans (show l.length ≤ 1000 by omega) (by decide)
        refine nx_of (seq_asg ?_)
        obtain ⟨dx, fs, h0, h1⟩ := ls.run.meth (m := "contents") (by decide +kernel)
        refine ⟨_, rfl, r, dx, fs, rfl, h0, h1, r, p, T, l, rfl, ls.run, fun d H7 hdn s7 hdh => ?_⟩
        refine seq_asg ?_
        have hR2 : (heldK T.R (T.run l).2).length < sizeLine := by rw [heldK_len]; exact Nat.lt_of_le_of_lt W.R2 (by decide)
        refine ⟨_, rfl, d, _, rfl, DPut.k (k := Sum.inr "x") hdh hR2, ?_⟩
        have s8 : Same H6 (upd H7 d (.dK (putK (heldK T.R (T.run l).2) (Sum.inr "x") (.str "changed")))) := fun b o e => by
          rw [upd_ne (ne_of_none e hdn)]
          exact s7 _ _ e
        have ls8 := ls.same s8
        generalize upd H7 d (.dK (putK (heldK T.R (T.run l).2) (Sum.inr "x") (.str "changed"))) = H8 at s8 ls8 ⊢
        -- back, one too many
        refine seq_if (or_op (via (fun x H' => x = .str "nothing" ∧ LS K CR CP PT ql ql2 D e t p r T l H') (fun Q' hQ => ?_) ?_))
        · refine ⟨trivial, ls8.tab, fun f c' P' H1 b1 T1 hc' hne' hr1 => ⟨f, rfl, fun Q2 E2 hQ2 hE2 => ⟨rfl, hc', ?_⟩⟩⟩
          have lsA := ls8.tabbed LK.ne b1 T1
          obtain ⟨dx1, fs1, k0, k1⟩ := lsA.run.meth (m := "back") (by decide +kernel)
          refine ⟨_, rfl, r, dx1, fs1, rfl, k0, k1, _, rfl, mkS l, rfl, hlz, _, _, rfl, rfl, ?_⟩
          exact .inr ⟨r, p, T, l, ((mkS l).length : Int) + 1, rfl, lsA.run, .inl ⟨by omega, by rw [mkS_len]; omega, hE2 _ _ _ (.inr (.inl ⟨rfl, hQ _ _ ⟨rfl, lsA⟩⟩))⟩⟩
        rintro _ H9 ⟨rfl, ls9⟩
        refine ⟨rfl, false, bl_ne rfl, ?_⟩
        refine if_no ?_
        obtain ⟨dx3, hd3, pa3, j0, j1⟩ := id ls9.run
        refine ⟨_, rfl, r, dx3, _, rfl, j0, rfl, r, p, T, l, rfl, ls9.run, fun d2 H10 hdn2 s10 hdh2 => ?_⟩
        have ls10 := ls9.same s10
        obtain ⟨dx4, hd4, pa4, i0, hin⟩ := id ls10.run
        obtain ⟨dp, rr, e1, e2, e3, g0, _⟩ := id hin.prog
        refine ⟨_, rfl, p, dp, _, rfl, g0, rfl, _, rfl, p, T, mkS l, rfl, hin.prog, W, by rw [cs_mkS]; exact hlL, by rw [cs_mkS]; omega, fun tt hd1 H11 s11 htt hh => ?_⟩
        rw [cs_mkS] at htt hh
        refine ⟨tt, _, _, _, rfl, rfl, SqT.of htt, rfl, d2, hd1, _, _, rfl, rfl, s11 _ _ hdh2, hh, rfl, held_same, false, rfl, ?_⟩
        have ls11 := ls10.same s11
        -- back, less than none
        refine no_if (nx_of (seq_if (test_op (via (fun x H' => x = .str "number" ∧ LS K CR CP PT ql ql2 D e t p r T l H') (fun Q' hQ => ?_) ?_))))
        · refine ⟨trivial, ls11.tab, fun f c' P' H1 b1 T1 hc' hne' hr1 => ⟨f, rfl, fun Q2 E2 hQ2 hE2 => ⟨rfl, hc', ?_⟩⟩⟩
          have lsA := ls11.tabbed LK.ne b1 T1
          obtain ⟨dx1, fs1, k0, k1⟩ := lsA.run.meth (m := "back") (by decide +kernel)
          refine ⟨_, rfl, r, dx1, fs1, rfl, k0, k1, _, rfl, ?_⟩
          exact .inr ⟨r, p, T, l, -1, rfl, lsA.run, .inr ⟨by decide, hE2 _ _ _ (.inr (.inr ⟨rfl, hQ _ _ ⟨rfl, lsA⟩⟩))⟩⟩
        rintro _ H12 ⟨rfl, ls12⟩
        refine ⟨rfl, false, bl_ne rfl, ?_⟩
        -- read, no text
        refine no_if (nx_of (ret_of ?_))
        refine via (fun x H' => ∃ tt, x = .ref tt ∧ H' tt = some (.tup [.str "word", .non])) (te := tLamE (fun _ => True) (Tab1 ql2) _ PT (TTt CB CN CU) [] _ E0) (fun Q' hQ => ?_) ?_
        · refine ⟨trivial, ls12.tab, fun f c' P' H1 b1 T1 hc' hne' hr1 => ⟨f, rfl, fun Q2 E2 hQ2 hE2 => ⟨rfl, hc', ?_⟩⟩⟩
          have lsA := ls12.tabbed LK.ne b1 T1
          obtain ⟨dx1, fs1, k0, k1⟩ := lsA.run.meth (m := "read") (by decide +kernel)
          exact ⟨_, rfl, r, dx1, fs1, rfl, k0, k1, r, p, T, l, .non, rfl, lsA.run, .inr ⟨rfl, fun d H' s' hd => hE2 _ _ _ (.inl ⟨d, .non, rfl, rfl, hd, fun tt htt => hQ _ _ ⟨tt, rfl, upd_same⟩⟩)⟩⟩
        rintro _ H13 ⟨tt, rfl, htt⟩
        refine ⟨by show 2 ≤ sizeLine; decide, fun t2 ht2 => ?_⟩
        have s14 := same_new (o := .tup [.str "word", .non]) ht2
        refine ⟨_, _, dp_word (s14 _ _ htt) .non, dp_word upd_same .non, shp_word (.inl rfl), shp_word (.inl rfl), ?_⟩
        rw [eqv_word (.inl rfl)]
        exact q _
    obtain ⟨t, h1, h2⟩ := key
    exact ⟨t, h1.nox, h2⟩
end
end Pt
end

section
set_option Elab.async false
set_option maxRecDepth 100000
set_option maxHeartbeats 4000000
set_option linter.unusedSectionVars false
set_option linter.unusedVariables false
namespace Pt
open PySem PySem.Spec PyProof.Rows L2
theorem exm_of {K : PySem.W.Frag} {C S : Addr} {b : Bool} (h1 : PySem.W.subIn K (.ref S) (.type "BaseException") = some true) (h2 : PySem.W.isClsIn K S = true) (h3 : PySem.W.typeIn K (.ref S) = some (.type "type")) (h4 : PySem.W.subIn K (.ref C) (.ref S) = some b) :
    PySem.W.exmOne K (.ref C) (.ref S) = some b := by
  have e1 : (PySem.W.subIn K (.ref S) (.type "BaseException") == some true) = true := by rw [h1] <;> rfl
  have e2 : ((PySem.W.clsIn K S).isSome && PySem.W.typeIn K (.ref S) == some (.type "type")) = true := by
    have h2' : (PySem.W.clsIn K S).isSome = true := h2
    rw [h2', h3] <;> rfl
  show (if (PySem.W.subIn K (.ref S) (.type "BaseException") == some true) = true then (if ((PySem.W.clsIn K S).isSome && PySem.W.typeIn K (.ref S) == some (.type "type")) = true then PySem.W.subIn K (.ref C) (.ref S) else none) else none) = some b
  rw [if_pos e1, if_pos e2]
  exact h4
theorem signsG_of {p : Program} {z : Str} {mg : Str → Option Value} {h : Heap} (x : PySem.W.XL p [("SIGNS", .str z)] mg h) (hz : z = sSigns) : ∃ t, mg "SIGNS" = some (.str sSigns t) := by
  obtain ⟨v, a, b⟩ := x.2.val _ (List.mem_singleton.mpr rfl)
  subst hz
  cases b
  exact ⟨_, a⟩
theorem walk_X {l : PySem.W.OpenLaw} {n k : Nat} {q : Program} {loose : List Str} {XP : (Str → Option Value) → Heap → Prop} {YP : World → Heap → Prop} {d : DefRec} {K : Params → PySem.W.Frag} {CX : World → CXT} {x : Str}
    (hn : l.most = some n) (hn2 : n ≤ sizeLine) (hdf : d.params.defaults = []) (hr : Room k callerA) (hY : ∀ (w : World) (h : Heap), YP w h → (K w.params).In h)
    (F : ∀ (w : World) (mg : Str → Option Value) (fa : Addr) (h : Heap), XP mg h → YP w h → (K w.params).In h → h.Ns mainGlobals mg → mg d.name = some (.ref fa) → LamX.LawAtS l w (K w.params) (CX w) k n x mg fa h)
    (hCX : ∀ (w : World) (H : Hp) (s : Shared) (e : Value) (s' : Shared), CX w [] H s (fun _ _ _ => False) e s' → False) :
    PySem.W.WalkO q loose XP YP l.row.toRowW d [] (fun f vs => PySem.call f vs) := by
  refine Att.attach_callB hn hdf fun w s₀ s₁ mg mb fa o pm cd doc a vs ns G Y ho hd hcd hmg hobj hints hlen hbits hg => ?_
  have KX := hY w _ Y
  obtain ⟨fd, cs, sp, hT, nT, C, hb, hsp, hF⟩ := F w mg fa _ G.X Y KX G.T.g hmg
  exact LamX.law_callTs KX G.T.g G.T.b G.T.builtins G.T.nolimit hg hT nT C G.T.bmain hobj hints (Nat.le_trans hlen hn2) hr hF hb (fun H hH hS => hsp H a ns hlen hbits hH hS) fun H e s' => hCX w H s₁ e s'
theorem all_mk {l : PySem.W.OpenLaw} {w : World} {K : PySem.W.Frag} {h : Heap} {mg : Str → Option Value} {fa CP CR CT CB CN CU : Addr} (X : K.In h) (G : h.Ns mainGlobals mg) (hfa : mg "law" = some (.ref fa))
    {f13 : Addr}
    {oc13 kV13 dc13 pm13 cd13 ct13 : Value} {od13 an13 : Option Addr} {sl13 : Array (Option Value)}
    {f14 : Addr}
    {oc14 kV14 dc14 pm14 cd14 ct14 : Value} {od14 an14 : Option Addr} {sl14 : Array (Option Value)}
    {f15 : Addr}
    {oc15 kV15 dc15 pm15 cd15 ct15 : Value} {od15 an15 : Option Addr} {sl15 : Array (Option Value)}
    {f16 : Addr}
    {oc16 kV16 dc16 pm16 cd16 ct16 : Value} {od16 an16 : Option Addr} {sl16 : Array (Option Value)}
    {f17 : Addr}
    {oc17 kV17 dc17 pm17 cd17 ct17 : Value} {od17 an17 : Option Addr} {sl17 : Array (Option Value)}
    {f18 : Addr}
    {oc18 kV18 dc18 pm18 cd18 ct18 : Value} {od18 an18 : Option Addr} {sl18 : Array (Option Value)}
    {f19 : Addr}
    {oc19 kV19 dc19 pm19 cd19 ct19 : Value} {od19 an19 : Option Addr} {sl19 : Array (Option Value)}
    {f20 : Addr}
    {oc20 kV20 dc20 pm20 cd20 ct20 : Value} {od20 an20 : Option Addr} {sl20 : Array (Option Value)}
    {f21 : Addr}
    {oc21 kV21 dc21 pm21 cd21 ct21 : Value} {od21 an21 : Option Addr} {sl21 : Array (Option Value)}
    {f23 : Addr}
    {oc23 kV23 dc23 pm23 cd23 ct23 : Value} {od23 an23 : Option Addr} {sl23 : Array (Option Value)}
    {f28 : Addr}
    {oc28 kV28 dc28 pm28 cd28 ct28 : Value} {od28 an28 : Option Addr} {sl28 : Array (Option Value)}
    {f29 : Addr}
    {oc29 kV29 dc29 pm29 cd29 ct29 : Value} {od29 an29 : Option Addr} {sl29 : Array (Option Value)}
    {f30 : Addr}
    {oc30 kV30 dc30 pm30 cd30 ct30 : Value} {od30 an30 : Option Addr} {sl30 : Array (Option Value)}
    {f31 : Addr}
    {oc31 kV31 dc31 pm31 cd31 ct31 : Value} {od31 an31 : Option Addr} {sl31 : Array (Option Value)}
    {f32 : Addr}
    {oc32 kV32 dc32 pm32 cd32 ct32 : Value} {od32 an32 : Option Addr} {sl32 : Array (Option Value)}
    {f33 : Addr}
    {oc33 kV33 dc33 pm33 cd33 ct33 : Value} {od33 an33 : Option Addr} {sl33 : Array (Option Value)}
    {f34 : Addr}
    {oc34 kV34 dc34 pm34 cd34 ct34 : Value} {od34 an34 : Option Addr} {sl34 : Array (Option Value)}
    {f35 : Addr}
    {oc35 kV35 dc35 pm35 cd35 ct35 : Value} {od35 an35 : Option Addr} {sl35 : Array (Option Value)}
    {f36 : Addr}
    {oc36 kV36 dc36 pm36 cd36 ct36 : Value} {od36 an36 : Option Addr} {sl36 : Array (Option Value)}
    {f37 : Addr}
    {oc37 kV37 dc37 pm37 cd37 ct37 : Value} {od37 an37 : Option Addr} {sl37 : Array (Option Value)}
    {f38 : Addr}
    {oc38 kV38 dc38 pm38 cd38 ct38 : Value} {od38 an38 : Option Addr} {sl38 : Array (Option Value)}
    {f39 : Addr}
    {oc39 kV39 dc39 pm39 cd39 ct39 : Value} {od39 an39 : Option Addr} {sl39 : Array (Option Value)}
    {f40 : Addr}
    {oc40 kV40 dc40 pm40 cd40 ct40 : Value} {od40 an40 : Option Addr} {sl40 : Array (Option Value)}
    {f41 : Addr}
    {oc41 kV41 dc41 pm41 cd41 ct41 : Value} {od41 an41 : Option Addr} {sl41 : Array (Option Value)}
    {f22m0 : Addr}
    {oc22m0 kV22m0 dc22m0 pm22m0 cd22m0 ct22m0 : Value} {od22m0 an22m0 : Option Addr} {sl22m0 : Array (Option Value)}
    {f22m2 : Addr}
    {oc22m2 kV22m2 dc22m2 pm22m2 cd22m2 ct22m2 : Value} {od22m2 an22m2 : Option Addr} {sl22m2 : Array (Option Value)}
    {f22m3 : Addr}
    {oc22m3 kV22m3 dc22m3 pm22m3 cd22m3 ct22m3 : Value} {od22m3 an22m3 : Option Addr} {sl22m3 : Array (Option Value)}
    {f25m1 : Addr}
    {oc25m1 kV25m1 dc25m1 pm25m1 cd25m1 ct25m1 : Value} {od25m1 an25m1 : Option Addr} {sl25m1 : Array (Option Value)}
    {f25m2 : Addr}
    {oc25m2 kV25m2 dc25m2 pm25m2 cd25m2 ct25m2 : Value} {od25m2 an25m2 : Option Addr} {sl25m2 : Array (Option Value)}
    {f25m3 : Addr}
    {oc25m3 kV25m3 dc25m3 pm25m3 cd25m3 ct25m3 : Value} {od25m3 an25m3 : Option Addr} {sl25m3 : Array (Option Value)}
    {f25m4 : Addr}
    {oc25m4 kV25m4 dc25m4 pm25m4 cd25m4 ct25m4 : Value} {od25m4 an25m4 : Option Addr} {sl25m4 : Array (Option Value)}
    {f25m5 : Addr}
    {oc25m5 kV25m5 dc25m5 pm25m5 cd25m5 ct25m5 : Value} {od25m5 an25m5 : Option Addr} {sl25m5 : Array (Option Value)}
    {f25m6 : Addr}
    {oc25m6 kV25m6 dc25m6 pm25m6 cd25m6 ct25m6 : Value} {od25m6 an25m6 : Option Addr} {sl25m6 : Array (Option Value)}
    {f25m7 : Addr}
    {oc25m7 kV25m7 dc25m7 pm25m7 cd25m7 ct25m7 : Value} {od25m7 an25m7 : Option Addr} {sl25m7 : Array (Option Value)}
    {f25m8 : Addr}
    {oc25m8 kV25m8 dc25m8 pm25m8 cd25m8 ct25m8 : Value} {od25m8 an25m8 : Option Addr} {sl25m8 : Array (Option Value)}
    {f25m9 : Addr}
    {oc25m9 kV25m9 dc25m9 pm25m9 cd25m9 ct25m9 : Value} {od25m9 an25m9 : Option Addr} {sl25m9 : Array (Option Value)}
    {f26m0 : Addr}
    {oc26m0 kV26m0 dc26m0 pm26m0 cd26m0 ct26m0 : Value} {od26m0 an26m0 : Option Addr} {sl26m0 : Array (Option Value)}
    {f26m1 : Addr}
    {oc26m1 kV26m1 dc26m1 pm26m1 cd26m1 ct26m1 : Value} {od26m1 an26m1 : Option Addr} {sl26m1 : Array (Option Value)}
    {f26m2 : Addr}
    {oc26m2 kV26m2 dc26m2 pm26m2 cd26m2 ct26m2 : Value} {od26m2 an26m2 : Option Addr} {sl26m2 : Array (Option Value)}
    {f4m0 : Addr}
    {oc4m0 kV4m0 dc4m0 pm4m0 cd4m0 ct4m0 : Value} {od4m0 an4m0 : Option Addr} {sl4m0 : Array (Option Value)}
    {T1 : Addr} {oT1 : Value} {dT1 : Option Addr} {tT1 : Tok} {nT1 : Nat} {sT1 : Array (Option Value)}
    {tM : Tok}
    {xnm xq : Str} {xN : Addr} {xbs xbm : List Value} {xsn : List Str} {xsub : List Value} {xab : Bool} {xcol : Option Bool} {xdd : Option Addr} {xk0 xk1 xk2 xk3 xk5 : Option Value}
    {tk1 tk2 tk3 tk4 tk5 : Tok}
    {c PT : Addr}
    (gCP : PySem.W.nsIn K mainGlobals "Program" = some (some (.ref CP)))
    (gCR : PySem.W.nsIn K mainGlobals "Run" = some (some (.ref CR)))
    (gCT : PySem.W.nsIn K mainGlobals "Trial" = some (some (.ref CT)))
    (gCB : PySem.W.nsIn K mainGlobals "BadWord" = some (some (.ref CB)))
    (gCN : PySem.W.nsIn K mainGlobals "NothingDone" = some (some (.ref CN)))
    (gCU : PySem.W.nsIn K mainGlobals "BadNumber" = some (some (.ref CU)))
    (a13 : PySem.W.nsIn K mainGlobals "is_whole" = some (some (.ref f13)))
    (l13 : K.lookup f13 = some ⟨oc13, od13, .func (PySem.W.fnOf "is_whole" "is_whole" (defArgs (top 13)) (defBody (top 13)) (defScope (top 13)) .none kV13 dc13 pm13 an13 cd13 ct13), sl13⟩)
    (c13 : PySem.W.codeIn K cd13 "is_whole" = true)
    (k13 : PySem.W.keepIn K (.ref f13) = true)
    (a14 : PySem.W.nsIn K mainGlobals "is_word" = some (some (.ref f14)))
    (l14 : K.lookup f14 = some ⟨oc14, od14, .func (PySem.W.fnOf "is_word" "is_word" (defArgs (top 14)) (defBody (top 14)) (defScope (top 14)) .none kV14 dc14 pm14 an14 cd14 ct14), sl14⟩)
    (c14 : PySem.W.codeIn K cd14 "is_word" = true)
    (k14 : PySem.W.keepIn K (.ref f14) = true)
    (a15 : PySem.W.nsIn K mainGlobals "is_signs" = some (some (.ref f15)))
    (l15 : K.lookup f15 = some ⟨oc15, od15, .func (PySem.W.fnOf "is_signs" "is_signs" (defArgs (top 15)) (defBody (top 15)) (defScope (top 15)) .none kV15 dc15 pm15 an15 cd15 ct15), sl15⟩)
    (c15 : PySem.W.codeIn K cd15 "is_signs" = true)
    (k15 : PySem.W.keepIn K (.ref f15) = true)
    (a16 : PySem.W.nsIn K mainGlobals "are_letters" = some (some (.ref f16)))
    (l16 : K.lookup f16 = some ⟨oc16, od16, .func (PySem.W.fnOf "are_letters" "are_letters" (defArgs (top 16)) (defBody (top 16)) (defScope (top 16)) .none kV16 dc16 pm16 an16 cd16 ct16), sl16⟩)
    (c16 : PySem.W.codeIn K cd16 "are_letters" = true)
    (k16 : PySem.W.keepIn K (.ref f16) = true)
    (a17 : PySem.W.nsIn K mainGlobals "is_row" = some (some (.ref f17)))
    (l17 : K.lookup f17 = some ⟨oc17, od17, .func (PySem.W.fnOf "is_row" "is_row" (defArgs (top 17)) (defBody (top 17)) (defScope (top 17)) .none kV17 dc17 pm17 an17 cd17 ct17), sl17⟩)
    (c17 : PySem.W.codeIn K cd17 "is_row" = true)
    (k17 : PySem.W.keepIn K (.ref f17) = true)
    (a18 : PySem.W.nsIn K mainGlobals "joined" = some (some (.ref f18)))
    (l18 : K.lookup f18 = some ⟨oc18, od18, .func (PySem.W.fnOf "joined" "joined" (defArgs (top 18)) (defBody (top 18)) (defScope (top 18)) .none kV18 dc18 pm18 an18 cd18 ct18), sl18⟩)
    (c18 : PySem.W.codeIn K cd18 "joined" = true)
    (k18 : PySem.W.keepIn K (.ref f18) = true)
    (a19 : PySem.W.nsIn K mainGlobals "text_of" = some (some (.ref f19)))
    (l19 : K.lookup f19 = some ⟨oc19, od19, .func (PySem.W.fnOf "text_of" "text_of" (defArgs (top 19)) (defBody (top 19)) (defScope (top 19)) .none kV19 dc19 pm19 an19 cd19 ct19), sl19⟩)
    (c19 : PySem.W.codeIn K cd19 "text_of" = true)
    (k19 : PySem.W.keepIn K (.ref f19) = true)
    (a20 : PySem.W.nsIn K mainGlobals "is_step" = some (some (.ref f20)))
    (l20 : K.lookup f20 = some ⟨oc20, od20, .func (PySem.W.fnOf "is_step" "is_step" (defArgs (top 20)) (defBody (top 20)) (defScope (top 20)) .none kV20 dc20 pm20 an20 cd20 ct20), sl20⟩)
    (c20 : PySem.W.codeIn K cd20 "is_step" = true)
    (k20 : PySem.W.keepIn K (.ref f20) = true)
    (a21 : PySem.W.nsIn K mainGlobals "whole_rows" = some (some (.ref f21)))
    (l21 : K.lookup f21 = some ⟨oc21, od21, .func (PySem.W.fnOf "whole_rows" "whole_rows" (defArgs (top 21)) (defBody (top 21)) (defScope (top 21)) .none kV21 dc21 pm21 an21 cd21 ct21), sl21⟩)
    (c21 : PySem.W.codeIn K cd21 "whole_rows" = true)
    (k21 : PySem.W.keepIn K (.ref f21) = true)
    (a23 : PySem.W.nsIn K mainGlobals "check_program" = some (some (.ref f23)))
    (l23 : K.lookup f23 = some ⟨oc23, od23, .func (PySem.W.fnOf "check_program" "check_program" (defArgs (top 23)) (defBody (top 23)) (defScope (top 23)) .none kV23 dc23 pm23 an23 cd23 ct23), sl23⟩)
    (c23 : PySem.W.codeIn K cd23 "check_program" = true)
    (k23 : PySem.W.keepIn K (.ref f23) = true)
    (a28 : PySem.W.nsIn K mainGlobals "_law_cell_at" = some (some (.ref f28)))
    (l28 : K.lookup f28 = some ⟨oc28, od28, .func (PySem.W.fnOf "_law_cell_at" "_law_cell_at" (defArgs (top 28)) (defBody (top 28)) (defScope (top 28)) .none kV28 dc28 pm28 an28 cd28 ct28), sl28⟩)
    (c28 : PySem.W.codeIn K cd28 "_law_cell_at" = true)
    (k28 : PySem.W.keepIn K (.ref f28) = true)
    (a29 : PySem.W.nsIn K mainGlobals "_law_draw" = some (some (.ref f29)))
    (l29 : K.lookup f29 = some ⟨oc29, od29, .func (PySem.W.fnOf "_law_draw" "_law_draw" (defArgs (top 29)) (defBody (top 29)) (defScope (top 29)) .none kV29 dc29 pm29 an29 cd29 ct29), sl29⟩)
    (c29 : PySem.W.codeIn K cd29 "_law_draw" = true)
    (k29 : PySem.W.keepIn K (.ref f29) = true)
    (a30 : PySem.W.nsIn K mainGlobals "_law_number" = some (some (.ref f30)))
    (l30 : K.lookup f30 = some ⟨oc30, od30, .func (PySem.W.fnOf "_law_number" "_law_number" (defArgs (top 30)) (defBody (top 30)) (defScope (top 30)) .none kV30 dc30 pm30 an30 cd30 ct30), sl30⟩)
    (c30 : PySem.W.codeIn K cd30 "_law_number" = true)
    (k30 : PySem.W.keepIn K (.ref f30) = true)
    (a31 : PySem.W.nsIn K mainGlobals "_law_next" = some (some (.ref f31)))
    (l31 : K.lookup f31 = some ⟨oc31, od31, .func (PySem.W.fnOf "_law_next" "_law_next" (defArgs (top 31)) (defBody (top 31)) (defScope (top 31)) .none kV31 dc31 pm31 an31 cd31 ct31), sl31⟩)
    (c31 : PySem.W.codeIn K cd31 "_law_next" = true)
    (k31 : PySem.W.keepIn K (.ref f31) = true)
    (a32 : PySem.W.nsIn K mainGlobals "_law_pick" = some (some (.ref f32)))
    (l32 : K.lookup f32 = some ⟨oc32, od32, .func (PySem.W.fnOf "_law_pick" "_law_pick" (defArgs (top 32)) (defBody (top 32)) (defScope (top 32)) .none kV32 dc32 pm32 an32 cd32 ct32), sl32⟩)
    (c32 : PySem.W.codeIn K cd32 "_law_pick" = true)
    (k32 : PySem.W.keepIn K (.ref f32) = true)
    (a33 : PySem.W.nsIn K mainGlobals "_law_rows" = some (some (.ref f33)))
    (l33 : K.lookup f33 = some ⟨oc33, od33, .func (PySem.W.fnOf "_law_rows" "_law_rows" (defArgs (top 33)) (defBody (top 33)) (defScope (top 33)) .none kV33 dc33 pm33 an33 cd33 ct33), sl33⟩)
    (c33 : PySem.W.codeIn K cd33 "_law_rows" = true)
    (k33 : PySem.W.keepIn K (.ref f33) = true)
    (a34 : PySem.W.nsIn K mainGlobals "_law_end" = some (some (.ref f34)))
    (l34 : K.lookup f34 = some ⟨oc34, od34, .func (PySem.W.fnOf "_law_end" "_law_end" (defArgs (top 34)) (defBody (top 34)) (defScope (top 34)) .none kV34 dc34 pm34 an34 cd34 ct34), sl34⟩)
    (c34 : PySem.W.codeIn K cd34 "_law_end" = true)
    (k34 : PySem.W.keepIn K (.ref f34) = true)
    (a35 : PySem.W.nsIn K mainGlobals "_law_program" = some (some (.ref f35)))
    (l35 : K.lookup f35 = some ⟨oc35, od35, .func (PySem.W.fnOf "_law_program" "_law_program" (defArgs (top 35)) (defBody (top 35)) (defScope (top 35)) .none kV35 dc35 pm35 an35 cd35 ct35), sl35⟩)
    (c35 : PySem.W.codeIn K cd35 "_law_program" = true)
    (k35 : PySem.W.keepIn K (.ref f35) = true)
    (a36 : PySem.W.nsIn K mainGlobals "_law_write" = some (some (.ref f36)))
    (l36 : K.lookup f36 = some ⟨oc36, od36, .func (PySem.W.fnOf "_law_write" "_law_write" (defArgs (top 36)) (defBody (top 36)) (defScope (top 36)) .none kV36 dc36 pm36 an36 cd36 ct36), sl36⟩)
    (c36 : PySem.W.codeIn K cd36 "_law_write" = true)
    (k36 : PySem.W.keepIn K (.ref f36) = true)
    (a37 : PySem.W.nsIn K mainGlobals "_law_run" = some (some (.ref f37)))
    (l37 : K.lookup f37 = some ⟨oc37, od37, .func (PySem.W.fnOf "_law_run" "_law_run" (defArgs (top 37)) (defBody (top 37)) (defScope (top 37)) .none kV37 dc37 pm37 an37 cd37 ct37), sl37⟩)
    (c37 : PySem.W.codeIn K cd37 "_law_run" = true)
    (k37 : PySem.W.keepIn K (.ref f37) = true)
    (a38 : PySem.W.nsIn K mainGlobals "_law_made" = some (some (.ref f38)))
    (l38 : K.lookup f38 = some ⟨oc38, od38, .func (PySem.W.fnOf "_law_made" "_law_made" (defArgs (top 38)) (defBody (top 38)) (defScope (top 38)) .none kV38 dc38 pm38 an38 cd38 ct38), sl38⟩)
    (c38 : PySem.W.codeIn K cd38 "_law_made" = true)
    (k38 : PySem.W.keepIn K (.ref f38) = true)
    (a39 : PySem.W.nsIn K mainGlobals "_law_tried" = some (some (.ref f39)))
    (l39 : K.lookup f39 = some ⟨oc39, od39, .func (PySem.W.fnOf "_law_tried" "_law_tried" (defArgs (top 39)) (defBody (top 39)) (defScope (top 39)) .none kV39 dc39 pm39 an39 cd39 ct39), sl39⟩)
    (c39 : PySem.W.codeIn K cd39 "_law_tried" = true)
    (k39 : PySem.W.keepIn K (.ref f39) = true)
    (a40 : PySem.W.nsIn K mainGlobals "_law_fails" = some (some (.ref f40)))
    (l40 : K.lookup f40 = some ⟨oc40, od40, .func (PySem.W.fnOf "_law_fails" "_law_fails" (defArgs (top 40)) (defBody (top 40)) (defScope (top 40)) .none kV40 dc40 pm40 an40 cd40 ct40), sl40⟩)
    (c40 : PySem.W.codeIn K cd40 "_law_fails" = true)
    (k40 : PySem.W.keepIn K (.ref f40) = true)
    (a41 : PySem.W.nsIn K mainGlobals "law" = some (some (.ref f41)))
    (l41 : K.lookup f41 = some ⟨oc41, od41, .func (PySem.W.fnOf "law" "law" (defArgs (top 41)) (defBody (top 41)) (defScope (top 41)) .none kV41 dc41 pm41 an41 cd41 ct41), sl41⟩)
    (c41 : PySem.W.codeIn K cd41 "law" = true)
    (k41 : PySem.W.keepIn K (.ref f41) = true)
    (a22m0 : PySem.W.findIn K (.ref CP) "__init__" = some (some (.ref f22m0)))
    (i22m0 : PySem.W.isFn K (.ref f22m0) = true)
    (l22m0 : K.lookup f22m0 = some ⟨oc22m0, od22m0, .func (PySem.W.fnOf "__init__" "Program.__init__" (defArgs (inClass (top 22) 0)) (defBody (inClass (top 22) 0)) (defScope (inClass (top 22) 0)) .none kV22m0 dc22m0 pm22m0 an22m0 cd22m0 ct22m0), sl22m0⟩)
    (c22m0 : PySem.W.codeIn K cd22m0 "Program.__init__" = true)
    (k22m0 : PySem.W.keepIn K (.ref f22m0) = true)
    (a22m2 : PySem.W.findIn K (.ref CP) "check" = some (some (.ref f22m2)))
    (i22m2 : PySem.W.isFn K (.ref f22m2) = true)
    (l22m2 : K.lookup f22m2 = some ⟨oc22m2, od22m2, .func (PySem.W.fnOf "check" "Program.check" (defArgs (inClass (top 22) 2)) (defBody (inClass (top 22) 2)) (defScope (inClass (top 22) 2)) .none kV22m2 dc22m2 pm22m2 an22m2 cd22m2 ct22m2), sl22m2⟩)
    (c22m2 : PySem.W.codeIn K cd22m2 "Program.check" = true)
    (k22m2 : PySem.W.keepIn K (.ref f22m2) = true)
    (a22m3 : PySem.W.findIn K (.ref CP) "after" = some (some (.ref f22m3)))
    (i22m3 : PySem.W.isFn K (.ref f22m3) = true)
    (l22m3 : K.lookup f22m3 = some ⟨oc22m3, od22m3, .func (PySem.W.fnOf "after" "Program.after" (defArgs (inClass (top 22) 3)) (defBody (inClass (top 22) 3)) (defScope (inClass (top 22) 3)) .none kV22m3 dc22m3 pm22m3 an22m3 cd22m3 ct22m3), sl22m3⟩)
    (c22m3 : PySem.W.codeIn K cd22m3 "Program.after" = true)
    (k22m3 : PySem.W.keepIn K (.ref f22m3) = true)
    (a25m1 : PySem.W.findIn K (.ref CR) "__init__" = some (some (.ref f25m1)))
    (i25m1 : PySem.W.isFn K (.ref f25m1) = true)
    (l25m1 : K.lookup f25m1 = some ⟨oc25m1, od25m1, .func (PySem.W.fnOf "__init__" "Run.__init__" (defArgs (inClass (top 25) 1)) (defBody (inClass (top 25) 1)) (defScope (inClass (top 25) 1)) .none kV25m1 dc25m1 pm25m1 an25m1 cd25m1 ct25m1), sl25m1⟩)
    (c25m1 : PySem.W.codeIn K cd25m1 "Run.__init__" = true)
    (k25m1 : PySem.W.keepIn K (.ref f25m1) = true)
    (a25m2 : PySem.W.findIn K (.ref CR) "__len__" = some (some (.ref f25m2)))
    (i25m2 : PySem.W.isFn K (.ref f25m2) = true)
    (l25m2 : K.lookup f25m2 = some ⟨oc25m2, od25m2, .func (PySem.W.fnOf "__len__" "Run.__len__" (defArgs (inClass (top 25) 2)) (defBody (inClass (top 25) 2)) (defScope (inClass (top 25) 2)) .none kV25m2 dc25m2 pm25m2 an25m2 cd25m2 ct25m2), sl25m2⟩)
    (c25m2 : PySem.W.codeIn K cd25m2 "Run.__len__" = true)
    (k25m2 : PySem.W.keepIn K (.ref f25m2) = true)
    (a25m3 : PySem.W.findIn K (.ref CR) "read" = some (some (.ref f25m3)))
    (i25m3 : PySem.W.isFn K (.ref f25m3) = true)
    (l25m3 : K.lookup f25m3 = some ⟨oc25m3, od25m3, .func (PySem.W.fnOf "read" "Run.read" (defArgs (inClass (top 25) 3)) (defBody (inClass (top 25) 3)) (defScope (inClass (top 25) 3)) .none kV25m3 dc25m3 pm25m3 an25m3 cd25m3 ct25m3), sl25m3⟩)
    (c25m3 : PySem.W.codeIn K cd25m3 "Run.read" = true)
    (k25m3 : PySem.W.keepIn K (.ref f25m3) = true)
    (a25m4 : PySem.W.findIn K (.ref CR) "text" = some (some (.ref f25m4)))
    (i25m4 : PySem.W.isFn K (.ref f25m4) = true)
    (l25m4 : K.lookup f25m4 = some ⟨oc25m4, od25m4, .func (PySem.W.fnOf "text" "Run.text" (defArgs (inClass (top 25) 4)) (defBody (inClass (top 25) 4)) (defScope (inClass (top 25) 4)) .none kV25m4 dc25m4 pm25m4 an25m4 cd25m4 ct25m4), sl25m4⟩)
    (c25m4 : PySem.W.codeIn K cd25m4 "Run.text" = true)
    (k25m4 : PySem.W.keepIn K (.ref f25m4) = true)
    (a25m5 : PySem.W.findIn K (.ref CR) "contents" = some (some (.ref f25m5)))
    (i25m5 : PySem.W.isFn K (.ref f25m5) = true)
    (l25m5 : K.lookup f25m5 = some ⟨oc25m5, od25m5, .func (PySem.W.fnOf "contents" "Run.contents" (defArgs (inClass (top 25) 5)) (defBody (inClass (top 25) 5)) (defScope (inClass (top 25) 5)) .none kV25m5 dc25m5 pm25m5 an25m5 cd25m5 ct25m5), sl25m5⟩)
    (c25m5 : PySem.W.codeIn K cd25m5 "Run.contents" = true)
    (k25m5 : PySem.W.keepIn K (.ref f25m5) = true)
    (a25m6 : PySem.W.findIn K (.ref CR) "written" = some (some (.ref f25m6)))
    (i25m6 : PySem.W.isFn K (.ref f25m6) = true)
    (l25m6 : K.lookup f25m6 = some ⟨oc25m6, od25m6, .func (PySem.W.fnOf "written" "Run.written" (defArgs (inClass (top 25) 6)) (defBody (inClass (top 25) 6)) (defScope (inClass (top 25) 6)) .none kV25m6 dc25m6 pm25m6 an25m6 cd25m6 ct25m6), sl25m6⟩)
    (c25m6 : PySem.W.codeIn K cd25m6 "Run.written" = true)
    (k25m6 : PySem.W.keepIn K (.ref f25m6) = true)
    (a25m7 : PySem.W.findIn K (.ref CR) "back" = some (some (.ref f25m7)))
    (i25m7 : PySem.W.isFn K (.ref f25m7) = true)
    (l25m7 : K.lookup f25m7 = some ⟨oc25m7, od25m7, .func (PySem.W.fnOf "back" "Run.back" (defArgs (inClass (top 25) 7)) (defBody (inClass (top 25) 7)) (defScope (inClass (top 25) 7)) (.ref T1) kV25m7 dc25m7 pm25m7 an25m7 cd25m7 ct25m7), sl25m7⟩)
    (c25m7 : PySem.W.codeIn K cd25m7 "Run.back" = true)
    (k25m7 : PySem.W.keepIn K (.ref f25m7) = true)
    (a25m8 : PySem.W.findIn K (.ref CR) "trial" = some (some (.ref f25m8)))
    (i25m8 : PySem.W.isFn K (.ref f25m8) = true)
    (l25m8 : K.lookup f25m8 = some ⟨oc25m8, od25m8, .func (PySem.W.fnOf "trial" "Run.trial" (defArgs (inClass (top 25) 8)) (defBody (inClass (top 25) 8)) (defScope (inClass (top 25) 8)) .none kV25m8 dc25m8 pm25m8 an25m8 cd25m8 ct25m8), sl25m8⟩)
    (c25m8 : PySem.W.codeIn K cd25m8 "Run.trial" = true)
    (k25m8 : PySem.W.keepIn K (.ref f25m8) = true)
    (a25m9 : PySem.W.findIn K (.ref CR) "attempt" = some (some (.ref f25m9)))
    (i25m9 : PySem.W.isFn K (.ref f25m9) = true)
    (l25m9 : K.lookup f25m9 = some ⟨oc25m9, od25m9, .func (PySem.W.fnOf "attempt" "Run.attempt" (defArgs (inClass (top 25) 9)) (defBody (inClass (top 25) 9)) (defScope (inClass (top 25) 9)) .none kV25m9 dc25m9 pm25m9 an25m9 cd25m9 ct25m9), sl25m9⟩)
    (c25m9 : PySem.W.codeIn K cd25m9 "Run.attempt" = true)
    (k25m9 : PySem.W.keepIn K (.ref f25m9) = true)
    (a26m0 : PySem.W.findIn K (.ref CT) "__init__" = some (some (.ref f26m0)))
    (i26m0 : PySem.W.isFn K (.ref f26m0) = true)
    (l26m0 : K.lookup f26m0 = some ⟨oc26m0, od26m0, .func (PySem.W.fnOf "__init__" "Trial.__init__" (defArgs (inClass (top 26) 0)) (defBody (inClass (top 26) 0)) (defScope (inClass (top 26) 0)) .none kV26m0 dc26m0 pm26m0 an26m0 cd26m0 ct26m0), sl26m0⟩)
    (c26m0 : PySem.W.codeIn K cd26m0 "Trial.__init__" = true)
    (k26m0 : PySem.W.keepIn K (.ref f26m0) = true)
    (a26m1 : PySem.W.findIn K (.ref CT) "__enter__" = some (some (.ref f26m1)))
    (i26m1 : PySem.W.isFn K (.ref f26m1) = true)
    (l26m1 : K.lookup f26m1 = some ⟨oc26m1, od26m1, .func (PySem.W.fnOf "__enter__" "Trial.__enter__" (defArgs (inClass (top 26) 1)) (defBody (inClass (top 26) 1)) (defScope (inClass (top 26) 1)) .none kV26m1 dc26m1 pm26m1 an26m1 cd26m1 ct26m1), sl26m1⟩)
    (c26m1 : PySem.W.codeIn K cd26m1 "Trial.__enter__" = true)
    (k26m1 : PySem.W.keepIn K (.ref f26m1) = true)
    (a26m2 : PySem.W.findIn K (.ref CT) "__exit__" = some (some (.ref f26m2)))
    (i26m2 : PySem.W.isFn K (.ref f26m2) = true)
    (l26m2 : K.lookup f26m2 = some ⟨oc26m2, od26m2, .func (PySem.W.fnOf "__exit__" "Trial.__exit__" (defArgs (inClass (top 26) 2)) (defBody (inClass (top 26) 2)) (defScope (inClass (top 26) 2)) .none kV26m2 dc26m2 pm26m2 an26m2 cd26m2 ct26m2), sl26m2⟩)
    (c26m2 : PySem.W.codeIn K cd26m2 "Trial.__exit__" = true)
    (k26m2 : PySem.W.keepIn K (.ref f26m2) = true)
    (a4m0 : PySem.W.findIn K (.ref CB) "__init__" = some (some (.ref f4m0)))
    (i4m0 : PySem.W.isFn K (.ref f4m0) = true)
    (l4m0 : K.lookup f4m0 = some ⟨oc4m0, od4m0, .func (PySem.W.fnOf "__init__" "BadWord.__init__" (defArgs (inClass (top 4) 0)) (defBody (inClass (top 4) 0)) (defScope (inClass (top 4) 0)) .none kV4m0 dc4m0 pm4m0 an4m0 cd4m0 ct4m0), sl4m0⟩)
    (c4m0 : PySem.W.codeIn K cd4m0 "BadWord.__init__" = true)
    (k4m0 : PySem.W.keepIn K (.ref f4m0) = true)
    (lT1 : K.lookup T1 = some ⟨oT1, dT1, .seq #[.int 1 tT1] nT1, sT1⟩)
    (pgCP : PySem.W.plainGet K CP Str.empty = true)
    (hdCP : PySem.W.hasDictIn K CP = true)
    (poCP : PySem.W.plainOver K CP = true)
    (saCP : PySem.W.findIn K (.ref CP) "__setattr__" = some (some (.builtin "object.__setattr__")))
    (mkCP : PySem.W.makesIn K CP = true)
    (kpCP : PySem.W.keepIn K (.ref CP) = true)
    (pgCR : PySem.W.plainGet K CR Str.empty = true)
    (hdCR : PySem.W.hasDictIn K CR = true)
    (poCR : PySem.W.plainOver K CR = true)
    (saCR : PySem.W.findIn K (.ref CR) "__setattr__" = some (some (.builtin "object.__setattr__")))
    (mkCR : PySem.W.makesIn K CR = true)
    (kpCR : PySem.W.keepIn K (.ref CR) = true)
    (pgCT : PySem.W.plainGet K CT Str.empty = true)
    (hdCT : PySem.W.hasDictIn K CT = true)
    (poCT : PySem.W.plainOver K CT = true)
    (saCT : PySem.W.findIn K (.ref CT) "__setattr__" = some (some (.builtin "object.__setattr__")))
    (mkCT : PySem.W.makesIn K CT = true)
    (kpCT : PySem.W.keepIn K (.ref CT) = true)
    (nCP1 : PySem.W.findIn K (.ref CP) "letters" = some none)
    (nCP2 : PySem.W.findIn K (.ref CP) "states" = some none)
    (nCP3 : PySem.W.findIn K (.ref CP) "registers" = some none)
    (nCP4 : PySem.W.findIn K (.ref CP) "firsts" = some none)
    (nCP5 : PySem.W.findIn K (.ref CP) "steps" = some none)
    (nCP6 : PySem.W.findIn K (.ref CP) "ends" = some none)
    (nCR1 : PySem.W.findIn K (.ref CR) "program" = some none)
    (nCR2 : PySem.W.findIn K (.ref CR) "state" = some none)
    (nCR3 : PySem.W.findIn K (.ref CR) "held" = some none)
    (nCR4 : PySem.W.findIn K (.ref CR) "past" = some none)
    (nCT1 : PySem.W.findIn K (.ref CT) "run" = some none)
    (nCT2 : PySem.W.findIn K (.ref CT) "state" = some none)
    (nCT3 : PySem.W.findIn K (.ref CT) "held" = some none)
    (nCT4 : PySem.W.findIn K (.ref CT) "past" = some none)
    (pi1 : PySem.W.findIn K (.ref CP) "__class__" = some (some (.builtin "object.__class__")))
    (pi2 : PySem.W.specialIn K (.builtin "object.__class__") "__get__" = some (some (.builtin "getset_descriptor.__get__")))
    (pi3 : PySem.W.takesIn K (.builtin "object.__class__") = some true)
    (pi4 : PySem.W.mroIn K CP (.type "object") = some true)
    (pi5 : PySem.W.kitOne K (.ref CP) (.ref CP) = some true)
    (cc1 : PySem.W.findIn K (.ref CR) "__eq__" = some (some (.builtin "object.__eq__")))
    (cc2 : PySem.W.findIn K (.ref CR) "__ne__" = some (some (.builtin "object.__ne__")))
    (cc3 : PySem.W.mroIn K CR (.type "object") = some true)
    (mo1 : PySem.W.findIn K (.ref CR) "MOST" = some (some (.int 1000 tM)))
    (mo2 : PySem.W.specialIn K (.int 1000 tM) "__get__" = some none)
    (x1 : K.lookup CB = some (excClassObj xnm xq CB xN xbs xbm true xsn xsub xab xcol xdd xk0 xk1 xk2 xk3 xk5 "ValueError.__new__"))
    (x2 : PySem.HandSPX.refsVE xbm = true)
    (x3 : PySem.W.findIn K (.ref CB) "__setattr__" = some (some (.builtin "object.__setattr__")))
    (x4 : PySem.W.subIn K (.ref CB) (.type "BaseException") = some true)
    (x5 : PySem.W.typeIn K (.ref CB) = some (.type "type"))
    (x6 : PySem.W.keepIn K (.ref CB) = true)
    (x7 : PySem.W.findIn K (.ref CB) "place" = some none)
    (x8 : PySem.W.findIn K (.ref CB) "__getattribute__" = some (some (.builtin "BaseException.__getattribute__")))
    (x9 : PySem.W.findIn K (.ref CB) "__getattr__" = some none)
    (x10 : PySem.W.hasDictIn K CB = true)
    (x11 : PySem.W.typeIn K (.ref f4m0) = some (.type "function"))
    (oCN1 : PySem.W.excIn K CN [.type "ValueError", .type "Exception", .type "BaseException", .type "object"] "ValueError.__new__" = true)
    (oCN2 : PySem.W.keepIn K (.ref CN) = true)
    (oCN3 : PySem.W.subIn K (.ref CN) (.type "BaseException") = some true)
    (oCN4 : PySem.W.typeIn K (.ref CN) = some (.type "type"))
    (oCU1 : PySem.W.excIn K CU [.type "ValueError", .type "Exception", .type "BaseException", .type "object"] "ValueError.__new__" = true)
    (oCU2 : PySem.W.keepIn K (.ref CU) = true)
    (oCU3 : PySem.W.subIn K (.ref CU) (.type "BaseException") = some true)
    (oCU4 : PySem.W.typeIn K (.ref CU) = some (.type "type"))
    (ebb : PySem.W.subIn K (.ref CB) (.ref CB) = some true)
    (enb : PySem.W.subIn K (.ref CN) (.ref CB) = some false)
    (enn : PySem.W.subIn K (.ref CN) (.ref CN) = some true)
    (eub : PySem.W.subIn K (.ref CU) (.ref CB) = some false)
    (eun : PySem.W.subIn K (.ref CU) (.ref CN) = some false)
    (euu : PySem.W.subIn K (.ref CU) (.ref CU) = some true)
    (icCB : PySem.W.isClsIn K CB = true)
    (icCN : PySem.W.isClsIn K CN = true)
    (icCU : PySem.W.isClsIn K CU = true)
    (b_isinstance : PySem.W.nsIn K mainGlobals "isinstance" = some none)
    (b_int : PySem.W.nsIn K mainGlobals "int" = some none)
    (b_bool : PySem.W.nsIn K mainGlobals "bool" = some none)
    (b_str : PySem.W.nsIn K mainGlobals "str" = some none)
    (b_len : PySem.W.nsIn K mainGlobals "len" = some none)
    (b_all : PySem.W.nsIn K mainGlobals "all" = some none)
    (b_set : PySem.W.nsIn K mainGlobals "set" = some none)
    (b_tuple : PySem.W.nsIn K mainGlobals "tuple" = some none)
    (b_list : PySem.W.nsIn K mainGlobals "list" = some none)
    (b_dict : PySem.W.nsIn K mainGlobals "dict" = some none)
    (b_range : PySem.W.nsIn K mainGlobals "range" = some none)
    (b_sorted : PySem.W.nsIn K mainGlobals "sorted" = some none)
    (b_enumerate : PySem.W.nsIn K mainGlobals "enumerate" = some none)
    (v1 : PySem.W.nsIn K mainGlobals "SMALL" = some (some (.str sSmall tk1)))
    (v2 : ∃ t, mg "SIGNS" = some (.str sSigns t))
    (v3 : PySem.W.nsIn K mainGlobals "MOST_LETTERS" = some (some (.int 4 tk3)))
    (v4 : PySem.W.nsIn K mainGlobals "MOST_STATES" = some (some (.int 300 tk4)))
    (v5 : PySem.W.nsIn K mainGlobals "MOST_REGISTERS" = some (some (.int 60 tk5)))
    (ne : CP ≠ CR)
    (hlawc : cd41 = .ref c)
    (z1 : h.get? PT = some { cls := .none, data := .fields #[] })
    (z2 : K.lookup PT = none)
    (z3 : PySem.W.codeHdIn K c PT = true) :
    LamX.LawAtS l w K CX0 10 63 "_law_script" mg fa h := by
  have e := hfa.symm.trans (PySem.W.mg_of X G a41)
  cases e
  have F13 := fun_mk (st := top 13) l13 c13 k13
  have B13 := F13.binds (ps := ["thing"]) fun _ _ _ _ _ _ us hl => match us, hl with | [_], _ => rfl
  have M13 := PySem.W.mg_of X G a13
  have F14 := fun_mk (st := top 14) l14 c14 k14
  have B14 := F14.binds (ps := ["thing"]) fun _ _ _ _ _ _ us hl => match us, hl with | [_], _ => rfl
  have M14 := PySem.W.mg_of X G a14
  have F15 := fun_mk (st := top 15) l15 c15 k15
  have B15 := F15.binds (ps := ["thing"]) fun _ _ _ _ _ _ us hl => match us, hl with | [_], _ => rfl
  have M15 := PySem.W.mg_of X G a15
  have F16 := fun_mk (st := top 16) l16 c16 k16
  have B16 := F16.binds (ps := ["thing"]) fun _ _ _ _ _ _ us hl => match us, hl with | [_], _ => rfl
  have M16 := PySem.W.mg_of X G a16
  have F17 := fun_mk (st := top 17) l17 c17 k17
  have B17 := F17.binds (ps := ["thing", "registers"]) fun _ _ _ _ _ _ us hl => match us, hl with | [_, _], _ => rfl
  have M17 := PySem.W.mg_of X G a17
  have F18 := fun_mk (st := top 18) l18 c18 k18
  have B18 := F18.binds (ps := ["row"]) fun _ _ _ _ _ _ us hl => match us, hl with | [_], _ => rfl
  have M18 := PySem.W.mg_of X G a18
  have F19 := fun_mk (st := top 19) l19 c19 k19
  have B19 := F19.binds (ps := ["row", "held"]) fun _ _ _ _ _ _ us hl => match us, hl with | [_, _], _ => rfl
  have M19 := PySem.W.mg_of X G a19
  have F20 := fun_mk (st := top 20) l20 c20 k20
  have B20 := F20.binds (ps := ["thing", "states", "registers"]) fun _ _ _ _ _ _ us hl => match us, hl with | [_, _, _], _ => rfl
  have M20 := PySem.W.mg_of X G a20
  have F21 := fun_mk (st := top 21) l21 c21 k21
  have B21 := F21.binds (ps := ["rows", "registers"]) fun _ _ _ _ _ _ us hl => match us, hl with | [_, _], _ => rfl
  have M21 := PySem.W.mg_of X G a21
  have F23 := fun_mk (st := top 23) l23 c23 k23
  have B23 := F23.binds (ps := ["thing"]) fun _ _ _ _ _ _ us hl => match us, hl with | [_], _ => rfl
  have M23 := PySem.W.mg_of X G a23
  have F28 := fun_mk (st := top 28) l28 c28 k28
  have B28 := F28.binds (ps := ["_law_script", "_law_k"]) fun _ _ _ _ _ _ us hl => match us, hl with | [_, _], _ => rfl
  have M28 := PySem.W.mg_of X G a28
  have F29 := fun_mk (st := top 29) l29 c29 k29
  have B29 := F29.binds (ps := ["_law_cell", "_law_k", "_law_bound"]) fun _ _ _ _ _ _ us hl => match us, hl with | [_, _, _], _ => rfl
  have M29 := PySem.W.mg_of X G a29
  have F30 := fun_mk (st := top 30) l30 c30 k30
  have B30 := F30.binds (ps := ["_law_cell", "_law_k", "_law_bound"]) fun _ _ _ _ _ _ us hl => match us, hl with | [_, _, _], _ => rfl
  have M30 := PySem.W.mg_of X G a30
  have F31 := fun_mk (st := top 31) l31 c31 k31
  have B31 := F31.binds (ps := ["_law_draw_here", "_law_bound"]) fun _ _ _ _ _ _ us hl => match us, hl with | [_, _], _ => rfl
  have M31 := PySem.W.mg_of X G a31
  have F32 := fun_mk (st := top 32) l32 c32 k32
  have B32 := F32.binds (ps := ["_law_draw_here", "_law_things"]) fun _ _ _ _ _ _ us hl => match us, hl with | [_, _], _ => rfl
  have M32 := PySem.W.mg_of X G a32
  have F33 := fun_mk (st := top 33) l33 c33 k33
  have B33 := F33.binds (ps := ["_law_draw_here", "_law_registers", "_law_signs"]) fun _ _ _ _ _ _ us hl => match us, hl with | [_, _, _], _ => rfl
  have M33 := PySem.W.mg_of X G a33
  have F34 := fun_mk (st := top 34) l34 c34 k34
  have B34 := F34.binds (ps := ["_law_draw_here", "_law_registers", "_law_signs"]) fun _ _ _ _ _ _ us hl => match us, hl with | [_, _, _], _ => rfl
  have M34 := PySem.W.mg_of X G a34
  have F35 := fun_mk (st := top 35) l35 c35 k35
  have B35 := F35.binds (ps := ["_law_draw_here", "_law_signs"]) fun _ _ _ _ _ _ us hl => match us, hl with | [_, _], _ => rfl
  have M35 := PySem.W.mg_of X G a35
  have F36 := fun_mk (st := top 36) l36 c36 k36
  have B36 := F36.binds (ps := ["_law_row", "_law_held"]) fun _ _ _ _ _ _ us hl => match us, hl with | [_, _], _ => rfl
  have M36 := PySem.W.mg_of X G a36
  have F37 := fun_mk (st := top 37) l37 c37 k37
  have B37 := F37.binds (ps := ["_law_program_here", "_law_text"]) fun _ _ _ _ _ _ us hl => match us, hl with | [_, _], _ => rfl
  have M37 := PySem.W.mg_of X G a37
  have F38 := fun_mk (st := top 38) l38 c38 k38
  have B38 := F38.binds (ps := ["_law_program_here"]) fun _ _ _ _ _ _ us hl => match us, hl with | [_], _ => rfl
  have M38 := PySem.W.mg_of X G a38
  have F39 := fun_mk (st := top 39) l39 c39 k39
  have B39 := F39.binds (ps := ["_law_work"]) fun _ _ _ _ _ _ us hl => match us, hl with | [_], _ => rfl
  have M39 := PySem.W.mg_of X G a39
  have F40 := fun_mk (st := top 40) l40 c40 k40
  have B40 := F40.binds (ps := ["_law_run_here", "_law_text"]) fun _ _ _ _ _ _ us hl => match us, hl with | [_, _], _ => rfl
  have M40 := PySem.W.mg_of X G a40
  have F41 := fun_mk (st := top 41) l41 c41 k41
  have F22m0 := fun_mk (st := inClass (top 22) 0) l22m0 c22m0 k22m0
  have B22m0 := F22m0.binds (ps := ["self", "letters", "states", "registers", "firsts", "steps", "ends"]) fun _ _ _ _ _ _ us hl => match us, hl with | [_, _, _, _, _, _, _], _ => rfl
  have F22m2 := fun_mk (st := inClass (top 22) 2) l22m2 c22m2 k22m2
  have B22m2 := F22m2.binds (ps := ["self", "text"]) fun _ _ _ _ _ _ us hl => match us, hl with | [_, _], _ => rfl
  have F22m3 := fun_mk (st := inClass (top 22) 3) l22m3 c22m3 k22m3
  have B22m3 := F22m3.binds (ps := ["self", "text"]) fun _ _ _ _ _ _ us hl => match us, hl with | [_, _], _ => rfl
  have F25m1 := fun_mk (st := inClass (top 25) 1) l25m1 c25m1 k25m1
  have B25m1 := F25m1.binds (ps := ["self", "program"]) fun _ _ _ _ _ _ us hl => match us, hl with | [_, _], _ => rfl
  have F25m2 := fun_mk (st := inClass (top 25) 2) l25m2 c25m2 k25m2
  have B25m2 := F25m2.binds (ps := ["self"]) fun _ _ _ _ _ _ us hl => match us, hl with | [_], _ => rfl
  have F25m3 := fun_mk (st := inClass (top 25) 3) l25m3 c25m3 k25m3
  have B25m3 := F25m3.binds (ps := ["self", "text"]) fun _ _ _ _ _ _ us hl => match us, hl with | [_, _], _ => rfl
  have F25m4 := fun_mk (st := inClass (top 25) 4) l25m4 c25m4 k25m4
  have B25m4 := F25m4.binds (ps := ["self"]) fun _ _ _ _ _ _ us hl => match us, hl with | [_], _ => rfl
  have F25m5 := fun_mk (st := inClass (top 25) 5) l25m5 c25m5 k25m5
  have B25m5 := F25m5.binds (ps := ["self"]) fun _ _ _ _ _ _ us hl => match us, hl with | [_], _ => rfl
  have F25m6 := fun_mk (st := inClass (top 25) 6) l25m6 c25m6 k25m6
  have B25m6 := F25m6.binds (ps := ["self"]) fun _ _ _ _ _ _ us hl => match us, hl with | [_], _ => rfl
  have F25m7 : FunB K f25m7 _ := ⟨⟨_, _, .ref T1, _, _, _, _, _, _, _, rfl, l25m7, c25m7, .inr ⟨List.cons_ne_nil _ _, T1, _, [.int 1 tT1], _, rfl, lT1, rfl, .cons ⟨tT1, rfl⟩ .nil⟩, .inl rfl⟩, k25m7⟩
  have B25m7 := back_binds F25m7
  have F25m8 := fun_mk (st := inClass (top 25) 8) l25m8 c25m8 k25m8
  have B25m8 := F25m8.binds (ps := ["self"]) fun _ _ _ _ _ _ us hl => match us, hl with | [_], _ => rfl
  have F25m9 := fun_mk (st := inClass (top 25) 9) l25m9 c25m9 k25m9
  have B25m9 := F25m9.binds (ps := ["self", "work"]) fun _ _ _ _ _ _ us hl => match us, hl with | [_, _], _ => rfl
  have F26m0 := fun_mk (st := inClass (top 26) 0) l26m0 c26m0 k26m0
  have B26m0 := F26m0.binds (ps := ["self", "run"]) fun _ _ _ _ _ _ us hl => match us, hl with | [_, _], _ => rfl
  have F26m1 := fun_mk (st := inClass (top 26) 1) l26m1 c26m1 k26m1
  have B26m1 := F26m1.binds (ps := ["self"]) fun _ _ _ _ _ _ us hl => match us, hl with | [_], _ => rfl
  have F26m2 := fun_mk (st := inClass (top 26) 2) l26m2 c26m2 k26m2
  have B26m2 := F26m2.binds (ps := ["self", "kind", "error", "trace"]) fun _ _ _ _ _ _ us hl => match us, hl with | [_, _, _, _], _ => rfl
  have F4m0 := fun_mk (st := inClass (top 4) 0) l4m0 c4m0 k4m0
  have B4m0 := F4m0.binds (ps := ["self", "place"]) fun _ _ _ _ _ _ us hl => match us, hl with | [_, _], _ => rfl
  have B : Bl mg := ⟨PySem.W.mg_none_of X G b_isinstance, PySem.W.mg_none_of X G b_int, PySem.W.mg_none_of X G b_bool, PySem.W.mg_none_of X G b_str, PySem.W.mg_none_of X G b_len, PySem.W.mg_none_of X G b_all, PySem.W.mg_none_of X G b_set, PySem.W.mg_none_of X G b_tuple, PySem.W.mg_none_of X G b_list, PySem.W.mg_none_of X G b_dict, PySem.W.mg_none_of X G b_range, PySem.W.mg_none_of X G b_sorted, PySem.W.mg_none_of X G b_enumerate⟩
  have Gg : Gk mg := ⟨⟨_, PySem.W.mg_of X G v1, _, rfl⟩, (by obtain ⟨t, ht⟩ := v2; exact ⟨_, ht, t, rfl⟩), ⟨_, PySem.W.mg_of X G v3, _, rfl⟩, ⟨_, PySem.W.mg_of X G v4, _, rfl⟩, ⟨_, PySem.W.mg_of X G v5, _, rfl⟩⟩
  have PK : PrK K CP := ⟨⟨pgCP, hdCP, poCP, saCP⟩, nCP1, nCP2, nCP3, nCP4, nCP5, nCP6⟩
  have PI_ : PrI K mg CP := ⟨PySem.W.mg_of X G gCP, pi1, pi2, pi3, pi4, pi5⟩
  have RK : RnK K CR := ⟨⟨pgCR, hdCR, poCR, saCR⟩, nCR1, nCR2, nCR3, nCR4, _, ⟨mo1, ⟨tM, rfl⟩, mo2, by decide +kernel⟩⟩
  have TK : TrK K CT := ⟨⟨pgCT, hdCT, poCT, saCT⟩, nCT1, nCT2, nCT3, nCT4⟩
  have CCm : CmpC K CR := ⟨cc1, cc2, cc3⟩
  have oN : OwX K mg "NothingDone" CN := ⟨⟨_, _, _, _, PySem.F.excBase_ValueError, oCN1⟩, PySem.W.mg_of X G gCN, oCN2, oCN3, oCN4⟩
  have oU : OwX K mg "BadNumber" CU := ⟨⟨_, _, _, _, PySem.F.excBase_ValueError, oCU1⟩, PySem.W.mg_of X G gCU, oCU2, oCU3, oCU4⟩
  have XM : ExM K CB CN CU := ⟨exm_of x4 icCB x5 ebb, exm_of x4 icCB x5 enb, exm_of oCN3 icCN oCN4 enn, exm_of x4 icCB x5 eub, exm_of oCN3 icCN oCN4 eun, exm_of oCU3 icCU oCU4 euu⟩
  refine ⟨PySem.W.fnOf "law" "law" (defArgs (top 41)) (defBody (top 41)) (defScope (top 41)) .none kV41 dc41 pm41 an41 cd41 ct41, [(c, PT)], spLaw K PT, fun p hp => ?_, fun p hp => ?_, fun p hp => ?_, fun s u => .of_eq rfl, fun H a ns hl hb hp hS => ⟨a, ns, rfl, hp _ (List.mem_singleton.mpr rfl), hS, fun _ => rfl⟩, fun base KX Gb TB => ?_⟩
  · rw [List.mem_singleton.mp hp]; exact z1
  · rw [List.mem_singleton.mp hp]; exact z2
  · rw [List.mem_singleton.mp hp]; exact PySem.W.codeHd_of_K X z3
  have BW : BwK l.prog w K mg base CB := ⟨⟨⟨_, _, _, _, _, _, _, _, _, _, _, _, _, _, _, x1, x2⟩, x3, x4, x5, x6⟩, PySem.W.mg_of X G gCB, x7, ⟨x8, x9, x4, x10⟩, f4m0, a4m0, x11, _, F4m0, B4m0⟩
  have cCell : Ca l.prog w K mg base 1 "_law_cell_at" ["_law_script", "_law_k"] (spCell K) := ⟨_, _, ok_cell F28 B, M28, k28, B28⟩
  have D29 := ok_draw (P := l.prog) (w := w) (base := base) F29 B
  have D30 := ok_num (P := l.prog) (w := w) (base := base) F30 B D29 M29 k29 B29
  have D28 := ok_cell (P := l.prog) (w := w) (base := base) F28 B
  have D31 := ok_next (P := l.prog) (w := w) (base := base) F31 B D28 M28 k28 B28 D30 M30 k30 B30
  have cN : CaNext l.prog w K mg base := ⟨_, _, D31, M31, k31, B31⟩
  have cP : CaPick l.prog w K mg base := ⟨_, _, ok_pick F32 B D31 M31 k31 B31, M32, k32, B32⟩
  have cRo : CaRows l.prog w K mg base := ⟨_, _, ok_rows F33 B cN cP, M33, k33, B33⟩
  have cE : CaEnd l.prog w K mg base := ⟨_, _, ok_end F34 B cN cP, M34, k34, B34⟩
  have cPr : Ca l.prog w K mg base 6 "_law_program" ["_law_draw_here", "_law_signs"] (spProg K) := ⟨_, _, ok_program F35 B cN cP cRo cE, M35, k35, B35⟩
  have cWh : CaWhole l.prog w K mg base := ⟨_, _, ok_whole F13 B, M13, k13, B13⟩
  have cWd : CaWord l.prog w K mg base := ⟨_, _, ok_word F14 B Gg, M14, k14, B14⟩
  have cSi : CaSigns l.prog w K mg base := ⟨_, _, ok_signs F15 B Gg, M15, k15, B15⟩
  have cLe : CaLetters l.prog w K mg base := ⟨_, _, ok_letters F16 B Gg cSi, M16, k16, B16⟩
  have cRw : CaRow l.prog w K mg base := ⟨_, _, ok_row F17 B cSi, M17, k17, B17⟩
  have cJo : CaJoined l.prog w K mg base := ⟨_, _, ok_joined F18 B, M18, k18, B18⟩
  have cTx : CaText l.prog w K mg base := ⟨_, _, ok_text F19 B, M19, k19, B19⟩
  have cSt : CaStep l.prog w K mg base := ⟨_, _, ok_step F20 B cWh cRw, M20, k20, B20⟩
  have cWR : CaWholeR l.prog w K mg base := ⟨_, _, ok_wholeR F21 B cJo, M21, k21, B21⟩
  have cCP : CaCheckP l.prog w K mg base CP := ⟨_, _, ok_checkP F23 B PK PI_, M23, k23, B23⟩
  have cWr : CaWrite l.prog w K mg base := ⟨_, _, ok_write F36 B, M36, k36, B36⟩
  have DI := ok_init (P := l.prog) (w := w) (base := base) F22m0 B Gg PK cLe cWh cWd cSi cSt cRw cWR cJo
  have mC0 : MeCheck l.prog w K mg base CP := ⟨_, _, ⟨a22m2, i22m2, k22m2⟩, ok_check0 F22m2 B PK, B22m2⟩
  have mCX : MeCheckX l.prog w K mg base CP CB := ⟨_, _, ⟨a22m2, i22m2, k22m2⟩, ok_checkX F22m2 B PK BW, B22m2⟩
  have mR0 : MeRead0 l.prog w K mg base CR CP := ⟨_, _, ⟨a25m3, i25m3, k25m3⟩, ok_read0 F25m3 B PK RK mC0 cTx, B25m3⟩
  have mRX : MeReadX l.prog w K mg base CR CP CB := ⟨_, _, ⟨a25m3, i25m3, k25m3⟩, ok_readX F25m3 PK RK mCX, B25m3⟩
  have mB0 : MeBack0 l.prog w K mg base CR CP := ⟨_, _, ⟨a25m7, i25m7, k25m7⟩, ok_back0 F25m7 B RK cWh, B25m7⟩
  have mBA : MeBackA l.prog w K mg base CR CP CN CU := ⟨_, _, ⟨a25m7, i25m7, k25m7⟩, fnok_or (ok_back0 F25m7 B RK cWh) (ok_backX F25m7 B RK cWh oN oU), B25m7⟩
  have mT : Me l.prog w K mg base CX0 3 CR "trial" ["self"] (spTrial CR CT) := ⟨_, _, ⟨a25m8, i25m8, k25m8⟩, ok_trial F25m8 RK TK ⟨mkCT, a26m0, i26m0, kpCT⟩ (PySem.W.mg_of X G gCT) F26m0 B26m0, B25m8⟩
  have LK : LawK l.prog w K mg base CR CP CT CB CN CU := {
    B := B, R := RK, CC := CCm, ne := ne, pc := PK.cls, next := cN, pick := cP, prog := cPr
    made := ⟨_, _, ok_made F38 ⟨mkCP, a22m0, i22m0, kpCP⟩ (PySem.W.mg_of X G gCP) DI B22m0, M38, k38, B38⟩
    runL := ⟨_, _, ok_runL F37 B cWr, M37, k37, B37⟩
    glR := PySem.W.mg_of X G gCR
    mkR := ⟨_, _, ⟨mkCR, a25m1, i25m1, kpCR⟩, ok_rinit F25m1 B PK RK cCP, B25m1⟩
    read0 := mR0, readX := mRX, back0 := mB0, backA := mBA
    text := ⟨_, _, ⟨a25m4, i25m4, k25m4⟩, ok_rtext F25m4 B RK, B25m4⟩
    cont := ⟨_, _, ⟨a25m5, i25m5, k25m5⟩, ok_rcont F25m5 B RK, B25m5⟩
    writ := ⟨_, _, ⟨a25m6, i25m6, k25m6⟩, ok_rwrit F25m6 B PK RK cTx, B25m6⟩
    len := ⟨_, _, ⟨a25m2, i25m2, k25m2⟩, ok_rlen F25m2 B RK, B25m2⟩
    after := ⟨_, _, ⟨a22m3, i22m3, k22m3⟩, ok_after F22m3 B PK mC0 cTx, B22m3⟩
    att := ⟨_, ⟨a25m9, i25m9, k25m9⟩, ok_attempt F25m9 B25m9 RK TK mT ⟨a26m1, i26m1, k26m1⟩ F26m1 B26m1 ⟨a26m2, i26m2, k26m2⟩ F26m2 B26m2 (by decide)⟩
    tried := ⟨_, ok_tried F39 B39 BW (PySem.W.mg_of X G gCN) (PySem.W.mg_of X G gCU) XM, M39, k39⟩
    fails := ⟨_, _, ok_fails F40 RK mR0 mRX, M40, k40, B40⟩ }
  exact ok_law F41 hlawc (TB _ (List.mem_singleton.mpr rfl)) LK
end Pt
end

section
open PySem PySem.W PyProof.Rows
set_option maxRecDepth 100000 in
set_option maxHeartbeats 0 in
theorem PySem.Challenge.cw_passtexts_k07_whole_runs_holds : PySem.Challenge.rw_passtexts_k07_whole_runs.Holds := by
  w_on; o_law; km_head; (case hw => w_witness2)
  k_fill
  refine Pt.walk_X (l := PySem.Challenge.rw_passtexts_k07_whole_runs) (n := 63) (k := 10) (CX := fun _ => L2.CX0) (x := "_law_script") rfl (by decide) rfl ⟨rfl, by decide, by decide⟩ (fun w h Y => km_in_of Y) ?F (fun _ _ _ _ _ z => z)
  case F =>
    intro w mg fa h XPx Y KX G hmg
    refine' Pt.all_mk KX G hmg ?gCP ?gCR ?gCT ?gCB ?gCN ?gCU ?a13 ?l13 ?c13 ?k13 ?a14 ?l14 ?c14 ?k14 ?a15 ?l15 ?c15 ?k15 ?a16 ?l16 ?c16 ?k16 ?a17 ?l17 ?c17 ?k17 ?a18 ?l18 ?c18 ?k18 ?a19 ?l19 ?c19 ?k19 ?a20 ?l20 ?c20 ?k20 ?a21 ?l21 ?c21 ?k21 ?a23 ?l23 ?c23 ?k23 ?a28 ?l28 ?c28 ?k28 ?a29 ?l29 ?c29 ?k29 ?a30 ?l30 ?c30 ?k30 ?a31 ?l31 ?c31 ?k31 ?a32 ?l32 ?c32 ?k32 ?a33 ?l33 ?c33 ?k33 ?a34 ?l34 ?c34 ?k34 ?a35 ?l35 ?c35 ?k35 ?a36 ?l36 ?c36 ?k36 ?a37 ?l37 ?c37 ?k37 ?a38 ?l38 ?c38 ?k38 ?a39 ?l39 ?c39 ?k39 ?a40 ?l40 ?c40 ?k40 ?a41 ?l41 ?c41 ?k41 ?a22m0 ?i22m0 ?l22m0 ?c22m0 ?k22m0 ?a22m2 ?i22m2 ?l22m2 ?c22m2 ?k22m2 ?a22m3 ?i22m3 ?l22m3 ?c22m3 ?k22m3 ?a25m1 ?i25m1 ?l25m1 ?c25m1 ?k25m1 ?a25m2 ?i25m2 ?l25m2 ?c25m2 ?k25m2 ?a25m3 ?i25m3 ?l25m3 ?c25m3 ?k25m3 ?a25m4 ?i25m4 ?l25m4 ?c25m4 ?k25m4 ?a25m5 ?i25m5 ?l25m5 ?c25m5 ?k25m5 ?a25m6 ?i25m6 ?l25m6 ?c25m6 ?k25m6 ?a25m7 ?i25m7 ?l25m7 ?c25m7 ?k25m7 ?a25m8 ?i25m8 ?l25m8 ?c25m8 ?k25m8 ?a25m9 ?i25m9 ?l25m9 ?c25m9 ?k25m9 ?a26m0 ?i26m0 ?l26m0 ?c26m0 ?k26m0 ?a26m1 ?i26m1 ?l26m1 ?c26m1 ?k26m1 ?a26m2 ?i26m2 ?l26m2 ?c26m2 ?k26m2 ?a4m0 ?i4m0 ?l4m0 ?c4m0 ?k4m0 ?lT1 ?pgCP ?hdCP ?poCP ?saCP ?mkCP ?kpCP ?pgCR ?hdCR ?poCR ?saCR ?mkCR ?kpCR ?pgCT ?hdCT ?poCT ?saCT ?mkCT ?kpCT ?nCP1 ?nCP2 ?nCP3 ?nCP4 ?nCP5 ?nCP6 ?nCR1 ?nCR2 ?nCR3 ?nCR4 ?nCT1 ?nCT2 ?nCT3 ?nCT4 ?pi1 ?pi2 ?pi3 ?pi4 ?pi5 ?cc1 ?cc2 ?cc3 ?mo1 ?mo2 ?x1 ?x2 ?x3 ?x4 ?x5 ?x6 ?x7 ?x8 ?x9 ?x10 ?x11 ?oCN1 ?oCN2 ?oCN3 ?oCN4 ?oCU1 ?oCU2 ?oCU3 ?oCU4 ?ebb ?enb ?enn ?eub ?eun ?euu ?icCB ?icCN ?icCU ?b_isinstance ?b_int ?b_bool ?b_str ?b_len ?b_all ?b_set ?b_tuple ?b_list ?b_dict ?b_range ?b_sorted ?b_enumerate ?v1 ?v2 ?v3 ?v4 ?v5 ?ne ?hlawc ?z1 ?z2 ?z3
    (case gCP => k_is)
    (case gCR => k_is)
    (case gCT => k_is)
    (case gCB => k_is)
    (case gCN => k_is)
    (case gCU => k_is)
    (case a13 => k_is)
    (case l13 => k_is)
    (case c13 => k_is)
    (case k13 => k_is)
    (case a14 => k_is)
    (case l14 => k_is)
    (case c14 => k_is)
    (case k14 => k_is)
    (case a15 => k_is)
    (case l15 => k_is)
    (case c15 => k_is)
    (case k15 => k_is)
    (case a16 => k_is)
    (case l16 => k_is)
    (case c16 => k_is)
    (case k16 => k_is)
    (case a17 => k_is)
    (case l17 => k_is)
    (case c17 => k_is)
    (case k17 => k_is)
    (case a18 => k_is)
    (case l18 => k_is)
    (case c18 => k_is)
    (case k18 => k_is)
    (case a19 => k_is)
    (case l19 => k_is)
    (case c19 => k_is)
    (case k19 => k_is)
    (case a20 => k_is)
    (case l20 => k_is)
    (case c20 => k_is)
    (case k20 => k_is)
    (case a21 => k_is)
    (case l21 => k_is)
    (case c21 => k_is)
    (case k21 => k_is)
    (case a23 => k_is)
    (case l23 => k_is)
    (case c23 => k_is)
    (case k23 => k_is)
    (case a28 => k_is)
    (case l28 => k_is)
    (case c28 => k_is)
    (case k28 => k_is)
    (case a29 => k_is)
    (case l29 => k_is)
    (case c29 => k_is)
    (case k29 => k_is)
    (case a30 => k_is)
    (case l30 => k_is)
    (case c30 => k_is)
    (case k30 => k_is)
    (case a31 => k_is)
    (case l31 => k_is)
    (case c31 => k_is)
    (case k31 => k_is)
    (case a32 => k_is)
    (case l32 => k_is)
    (case c32 => k_is)
    (case k32 => k_is)
    (case a33 => k_is)
    (case l33 => k_is)
    (case c33 => k_is)
    (case k33 => k_is)
    (case a34 => k_is)
    (case l34 => k_is)
    (case c34 => k_is)
    (case k34 => k_is)
    (case a35 => k_is)
    (case l35 => k_is)
    (case c35 => k_is)
    (case k35 => k_is)
    (case a36 => k_is)
    (case l36 => k_is)
    (case c36 => k_is)
    (case k36 => k_is)
    (case a37 => k_is)
    (case l37 => k_is)
    (case c37 => k_is)
    (case k37 => k_is)
    (case a38 => k_is)
    (case l38 => k_is)
    (case c38 => k_is)
    (case k38 => k_is)
    (case a39 => k_is)
    (case l39 => k_is)
    (case c39 => k_is)
    (case k39 => k_is)
    (case a40 => k_is)
    (case l40 => k_is)
    (case c40 => k_is)
    (case k40 => k_is)
    (case a41 => k_is)
    (case l41 => k_is)
    (case c41 => k_is)
    (case k41 => k_is)
    (case a22m0 => k_is)
    (case i22m0 => k_is)
    (case l22m0 => k_is)
    (case c22m0 => k_is)
    (case k22m0 => k_is)
    (case a22m2 => k_is)
    (case i22m2 => k_is)
    (case l22m2 => k_is)
    (case c22m2 => k_is)
    (case k22m2 => k_is)
    (case a22m3 => k_is)
    (case i22m3 => k_is)
    (case l22m3 => k_is)
    (case c22m3 => k_is)
    (case k22m3 => k_is)
    (case a25m1 => k_is)
    (case i25m1 => k_is)
    (case l25m1 => k_is)
    (case c25m1 => k_is)
    (case k25m1 => k_is)
    (case a25m2 => k_is)
    (case i25m2 => k_is)
    (case l25m2 => k_is)
    (case c25m2 => k_is)
    (case k25m2 => k_is)
    (case a25m3 => k_is)
    (case i25m3 => k_is)
    (case l25m3 => k_is)
    (case c25m3 => k_is)
    (case k25m3 => k_is)
    (case a25m4 => k_is)
    (case i25m4 => k_is)
    (case l25m4 => k_is)
    (case c25m4 => k_is)
    (case k25m4 => k_is)
    (case a25m5 => k_is)
    (case i25m5 => k_is)
    (case l25m5 => k_is)
    (case c25m5 => k_is)
    (case k25m5 => k_is)
    (case a25m6 => k_is)
    (case i25m6 => k_is)
    (case l25m6 => k_is)
    (case c25m6 => k_is)
    (case k25m6 => k_is)
    (case a25m7 => k_is)
    (case i25m7 => k_is)
    (case l25m7 => k_is)
    (case c25m7 => k_is)
    (case k25m7 => k_is)
    (case a25m8 => k_is)
    (case i25m8 => k_is)
    (case l25m8 => k_is)
    (case c25m8 => k_is)
    (case k25m8 => k_is)
    (case a25m9 => k_is)
    (case i25m9 => k_is)
    (case l25m9 => k_is)
    (case c25m9 => k_is)
    (case k25m9 => k_is)
    (case a26m0 => k_is)
    (case i26m0 => k_is)
    (case l26m0 => k_is)
    (case c26m0 => k_is)
    (case k26m0 => k_is)
    (case a26m1 => k_is)
    (case i26m1 => k_is)
    (case l26m1 => k_is)
    (case c26m1 => k_is)
    (case k26m1 => k_is)
    (case a26m2 => k_is)
    (case i26m2 => k_is)
    (case l26m2 => k_is)
    (case c26m2 => k_is)
    (case k26m2 => k_is)
    (case a4m0 => k_is)
    (case i4m0 => k_is)
    (case l4m0 => k_is)
    (case c4m0 => k_is)
    (case k4m0 => k_is)
    (case lT1 => k_is)
    (case pgCP => k_is)
    (case hdCP => k_is)
    (case poCP => k_is)
    (case saCP => k_is)
    (case mkCP => k_is)
    (case kpCP => k_is)
    (case pgCR => k_is)
    (case hdCR => k_is)
    (case poCR => k_is)
    (case saCR => k_is)
    (case mkCR => k_is)
    (case kpCR => k_is)
    (case pgCT => k_is)
    (case hdCT => k_is)
    (case poCT => k_is)
    (case saCT => k_is)
    (case mkCT => k_is)
    (case kpCT => k_is)
    (case nCP1 => k_is)
    (case nCP2 => k_is)
    (case nCP3 => k_is)
    (case nCP4 => k_is)
    (case nCP5 => k_is)
    (case nCP6 => k_is)
    (case nCR1 => k_is)
    (case nCR2 => k_is)
    (case nCR3 => k_is)
    (case nCR4 => k_is)
    (case nCT1 => k_is)
    (case nCT2 => k_is)
    (case nCT3 => k_is)
    (case nCT4 => k_is)
    (case pi1 => k_is)
    (case pi2 => k_is)
    (case pi3 => k_is)
    (case pi4 => k_is)
    (case pi5 => first | k_is | rfl | simp [PySem.W.kitOne])
    (case cc1 => k_is)
    (case cc2 => k_is)
    (case cc3 => k_is)
    (case mo1 => k_is)
    (case mo2 => k_is)
    (case x1 => k_is)
    (case x2 => first | rfl | decide | k_is)
    (case x3 => k_is)
    (case x4 => k_is)
    (case x5 => k_is)
    (case x6 => k_is)
    (case x7 => k_is)
    (case x8 => k_is)
    (case x9 => k_is)
    (case x10 => k_is)
    (case x11 => k_is)
    (case oCN1 => k_exc)
    (case oCN2 => k_is)
    (case oCN3 => k_is)
    (case oCN4 => k_is)
    (case oCU1 => k_exc)
    (case oCU2 => k_is)
    (case oCU3 => k_is)
    (case oCU4 => k_is)
    (case ebb => k_is)
    (case enb => k_is)
    (case enn => k_is)
    (case eub => k_is)
    (case eun => k_is)
    (case euu => k_is)
    (case icCB => k_is)
    (case icCN => k_is)
    (case icCU => k_is)
    (case b_isinstance => k_is)
    (case b_int => k_is)
    (case b_bool => k_is)
    (case b_str => k_is)
    (case b_len => k_is)
    (case b_all => k_is)
    (case b_set => k_is)
    (case b_tuple => k_is)
    (case b_list => k_is)
    (case b_dict => k_is)
    (case b_range => k_is)
    (case b_sorted => k_is)
    (case b_enumerate => k_is)
    (case v1 => k_is)
    (case v2 => exact Pt.signsG_of XPx (by decide +kernel))
    (case v3 => k_is)
    (case v4 => k_is)
    (case v5 => k_is)
    (case ne => decide)
    (case hlawc => rfl)
    (case z1 => exact km_tabs_of Y 400 (by simp))
    (case z2 => first | kernel_rfl | rfl)
    (case z3 => first | kernel_rfl | rfl)
    all_goals exact default
end
