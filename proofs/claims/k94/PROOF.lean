import PyProof.Rows.All
import Wide.All
import OpenK.AllK
import Wide.FinOn
import KE.KSortKey
import HandS.ForMost
import HandS.SortKw
import HandS.SortInts
import HandS.More
import HandS.ClsMeth
import HandS.Evl
import HandS.DictComp
import HandS.SetKeys
import HandS.TupAny
import HandS.IsInst
import HandS.SetFor
import HandS.Steps
import HandS.Defaults
import HandS.Head0
import HandS.Head1
import HandS.Head2
import HandS.HeadEnd
import HandS.HeadHook1
import HandS.HeadHook2
import PySem.Challenge.RW_solvedpapers_k94_watched_pairs
set_option Elab.async false
set_option linter.all false
set_option maxRecDepth 100000
set_option maxHeartbeats 4000000
/-! sorted(xs, key=f, reverse=b) of fewer than 64 ints, f any value whose call is known -/
namespace TW
open PySem PySem.Spec PyProof.Rows L2 Evl
abbrev atA (X : Cx) (A : Around) : Cx := { X with A := A, xe := fun _ _ => False }
section
variable {X : Cx} {pins : List (Addr × Obj)} {σ : L2.St} {H : Hp} {s : Shared} {A : Around}
theorem inv_at (I : Inv X pins σ H s) (hh : A.handled = X.A.handled) (hf : A.frames = X.A.frames) : Inv (atA X A) pins σ H s :=
  ⟨⟨I.ok.mod, I.ok.kind, I.ok.glob, I.ok.blt, I.ok.above, I.ok.inj, I.ok.has, I.ok.cab, fun c => hh.trans (I.ok.hd c), hf.trans I.ok.frames, I.ok.stk, I.ok.exf, I.ok.bs, I.ok.bsz, I.ok.noex, I.ok.exfs, I.ok.funs, I.ok.frf⟩,
    I.os, I.bare, I.base, I.loc, I.cell, I.free, I.freeC, I.pin, I.hok, I.len⟩
theorem inv_back (I : Inv (atA X A) pins σ H s) (ok : X.Ok) : Inv X pins σ H s :=
  ⟨ok, I.os, I.bare, I.base, I.loc, I.cell, I.free, I.freeC, I.pin, I.hok, I.len⟩
theorem inv_unpin {p : Addr × Obj} (I : Inv X (p :: pins) σ H s) : Inv X pins σ H s := I.pins_of fun q hq => I.pin q (List.mem_append_right _ (List.mem_cons_of_mem _ hq))
theorem inv_pin0 {p : Addr × Obj} (I : Inv X (p :: pins) σ H s) : s.heap.get? p.1 = some p.2 ∧ H p.1 = none ∧ p.1 ≠ X.env.locals ∧ p.1 ∉ X.fs := let z := I.pin p (List.mem_append_right _ List.mem_cons_self); ⟨z.1, z.2.1, z.2.2.1, z.2.2.2.1⟩
/-- what is asked of the key: its call at an item gives an int, what is known stays -/
def KeyOk (X : Cx) (A : Around) (f : Value) (H : Hp) (ns : List Int) (g : Int → Int) : Prop :=
  ∀ (pins : List (Addr × Obj)) (s : Shared) (σ : L2.St) (H1 : Hp) (n : Int) (t : Tok) (Q : VK), n ∈ ns → Ex H H1 → Inv (atA X A) pins σ H1 s → (∀ H2, Ex H1 H2 → Q (.int (g n)) H2) →
    wpAny (model X.prog X.w) A (call f [.int n t]) (EP (atA X A) pins σ Q) (fun _ _ => False) s
/-- a pinned list of ours is given other items -/
theorem inv_turn {kS : Addr} {o o' : Obj} {h' : Heap} {tk : Nat} (I : Inv X ((kS, o) :: pins) σ H s) (hx : kS ∈ X.ex ∨ X.s_0.heap.objs.size ≤ kS) (hc : ∀ x c, X.env.cells.lookup x = some c → c ≠ kS) (hp : ∀ p ∈ X.pn ++ pins, p.1 ≠ kS)
    (k : ∀ b u, b ≠ kS → s.heap.get? b = some u → h'.get? b = some u) (ho : h'.get? kS = some o') (hd : ∀ v, o'.data ≠ .cell v) : Inv X ((kS, o') :: pins) σ H { s with heap := h', toks := tk } := by
  obtain ⟨_, z2, z3, z4⟩ := inv_pin0 I
  have I1 := (inv_unpin I).turned (t' := tk) k z2 z3 hx hc hp
  refine I1.pins_of fun p hq => ?_
  rcases List.mem_cons.mp hq with rfl | hq
  · exact ⟨ho, z2, z3, z4, hd⟩
  · exact I1.pin p (List.mem_append_right _ hq)
theorem ns_one {h : Heap} {a : Addr} {m m' : Str → Option Value} (x : h.Ns a m) (y : h.Ns a m') : m = m' := by
  obtain ⟨o, es, ep, ho, hd, _, hm⟩ := x
  obtain ⟨o', es', ep', ho', hd', _, hm'⟩ := y
  rw [ho] at ho'
  cases ho'
  rw [hd] at hd'
  cases hd'
  funext n
  rw [← hm n, ← hm' n]
theorem ints_take_succ {ns : List Int} {g : Int → Int} {i : Nat} {n : Int} (h : ns[i]? = some n) : (ns.map g).take (i + 1) = (ns.map g).take i ++ [g n] := by
  rw [List.take_add_one, List.getElem?_map, h]
  rfl
/-- behind the keys: the library's sort of the pairs, from the pinned lists to a tracked one -/
theorem key_end {kS a : Addr} {keys : Array Value} {e e1 : Nat} {b : Bool} {vs : List Value} {ns : List Int} {g : Int → Int} {P : PySem.Fin → Shared → Prop} {E : Value → Shared → Prop} {B : Around}
    (I : Inv X ((kS, seqObj "list" keys e) :: (a, seqObj "list" #[] e1) :: pins) σ H s) (hka : kS ≠ a) (xk : kS ∈ X.ex ∨ X.s_0.heap.objs.size ≤ kS) (xa : a ∈ X.ex ∨ X.s_0.heap.objs.size ≤ a)
    (bk : X.base.get? kS = none) (ba : X.base.get? a = none) (ck : ∀ x c, X.env.cells.lookup x = some c → c ≠ kS) (ca : ∀ x c, X.env.cells.lookup x = some c → c ≠ a) (pk : ∀ p ∈ X.pn ++ pins, p.1 ≠ kS) (pa : ∀ p ∈ X.pn ++ pins, p.1 ≠ a)
    (hv : IntsAre vs ns) (hk : IntsAre keys.toList (ns.map g)) (h64 : ns.length < 64)
    (q : ∀ (ns' : List Int) (s' : Shared), ns'.Perm ns → ns'.Pairwise (fun x y => if b then g y ≤ g x else g x ≤ g y) → Inv X pins σ (upd H a (.lst (ns'.map V.int))) s' → P (.done (.ret .none)) s') :
    wpAny (model X.prog X.w) B (ksk_end a b vs.toArray e1 (.ref kS) keys) P E s := by
  obtain ⟨k1, k2, k3, k4⟩ := inv_pin0 I
  obtain ⟨a1, a2, a3, a4⟩ := inv_pin0 (inv_unpin I)
  have I0 : Inv X pins σ H s := inv_unpin (inv_unpin I)
  obtain ⟨m, F⟩ := I0.fr
  have hlen : ns.length = vs.length := hv.length.symm
  let news : List (Addr × Obj) := (allNews X.base s.heap X.env.locals).filter fun p => decide (p.1 ≠ kS) && decide (p.1 ≠ a)
  have inn : ∀ p ∈ news, p ∈ allNews X.base s.heap X.env.locals ∧ p.1 ≠ kS ∧ p.1 ≠ a := fun p hp => by
    obtain ⟨h1, h2⟩ := List.mem_filter.mp hp
    obtain ⟨h3, h4⟩ := Bool.and_eq_true_iff.mp h2
    exact ⟨h1, of_decide_eq_true h3, of_decide_eq_true h4⟩
  have N : News X.base X.env.locals s.heap (news ++ [(kS, seqObj "list" keys e), (a, seqObj "list" #[] e1)]) := fun p hp => by
    rcases List.mem_append.mp hp with hp | hp
    · exact news_all p (inn p hp).1
    · rcases List.mem_cons.mp hp with rfl | hp
      · exact ⟨k1, k3, bk⟩
      · obtain rfl := List.mem_singleton.mp hp
        exact ⟨a1, a3, ba⟩
  refine ksk_end_ (kz := ns.map g) F N hka (fun p hp => (inn p hp).2.1) (fun p hp => (inn p hp).2.2) hk (by rw [List.length_map]; exact hlen) (by omega) fun h' tk out c F' N' ko => ?_
  obtain ⟨na, _, _⟩ := N' (a, seqObj "list" out c) List.mem_cons_self
  have kp : ∀ d u, d ≠ X.env.locals → d ≠ kS → d ≠ a → s.heap.get? d = some u → h'.get? d = some u := fun d u d1 d2 d3 du => by
    cases hb : X.base.get? d with
    | some u' =>
      have z := F.keep d u' hb
      rw [du] at z
      cases z
      exact F'.keep d u hb
    | none =>
      have mm : (d, u) ∈ news := List.mem_filter.mpr ⟨mem_allNews d1 hb du, by simp [d2, d3]⟩
      exact (N' (d, u) (List.mem_cons_of_mem _ mm)).1
  -- what came out
  obtain ⟨ps, hp, ho, hs⟩ := ko
  have hz : (ns.map g).zip vs = (ns.zip vs).map (fun p => (g p.1, p.2)) := by
    rw [List.zip_map_left]
    exact List.map_congr_left fun ⟨x, y⟩ _ => rfl
  have hrel : ∀ p ∈ ps, p.1 = g (numOf p.2) ∧ p.2 ∈ vs := fun p hp2 => by
    have m1 := hp.mem_iff.mp hp2
    rw [hz] at m1
    obtain ⟨⟨u, v⟩, hq, rfl⟩ := List.mem_map.mp m1
    refine ⟨?_, (List.of_mem_zip hq).2⟩
    have e3 : ns = vs.map numOf := hv.nums.symm
    rw [e3, List.zip_map_left] at hq
    obtain ⟨⟨u2, v2⟩, hq2, e4⟩ := List.mem_map.mp hq
    cases e4
    have e5 : u2 = v2 := (mem_zip_self hq2).1
    show g (numOf u2) = g (numOf v2)
    rw [e5]
  have hI : IntsAre (ps.map Prod.snd) ((ps.map Prod.snd).map numOf) := intsAre_map _ fun v hv2 => by
    obtain ⟨p, hp', rfl⟩ := List.mem_map.mp hv2
    exact hv.all _ (hrel p hp').2
  have hP : ((ps.map Prod.snd).map numOf).Perm ns := by
    have h1 := (hp.map Prod.snd).map numOf
    rw [List.map_snd_zip (by rw [List.length_map]; omega), hv.nums] at h1
    exact h1
  have hO : ((ps.map Prod.snd).map numOf).Pairwise (fun x y => if b then g y ≤ g x else g x ≤ g y) := by
    rw [List.pairwise_map, List.pairwise_map]
    refine hs.imp_of_mem fun {p r} hp' hr' hr => ?_
    rw [(hrel p hp').1, (hrel r hr').1] at hr
    exact hr
  rw [← ho] at hI hP hO
  refine q _ _ hP hO ?_
  have nH : ∀ d u, H d = some u → d ≠ X.env.locals ∧ d ≠ kS ∧ d ≠ a := fun d u hd => ⟨ne_of_none hd I0.free, ne_of_none hd k2, ne_of_none hd a2⟩
  refine I0.step (g' := s.gens) (d' := s.drawn) (t' := tk) (ch := [kS, a]) (fun d hd => ?_) (fun d u d1 _ d3 du _ => kp d u d1 (fun z => d3 (by simp [z])) (fun z => d3 (by simp [z])) du)
    (fun d u d1 _ d3 du _ => ⟨u.slots, kp d u d1 (fun z => d3 (by simp [z])) (fun z => d3 (by simp [z])) du⟩) (fun d u d3 _ dn => ?_) (fun d u d3 du => ?_) (fun d xs hd => ?_) (fun d u xs hd => ?_) (fun d ps hd => ⟨#[], ?_⟩) (fun m' hm => ?_) (fun d u hd => ?_) I0.bare
  · rcases List.mem_cons.mp hd with rfl | hd
    · exact ⟨xk, k3, ck, pk⟩
    · obtain rfl := List.mem_singleton.mp hd
      exact ⟨xa, a3, ca, pa⟩
  · rw [upd_ne fun z => d3 (by simp [z])]
    exact dn
  · by_cases d1 : d = X.env.locals
    · obtain ⟨o, es, ep, ho', _⟩ := F'.ns
      exact ⟨o, by rw [d1]; exact ho'⟩
    · exact ⟨u, kp d u d1 (fun z => d3 (by simp [z])) (fun z => d3 (by simp [z])) du⟩
  · rw [upd_ne (nH d _ hd).2.2]
    exact hd
  · rw [upd_ne (nH d _ hd).2.2]
    exact hd
  · rw [upd_ne (nH d _ hd).2.2, hd]
    simp
  · rw [ns_one hm F.ns]
    exact F'.ns
  · by_cases hda : d = a
    · subst hda
      rw [upd_same] at hd
      cases hd
      refine ⟨?_, out.toList, c, vals_of_ints hI, na⟩
      rw [List.length_map, hP.length_eq, sizeLine_eq]
      omega
    · rw [upd_ne hda] at hd
      have hu := I0.hok d u hd
      refine hu.stay (fun c2 v hc hv2 => ?_) (fun c2 hc => ?_) fun c2 xs hc => ?_
      · rcases hc with rfl | hc
        · obtain ⟨z1, z2, z3⟩ := nH _ _ hd
          exact kp _ _ z1 z2 z3 hv2
        · obtain ⟨z1, z2, z3⟩ := nH _ _ hc
          exact kp _ _ z1 z2 z3 hv2
      · rw [upd_ne (nH _ _ hc).2.2]
        exact hc
      · rw [upd_ne (nH _ _ hc).2.2]
        exact hc

/-- one list of the sort: where it may lie -/
structure Own (X : Cx) (pins : List (Addr × Obj)) (a : Addr) : Prop where
  ex : a ∈ X.ex ∨ X.s_0.heap.objs.size ≤ a
  base : X.base.get? a = none
  cell : ∀ x c, X.env.cells.lookup x = some c → c ≠ a
  pins : ∀ p ∈ X.pn ++ pins, p.1 ≠ a
theorem own_new (I : Inv X pins σ H s) {a : Addr} (ha : s.heap.objs.size ≤ a) : Own X pins a := by
  obtain ⟨_, _, _, h4, h5, h6⟩ := I.fpOk (H' := fun _ => none) ha rfl
  exact ⟨h4, ClX.base_none I ha, h5, h6⟩
theorem key_rest {kS a : Addr} {e1 : Nat} {b : Bool} {f : Value} {vs : List Value} {ns : List Int} {g : Int → Int} {P : PySem.Fin → Shared → Prop} {E : Value → Shared → Prop} {B : Around} (hB : B.handled = X.A.handled) (hB2 : B.frames = X.A.frames)
    (I : Inv X ((kS, seqObj "list" #[] 0) :: (a, seqObj "list" #[] e1) :: pins) σ H s) (hka : kS ≠ a) (ok : Own X pins kS) (oa : Own X pins a) (hv : IntsAre vs ns) (h64 : ns.length < 64) (hf : KeyOk X B f H ns g)
    (q : ∀ (ns' : List Int) (H' : Hp) (s' : Shared), ns'.Perm ns → ns'.Pairwise (fun x y => if b then g y ≤ g x else g x ≤ g y) → Ex H H' → H' a = none → Inv X pins σ (upd H' a (.lst (ns'.map V.int))) s' → P (.done (.ret .none)) s') :
    wpAny (model X.prog X.w) B (ksk_rest a f b vs.toArray e1 (.ref kS)) P E s := by
  have okX := I.ok
  have hlen : ns.length = vs.length := hv.length.symm
  unfold ksk_rest
  refine wpAny_bind (wpAny_rule ?_)
  first
    | rw [List.forIn_toArray]
    | (rw [← Array.forIn_toList]; simp only [List.toList_toArray])
  refine wpAny_bind (ksk_fold (fun i s' => ∃ (H' : Hp) (kA : Array Value) (e : Nat), Ex H H' ∧ Inv X ((kS, seqObj "list" kA e) :: (a, seqObj "list" #[] e1) :: pins) σ H' s' ∧ IntsAre kA.toList ((ns.map g).take i)) vs 0 s
    ⟨H, #[], 0, Ex.refl H, I, by simpa using IntsAre.nil⟩ ?turn ?fin)
  case turn =>
    rintro j x s' hx ⟨H', kA, e, eH, I', hk⟩
    simp only [Nat.zero_add] at hk ⊢
    have hj : j < ns.length := by have := (List.getElem?_eq_some_iff.mp hx).1; omega
    have en : ns[j]? = some ns[j] := List.getElem?_eq_getElem hj
    obtain ⟨t, ht⟩ := hv.get j _ en
    rw [ht] at hx
    cases hx
    have hz : kA.size ≤ ns.length := by
      have h1 := hk.length
      rw [Array.length_toList, List.length_take, List.length_map] at h1
      omega
    refine wpAny_bind (wpAny_attempt (wpAny_mono (hf _ s' σ H' ns[j] t (fun v H2 => v = .int (g ns[j]) ∧ Ex H' H2) (List.getElem_mem hj) eH (inv_at I' hB hB2) fun H2 e2 => ⟨rfl, e2⟩) (fun v s2 hE => ?_) fun _ _ z => z.elim))
    obtain ⟨v0, H2, I2, rv, rfl, e2⟩ := hE
    obtain ⟨t2, rfl⟩ := rv
    have I3 := inv_back I2 okX
    obtain ⟨z1, z2, z3, z4⟩ := inv_pin0 I3
    try dsimp only
    obtain ⟨c2, hc2⟩ : ∃ c2, (s2.heap.update kS (Obj.mapSeq (·.push (.int (g ns[j]) t2)))).get? kS = some (seqObj "list" (kA.push (.int (g ns[j]) t2)) c2) := ⟨_, get?_update_seq z1 (·.push (.int (g ns[j]) t2))⟩
    refine wpAny_bind (listUpdate_at z1 rfl ?_ (by rw [sizeLine_eq]; omega) (Nat.le_trans (Nat.le_of_eq (Array.size_push ..)) (by rw [sizeLine_eq]; omega)))
    refine wpAny_pure ⟨rfl, H2, kA.push (.int (g ns[j]) t2), c2, eH.trans e2, ?_, ?_⟩
    · refine inv_turn (tk := s2.toks) I3 ok.ex ok.cell (fun p hp => ?_) (fun d u hd hu => (Heap.SameBut.update s2.heap kS _).2 d hd ▸ hu) hc2 (fun v z => by cases z)
      rcases List.mem_append.mp hp with hp | hp
      · exact ok.pins p (List.mem_append_left _ hp)
      · rcases List.mem_cons.mp hp with rfl | hp
        · exact hka.symm
        · exact ok.pins p (List.mem_append_right _ hp)
    · have ea : (kA.push (Value.int (g ns[j]) t2)).toList = kA.toList ++ [Value.int (g ns[j]) t2] := by simp
      rw [ea, ints_take_succ en]
      exact ksk_snoc hk
  case fin =>
    rintro s' ⟨H', kA, e, eH, I', hk⟩
    have hk' : IntsAre kA.toList (ns.map g) := by
      have e3 : (ns.map g).take (0 + vs.length) = ns.map g := List.take_of_length_le (by rw [List.length_map]; omega)
      rw [e3] at hk
      exact hk
    obtain ⟨z1, _⟩ := inv_pin0 I'
    obtain ⟨_, z2, _⟩ := inv_pin0 (inv_unpin I')
    try dsimp only
    refine wpAny_bind (listItems_at z1 rfl ?_)
    exact key_end I' hka ok.ex oa.ex ok.base oa.base ok.cell oa.cell ok.pins oa.pins hv hk' h64 fun ns' s2 p1 p2 I2 => q ns' H' s2 p1 p2 eH z2 I2
theorem key_tree {a : Addr} {n0 : Nat} {b : Bool} {f : Value} {vs : List Value} {ns : List Int} {g : Int → Int} {P : PySem.Fin → Shared → Prop} {E : Value → Shared → Prop} {B : Around} (hB : B.handled = X.A.handled) (hB2 : B.frames = X.A.frames)
    (I : Inv X ((a, seqObj "list" vs.toArray n0) :: pins) σ H s) (oa : Own X pins a) (hv : IntsAre vs ns) (h64 : ns.length < 64) (hf : KeyOk X B f H ns g)
    (q : ∀ (ns' : List Int) (H' : Hp) (s' : Shared), ns'.Perm ns → ns'.Pairwise (fun x y => if b then g y ≤ g x else g x ≤ g y) → Ex H H' → H' a = none → Inv X pins σ (upd H' a (.lst (ns'.map V.int))) s' → P (.done (.ret .none)) s') :
    wpAny (model X.prog X.w) B (ksk_tree a f b) P E s := by
  obtain ⟨ho, _⟩ := inv_pin0 I
  have hlen : ns.length = vs.length := hv.length.symm
  obtain ⟨e1, ho1⟩ : ∃ e1, (s.heap.update a (Obj.mapSeq fun _ => (#[] : Array Value))).get? a = some (seqObj "list" #[] e1) := ⟨_, get?_update_seq ho fun _ => #[]⟩
  have I1 : Inv X ((a, seqObj "list" #[] e1) :: pins) σ H { s with heap := s.heap.update a (Obj.mapSeq fun _ => (#[] : Array Value)) } :=
    inv_turn (tk := s.toks) I oa.ex oa.cell oa.pins (fun d u hd hu => (Heap.SameBut.update s.heap a _).2 d hd ▸ hu) ho1 (fun v z => by cases z)
  have ha : a < s.heap.objs.size := Heap.lt_size ho
  have hsz : (s.heap.update a (Obj.mapSeq fun _ => (#[] : Array Value))).objs.size = s.heap.objs.size := Heap.size_update ..
  have hsz2 : ((s.heap.update a (Obj.mapSeq fun _ => (#[] : Array Value))).push (seqObj "tuple" vs.toArray 0)).objs.size = s.heap.objs.size + 1 := by rw [size_push', hsz]
  unfold ksk_tree
  refine wpAny_bind (listItems_at ho rfl ?_)
  refine wpAny_bind (listUpdate_at ho rfl ?_ (by rw [List.size_toArray, sizeLine_eq]; omega) (Nat.zero_le _))
  refine wpAny_bind (seqEpoch_at ho1 rfl ?_)
  refine wpAny_bind (wpAny_newTuple ?_ (by show vs.length ≤ _; rw [sizeLine_eq]; omega))
  refine wpAny_bind (wpAny_newList ?_ (Nat.zero_le _))
  refine wpAny_holding ?_
  have I2 := I1.kept (h' := (s.heap.update a (Obj.mapSeq fun _ => (#[] : Array Value))).push (seqObj "tuple" vs.toArray 0)) (t' := s.toks) fun d u hu => Heap.get?_push_of_some _ hu
  have I3 := ClX.pin_new I2 (h' := ((s.heap.update a (Obj.mapSeq fun _ => (#[] : Array Value))).push (seqObj "tuple" vs.toArray 0)).push (seqObj "list" #[] 0)) (t' := s.toks) (o := seqObj "list" #[] 0) (fun d u hu => Heap.get?_push_of_some _ hu) (Nat.le_refl _) (Heap.get?_push_size _ rfl) (fun v z => by cases z)
  refine key_rest (s := { s with heap := ((s.heap.update a (Obj.mapSeq fun _ => (#[] : Array Value))).push (seqObj "tuple" vs.toArray 0)).push (seqObj "list" #[] 0) }) hB hB2 I3 ?_ (own_new (inv_unpin I2) (Nat.le_refl _)) oa hv h64 hf q
  show ((s.heap.update a (Obj.mapSeq fun _ => (#[] : Array Value))).push (seqObj "tuple" vs.toArray 0)).objs.size ≠ a
  rw [hsz2]
  exact Nat.ne_of_gt (Nat.lt_succ_of_lt ha)
/-- sorted(l, ..) by keywords that say key=f, reverse=b -/
theorem key_sorted {l : Addr} {kw : List (Str × Value)} {b : Bool} {f : Value} {ns : List Int} {g : Int → Int} {Q : Value → Shared → Prop} {E : Value → Shared → Prop} (I : Inv X pins σ H s) (hl : SqL X.K H l (ns.map V.int)) (h64 : ns.length < 64)
    (ha1 : argsOk "sorted" ⟨[.ref l], kw⟩) (ha2 : ∀ x, argsOk "list.sort" ⟨[.ref x], kw⟩) (ht : ∀ x, Builtin.«list.sort» ⟨[.ref x], kw⟩ = ksk_tree x f b) (hf : KeyOk X X.A.in1.in1 f H ns g)
    (q : ∀ (ns' : List Int) (p : Addr) (H' : Hp) (s' : Shared), ns'.Perm ns → ns'.Pairwise (fun x y => if b then g y ≤ g x else g x ≤ g y) → H p = none → Ex H H' → H' p = some (.lst (ns'.map V.int)) → Inv X pins σ H' s' → Q (.ref p) s') :
    wpAny (model X.prog X.w) X.A (call (.builtin "sorted") [.ref l] kw) Q E s := by
  obtain ⟨vs, rv, hp, hz⟩ := I.list hl
  have hv := rv.ints
  have hlen : ns.length = vs.length := hv.length.symm
  refine call_function_entry_kw kind_sorted plain_sorted entry_sorted ha1 ?_
  unfold Builtin.«sorted»
  refine wpAny_bind (m := checkCount "sorted" 1 1 _) (wpAny_pure ?_)
  refine wpAny_bind (collect_list hp.isList ?_ (by rw [sizeLine_eq]; omega))
  refine wpAny_bind (wpAny_newList ?_ (by rw [sizeLine_eq]; omega))
  have hsz : ((s.heap.push (seqObj "list" #[] 0)).update s.heap.objs.size (Obj.mapSeq (· ++ vs.toArray))).objs.size = s.heap.objs.size + 1 := by
    rw [Heap.size_update, size_push']
  have hoL : (((s.heap.push (seqObj "list" #[] 0)).update s.heap.objs.size (Obj.mapSeq (· ++ vs.toArray))).push (seqObj "list" vs.toArray 0)).get? (s.heap.objs.size + 1) = some (seqObj "list" vs.toArray 0) := by
    rw [← hsz]
    exact Heap.get?_push_size _ rfl
  have keep : ∀ d u, s.heap.get? d = some u → (((s.heap.push (seqObj "list" #[] 0)).update s.heap.objs.size (Obj.mapSeq (· ++ vs.toArray))).push (seqObj "list" vs.toArray 0)).get? d = some u := fun d u hu => by
    have hlt : d < s.heap.objs.size := Heap.lt_size hu
    rw [Heap.get?_push_ne _ _ _ (by rw [hsz]; exact Nat.ne_of_lt (Nat.lt_succ_of_lt hlt)), Heap.get?_update_ne _ _ _ _ (Nat.ne_of_lt hlt), Heap.get?_push_ne _ _ _ (Nat.ne_of_lt hlt)]
    exact hu
  show wpAny _ _ _ _ _ { s with heap := ((s.heap.push (seqObj "list" #[] 0)).update s.heap.objs.size (Obj.mapSeq (· ++ vs.toArray))).push (seqObj "list" vs.toArray 0) }
  rw [hsz]
  have I1 := ClX.pin_new I (h' := ((s.heap.push (seqObj "list" #[] 0)).update s.heap.objs.size (Obj.mapSeq (· ++ vs.toArray))).push (seqObj "list" vs.toArray 0)) (t' := s.toks) keep (Nat.le_succ _) hoL (fun v z => by cases z)
  refine wpAny_bind (wpAny_holding (wpAny_call_entry_kw slot_list_sort ⟨_, hoL, rfl⟩ entry_list_sort ?body (ha2 _)))
  case body =>
    show wpAny (model X.prog X.w) X.A.in1.in1 (Builtin.«list.sort» ⟨[.ref (s.heap.objs.size + 1)], kw⟩) _ _ _
    rw [ht]
    refine key_tree (s := { s with heap := ((s.heap.push (seqObj "list" #[] 0)).update s.heap.objs.size (Obj.mapSeq (· ++ vs.toArray))).push (seqObj "list" vs.toArray 0) }) rfl rfl I1 (own_new I (Nat.le_succ _)) hv h64 hf fun ns' H' s' p1 p2 eH hn I2 => ⟨_, rfl, ?_⟩
    exact wpAny_pure ⟨_, rfl, q ns' _ _ s' p1 p2 (I.hok.fresh (Nat.le_succ _)) (eH.mut (I.hok.fresh (Nat.le_succ _))) upd_same I2⟩

end
/-! ### the rules -/
def tSrtAbs (K : PySem.W.Frag) (te : TE) : TE := fun σ H Q => te σ H fun x H1 => ∃ (a : Addr) (ns : List Int), [x] = [V.ref a] ∧ SqL K H1 a (ns.map V.int) ∧ ns.length < 64 ∧
  ∀ (ns' : List Int) (p : Addr) (H' : Hp), ns'.Perm ns → ns'.Pairwise (fun x y => x.natAbs ≤ y.natAbs) → H1 p = none → Ex H1 H' → H' p = some (.lst (ns'.map V.int)) → Q (.ref p) H'
section
variable {X : Cx} {e : Expr} {te : TE} {p p2 p3 pos : Pos}
theorem abs_nat (x : Int) : (if x < 0 then -x else x) = (x.natAbs : Int) := by split <;> omega
theorem pe_sortAbs (hg : Gl X "sorted") (hm : X.mg "sorted" = none) (hg2 : Gl X "abs") (hm2 : X.mg "abs" = none) (ha : PA X [e] (tCons te tNil))
    (hes : backTo pos (starEach [e] X.env) = (false, eval e X.env) :: backTo pos (starEach [] X.env) := by rfl) (hpl : (backTo pos (starEach [e] X.env)).any (·.1) = false := by rfl) :
    PE X (.Call (.Name "sorted" p) [e] [{ arg := some "key", value := .Name "abs" p2, pos := p3 }] pos) (tSrtAbs X.K te) := by
  refine ⟨fun pins s σ H Q I h => ?_⟩
  refine wpAny_Call_Name_kw (ld_blt I hg hm boot_sorted ?_)
  refine PyProof.Rows.callWith_kw (thn (ha.run pos pins s σ H (fun vs H1 => ∃ (a : Addr) (ns : List Int), vs = [.ref a] ∧ SqL X.K H1 a (ns.map V.int) ∧ ns.length < 64 ∧
    ∀ (ns' : List Int) (p : Addr) (H' : Hp), ns'.Perm ns → ns'.Pairwise (fun x y => x.natAbs ≤ y.natAbs) → H1 p = none → Ex H1 H' → H' p = some (.lst (ns'.map V.int)) → Q (.ref p) H') I ?_) fun us s1 ⟨vs, H1, I1, r1, q1⟩ => ?_) hes hpl (by rfl) (by rfl)
  · exact h
  · obtain ⟨a, ns, rfl, hl, h64, q⟩ := q1
    obtain rfl := Vals.ref1 r1
    show wpAny _ _ (evalAll [(do let v ← eval (.Name "abs" p2) X.env; standAt pos; pure v)]) _ _ s1
    refine wpAny_evalAll_cons (wpAny_bind (ld_blt I1 hg2 hm2 boot_abs (wpAny_bind (wpAny_standAt (wpAny_pure (wpAny_evalAll_nil ?_))))))
    refine key_sorted (kw := [(Str.ofString "key", .builtin "abs")]) (b := false) (f := .builtin "abs") (g := fun x => (x.natAbs : Int)) I1 hl h64 (ksk_s1 _ _) (fun _ => ksk_l1 _ _) (fun x => ksk_t4 "abs" x) (fun pins s σ H1 n t Q _ _ I k => ?_) fun ns' p H' s' p1 p2 hp eH hp' I' => ⟨.ref p, H', I', rfl, q ns' p H' p1 (p2.imp fun {x y} z => ?_) hp eH hp'⟩
    · refine call_abs_int fun u tk => ⟨.int (n.natAbs : Int), H1, I.tok _, ⟨u, ?_⟩, k H1 (Ex.refl H1)⟩
      rw [abs_nat]
    · have z2 : (x.natAbs : Int) ≤ (y.natAbs : Int) := z
      omega

/-- o.m as a value -/
def tBnd (C : Addr) (m : Str) (g : Addr) (ta : TE) : TE := fun σ H Q => ta σ H fun x H1 => ∃ a dx fs, x = .ref a ∧ H1 a = some (.ins C dx fs) ∧ fs.lookup m = none ∧ ∀ q, H1 q = none → Q (.ref q) (upd H1 q (.met g a))
theorem pe_bnd {m : Str} {C g : Addr} (he : PE X e te) (c : Cls X.K C) (k : BMeth X.K C m g) (hb : attributeBase e m X.env (eval e X.env) = eval e X.env := by rfl) : PE X (.Attribute e m pos) (tBnd C m g te) := by
  refine ⟨fun pins s σ H Q I h => ?_⟩
  refine attr_of hb (thn (he.run pins s σ H _ I h) fun u s1 ⟨x, H1, I1, r1, a, dx, fs, ex, ha, hl, q⟩ => ?_)
  subst ex
  exact op_getbound I1 ha c k hl r1 q
/-- sorted(xs, key=o.m, reverse=b), o.m bound beforehand -/
def rSortedMet (K : PySem.W.Frag) (f : Addr) (sp : Sp) (b : Bool) : List V → List V → Hp → VK → Prop := fun vs zs H Q => ∃ (a : Addr) (ns : List Int) (q x : Addr) (g : Int → Int), vs = [.ref a] ∧ zs = [.ref q, .bl b] ∧ SqL K H a (ns.map V.int) ∧ ns.length < 64 ∧
  H q = some (.met f x) ∧ (∀ n ∈ ns, ∀ H1, Ex H H1 → ∀ Q' : VK, (∀ H2, Ex H1 H2 → Q' (.int (g n)) H2) → sp [.ref x, .int n] H1 Q' E0) ∧
  ∀ (ns' : List Int) (p : Addr) (H' : Hp), ns'.Perm ns → ns'.Pairwise (fun x y => if b then g y ≤ g x else g x ≤ g y) → H p = none → Ex H H' → H' p = some (.lst (ns'.map V.int)) → Q (.ref p) H'
theorem cr_sortedMet {k : Nat} {f : Addr} {fd : FuncData} {ps : List Str} {sp : Sp} {b : Bool} (F : FnOk X.prog X.w X.K X.mg X.base CX0 k f fd ps sp) (hr : Room (k + 2) X.A) (hb : Binds X.K fd ps []) :
    CallRK X (.builtin "sorted") [Str.ofString "key", Str.ofString "reverse"] (rSortedMet X.K f sp b) := by
  intro pins s σ H vs zs us ws Q I r rz h
  obtain ⟨a, ns, q, x, g, rfl, rfl, hl, h64, hq, hsp, k1⟩ := h
  obtain rfl := Vals.ref1 r
  obtain ⟨w1, w2, rfl, e1, e2⟩ := vals2 rz
  obtain rfl : w1 = Value.ref q := e1
  obtain rfl : w2 = Value.bool b := e2
  refine key_sorted (kw := [(Str.ofString "key", .ref q), (Str.ofString "reverse", .bool b)]) (b := b) (f := .ref q) (g := g) I hl h64 (ksk_s2 _ _ _) (fun _ => ksk_l2 _ _ _) (fun y => ksk_t2 q y b) (fun pins s σ H1 n t Q hn eH I1 k2 => ?_)
    fun ns' p H' s' p1 p2 hp eH hp' I' => ⟨.ref p, H', I', rfl, k1 ns' p H' p1 p2 hp eH hp'⟩
  have hsp1 := hsp n hn H1 eH Q k2
  have hl2 : ([Value.ref x, Value.int n t] ++ ([] : List Value)).length = ps.length := F.len _ _ _ _ hsp1
  have hrm : Room k X.A.in1.in1 := hr.in1.in1
  have hbt := hb s [Value.ref x, Value.int n t] I1.kIn hl2
  have hvs : Vals [V.ref x, V.int n] ([Value.ref x, Value.int n t] ++ []) := .cons rfl (.cons ⟨t, rfl⟩ .nil)
  have hrun := F.run X.A.in1.in1 X.stack s H1 ⟨[.ref x, .int n t], []⟩ _ [.ref x, .int n] Q E0 hrm I1.env0 hbt hvs hsp1
  refine wpAny_call (call_met (X := atA X X.A.in1.in1) (A := X.A.in1.in1) (us := [.int n t]) (kw := []) I1 (eH q _ hq) (codeAny_mono hrun fun r s' hr' => ?_))
  cases r with
  | error e => exact hr'.elim
  | ok fl =>
    cases fl with
    | ret u => exact I1.after hr'
    | next => exact False.elim hr'
    | brk => exact False.elim hr'
    | cont => exact False.elim hr'
end
end TW

set_option Elab.async false
set_option linter.all false
set_option maxRecDepth 100000
set_option maxHeartbeats 1000000
namespace TW
open PySem PySem.Spec PyProof.Rows L2 Evl
theorem bt_len : bootBuiltins "len" = some (.builtin "len") := by decide +kernel
theorem bt_range : bootBuiltins "range" = some (.type "range") := by decide +kernel
theorem bt_min : bootBuiltins "min" = some (.builtin "min") := by decide +kernel
theorem bt_max : bootBuiltins "max" = some (.builtin "max") := by decide +kernel
theorem bt_abs : bootBuiltins "abs" = some (.builtin "abs") := by decide +kernel
theorem bt_int : bootBuiltins "int" = some (.type "int") := by decide +kernel
theorem bt_bool : bootBuiltins "bool" = some (.type "bool") := by decide +kernel
theorem bt_isinstance : bootBuiltins "isinstance" = some (.builtin "isinstance") := by decide +kernel
theorem bt_list : bootBuiltins "list" = some (.type "list") := by decide +kernel
theorem bt_tuple : bootBuiltins "tuple" = some (.type "tuple") := by decide +kernel
theorem bt_sorted : bootBuiltins "sorted" = some (.builtin "sorted") := by decide +kernel
/-- a def that lets nothing out, whatever its function object -/
def FnX (P : Program) (w : World) (K : PySem.W.Frag) (mg : Str → Option Value) (base : Heap) (k : Nat) (f : Addr) (ps : List Str) (sp : Sp) : Prop := ∃ fd, FnOk P w K mg base CX0 k f fd ps sp ∧ Binds K fd ps []
/-! ### readings by names -/
abbrev rNegR : V → Hp → VK → Prop := rU fun i => .int (-i)
abbrev rAddR : R2 := rI0 fun i j => .int (i + j)
abbrev rSubR : R2 := rI0 fun i j => .int (i - j)
abbrev rMulR : R2 := rI CMul fun i j => .int (i * j)
abbrev rFdivR : R2 := rI CDiv fun i j => .int (i / j)
abbrev rModR : R2 := rI (fun _ j => 0 < j) fun i j => .int (i % j)
abbrev rPowR : R2 := rI CPow fun i j => .int (i ^ j.toNat)
abbrev rLeR : R2 := rI0 fun i j => .bl (decide (i ≤ j))
abbrev rLtR : R2 := rI0 fun i j => .bl (decide (i < j))
abbrev ipAddR : TIp := ipI fun i j => i + j
abbrev ipSubR : TIp := ipI fun i j => i - j
def rAbsR : List V → Hp → VK → Prop := fun xs H Q => ∃ i, xs = [.int i] ∧ Q (.int (if i < 0 then -i else i)) H
def rMin2R : List V → Hp → VK → Prop := fun xs H Q => ∃ i j, xs = [.int i, .int j] ∧ Q (.int (if j < i then j else i)) H
def rMax2R : List V → Hp → VK → Prop := fun xs H Q => ∃ i j, xs = [.int i, .int j] ∧ Q (.int (if j > i then j else i)) H
def rInt1R : List V → Hp → VK → Prop := fun xs H Q => (∃ i, xs = [.int i] ∧ Q (.int i) H) ∨ ∃ k, xs = [.bl k] ∧ Q (.int (if k then 1 else 0)) H
def rLenDR : List V → Hp → VK → Prop := fun xs H Q => ∃ a kvs, xs = [V.ref a] ∧ H a = some (.dK kvs) ∧ Q (.int kvs.length) H
def rTupS (K : PySem.W.Frag) : List V → Hp → VK → Prop := fun xs H Q => ∃ p ys, xs = [.ref p] ∧ ((SqL K H p ys ∧ ∀ l, H l = none → Q (.ref l) (upd H l (.tup ys))) ∨ (SqT K H p ys ∧ Q (.ref p) H))
/-- is, is not against a written bool; the other side a bool or None -/
def rIsV : R2 := fun x y H Q => ∃ b : Bool, y = .bl b ∧ (x = .non ∨ ∃ a, x = .bl a) ∧ Q (.bl (decide (x = .bl b))) H
def rNotV : R2 := fun x y H Q => ∃ b : Bool, y = .bl b ∧ (x = .non ∨ ∃ a, x = .bl a) ∧ Q (.bl (!decide (x = .bl b))) H
section
variable {X : Cx}
theorem op_isV : OpR X (compareOp .Is) rIsV := by
  intro pins s σ H x y v u Q I rx ry h
  obtain ⟨b, rfl, hx, q⟩ := h
  cases (show u = Value.bool b from ry)
  rcases hx with rfl | ⟨a, rfl⟩
  · cases (show v = Value.none from rx)
    exact wpAny_is_other rfl (fun z => nomatch z) ⟨.bl false, H, I, rfl, by simpa using q⟩
  · cases (show v = Value.bool a from rx)
    by_cases e : a = b
    · subst e
      exact wpAny_is_self rfl ⟨.bl true, H, I, rfl, by simpa using q⟩
    · exact wpAny_is_other rfl (fun z => e (Value.bool.inj z)) ⟨.bl false, H, I, rfl, by simpa [e] using q⟩
theorem op_notV : OpR X (compareOp .IsNot) rNotV := by
  intro pins s σ H x y v u Q I rx ry h
  obtain ⟨b, rfl, hx, q⟩ := h
  cases (show u = Value.bool b from ry)
  rcases hx with rfl | ⟨a, rfl⟩
  · cases (show v = Value.none from rx)
    exact wpAny_isNot_other rfl (fun z => nomatch z) ⟨.bl true, H, I, rfl, by simpa using q⟩
  · cases (show v = Value.bool a from rx)
    by_cases e : a = b
    · subst e
      exact wpAny_isNot_self rfl ⟨.bl false, H, I, rfl, by simpa using q⟩
    · exact wpAny_isNot_other rfl (fun z => e (Value.bool.inj z)) ⟨.bl true, H, I, rfl, by simpa [e] using q⟩
end
end TW

set_option Elab.async false
set_option linter.all false
set_option maxRecDepth 100000
set_option maxHeartbeats 0
namespace TW
open PySem PySem.Spec PyProof.Rows L2 Evl
def top (i : Nat) : Stmt := PySem.Challenge.pw_solvedpapers_k94_watched_pairs.main.body.getD i (.Pass ⟨0, 0, 0, 0⟩)
abbrev s_Watching_init : Stmt := inClass (top 5) 0
def d_Watching_init : He.DefD := ⟨("Watching", some "__init__"), "__init__", "Watching.__init__", defArgs s_Watching_init, defBody s_Watching_init, defScope s_Watching_init, [], []⟩
abbrev ps_Watching_init : List Str := ["self", "trail"]
abbrev s_Watching_put : Stmt := inClass (top 5) 1
def d_Watching_put : He.DefD := ⟨("Watching", some "put"), "put", "Watching.put", defArgs s_Watching_put, defBody s_Watching_put, defScope s_Watching_put, [], []⟩
abbrev ps_Watching_put : List Str := ["self", "clause", "source"]
abbrev s_Watching_clause : Stmt := inClass (top 5) 2
def d_Watching_clause : He.DefD := ⟨("Watching", some "clause"), "clause", "Watching.clause", defArgs s_Watching_clause, defBody s_Watching_clause, defScope s_Watching_clause, [], []⟩
abbrev ps_Watching_clause : List Str := ["self", "number"]
abbrev s_Watching_source : Stmt := inClass (top 5) 3
def d_Watching_source : He.DefD := ⟨("Watching", some "source"), "source", "Watching.source", defArgs s_Watching_source, defBody s_Watching_source, defScope s_Watching_source, [], []⟩
abbrev ps_Watching_source : List Str := ["self", "number"]
abbrev s_Watching_watched : Stmt := inClass (top 5) 4
def d_Watching_watched : He.DefD := ⟨("Watching", some "watched"), "watched", "Watching.watched", defArgs s_Watching_watched, defBody s_Watching_watched, defScope s_Watching_watched, [], []⟩
abbrev ps_Watching_watched : List Str := ["self", "number"]
abbrev s_Watching_size : Stmt := inClass (top 5) 5
def d_Watching_size : He.DefD := ⟨("Watching", some "size"), "size", "Watching.size", defArgs s_Watching_size, defBody s_Watching_size, defScope s_Watching_size, [], []⟩
abbrev ps_Watching_size : List Str := ["self"]
abbrev s_Watching_forget : Stmt := inClass (top 5) 6
def d_Watching_forget : He.DefD := ⟨("Watching", some "forget"), "forget", "Watching.forget", defArgs s_Watching_forget, defBody s_Watching_forget, defScope s_Watching_forget, [], []⟩
abbrev ps_Watching_forget : List Str := ["self", "number"]
abbrev s_Watching_propagate : Stmt := inClass (top 5) 7
def d_Watching_propagate : He.DefD := ⟨("Watching", some "propagate"), "propagate", "Watching.propagate", defArgs s_Watching_propagate, defBody s_Watching_propagate, defScope s_Watching_propagate, [], []⟩
abbrev ps_Watching_propagate : List Str := ["self"]
abbrev s_Watchinglook_at_new : Stmt := inClass (top 5) 8
def d_Watchinglook_at_new : He.DefD := ⟨("Watching", some "_look_at_new"), "_look_at_new", "Watching._look_at_new", defArgs s_Watchinglook_at_new, defBody s_Watchinglook_at_new, defScope s_Watchinglook_at_new, [], []⟩
abbrev ps_Watchinglook_at_new : List Str := ["self"]
abbrev s_Watchingstands : Stmt := inClass (top 5) 9
def d_Watchingstands : He.DefD := ⟨("Watching", some "_stands"), "_stands", "Watching._stands", defArgs s_Watchingstands, defBody s_Watchingstands, defScope s_Watchingstands, [], []⟩
abbrev ps_Watchingstands : List Str := ["self", "number"]
abbrev s_Watchingpair_for : Stmt := inClass (top 5) 10
def d_Watchingpair_for : He.DefD := ⟨("Watching", some "_pair_for"), "_pair_for", "Watching._pair_for", defArgs s_Watchingpair_for, defBody s_Watchingpair_for, defScope s_Watchingpair_for, [], []⟩
abbrev ps_Watchingpair_for : List Str := ["self", "clause"]
abbrev s_Watchingenter : Stmt := inClass (top 5) 11
def d_Watchingenter : He.DefD := ⟨("Watching", some "_enter"), "_enter", "Watching._enter", defArgs s_Watchingenter, defBody s_Watchingenter, defScope s_Watchingenter, [], []⟩
abbrev ps_Watchingenter : List Str := ["self", "number"]
abbrev s_Watchingwork_off : Stmt := inClass (top 5) 12
def d_Watchingwork_off : He.DefD := ⟨("Watching", some "_work_off"), "_work_off", "Watching._work_off", defArgs s_Watchingwork_off, defBody s_Watchingwork_off, defScope s_Watchingwork_off, [], []⟩
abbrev ps_Watchingwork_off : List Str := ["self", "literal"]
abbrev s_Watchingmoves : Stmt := inClass (top 5) 13
def d_Watchingmoves : He.DefD := ⟨("Watching", some "_moves"), "_moves", "Watching._moves", defArgs s_Watchingmoves, defBody s_Watchingmoves, defScope s_Watchingmoves, [], []⟩
abbrev ps_Watchingmoves : List Str := ["self", "number", "literal"]
abbrev s_Watchingsettles : Stmt := inClass (top 5) 14
def d_Watchingsettles : He.DefD := ⟨("Watching", some "_settles"), "_settles", "Watching._settles", defArgs s_Watchingsettles, defBody s_Watchingsettles, defScope s_Watchingsettles, [], []⟩
abbrev ps_Watchingsettles : List Str := ["self", "number", "literal"]
abbrev s_Watchingother : Stmt := inClass (top 5) 15
def d_Watchingother : He.DefD := ⟨("Watching", some "_other"), "_other", "Watching._other", defArgs s_Watchingother, defBody s_Watchingother, defScope s_Watchingother, [], []⟩
abbrev ps_Watchingother : List Str := ["self", "number", "literal"]
abbrev s_Trail_init : Stmt := inClass (top 7) 0
def d_Trail_init : He.DefD := ⟨("Trail", some "__init__"), "__init__", "Trail.__init__", defArgs s_Trail_init, defBody s_Trail_init, defScope s_Trail_init, [], []⟩
abbrev ps_Trail_init : List Str := ["self", "nodes"]
abbrev s_Trail_choose : Stmt := inClass (top 7) 2
def d_Trail_choose : He.DefD := ⟨("Trail", some "choose"), "choose", "Trail.choose", defArgs s_Trail_choose, defBody s_Trail_choose, defScope s_Trail_choose, [], []⟩
abbrev ps_Trail_choose : List Str := ["self", "literal"]
abbrev s_Trail_force : Stmt := inClass (top 7) 3
def d_Trail_force : He.DefD := ⟨("Trail", some "force"), "force", "Trail.force", defArgs s_Trail_force, defBody s_Trail_force, defScope s_Trail_force, [], []⟩
abbrev ps_Trail_force : List Str := ["self", "literal", "reason"]
abbrev s_Trail_back : Stmt := inClass (top 7) 4
def d_Trail_back : He.DefD := ⟨("Trail", some "back"), "back", "Trail.back", defArgs s_Trail_back, defBody s_Trail_back, defScope s_Trail_back, [], []⟩
abbrev ps_Trail_back : List Str := ["self", "level"]
abbrev s_Trail_value : Stmt := inClass (top 7) 5
def d_Trail_value : He.DefD := ⟨("Trail", some "value"), "value", "Trail.value", defArgs s_Trail_value, defBody s_Trail_value, defScope s_Trail_value, [], []⟩
abbrev ps_Trail_value : List Str := ["self", "literal"]
abbrev s_Trail_level_of : Stmt := inClass (top 7) 6
def d_Trail_level_of : He.DefD := ⟨("Trail", some "level_of"), "level_of", "Trail.level_of", defArgs s_Trail_level_of, defBody s_Trail_level_of, defScope s_Trail_level_of, [], []⟩
abbrev ps_Trail_level_of : List Str := ["self", "literal"]
abbrev s_Trail_reason_of : Stmt := inClass (top 7) 7
def d_Trail_reason_of : He.DefD := ⟨("Trail", some "reason_of"), "reason_of", "Trail.reason_of", defArgs s_Trail_reason_of, defBody s_Trail_reason_of, defScope s_Trail_reason_of, [], []⟩
abbrev ps_Trail_reason_of : List Str := ["self", "literal"]
abbrev s_Trail_literals : Stmt := inClass (top 7) 9
def d_Trail_literals : He.DefD := ⟨("Trail", some "literals"), "literals", "Trail.literals", defArgs s_Trail_literals, defBody s_Trail_literals, defScope s_Trail_literals, [], []⟩
abbrev ps_Trail_literals : List Str := ["self"]
abbrev s_Trail_sizes : Stmt := inClass (top 7) 10
def d_Trail_sizes : He.DefD := ⟨("Trail", some "sizes"), "sizes", "Trail.sizes", defArgs s_Trail_sizes, defBody s_Trail_sizes, defScope s_Trail_sizes, [], []⟩
abbrev ps_Trail_sizes : List Str := ["self"]
abbrev s_Trail_depth : Stmt := inClass (top 7) 11
def d_Trail_depth : He.DefD := ⟨("Trail", some "depth"), "depth", "Trail.depth", defArgs s_Trail_depth, defBody s_Trail_depth, defScope s_Trail_depth, [], []⟩
abbrev ps_Trail_depth : List Str := ["self"]
abbrev s_Trail_knows : Stmt := inClass (top 7) 12
def d_Trail_knows : He.DefD := ⟨("Trail", some "knows"), "knows", "Trail.knows", defArgs s_Trail_knows, defBody s_Trail_knows, defScope s_Trail_knows, [], []⟩
abbrev ps_Trail_knows : List Str := ["self", "literal"]
abbrev s_Trail_length : Stmt := inClass (top 7) 13
def d_Trail_length : He.DefD := ⟨("Trail", some "length"), "length", "Trail.length", defArgs s_Trail_length, defBody s_Trail_length, defScope s_Trail_length, [], []⟩
abbrev ps_Trail_length : List Str := ["self"]
abbrev s_Trail_literal_at : Stmt := inClass (top 7) 14
def d_Trail_literal_at : He.DefD := ⟨("Trail", some "literal_at"), "literal_at", "Trail.literal_at", defArgs s_Trail_literal_at, defBody s_Trail_literal_at, defScope s_Trail_literal_at, [], []⟩
abbrev ps_Trail_literal_at : List Str := ["self", "place"]
abbrev s_Trail_mark : Stmt := inClass (top 7) 15
def d_Trail_mark : He.DefD := ⟨("Trail", some "mark"), "mark", "Trail.mark", defArgs s_Trail_mark, defBody s_Trail_mark, defScope s_Trail_mark, [], []⟩
abbrev ps_Trail_mark : List Str := ["self"]
abbrev s_Trail_length_before : Stmt := inClass (top 7) 16
def d_Trail_length_before : He.DefD := ⟨("Trail", some "length_before"), "length_before", "Trail.length_before", defArgs s_Trail_length_before, defBody s_Trail_length_before, defScope s_Trail_length_before, [], []⟩
abbrev ps_Trail_length_before : List Str := ["self", "mark"]
abbrev s_Trailrow_of : Stmt := inClass (top 7) 17
def d_Trailrow_of : He.DefD := ⟨("Trail", some "_row_of"), "_row_of", "Trail._row_of", defArgs s_Trailrow_of, defBody s_Trailrow_of, defScope s_Trailrow_of, [], []⟩
abbrev ps_Trailrow_of : List Str := ["self", "literal"]
abbrev s_Trailrequire_open : Stmt := inClass (top 7) 18
def d_Trailrequire_open : He.DefD := ⟨("Trail", some "_require_open"), "_require_open", "Trail._require_open", defArgs s_Trailrequire_open, defBody s_Trailrequire_open, defScope s_Trailrequire_open, [], []⟩
abbrev ps_Trailrequire_open : List Str := ["self", "literal"]
abbrev s_Trailput_on : Stmt := inClass (top 7) 19
def d_Trailput_on : He.DefD := ⟨("Trail", some "_put_on"), "_put_on", "Trail._put_on", defArgs s_Trailput_on, defBody s_Trailput_on, defScope s_Trailput_on, [], []⟩
abbrev ps_Trailput_on : List Str := ["self", "literal", "reason"]
abbrev s_law_pool : Stmt := top 9
def d_law_pool : He.DefD := ⟨("_law_pool", none), "_law_pool", "_law_pool", defArgs s_law_pool, defBody s_law_pool, defScope s_law_pool, [], []⟩
abbrev ps_law_pool : List Str := ["script", "k"]
abbrev s_law_take : Stmt := top 10
def d_law_take : He.DefD := ⟨("_law_take", none), "_law_take", "_law_take", defArgs s_law_take, defBody s_law_take, defScope s_law_take, [], []⟩
abbrev ps_law_take : List Str := ["pool", "size"]
abbrev s_law_whole : Stmt := top 11
def d_law_whole : He.DefD := ⟨("_law_whole", none), "_law_whole", "_law_whole", defArgs s_law_whole, defBody s_law_whole, defScope s_law_whole, [], []⟩
abbrev ps_law_whole : List Str := ["value"]
abbrev s_law_alike : Stmt := top 12
def d_law_alike : He.DefD := ⟨("_law_alike", none), "_law_alike", "_law_alike", defArgs s_law_alike, defBody s_law_alike, defScope s_law_alike, [], []⟩
abbrev ps_law_alike : List Str := ["actual", "expected"]
abbrev s_law_list : Stmt := top 13
def d_law_list : He.DefD := ⟨("_law_list", none), "_law_list", "_law_list", defArgs s_law_list, defBody s_law_list, defScope s_law_list, [], []⟩
abbrev ps_law_list : List Str := ["actual", "expected"]
abbrev s_law_seat : Stmt := top 14
def d_law_seat : He.DefD := ⟨("_law_seat", none), "_law_seat", "_law_seat", defArgs s_law_seat, defBody s_law_seat, defScope s_law_seat, [], []⟩
abbrev ps_law_seat : List Str := ["pool"]
abbrev s_law_clause : Stmt := top 15
def d_law_clause : He.DefD := ⟨("_law_clause", none), "_law_clause", "_law_clause", defArgs s_law_clause, defBody s_law_clause, defScope s_law_clause, [], []⟩
abbrev ps_law_clause : List Str := ["pool", "seat"]
abbrev s_law_watched : Stmt := top 16
def d_law_watched : He.DefD := ⟨("_law_watched", none), "_law_watched", "_law_watched", defArgs s_law_watched, defBody s_law_watched, defScope s_law_watched, [], []⟩
abbrev ps_law_watched : List Str := ["seat", "number"]
abbrev s_law_put : Stmt := top 17
def d_law_put : He.DefD := ⟨("_law_put", none), "_law_put", "_law_put", defArgs s_law_put, defBody s_law_put, defScope s_law_put, [], []⟩
abbrev ps_law_put : List Str := ["pool", "seat", "clause"]
abbrev s_law_depth : Stmt := top 18
def d_law_depth : He.DefD := ⟨("_law_depth", none), "_law_depth", "_law_depth", defArgs s_law_depth, defBody s_law_depth, defScope s_law_depth, [], []⟩
abbrev ps_law_depth : List Str := ["seat"]
abbrev s_law_stands : Stmt := top 19
def d_law_stands : He.DefD := ⟨("_law_stands", none), "_law_stands", "_law_stands", defArgs s_law_stands, defBody s_law_stands, defScope s_law_stands, [], []⟩
abbrev ps_law_stands : List Str := ["seat"]
abbrev s_law_back : Stmt := top 20
def d_law_back : He.DefD := ⟨("_law_back", none), "_law_back", "_law_back", defArgs s_law_back, defBody s_law_back, defScope s_law_back, [], []⟩
abbrev ps_law_back : List Str := ["seat", "level"]
abbrev s_law_pair : Stmt := top 21
def d_law_pair : He.DefD := ⟨("_law_pair", none), "_law_pair", "_law_pair", defArgs s_law_pair, defBody s_law_pair, defScope s_law_pair, [], []⟩
abbrev ps_law_pair : List Str := ["levels", "pair"]
abbrev s_law_pairs : Stmt := top 22
def d_law_pairs : He.DefD := ⟨("_law_pairs", none), "_law_pairs", "_law_pairs", defArgs s_law_pairs, defBody s_law_pairs, defScope s_law_pairs, [], []⟩
abbrev ps_law_pairs : List Str := ["seat"]
abbrev s_law_grown : Stmt := top 23
def d_law_grown : He.DefD := ⟨("_law_grown", none), "_law_grown", "_law_grown", defArgs s_law_grown, defBody s_law_grown, defScope s_law_grown, [], []⟩
abbrev ps_law_grown : List Str := ["seat"]
abbrev s_law_closure : Stmt := top 24
def d_law_closure : He.DefD := ⟨("_law_closure", none), "_law_closure", "_law_closure", defArgs s_law_closure, defBody s_law_closure, defScope s_law_closure, [], []⟩
abbrev ps_law_closure : List Str := ["seat"]
abbrev s_law_propagates : Stmt := top 25
def d_law_propagates : He.DefD := ⟨("_law_propagates", none), "_law_propagates", "_law_propagates", defArgs s_law_propagates, defBody s_law_propagates, defScope s_law_propagates, [], []⟩
abbrev ps_law_propagates : List Str := ["seat"]
abbrev s_law_open : Stmt := top 26
def d_law_open : He.DefD := ⟨("_law_open", none), "_law_open", "_law_open", defArgs s_law_open, defBody s_law_open, defScope s_law_open, [], []⟩
abbrev ps_law_open : List Str := ["pool", "seat"]
abbrev s_law_chooses : Stmt := top 27
def d_law_chooses : He.DefD := ⟨("_law_chooses", none), "_law_chooses", "_law_chooses", defArgs s_law_chooses, defBody s_law_chooses, defScope s_law_chooses, [], []⟩
abbrev ps_law_chooses : List Str := ["seat", "literal"]
abbrev s_law_down : Stmt := top 28
def d_law_down : He.DefD := ⟨("_law_down", none), "_law_down", "_law_down", defArgs s_law_down, defBody s_law_down, defScope s_law_down, [], []⟩
abbrev ps_law_down : List Str := ["pool", "seat"]
abbrev s_law_like_learned : Stmt := top 29
def d_law_like_learned : He.DefD := ⟨("_law_like_learned", none), "_law_like_learned", "_law_like_learned", defArgs s_law_like_learned, defBody s_law_like_learned, defScope s_law_like_learned, [], []⟩
abbrev ps_law_like_learned : List Str := ["pool", "seat"]
abbrev s_law_forget : Stmt := top 30
def d_law_forget : He.DefD := ⟨("_law_forget", none), "_law_forget", "_law_forget", defArgs s_law_forget, defBody s_law_forget, defScope s_law_forget, [], []⟩
abbrev ps_law_forget : List Str := ["pool", "seat"]
abbrev s_law_put_one : Stmt := top 31
def d_law_put_one : He.DefD := ⟨("_law_put_one", none), "_law_put_one", "_law_put_one", defArgs s_law_put_one, defBody s_law_put_one, defScope s_law_put_one, [], []⟩
abbrev ps_law_put_one : List Str := ["pool", "seat"]
abbrev s_law_deed : Stmt := top 32
def d_law_deed : He.DefD := ⟨("_law_deed", none), "_law_deed", "_law_deed", defArgs s_law_deed, defBody s_law_deed, defScope s_law_deed, [], []⟩
abbrev ps_law_deed : List Str := ["pool", "seat"]
abbrev s_law : Stmt := top 33
def d_law : He.DefD := ⟨("law", none), "law", "law", defArgs s_law, defBody s_law, defScope s_law, [], []⟩
abbrev ps_law : List Str := ["script"]
def fn : List He.DefD := [d_Watching_init, d_Watching_put, d_Watching_clause, d_Watching_source, d_Watching_watched, d_Watching_size, d_Watching_forget, d_Watching_propagate, d_Watchinglook_at_new, d_Watchingstands, d_Watchingpair_for, d_Watchingenter, d_Watchingwork_off, d_Watchingmoves, d_Watchingsettles, d_Watchingother, d_Trail_init, d_Trail_choose, d_Trail_force, d_Trail_back, d_Trail_value, d_Trail_level_of, d_Trail_reason_of, d_Trail_literals, d_Trail_sizes, d_Trail_depth, d_Trail_knows, d_Trail_length, d_Trail_literal_at, d_Trail_mark, d_Trail_length_before, d_Trailrow_of, d_Trailrequire_open, d_Trailput_on, d_law_pool, d_law_take, d_law_whole, d_law_alike, d_law_list, d_law_seat, d_law_clause, d_law_watched, d_law_put, d_law_depth, d_law_stands, d_law_back, d_law_pair, d_law_pairs, d_law_grown, d_law_closure, d_law_propagates, d_law_open, d_law_chooses, d_law_down, d_law_like_learned, d_law_forget, d_law_put_one, d_law_deed, d_law]
def fa : List He.Fa := [.glo "_law_pool", .glo "_law_take", .glo "_law_whole", .glo "_law_alike", .glo "_law_list", .glo "_law_seat", .glo "_law_clause", .glo "_law_watched", .glo "_law_put", .glo "_law_depth", .glo "_law_stands", .glo "_law_back", .glo "_law_pair", .glo "_law_pairs", .glo "_law_grown", .glo "_law_closure", .glo "_law_propagates", .glo "_law_open", .glo "_law_chooses", .glo "_law_down", .glo "_law_like_learned", .glo "_law_forget", .glo "_law_put_one", .glo "_law_deed", .glo "law", .glo "Watching", .cls "Watching", .mkr "Watching", .glo "Trail", .cls "Trail", .mkr "Trail", .meth "Watching" "put", .meth "Watching" "clause", .meth "Watching" "source", .meth "Watching" "watched", .meth "Watching" "size", .meth "Watching" "forget", .meth "Watching" "propagate", .meth "Watching" "_look_at_new", .meth "Watching" "_stands", .meth "Watching" "_pair_for", .meth "Watching" "_enter", .meth "Watching" "_work_off", .meth "Watching" "_moves", .meth "Watching" "_settles", .meth "Watching" "_other", .meth "Trail" "choose", .meth "Trail" "force", .meth "Trail" "back", .meth "Trail" "value", .meth "Trail" "level_of", .meth "Trail" "reason_of", .meth "Trail" "literals", .meth "Trail" "sizes", .meth "Trail" "depth", .meth "Trail" "knows", .meth "Trail" "length", .meth "Trail" "literal_at", .meth "Trail" "mark", .meth "Trail" "length_before", .meth "Trail" "_row_of", .meth "Trail" "_require_open", .meth "Trail" "_put_on", .noat "Watching" "_trail", .noat "Watching" "_clauses", .noat "Watching" "_sources", .noat "Watching" "_pairs", .noat "Watching" "_gone", .noat "Watching" "_by", .noat "Watching" "_short", .noat "Watching" "_looked", .noat "Watching" "_done", .noat "Watching" "_mark", .noat "Trail" "_known", .noat "Trail" "_order", .noat "Trail" "_state", .noat "Trail" "_starts", .noat "Trail" "_stamps", .noat "Trail" "_made", .free "abs", .free "bool", .free "int", .free "isinstance", .free "len", .free "list", .free "max", .free "min", .free "range", .free "sorted", .free "tuple", .keep "_law_pool", .keep "_law_take", .keep "_law_whole", .keep "_law_alike", .keep "_law_list", .keep "_law_seat", .keep "_law_clause", .keep "_law_watched", .keep "_law_put", .keep "_law_depth", .keep "_law_stands", .keep "_law_back", .keep "_law_pair", .keep "_law_pairs", .keep "_law_grown", .keep "_law_closure", .keep "_law_propagates", .keep "_law_open", .keep "_law_chooses", .keep "_law_down", .keep "_law_like_learned", .keep "_law_forget", .keep "_law_put_one", .keep "_law_deed", .keep "law"]
/-- what the walk asks of the top -/
structure Tx (K : PySem.W.Frag) (mg : Str → Option Value) : Prop where
  c : He.SaysD fa fn K
  ns : ∀ (x : Str) (o : Option Value), PySem.W.nsIn K mainGlobals x = some o → mg x = o
  bm_Trail_level_of : BMeth K (He.ga K "Trail") "level_of" (He.fAd K ("Trail", some "level_of"))
theorem Tx.g_law_pool {K : PySem.W.Frag} {mg : Str → Option Value} (T : Tx K mg) : mg "_law_pool" = some (.ref (He.fAd K ("_law_pool", none))) := T.ns _ _ (He.eqO_ok (T.c.fact 0 (f := .glo "_law_pool") rfl))
theorem Tx.g_law_take {K : PySem.W.Frag} {mg : Str → Option Value} (T : Tx K mg) : mg "_law_take" = some (.ref (He.fAd K ("_law_take", none))) := T.ns _ _ (He.eqO_ok (T.c.fact 1 (f := .glo "_law_take") rfl))
theorem Tx.g_law_whole {K : PySem.W.Frag} {mg : Str → Option Value} (T : Tx K mg) : mg "_law_whole" = some (.ref (He.fAd K ("_law_whole", none))) := T.ns _ _ (He.eqO_ok (T.c.fact 2 (f := .glo "_law_whole") rfl))
theorem Tx.g_law_alike {K : PySem.W.Frag} {mg : Str → Option Value} (T : Tx K mg) : mg "_law_alike" = some (.ref (He.fAd K ("_law_alike", none))) := T.ns _ _ (He.eqO_ok (T.c.fact 3 (f := .glo "_law_alike") rfl))
theorem Tx.g_law_list {K : PySem.W.Frag} {mg : Str → Option Value} (T : Tx K mg) : mg "_law_list" = some (.ref (He.fAd K ("_law_list", none))) := T.ns _ _ (He.eqO_ok (T.c.fact 4 (f := .glo "_law_list") rfl))
theorem Tx.g_law_seat {K : PySem.W.Frag} {mg : Str → Option Value} (T : Tx K mg) : mg "_law_seat" = some (.ref (He.fAd K ("_law_seat", none))) := T.ns _ _ (He.eqO_ok (T.c.fact 5 (f := .glo "_law_seat") rfl))
theorem Tx.g_law_clause {K : PySem.W.Frag} {mg : Str → Option Value} (T : Tx K mg) : mg "_law_clause" = some (.ref (He.fAd K ("_law_clause", none))) := T.ns _ _ (He.eqO_ok (T.c.fact 6 (f := .glo "_law_clause") rfl))
theorem Tx.g_law_watched {K : PySem.W.Frag} {mg : Str → Option Value} (T : Tx K mg) : mg "_law_watched" = some (.ref (He.fAd K ("_law_watched", none))) := T.ns _ _ (He.eqO_ok (T.c.fact 7 (f := .glo "_law_watched") rfl))
theorem Tx.g_law_put {K : PySem.W.Frag} {mg : Str → Option Value} (T : Tx K mg) : mg "_law_put" = some (.ref (He.fAd K ("_law_put", none))) := T.ns _ _ (He.eqO_ok (T.c.fact 8 (f := .glo "_law_put") rfl))
theorem Tx.g_law_depth {K : PySem.W.Frag} {mg : Str → Option Value} (T : Tx K mg) : mg "_law_depth" = some (.ref (He.fAd K ("_law_depth", none))) := T.ns _ _ (He.eqO_ok (T.c.fact 9 (f := .glo "_law_depth") rfl))
theorem Tx.g_law_stands {K : PySem.W.Frag} {mg : Str → Option Value} (T : Tx K mg) : mg "_law_stands" = some (.ref (He.fAd K ("_law_stands", none))) := T.ns _ _ (He.eqO_ok (T.c.fact 10 (f := .glo "_law_stands") rfl))
theorem Tx.g_law_back {K : PySem.W.Frag} {mg : Str → Option Value} (T : Tx K mg) : mg "_law_back" = some (.ref (He.fAd K ("_law_back", none))) := T.ns _ _ (He.eqO_ok (T.c.fact 11 (f := .glo "_law_back") rfl))
theorem Tx.g_law_pair {K : PySem.W.Frag} {mg : Str → Option Value} (T : Tx K mg) : mg "_law_pair" = some (.ref (He.fAd K ("_law_pair", none))) := T.ns _ _ (He.eqO_ok (T.c.fact 12 (f := .glo "_law_pair") rfl))
theorem Tx.g_law_pairs {K : PySem.W.Frag} {mg : Str → Option Value} (T : Tx K mg) : mg "_law_pairs" = some (.ref (He.fAd K ("_law_pairs", none))) := T.ns _ _ (He.eqO_ok (T.c.fact 13 (f := .glo "_law_pairs") rfl))
theorem Tx.g_law_grown {K : PySem.W.Frag} {mg : Str → Option Value} (T : Tx K mg) : mg "_law_grown" = some (.ref (He.fAd K ("_law_grown", none))) := T.ns _ _ (He.eqO_ok (T.c.fact 14 (f := .glo "_law_grown") rfl))
theorem Tx.g_law_closure {K : PySem.W.Frag} {mg : Str → Option Value} (T : Tx K mg) : mg "_law_closure" = some (.ref (He.fAd K ("_law_closure", none))) := T.ns _ _ (He.eqO_ok (T.c.fact 15 (f := .glo "_law_closure") rfl))
theorem Tx.g_law_propagates {K : PySem.W.Frag} {mg : Str → Option Value} (T : Tx K mg) : mg "_law_propagates" = some (.ref (He.fAd K ("_law_propagates", none))) := T.ns _ _ (He.eqO_ok (T.c.fact 16 (f := .glo "_law_propagates") rfl))
theorem Tx.g_law_open {K : PySem.W.Frag} {mg : Str → Option Value} (T : Tx K mg) : mg "_law_open" = some (.ref (He.fAd K ("_law_open", none))) := T.ns _ _ (He.eqO_ok (T.c.fact 17 (f := .glo "_law_open") rfl))
theorem Tx.g_law_chooses {K : PySem.W.Frag} {mg : Str → Option Value} (T : Tx K mg) : mg "_law_chooses" = some (.ref (He.fAd K ("_law_chooses", none))) := T.ns _ _ (He.eqO_ok (T.c.fact 18 (f := .glo "_law_chooses") rfl))
theorem Tx.g_law_down {K : PySem.W.Frag} {mg : Str → Option Value} (T : Tx K mg) : mg "_law_down" = some (.ref (He.fAd K ("_law_down", none))) := T.ns _ _ (He.eqO_ok (T.c.fact 19 (f := .glo "_law_down") rfl))
theorem Tx.g_law_like_learned {K : PySem.W.Frag} {mg : Str → Option Value} (T : Tx K mg) : mg "_law_like_learned" = some (.ref (He.fAd K ("_law_like_learned", none))) := T.ns _ _ (He.eqO_ok (T.c.fact 20 (f := .glo "_law_like_learned") rfl))
theorem Tx.g_law_forget {K : PySem.W.Frag} {mg : Str → Option Value} (T : Tx K mg) : mg "_law_forget" = some (.ref (He.fAd K ("_law_forget", none))) := T.ns _ _ (He.eqO_ok (T.c.fact 21 (f := .glo "_law_forget") rfl))
theorem Tx.g_law_put_one {K : PySem.W.Frag} {mg : Str → Option Value} (T : Tx K mg) : mg "_law_put_one" = some (.ref (He.fAd K ("_law_put_one", none))) := T.ns _ _ (He.eqO_ok (T.c.fact 22 (f := .glo "_law_put_one") rfl))
theorem Tx.g_law_deed {K : PySem.W.Frag} {mg : Str → Option Value} (T : Tx K mg) : mg "_law_deed" = some (.ref (He.fAd K ("_law_deed", none))) := T.ns _ _ (He.eqO_ok (T.c.fact 23 (f := .glo "_law_deed") rfl))
theorem Tx.g_law {K : PySem.W.Frag} {mg : Str → Option Value} (T : Tx K mg) : mg "law" = some (.ref (He.fAd K ("law", none))) := T.ns _ _ (He.eqO_ok (T.c.fact 24 (f := .glo "law") rfl))
theorem Tx.g_Watching {K : PySem.W.Frag} {mg : Str → Option Value} (T : Tx K mg) : mg "Watching" = some (.ref (He.ga K "Watching")) := T.ns _ _ (He.eqO_ok (T.c.fact 25 (f := .glo "Watching") rfl))
theorem Tx.cl_Watching {K : PySem.W.Frag} {mg : Str → Option Value} (T : Tx K mg) : Cls K (He.ga K "Watching") := He.cls_ok (T.c.fact 26 (f := .cls "Watching") rfl)
theorem Tx.mk_Watching {K : PySem.W.Frag} {mg : Str → Option Value} (T : Tx K mg) : Mk K (He.ga K "Watching") (He.fAd K ("Watching", some "__init__")) := He.mkr_ok (T.c.fact 27 (f := .mkr "Watching") rfl)
theorem Tx.g_Trail {K : PySem.W.Frag} {mg : Str → Option Value} (T : Tx K mg) : mg "Trail" = some (.ref (He.ga K "Trail")) := T.ns _ _ (He.eqO_ok (T.c.fact 28 (f := .glo "Trail") rfl))
theorem Tx.cl_Trail {K : PySem.W.Frag} {mg : Str → Option Value} (T : Tx K mg) : Cls K (He.ga K "Trail") := He.cls_ok (T.c.fact 29 (f := .cls "Trail") rfl)
theorem Tx.mk_Trail {K : PySem.W.Frag} {mg : Str → Option Value} (T : Tx K mg) : Mk K (He.ga K "Trail") (He.fAd K ("Trail", some "__init__")) := He.mkr_ok (T.c.fact 30 (f := .mkr "Trail") rfl)
theorem Tx.m_Watching_put {K : PySem.W.Frag} {mg : Str → Option Value} (T : Tx K mg) : Meth K (He.ga K "Watching") "put" (He.fAd K ("Watching", some "put")) := He.meth_ok (T.c.fact 31 (f := .meth "Watching" "put") rfl)
theorem Tx.m_Watching_clause {K : PySem.W.Frag} {mg : Str → Option Value} (T : Tx K mg) : Meth K (He.ga K "Watching") "clause" (He.fAd K ("Watching", some "clause")) := He.meth_ok (T.c.fact 32 (f := .meth "Watching" "clause") rfl)
theorem Tx.m_Watching_source {K : PySem.W.Frag} {mg : Str → Option Value} (T : Tx K mg) : Meth K (He.ga K "Watching") "source" (He.fAd K ("Watching", some "source")) := He.meth_ok (T.c.fact 33 (f := .meth "Watching" "source") rfl)
theorem Tx.m_Watching_watched {K : PySem.W.Frag} {mg : Str → Option Value} (T : Tx K mg) : Meth K (He.ga K "Watching") "watched" (He.fAd K ("Watching", some "watched")) := He.meth_ok (T.c.fact 34 (f := .meth "Watching" "watched") rfl)
theorem Tx.m_Watching_size {K : PySem.W.Frag} {mg : Str → Option Value} (T : Tx K mg) : Meth K (He.ga K "Watching") "size" (He.fAd K ("Watching", some "size")) := He.meth_ok (T.c.fact 35 (f := .meth "Watching" "size") rfl)
theorem Tx.m_Watching_forget {K : PySem.W.Frag} {mg : Str → Option Value} (T : Tx K mg) : Meth K (He.ga K "Watching") "forget" (He.fAd K ("Watching", some "forget")) := He.meth_ok (T.c.fact 36 (f := .meth "Watching" "forget") rfl)
theorem Tx.m_Watching_propagate {K : PySem.W.Frag} {mg : Str → Option Value} (T : Tx K mg) : Meth K (He.ga K "Watching") "propagate" (He.fAd K ("Watching", some "propagate")) := He.meth_ok (T.c.fact 37 (f := .meth "Watching" "propagate") rfl)
theorem Tx.m_Watchinglook_at_new {K : PySem.W.Frag} {mg : Str → Option Value} (T : Tx K mg) : Meth K (He.ga K "Watching") "_look_at_new" (He.fAd K ("Watching", some "_look_at_new")) := He.meth_ok (T.c.fact 38 (f := .meth "Watching" "_look_at_new") rfl)
theorem Tx.m_Watchingstands {K : PySem.W.Frag} {mg : Str → Option Value} (T : Tx K mg) : Meth K (He.ga K "Watching") "_stands" (He.fAd K ("Watching", some "_stands")) := He.meth_ok (T.c.fact 39 (f := .meth "Watching" "_stands") rfl)
theorem Tx.m_Watchingpair_for {K : PySem.W.Frag} {mg : Str → Option Value} (T : Tx K mg) : Meth K (He.ga K "Watching") "_pair_for" (He.fAd K ("Watching", some "_pair_for")) := He.meth_ok (T.c.fact 40 (f := .meth "Watching" "_pair_for") rfl)
theorem Tx.m_Watchingenter {K : PySem.W.Frag} {mg : Str → Option Value} (T : Tx K mg) : Meth K (He.ga K "Watching") "_enter" (He.fAd K ("Watching", some "_enter")) := He.meth_ok (T.c.fact 41 (f := .meth "Watching" "_enter") rfl)
theorem Tx.m_Watchingwork_off {K : PySem.W.Frag} {mg : Str → Option Value} (T : Tx K mg) : Meth K (He.ga K "Watching") "_work_off" (He.fAd K ("Watching", some "_work_off")) := He.meth_ok (T.c.fact 42 (f := .meth "Watching" "_work_off") rfl)
theorem Tx.m_Watchingmoves {K : PySem.W.Frag} {mg : Str → Option Value} (T : Tx K mg) : Meth K (He.ga K "Watching") "_moves" (He.fAd K ("Watching", some "_moves")) := He.meth_ok (T.c.fact 43 (f := .meth "Watching" "_moves") rfl)
theorem Tx.m_Watchingsettles {K : PySem.W.Frag} {mg : Str → Option Value} (T : Tx K mg) : Meth K (He.ga K "Watching") "_settles" (He.fAd K ("Watching", some "_settles")) := He.meth_ok (T.c.fact 44 (f := .meth "Watching" "_settles") rfl)
theorem Tx.m_Watchingother {K : PySem.W.Frag} {mg : Str → Option Value} (T : Tx K mg) : Meth K (He.ga K "Watching") "_other" (He.fAd K ("Watching", some "_other")) := He.meth_ok (T.c.fact 45 (f := .meth "Watching" "_other") rfl)
theorem Tx.m_Trail_choose {K : PySem.W.Frag} {mg : Str → Option Value} (T : Tx K mg) : Meth K (He.ga K "Trail") "choose" (He.fAd K ("Trail", some "choose")) := He.meth_ok (T.c.fact 46 (f := .meth "Trail" "choose") rfl)
theorem Tx.m_Trail_force {K : PySem.W.Frag} {mg : Str → Option Value} (T : Tx K mg) : Meth K (He.ga K "Trail") "force" (He.fAd K ("Trail", some "force")) := He.meth_ok (T.c.fact 47 (f := .meth "Trail" "force") rfl)
theorem Tx.m_Trail_back {K : PySem.W.Frag} {mg : Str → Option Value} (T : Tx K mg) : Meth K (He.ga K "Trail") "back" (He.fAd K ("Trail", some "back")) := He.meth_ok (T.c.fact 48 (f := .meth "Trail" "back") rfl)
theorem Tx.m_Trail_value {K : PySem.W.Frag} {mg : Str → Option Value} (T : Tx K mg) : Meth K (He.ga K "Trail") "value" (He.fAd K ("Trail", some "value")) := He.meth_ok (T.c.fact 49 (f := .meth "Trail" "value") rfl)
theorem Tx.m_Trail_level_of {K : PySem.W.Frag} {mg : Str → Option Value} (T : Tx K mg) : Meth K (He.ga K "Trail") "level_of" (He.fAd K ("Trail", some "level_of")) := He.meth_ok (T.c.fact 50 (f := .meth "Trail" "level_of") rfl)
theorem Tx.m_Trail_reason_of {K : PySem.W.Frag} {mg : Str → Option Value} (T : Tx K mg) : Meth K (He.ga K "Trail") "reason_of" (He.fAd K ("Trail", some "reason_of")) := He.meth_ok (T.c.fact 51 (f := .meth "Trail" "reason_of") rfl)
theorem Tx.m_Trail_literals {K : PySem.W.Frag} {mg : Str → Option Value} (T : Tx K mg) : Meth K (He.ga K "Trail") "literals" (He.fAd K ("Trail", some "literals")) := He.meth_ok (T.c.fact 52 (f := .meth "Trail" "literals") rfl)
theorem Tx.m_Trail_sizes {K : PySem.W.Frag} {mg : Str → Option Value} (T : Tx K mg) : Meth K (He.ga K "Trail") "sizes" (He.fAd K ("Trail", some "sizes")) := He.meth_ok (T.c.fact 53 (f := .meth "Trail" "sizes") rfl)
theorem Tx.m_Trail_depth {K : PySem.W.Frag} {mg : Str → Option Value} (T : Tx K mg) : Meth K (He.ga K "Trail") "depth" (He.fAd K ("Trail", some "depth")) := He.meth_ok (T.c.fact 54 (f := .meth "Trail" "depth") rfl)
theorem Tx.m_Trail_knows {K : PySem.W.Frag} {mg : Str → Option Value} (T : Tx K mg) : Meth K (He.ga K "Trail") "knows" (He.fAd K ("Trail", some "knows")) := He.meth_ok (T.c.fact 55 (f := .meth "Trail" "knows") rfl)
theorem Tx.m_Trail_length {K : PySem.W.Frag} {mg : Str → Option Value} (T : Tx K mg) : Meth K (He.ga K "Trail") "length" (He.fAd K ("Trail", some "length")) := He.meth_ok (T.c.fact 56 (f := .meth "Trail" "length") rfl)
theorem Tx.m_Trail_literal_at {K : PySem.W.Frag} {mg : Str → Option Value} (T : Tx K mg) : Meth K (He.ga K "Trail") "literal_at" (He.fAd K ("Trail", some "literal_at")) := He.meth_ok (T.c.fact 57 (f := .meth "Trail" "literal_at") rfl)
theorem Tx.m_Trail_mark {K : PySem.W.Frag} {mg : Str → Option Value} (T : Tx K mg) : Meth K (He.ga K "Trail") "mark" (He.fAd K ("Trail", some "mark")) := He.meth_ok (T.c.fact 58 (f := .meth "Trail" "mark") rfl)
theorem Tx.m_Trail_length_before {K : PySem.W.Frag} {mg : Str → Option Value} (T : Tx K mg) : Meth K (He.ga K "Trail") "length_before" (He.fAd K ("Trail", some "length_before")) := He.meth_ok (T.c.fact 59 (f := .meth "Trail" "length_before") rfl)
theorem Tx.m_Trailrow_of {K : PySem.W.Frag} {mg : Str → Option Value} (T : Tx K mg) : Meth K (He.ga K "Trail") "_row_of" (He.fAd K ("Trail", some "_row_of")) := He.meth_ok (T.c.fact 60 (f := .meth "Trail" "_row_of") rfl)
theorem Tx.m_Trailrequire_open {K : PySem.W.Frag} {mg : Str → Option Value} (T : Tx K mg) : Meth K (He.ga K "Trail") "_require_open" (He.fAd K ("Trail", some "_require_open")) := He.meth_ok (T.c.fact 61 (f := .meth "Trail" "_require_open") rfl)
theorem Tx.m_Trailput_on {K : PySem.W.Frag} {mg : Str → Option Value} (T : Tx K mg) : Meth K (He.ga K "Trail") "_put_on" (He.fAd K ("Trail", some "_put_on")) := He.meth_ok (T.c.fact 62 (f := .meth "Trail" "_put_on") rfl)
theorem Tx.no_Watching_trail {K : PySem.W.Frag} {mg : Str → Option Value} (T : Tx K mg) : NoAttr K (He.ga K "Watching") "_trail" := He.noat_ok (T.c.fact 63 (f := .noat "Watching" "_trail") rfl)
theorem Tx.no_Watching_clauses {K : PySem.W.Frag} {mg : Str → Option Value} (T : Tx K mg) : NoAttr K (He.ga K "Watching") "_clauses" := He.noat_ok (T.c.fact 64 (f := .noat "Watching" "_clauses") rfl)
theorem Tx.no_Watching_sources {K : PySem.W.Frag} {mg : Str → Option Value} (T : Tx K mg) : NoAttr K (He.ga K "Watching") "_sources" := He.noat_ok (T.c.fact 65 (f := .noat "Watching" "_sources") rfl)
theorem Tx.no_Watching_pairs {K : PySem.W.Frag} {mg : Str → Option Value} (T : Tx K mg) : NoAttr K (He.ga K "Watching") "_pairs" := He.noat_ok (T.c.fact 66 (f := .noat "Watching" "_pairs") rfl)
theorem Tx.no_Watching_gone {K : PySem.W.Frag} {mg : Str → Option Value} (T : Tx K mg) : NoAttr K (He.ga K "Watching") "_gone" := He.noat_ok (T.c.fact 67 (f := .noat "Watching" "_gone") rfl)
theorem Tx.no_Watching_by {K : PySem.W.Frag} {mg : Str → Option Value} (T : Tx K mg) : NoAttr K (He.ga K "Watching") "_by" := He.noat_ok (T.c.fact 68 (f := .noat "Watching" "_by") rfl)
theorem Tx.no_Watching_short {K : PySem.W.Frag} {mg : Str → Option Value} (T : Tx K mg) : NoAttr K (He.ga K "Watching") "_short" := He.noat_ok (T.c.fact 69 (f := .noat "Watching" "_short") rfl)
theorem Tx.no_Watching_looked {K : PySem.W.Frag} {mg : Str → Option Value} (T : Tx K mg) : NoAttr K (He.ga K "Watching") "_looked" := He.noat_ok (T.c.fact 70 (f := .noat "Watching" "_looked") rfl)
theorem Tx.no_Watching_done {K : PySem.W.Frag} {mg : Str → Option Value} (T : Tx K mg) : NoAttr K (He.ga K "Watching") "_done" := He.noat_ok (T.c.fact 71 (f := .noat "Watching" "_done") rfl)
theorem Tx.no_Watching_mark {K : PySem.W.Frag} {mg : Str → Option Value} (T : Tx K mg) : NoAttr K (He.ga K "Watching") "_mark" := He.noat_ok (T.c.fact 72 (f := .noat "Watching" "_mark") rfl)
theorem Tx.no_Trail_known {K : PySem.W.Frag} {mg : Str → Option Value} (T : Tx K mg) : NoAttr K (He.ga K "Trail") "_known" := He.noat_ok (T.c.fact 73 (f := .noat "Trail" "_known") rfl)
theorem Tx.no_Trail_order {K : PySem.W.Frag} {mg : Str → Option Value} (T : Tx K mg) : NoAttr K (He.ga K "Trail") "_order" := He.noat_ok (T.c.fact 74 (f := .noat "Trail" "_order") rfl)
theorem Tx.no_Trail_state {K : PySem.W.Frag} {mg : Str → Option Value} (T : Tx K mg) : NoAttr K (He.ga K "Trail") "_state" := He.noat_ok (T.c.fact 75 (f := .noat "Trail" "_state") rfl)
theorem Tx.no_Trail_starts {K : PySem.W.Frag} {mg : Str → Option Value} (T : Tx K mg) : NoAttr K (He.ga K "Trail") "_starts" := He.noat_ok (T.c.fact 76 (f := .noat "Trail" "_starts") rfl)
theorem Tx.no_Trail_stamps {K : PySem.W.Frag} {mg : Str → Option Value} (T : Tx K mg) : NoAttr K (He.ga K "Trail") "_stamps" := He.noat_ok (T.c.fact 77 (f := .noat "Trail" "_stamps") rfl)
theorem Tx.no_Trail_made {K : PySem.W.Frag} {mg : Str → Option Value} (T : Tx K mg) : NoAttr K (He.ga K "Trail") "_made" := He.noat_ok (T.c.fact 78 (f := .noat "Trail" "_made") rfl)
theorem Tx.f_abs {K : PySem.W.Frag} {mg : Str → Option Value} (T : Tx K mg) : mg "abs" = none := T.ns _ _ (He.eqO_ok (T.c.fact 79 (f := .free "abs") rfl))
theorem Tx.f_bool {K : PySem.W.Frag} {mg : Str → Option Value} (T : Tx K mg) : mg "bool" = none := T.ns _ _ (He.eqO_ok (T.c.fact 80 (f := .free "bool") rfl))
theorem Tx.f_int {K : PySem.W.Frag} {mg : Str → Option Value} (T : Tx K mg) : mg "int" = none := T.ns _ _ (He.eqO_ok (T.c.fact 81 (f := .free "int") rfl))
theorem Tx.f_isinstance {K : PySem.W.Frag} {mg : Str → Option Value} (T : Tx K mg) : mg "isinstance" = none := T.ns _ _ (He.eqO_ok (T.c.fact 82 (f := .free "isinstance") rfl))
theorem Tx.f_len {K : PySem.W.Frag} {mg : Str → Option Value} (T : Tx K mg) : mg "len" = none := T.ns _ _ (He.eqO_ok (T.c.fact 83 (f := .free "len") rfl))
theorem Tx.f_list {K : PySem.W.Frag} {mg : Str → Option Value} (T : Tx K mg) : mg "list" = none := T.ns _ _ (He.eqO_ok (T.c.fact 84 (f := .free "list") rfl))
theorem Tx.f_max {K : PySem.W.Frag} {mg : Str → Option Value} (T : Tx K mg) : mg "max" = none := T.ns _ _ (He.eqO_ok (T.c.fact 85 (f := .free "max") rfl))
theorem Tx.f_min {K : PySem.W.Frag} {mg : Str → Option Value} (T : Tx K mg) : mg "min" = none := T.ns _ _ (He.eqO_ok (T.c.fact 86 (f := .free "min") rfl))
theorem Tx.f_range {K : PySem.W.Frag} {mg : Str → Option Value} (T : Tx K mg) : mg "range" = none := T.ns _ _ (He.eqO_ok (T.c.fact 87 (f := .free "range") rfl))
theorem Tx.f_sorted {K : PySem.W.Frag} {mg : Str → Option Value} (T : Tx K mg) : mg "sorted" = none := T.ns _ _ (He.eqO_ok (T.c.fact 88 (f := .free "sorted") rfl))
theorem Tx.f_tuple {K : PySem.W.Frag} {mg : Str → Option Value} (T : Tx K mg) : mg "tuple" = none := T.ns _ _ (He.eqO_ok (T.c.fact 89 (f := .free "tuple") rfl))
theorem Tx.k_law_pool {K : PySem.W.Frag} {mg : Str → Option Value} (T : Tx K mg) : PySem.W.keepIn K (.ref (He.fAd K ("_law_pool", none))) = true := He.keep_ok (T.c.fact 90 (f := .keep "_law_pool") rfl)
theorem Tx.k_law_take {K : PySem.W.Frag} {mg : Str → Option Value} (T : Tx K mg) : PySem.W.keepIn K (.ref (He.fAd K ("_law_take", none))) = true := He.keep_ok (T.c.fact 91 (f := .keep "_law_take") rfl)
theorem Tx.k_law_whole {K : PySem.W.Frag} {mg : Str → Option Value} (T : Tx K mg) : PySem.W.keepIn K (.ref (He.fAd K ("_law_whole", none))) = true := He.keep_ok (T.c.fact 92 (f := .keep "_law_whole") rfl)
theorem Tx.k_law_alike {K : PySem.W.Frag} {mg : Str → Option Value} (T : Tx K mg) : PySem.W.keepIn K (.ref (He.fAd K ("_law_alike", none))) = true := He.keep_ok (T.c.fact 93 (f := .keep "_law_alike") rfl)
theorem Tx.k_law_list {K : PySem.W.Frag} {mg : Str → Option Value} (T : Tx K mg) : PySem.W.keepIn K (.ref (He.fAd K ("_law_list", none))) = true := He.keep_ok (T.c.fact 94 (f := .keep "_law_list") rfl)
theorem Tx.k_law_seat {K : PySem.W.Frag} {mg : Str → Option Value} (T : Tx K mg) : PySem.W.keepIn K (.ref (He.fAd K ("_law_seat", none))) = true := He.keep_ok (T.c.fact 95 (f := .keep "_law_seat") rfl)
theorem Tx.k_law_clause {K : PySem.W.Frag} {mg : Str → Option Value} (T : Tx K mg) : PySem.W.keepIn K (.ref (He.fAd K ("_law_clause", none))) = true := He.keep_ok (T.c.fact 96 (f := .keep "_law_clause") rfl)
theorem Tx.k_law_watched {K : PySem.W.Frag} {mg : Str → Option Value} (T : Tx K mg) : PySem.W.keepIn K (.ref (He.fAd K ("_law_watched", none))) = true := He.keep_ok (T.c.fact 97 (f := .keep "_law_watched") rfl)
theorem Tx.k_law_put {K : PySem.W.Frag} {mg : Str → Option Value} (T : Tx K mg) : PySem.W.keepIn K (.ref (He.fAd K ("_law_put", none))) = true := He.keep_ok (T.c.fact 98 (f := .keep "_law_put") rfl)
theorem Tx.k_law_depth {K : PySem.W.Frag} {mg : Str → Option Value} (T : Tx K mg) : PySem.W.keepIn K (.ref (He.fAd K ("_law_depth", none))) = true := He.keep_ok (T.c.fact 99 (f := .keep "_law_depth") rfl)
theorem Tx.k_law_stands {K : PySem.W.Frag} {mg : Str → Option Value} (T : Tx K mg) : PySem.W.keepIn K (.ref (He.fAd K ("_law_stands", none))) = true := He.keep_ok (T.c.fact 100 (f := .keep "_law_stands") rfl)
theorem Tx.k_law_back {K : PySem.W.Frag} {mg : Str → Option Value} (T : Tx K mg) : PySem.W.keepIn K (.ref (He.fAd K ("_law_back", none))) = true := He.keep_ok (T.c.fact 101 (f := .keep "_law_back") rfl)
theorem Tx.k_law_pair {K : PySem.W.Frag} {mg : Str → Option Value} (T : Tx K mg) : PySem.W.keepIn K (.ref (He.fAd K ("_law_pair", none))) = true := He.keep_ok (T.c.fact 102 (f := .keep "_law_pair") rfl)
theorem Tx.k_law_pairs {K : PySem.W.Frag} {mg : Str → Option Value} (T : Tx K mg) : PySem.W.keepIn K (.ref (He.fAd K ("_law_pairs", none))) = true := He.keep_ok (T.c.fact 103 (f := .keep "_law_pairs") rfl)
theorem Tx.k_law_grown {K : PySem.W.Frag} {mg : Str → Option Value} (T : Tx K mg) : PySem.W.keepIn K (.ref (He.fAd K ("_law_grown", none))) = true := He.keep_ok (T.c.fact 104 (f := .keep "_law_grown") rfl)
theorem Tx.k_law_closure {K : PySem.W.Frag} {mg : Str → Option Value} (T : Tx K mg) : PySem.W.keepIn K (.ref (He.fAd K ("_law_closure", none))) = true := He.keep_ok (T.c.fact 105 (f := .keep "_law_closure") rfl)
theorem Tx.k_law_propagates {K : PySem.W.Frag} {mg : Str → Option Value} (T : Tx K mg) : PySem.W.keepIn K (.ref (He.fAd K ("_law_propagates", none))) = true := He.keep_ok (T.c.fact 106 (f := .keep "_law_propagates") rfl)
theorem Tx.k_law_open {K : PySem.W.Frag} {mg : Str → Option Value} (T : Tx K mg) : PySem.W.keepIn K (.ref (He.fAd K ("_law_open", none))) = true := He.keep_ok (T.c.fact 107 (f := .keep "_law_open") rfl)
theorem Tx.k_law_chooses {K : PySem.W.Frag} {mg : Str → Option Value} (T : Tx K mg) : PySem.W.keepIn K (.ref (He.fAd K ("_law_chooses", none))) = true := He.keep_ok (T.c.fact 108 (f := .keep "_law_chooses") rfl)
theorem Tx.k_law_down {K : PySem.W.Frag} {mg : Str → Option Value} (T : Tx K mg) : PySem.W.keepIn K (.ref (He.fAd K ("_law_down", none))) = true := He.keep_ok (T.c.fact 109 (f := .keep "_law_down") rfl)
theorem Tx.k_law_like_learned {K : PySem.W.Frag} {mg : Str → Option Value} (T : Tx K mg) : PySem.W.keepIn K (.ref (He.fAd K ("_law_like_learned", none))) = true := He.keep_ok (T.c.fact 110 (f := .keep "_law_like_learned") rfl)
theorem Tx.k_law_forget {K : PySem.W.Frag} {mg : Str → Option Value} (T : Tx K mg) : PySem.W.keepIn K (.ref (He.fAd K ("_law_forget", none))) = true := He.keep_ok (T.c.fact 111 (f := .keep "_law_forget") rfl)
theorem Tx.k_law_put_one {K : PySem.W.Frag} {mg : Str → Option Value} (T : Tx K mg) : PySem.W.keepIn K (.ref (He.fAd K ("_law_put_one", none))) = true := He.keep_ok (T.c.fact 112 (f := .keep "_law_put_one") rfl)
theorem Tx.k_law_deed {K : PySem.W.Frag} {mg : Str → Option Value} (T : Tx K mg) : PySem.W.keepIn K (.ref (He.fAd K ("_law_deed", none))) = true := He.keep_ok (T.c.fact 113 (f := .keep "_law_deed") rfl)
theorem Tx.k_law {K : PySem.W.Frag} {mg : Str → Option Value} (T : Tx K mg) : PySem.W.keepIn K (.ref (He.fAd K ("law", none))) = true := He.keep_ok (T.c.fact 114 (f := .keep "law") rfl)
abbrev FnP_Watching_init (K : PySem.W.Frag) (fd : FuncData) : Prop := FunD K "__init__" "Watching.__init__" (defArgs s_Watching_init) (defBody s_Watching_init) (defScope s_Watching_init) [] [] (He.fAd K ("Watching", some "__init__")) fd
theorem Tx.fun_Watching_init {K : PySem.W.Frag} {mg : Str → Option Value} (T : Tx K mg) : ∃ fd, FnP_Watching_init K fd := T.c.def_ 0 (d := d_Watching_init) rfl
abbrev FnP_Watching_put (K : PySem.W.Frag) (fd : FuncData) : Prop := FunD K "put" "Watching.put" (defArgs s_Watching_put) (defBody s_Watching_put) (defScope s_Watching_put) [] [] (He.fAd K ("Watching", some "put")) fd
theorem Tx.fun_Watching_put {K : PySem.W.Frag} {mg : Str → Option Value} (T : Tx K mg) : ∃ fd, FnP_Watching_put K fd := T.c.def_ 1 (d := d_Watching_put) rfl
abbrev FnP_Watching_clause (K : PySem.W.Frag) (fd : FuncData) : Prop := FunD K "clause" "Watching.clause" (defArgs s_Watching_clause) (defBody s_Watching_clause) (defScope s_Watching_clause) [] [] (He.fAd K ("Watching", some "clause")) fd
theorem Tx.fun_Watching_clause {K : PySem.W.Frag} {mg : Str → Option Value} (T : Tx K mg) : ∃ fd, FnP_Watching_clause K fd := T.c.def_ 2 (d := d_Watching_clause) rfl
abbrev FnP_Watching_source (K : PySem.W.Frag) (fd : FuncData) : Prop := FunD K "source" "Watching.source" (defArgs s_Watching_source) (defBody s_Watching_source) (defScope s_Watching_source) [] [] (He.fAd K ("Watching", some "source")) fd
theorem Tx.fun_Watching_source {K : PySem.W.Frag} {mg : Str → Option Value} (T : Tx K mg) : ∃ fd, FnP_Watching_source K fd := T.c.def_ 3 (d := d_Watching_source) rfl
abbrev FnP_Watching_watched (K : PySem.W.Frag) (fd : FuncData) : Prop := FunD K "watched" "Watching.watched" (defArgs s_Watching_watched) (defBody s_Watching_watched) (defScope s_Watching_watched) [] [] (He.fAd K ("Watching", some "watched")) fd
theorem Tx.fun_Watching_watched {K : PySem.W.Frag} {mg : Str → Option Value} (T : Tx K mg) : ∃ fd, FnP_Watching_watched K fd := T.c.def_ 4 (d := d_Watching_watched) rfl
abbrev FnP_Watching_size (K : PySem.W.Frag) (fd : FuncData) : Prop := FunD K "size" "Watching.size" (defArgs s_Watching_size) (defBody s_Watching_size) (defScope s_Watching_size) [] [] (He.fAd K ("Watching", some "size")) fd
theorem Tx.fun_Watching_size {K : PySem.W.Frag} {mg : Str → Option Value} (T : Tx K mg) : ∃ fd, FnP_Watching_size K fd := T.c.def_ 5 (d := d_Watching_size) rfl
abbrev FnP_Watching_forget (K : PySem.W.Frag) (fd : FuncData) : Prop := FunD K "forget" "Watching.forget" (defArgs s_Watching_forget) (defBody s_Watching_forget) (defScope s_Watching_forget) [] [] (He.fAd K ("Watching", some "forget")) fd
theorem Tx.fun_Watching_forget {K : PySem.W.Frag} {mg : Str → Option Value} (T : Tx K mg) : ∃ fd, FnP_Watching_forget K fd := T.c.def_ 6 (d := d_Watching_forget) rfl
abbrev FnP_Watching_propagate (K : PySem.W.Frag) (fd : FuncData) : Prop := FunD K "propagate" "Watching.propagate" (defArgs s_Watching_propagate) (defBody s_Watching_propagate) (defScope s_Watching_propagate) [] [] (He.fAd K ("Watching", some "propagate")) fd
theorem Tx.fun_Watching_propagate {K : PySem.W.Frag} {mg : Str → Option Value} (T : Tx K mg) : ∃ fd, FnP_Watching_propagate K fd := T.c.def_ 7 (d := d_Watching_propagate) rfl
abbrev FnP_Watchinglook_at_new (K : PySem.W.Frag) (fd : FuncData) : Prop := FunD K "_look_at_new" "Watching._look_at_new" (defArgs s_Watchinglook_at_new) (defBody s_Watchinglook_at_new) (defScope s_Watchinglook_at_new) [] [] (He.fAd K ("Watching", some "_look_at_new")) fd
theorem Tx.fun_Watchinglook_at_new {K : PySem.W.Frag} {mg : Str → Option Value} (T : Tx K mg) : ∃ fd, FnP_Watchinglook_at_new K fd := T.c.def_ 8 (d := d_Watchinglook_at_new) rfl
abbrev FnP_Watchingstands (K : PySem.W.Frag) (fd : FuncData) : Prop := FunD K "_stands" "Watching._stands" (defArgs s_Watchingstands) (defBody s_Watchingstands) (defScope s_Watchingstands) [] [] (He.fAd K ("Watching", some "_stands")) fd
theorem Tx.fun_Watchingstands {K : PySem.W.Frag} {mg : Str → Option Value} (T : Tx K mg) : ∃ fd, FnP_Watchingstands K fd := T.c.def_ 9 (d := d_Watchingstands) rfl
abbrev FnP_Watchingpair_for (K : PySem.W.Frag) (fd : FuncData) : Prop := FunD K "_pair_for" "Watching._pair_for" (defArgs s_Watchingpair_for) (defBody s_Watchingpair_for) (defScope s_Watchingpair_for) [] [] (He.fAd K ("Watching", some "_pair_for")) fd
theorem Tx.fun_Watchingpair_for {K : PySem.W.Frag} {mg : Str → Option Value} (T : Tx K mg) : ∃ fd, FnP_Watchingpair_for K fd := T.c.def_ 10 (d := d_Watchingpair_for) rfl
abbrev FnP_Watchingenter (K : PySem.W.Frag) (fd : FuncData) : Prop := FunD K "_enter" "Watching._enter" (defArgs s_Watchingenter) (defBody s_Watchingenter) (defScope s_Watchingenter) [] [] (He.fAd K ("Watching", some "_enter")) fd
theorem Tx.fun_Watchingenter {K : PySem.W.Frag} {mg : Str → Option Value} (T : Tx K mg) : ∃ fd, FnP_Watchingenter K fd := T.c.def_ 11 (d := d_Watchingenter) rfl
abbrev FnP_Watchingwork_off (K : PySem.W.Frag) (fd : FuncData) : Prop := FunD K "_work_off" "Watching._work_off" (defArgs s_Watchingwork_off) (defBody s_Watchingwork_off) (defScope s_Watchingwork_off) [] [] (He.fAd K ("Watching", some "_work_off")) fd
theorem Tx.fun_Watchingwork_off {K : PySem.W.Frag} {mg : Str → Option Value} (T : Tx K mg) : ∃ fd, FnP_Watchingwork_off K fd := T.c.def_ 12 (d := d_Watchingwork_off) rfl
abbrev FnP_Watchingmoves (K : PySem.W.Frag) (fd : FuncData) : Prop := FunD K "_moves" "Watching._moves" (defArgs s_Watchingmoves) (defBody s_Watchingmoves) (defScope s_Watchingmoves) [] [] (He.fAd K ("Watching", some "_moves")) fd
theorem Tx.fun_Watchingmoves {K : PySem.W.Frag} {mg : Str → Option Value} (T : Tx K mg) : ∃ fd, FnP_Watchingmoves K fd := T.c.def_ 13 (d := d_Watchingmoves) rfl
abbrev FnP_Watchingsettles (K : PySem.W.Frag) (fd : FuncData) : Prop := FunD K "_settles" "Watching._settles" (defArgs s_Watchingsettles) (defBody s_Watchingsettles) (defScope s_Watchingsettles) [] [] (He.fAd K ("Watching", some "_settles")) fd
theorem Tx.fun_Watchingsettles {K : PySem.W.Frag} {mg : Str → Option Value} (T : Tx K mg) : ∃ fd, FnP_Watchingsettles K fd := T.c.def_ 14 (d := d_Watchingsettles) rfl
abbrev FnP_Watchingother (K : PySem.W.Frag) (fd : FuncData) : Prop := FunD K "_other" "Watching._other" (defArgs s_Watchingother) (defBody s_Watchingother) (defScope s_Watchingother) [] [] (He.fAd K ("Watching", some "_other")) fd
theorem Tx.fun_Watchingother {K : PySem.W.Frag} {mg : Str → Option Value} (T : Tx K mg) : ∃ fd, FnP_Watchingother K fd := T.c.def_ 15 (d := d_Watchingother) rfl
abbrev FnP_Trail_init (K : PySem.W.Frag) (fd : FuncData) : Prop := FunD K "__init__" "Trail.__init__" (defArgs s_Trail_init) (defBody s_Trail_init) (defScope s_Trail_init) [] [] (He.fAd K ("Trail", some "__init__")) fd
theorem Tx.fun_Trail_init {K : PySem.W.Frag} {mg : Str → Option Value} (T : Tx K mg) : ∃ fd, FnP_Trail_init K fd := T.c.def_ 16 (d := d_Trail_init) rfl
abbrev FnP_Trail_choose (K : PySem.W.Frag) (fd : FuncData) : Prop := FunD K "choose" "Trail.choose" (defArgs s_Trail_choose) (defBody s_Trail_choose) (defScope s_Trail_choose) [] [] (He.fAd K ("Trail", some "choose")) fd
theorem Tx.fun_Trail_choose {K : PySem.W.Frag} {mg : Str → Option Value} (T : Tx K mg) : ∃ fd, FnP_Trail_choose K fd := T.c.def_ 17 (d := d_Trail_choose) rfl
abbrev FnP_Trail_force (K : PySem.W.Frag) (fd : FuncData) : Prop := FunD K "force" "Trail.force" (defArgs s_Trail_force) (defBody s_Trail_force) (defScope s_Trail_force) [] [] (He.fAd K ("Trail", some "force")) fd
theorem Tx.fun_Trail_force {K : PySem.W.Frag} {mg : Str → Option Value} (T : Tx K mg) : ∃ fd, FnP_Trail_force K fd := T.c.def_ 18 (d := d_Trail_force) rfl
abbrev FnP_Trail_back (K : PySem.W.Frag) (fd : FuncData) : Prop := FunD K "back" "Trail.back" (defArgs s_Trail_back) (defBody s_Trail_back) (defScope s_Trail_back) [] [] (He.fAd K ("Trail", some "back")) fd
theorem Tx.fun_Trail_back {K : PySem.W.Frag} {mg : Str → Option Value} (T : Tx K mg) : ∃ fd, FnP_Trail_back K fd := T.c.def_ 19 (d := d_Trail_back) rfl
abbrev FnP_Trail_value (K : PySem.W.Frag) (fd : FuncData) : Prop := FunD K "value" "Trail.value" (defArgs s_Trail_value) (defBody s_Trail_value) (defScope s_Trail_value) [] [] (He.fAd K ("Trail", some "value")) fd
theorem Tx.fun_Trail_value {K : PySem.W.Frag} {mg : Str → Option Value} (T : Tx K mg) : ∃ fd, FnP_Trail_value K fd := T.c.def_ 20 (d := d_Trail_value) rfl
abbrev FnP_Trail_level_of (K : PySem.W.Frag) (fd : FuncData) : Prop := FunD K "level_of" "Trail.level_of" (defArgs s_Trail_level_of) (defBody s_Trail_level_of) (defScope s_Trail_level_of) [] [] (He.fAd K ("Trail", some "level_of")) fd
theorem Tx.fun_Trail_level_of {K : PySem.W.Frag} {mg : Str → Option Value} (T : Tx K mg) : ∃ fd, FnP_Trail_level_of K fd := T.c.def_ 21 (d := d_Trail_level_of) rfl
abbrev FnP_Trail_reason_of (K : PySem.W.Frag) (fd : FuncData) : Prop := FunD K "reason_of" "Trail.reason_of" (defArgs s_Trail_reason_of) (defBody s_Trail_reason_of) (defScope s_Trail_reason_of) [] [] (He.fAd K ("Trail", some "reason_of")) fd
theorem Tx.fun_Trail_reason_of {K : PySem.W.Frag} {mg : Str → Option Value} (T : Tx K mg) : ∃ fd, FnP_Trail_reason_of K fd := T.c.def_ 22 (d := d_Trail_reason_of) rfl
abbrev FnP_Trail_literals (K : PySem.W.Frag) (fd : FuncData) : Prop := FunD K "literals" "Trail.literals" (defArgs s_Trail_literals) (defBody s_Trail_literals) (defScope s_Trail_literals) [] [] (He.fAd K ("Trail", some "literals")) fd
theorem Tx.fun_Trail_literals {K : PySem.W.Frag} {mg : Str → Option Value} (T : Tx K mg) : ∃ fd, FnP_Trail_literals K fd := T.c.def_ 23 (d := d_Trail_literals) rfl
abbrev FnP_Trail_sizes (K : PySem.W.Frag) (fd : FuncData) : Prop := FunD K "sizes" "Trail.sizes" (defArgs s_Trail_sizes) (defBody s_Trail_sizes) (defScope s_Trail_sizes) [] [] (He.fAd K ("Trail", some "sizes")) fd
theorem Tx.fun_Trail_sizes {K : PySem.W.Frag} {mg : Str → Option Value} (T : Tx K mg) : ∃ fd, FnP_Trail_sizes K fd := T.c.def_ 24 (d := d_Trail_sizes) rfl
abbrev FnP_Trail_depth (K : PySem.W.Frag) (fd : FuncData) : Prop := FunD K "depth" "Trail.depth" (defArgs s_Trail_depth) (defBody s_Trail_depth) (defScope s_Trail_depth) [] [] (He.fAd K ("Trail", some "depth")) fd
theorem Tx.fun_Trail_depth {K : PySem.W.Frag} {mg : Str → Option Value} (T : Tx K mg) : ∃ fd, FnP_Trail_depth K fd := T.c.def_ 25 (d := d_Trail_depth) rfl
abbrev FnP_Trail_knows (K : PySem.W.Frag) (fd : FuncData) : Prop := FunD K "knows" "Trail.knows" (defArgs s_Trail_knows) (defBody s_Trail_knows) (defScope s_Trail_knows) [] [] (He.fAd K ("Trail", some "knows")) fd
theorem Tx.fun_Trail_knows {K : PySem.W.Frag} {mg : Str → Option Value} (T : Tx K mg) : ∃ fd, FnP_Trail_knows K fd := T.c.def_ 26 (d := d_Trail_knows) rfl
abbrev FnP_Trail_length (K : PySem.W.Frag) (fd : FuncData) : Prop := FunD K "length" "Trail.length" (defArgs s_Trail_length) (defBody s_Trail_length) (defScope s_Trail_length) [] [] (He.fAd K ("Trail", some "length")) fd
theorem Tx.fun_Trail_length {K : PySem.W.Frag} {mg : Str → Option Value} (T : Tx K mg) : ∃ fd, FnP_Trail_length K fd := T.c.def_ 27 (d := d_Trail_length) rfl
abbrev FnP_Trail_literal_at (K : PySem.W.Frag) (fd : FuncData) : Prop := FunD K "literal_at" "Trail.literal_at" (defArgs s_Trail_literal_at) (defBody s_Trail_literal_at) (defScope s_Trail_literal_at) [] [] (He.fAd K ("Trail", some "literal_at")) fd
theorem Tx.fun_Trail_literal_at {K : PySem.W.Frag} {mg : Str → Option Value} (T : Tx K mg) : ∃ fd, FnP_Trail_literal_at K fd := T.c.def_ 28 (d := d_Trail_literal_at) rfl
abbrev FnP_Trail_mark (K : PySem.W.Frag) (fd : FuncData) : Prop := FunD K "mark" "Trail.mark" (defArgs s_Trail_mark) (defBody s_Trail_mark) (defScope s_Trail_mark) [] [] (He.fAd K ("Trail", some "mark")) fd
theorem Tx.fun_Trail_mark {K : PySem.W.Frag} {mg : Str → Option Value} (T : Tx K mg) : ∃ fd, FnP_Trail_mark K fd := T.c.def_ 29 (d := d_Trail_mark) rfl
abbrev FnP_Trail_length_before (K : PySem.W.Frag) (fd : FuncData) : Prop := FunD K "length_before" "Trail.length_before" (defArgs s_Trail_length_before) (defBody s_Trail_length_before) (defScope s_Trail_length_before) [] [] (He.fAd K ("Trail", some "length_before")) fd
theorem Tx.fun_Trail_length_before {K : PySem.W.Frag} {mg : Str → Option Value} (T : Tx K mg) : ∃ fd, FnP_Trail_length_before K fd := T.c.def_ 30 (d := d_Trail_length_before) rfl
abbrev FnP_Trailrow_of (K : PySem.W.Frag) (fd : FuncData) : Prop := FunD K "_row_of" "Trail._row_of" (defArgs s_Trailrow_of) (defBody s_Trailrow_of) (defScope s_Trailrow_of) [] [] (He.fAd K ("Trail", some "_row_of")) fd
theorem Tx.fun_Trailrow_of {K : PySem.W.Frag} {mg : Str → Option Value} (T : Tx K mg) : ∃ fd, FnP_Trailrow_of K fd := T.c.def_ 31 (d := d_Trailrow_of) rfl
abbrev FnP_Trailrequire_open (K : PySem.W.Frag) (fd : FuncData) : Prop := FunD K "_require_open" "Trail._require_open" (defArgs s_Trailrequire_open) (defBody s_Trailrequire_open) (defScope s_Trailrequire_open) [] [] (He.fAd K ("Trail", some "_require_open")) fd
theorem Tx.fun_Trailrequire_open {K : PySem.W.Frag} {mg : Str → Option Value} (T : Tx K mg) : ∃ fd, FnP_Trailrequire_open K fd := T.c.def_ 32 (d := d_Trailrequire_open) rfl
abbrev FnP_Trailput_on (K : PySem.W.Frag) (fd : FuncData) : Prop := FunD K "_put_on" "Trail._put_on" (defArgs s_Trailput_on) (defBody s_Trailput_on) (defScope s_Trailput_on) [] [] (He.fAd K ("Trail", some "_put_on")) fd
theorem Tx.fun_Trailput_on {K : PySem.W.Frag} {mg : Str → Option Value} (T : Tx K mg) : ∃ fd, FnP_Trailput_on K fd := T.c.def_ 33 (d := d_Trailput_on) rfl
abbrev FnP_law_pool (K : PySem.W.Frag) (fd : FuncData) : Prop := FunD K "_law_pool" "_law_pool" (defArgs s_law_pool) (defBody s_law_pool) (defScope s_law_pool) [] [] (He.fAd K ("_law_pool", none)) fd
theorem Tx.fun_law_pool {K : PySem.W.Frag} {mg : Str → Option Value} (T : Tx K mg) : ∃ fd, FnP_law_pool K fd := T.c.def_ 34 (d := d_law_pool) rfl
abbrev FnP_law_take (K : PySem.W.Frag) (fd : FuncData) : Prop := FunD K "_law_take" "_law_take" (defArgs s_law_take) (defBody s_law_take) (defScope s_law_take) [] [] (He.fAd K ("_law_take", none)) fd
theorem Tx.fun_law_take {K : PySem.W.Frag} {mg : Str → Option Value} (T : Tx K mg) : ∃ fd, FnP_law_take K fd := T.c.def_ 35 (d := d_law_take) rfl
abbrev FnP_law_whole (K : PySem.W.Frag) (fd : FuncData) : Prop := FunD K "_law_whole" "_law_whole" (defArgs s_law_whole) (defBody s_law_whole) (defScope s_law_whole) [] [] (He.fAd K ("_law_whole", none)) fd
theorem Tx.fun_law_whole {K : PySem.W.Frag} {mg : Str → Option Value} (T : Tx K mg) : ∃ fd, FnP_law_whole K fd := T.c.def_ 36 (d := d_law_whole) rfl
abbrev FnP_law_alike (K : PySem.W.Frag) (fd : FuncData) : Prop := FunD K "_law_alike" "_law_alike" (defArgs s_law_alike) (defBody s_law_alike) (defScope s_law_alike) [] [] (He.fAd K ("_law_alike", none)) fd
theorem Tx.fun_law_alike {K : PySem.W.Frag} {mg : Str → Option Value} (T : Tx K mg) : ∃ fd, FnP_law_alike K fd := T.c.def_ 37 (d := d_law_alike) rfl
abbrev FnP_law_list (K : PySem.W.Frag) (fd : FuncData) : Prop := FunD K "_law_list" "_law_list" (defArgs s_law_list) (defBody s_law_list) (defScope s_law_list) [] [] (He.fAd K ("_law_list", none)) fd
theorem Tx.fun_law_list {K : PySem.W.Frag} {mg : Str → Option Value} (T : Tx K mg) : ∃ fd, FnP_law_list K fd := T.c.def_ 38 (d := d_law_list) rfl
abbrev FnP_law_seat (K : PySem.W.Frag) (fd : FuncData) : Prop := FunD K "_law_seat" "_law_seat" (defArgs s_law_seat) (defBody s_law_seat) (defScope s_law_seat) [] [] (He.fAd K ("_law_seat", none)) fd
theorem Tx.fun_law_seat {K : PySem.W.Frag} {mg : Str → Option Value} (T : Tx K mg) : ∃ fd, FnP_law_seat K fd := T.c.def_ 39 (d := d_law_seat) rfl
abbrev FnP_law_clause (K : PySem.W.Frag) (fd : FuncData) : Prop := FunD K "_law_clause" "_law_clause" (defArgs s_law_clause) (defBody s_law_clause) (defScope s_law_clause) [] [] (He.fAd K ("_law_clause", none)) fd
theorem Tx.fun_law_clause {K : PySem.W.Frag} {mg : Str → Option Value} (T : Tx K mg) : ∃ fd, FnP_law_clause K fd := T.c.def_ 40 (d := d_law_clause) rfl
abbrev FnP_law_watched (K : PySem.W.Frag) (fd : FuncData) : Prop := FunD K "_law_watched" "_law_watched" (defArgs s_law_watched) (defBody s_law_watched) (defScope s_law_watched) [] [] (He.fAd K ("_law_watched", none)) fd
theorem Tx.fun_law_watched {K : PySem.W.Frag} {mg : Str → Option Value} (T : Tx K mg) : ∃ fd, FnP_law_watched K fd := T.c.def_ 41 (d := d_law_watched) rfl
abbrev FnP_law_put (K : PySem.W.Frag) (fd : FuncData) : Prop := FunD K "_law_put" "_law_put" (defArgs s_law_put) (defBody s_law_put) (defScope s_law_put) [] [] (He.fAd K ("_law_put", none)) fd
theorem Tx.fun_law_put {K : PySem.W.Frag} {mg : Str → Option Value} (T : Tx K mg) : ∃ fd, FnP_law_put K fd := T.c.def_ 42 (d := d_law_put) rfl
abbrev FnP_law_depth (K : PySem.W.Frag) (fd : FuncData) : Prop := FunD K "_law_depth" "_law_depth" (defArgs s_law_depth) (defBody s_law_depth) (defScope s_law_depth) [] [] (He.fAd K ("_law_depth", none)) fd
theorem Tx.fun_law_depth {K : PySem.W.Frag} {mg : Str → Option Value} (T : Tx K mg) : ∃ fd, FnP_law_depth K fd := T.c.def_ 43 (d := d_law_depth) rfl
abbrev FnP_law_stands (K : PySem.W.Frag) (fd : FuncData) : Prop := FunD K "_law_stands" "_law_stands" (defArgs s_law_stands) (defBody s_law_stands) (defScope s_law_stands) [] [] (He.fAd K ("_law_stands", none)) fd
theorem Tx.fun_law_stands {K : PySem.W.Frag} {mg : Str → Option Value} (T : Tx K mg) : ∃ fd, FnP_law_stands K fd := T.c.def_ 44 (d := d_law_stands) rfl
abbrev FnP_law_back (K : PySem.W.Frag) (fd : FuncData) : Prop := FunD K "_law_back" "_law_back" (defArgs s_law_back) (defBody s_law_back) (defScope s_law_back) [] [] (He.fAd K ("_law_back", none)) fd
theorem Tx.fun_law_back {K : PySem.W.Frag} {mg : Str → Option Value} (T : Tx K mg) : ∃ fd, FnP_law_back K fd := T.c.def_ 45 (d := d_law_back) rfl
abbrev FnP_law_pair (K : PySem.W.Frag) (fd : FuncData) : Prop := FunD K "_law_pair" "_law_pair" (defArgs s_law_pair) (defBody s_law_pair) (defScope s_law_pair) [] [] (He.fAd K ("_law_pair", none)) fd
theorem Tx.fun_law_pair {K : PySem.W.Frag} {mg : Str → Option Value} (T : Tx K mg) : ∃ fd, FnP_law_pair K fd := T.c.def_ 46 (d := d_law_pair) rfl
abbrev FnP_law_pairs (K : PySem.W.Frag) (fd : FuncData) : Prop := FunD K "_law_pairs" "_law_pairs" (defArgs s_law_pairs) (defBody s_law_pairs) (defScope s_law_pairs) [] [] (He.fAd K ("_law_pairs", none)) fd
theorem Tx.fun_law_pairs {K : PySem.W.Frag} {mg : Str → Option Value} (T : Tx K mg) : ∃ fd, FnP_law_pairs K fd := T.c.def_ 47 (d := d_law_pairs) rfl
abbrev FnP_law_grown (K : PySem.W.Frag) (fd : FuncData) : Prop := FunD K "_law_grown" "_law_grown" (defArgs s_law_grown) (defBody s_law_grown) (defScope s_law_grown) [] [] (He.fAd K ("_law_grown", none)) fd
theorem Tx.fun_law_grown {K : PySem.W.Frag} {mg : Str → Option Value} (T : Tx K mg) : ∃ fd, FnP_law_grown K fd := T.c.def_ 48 (d := d_law_grown) rfl
abbrev FnP_law_closure (K : PySem.W.Frag) (fd : FuncData) : Prop := FunD K "_law_closure" "_law_closure" (defArgs s_law_closure) (defBody s_law_closure) (defScope s_law_closure) [] [] (He.fAd K ("_law_closure", none)) fd
theorem Tx.fun_law_closure {K : PySem.W.Frag} {mg : Str → Option Value} (T : Tx K mg) : ∃ fd, FnP_law_closure K fd := T.c.def_ 49 (d := d_law_closure) rfl
abbrev FnP_law_propagates (K : PySem.W.Frag) (fd : FuncData) : Prop := FunD K "_law_propagates" "_law_propagates" (defArgs s_law_propagates) (defBody s_law_propagates) (defScope s_law_propagates) [] [] (He.fAd K ("_law_propagates", none)) fd
theorem Tx.fun_law_propagates {K : PySem.W.Frag} {mg : Str → Option Value} (T : Tx K mg) : ∃ fd, FnP_law_propagates K fd := T.c.def_ 50 (d := d_law_propagates) rfl
abbrev FnP_law_open (K : PySem.W.Frag) (fd : FuncData) : Prop := FunD K "_law_open" "_law_open" (defArgs s_law_open) (defBody s_law_open) (defScope s_law_open) [] [] (He.fAd K ("_law_open", none)) fd
theorem Tx.fun_law_open {K : PySem.W.Frag} {mg : Str → Option Value} (T : Tx K mg) : ∃ fd, FnP_law_open K fd := T.c.def_ 51 (d := d_law_open) rfl
abbrev FnP_law_chooses (K : PySem.W.Frag) (fd : FuncData) : Prop := FunD K "_law_chooses" "_law_chooses" (defArgs s_law_chooses) (defBody s_law_chooses) (defScope s_law_chooses) [] [] (He.fAd K ("_law_chooses", none)) fd
theorem Tx.fun_law_chooses {K : PySem.W.Frag} {mg : Str → Option Value} (T : Tx K mg) : ∃ fd, FnP_law_chooses K fd := T.c.def_ 52 (d := d_law_chooses) rfl
abbrev FnP_law_down (K : PySem.W.Frag) (fd : FuncData) : Prop := FunD K "_law_down" "_law_down" (defArgs s_law_down) (defBody s_law_down) (defScope s_law_down) [] [] (He.fAd K ("_law_down", none)) fd
theorem Tx.fun_law_down {K : PySem.W.Frag} {mg : Str → Option Value} (T : Tx K mg) : ∃ fd, FnP_law_down K fd := T.c.def_ 53 (d := d_law_down) rfl
abbrev FnP_law_like_learned (K : PySem.W.Frag) (fd : FuncData) : Prop := FunD K "_law_like_learned" "_law_like_learned" (defArgs s_law_like_learned) (defBody s_law_like_learned) (defScope s_law_like_learned) [] [] (He.fAd K ("_law_like_learned", none)) fd
theorem Tx.fun_law_like_learned {K : PySem.W.Frag} {mg : Str → Option Value} (T : Tx K mg) : ∃ fd, FnP_law_like_learned K fd := T.c.def_ 54 (d := d_law_like_learned) rfl
abbrev FnP_law_forget (K : PySem.W.Frag) (fd : FuncData) : Prop := FunD K "_law_forget" "_law_forget" (defArgs s_law_forget) (defBody s_law_forget) (defScope s_law_forget) [] [] (He.fAd K ("_law_forget", none)) fd
theorem Tx.fun_law_forget {K : PySem.W.Frag} {mg : Str → Option Value} (T : Tx K mg) : ∃ fd, FnP_law_forget K fd := T.c.def_ 55 (d := d_law_forget) rfl
abbrev FnP_law_put_one (K : PySem.W.Frag) (fd : FuncData) : Prop := FunD K "_law_put_one" "_law_put_one" (defArgs s_law_put_one) (defBody s_law_put_one) (defScope s_law_put_one) [] [] (He.fAd K ("_law_put_one", none)) fd
theorem Tx.fun_law_put_one {K : PySem.W.Frag} {mg : Str → Option Value} (T : Tx K mg) : ∃ fd, FnP_law_put_one K fd := T.c.def_ 56 (d := d_law_put_one) rfl
abbrev FnP_law_deed (K : PySem.W.Frag) (fd : FuncData) : Prop := FunD K "_law_deed" "_law_deed" (defArgs s_law_deed) (defBody s_law_deed) (defScope s_law_deed) [] [] (He.fAd K ("_law_deed", none)) fd
theorem Tx.fun_law_deed {K : PySem.W.Frag} {mg : Str → Option Value} (T : Tx K mg) : ∃ fd, FnP_law_deed K fd := T.c.def_ 57 (d := d_law_deed) rfl
abbrev FnP_law (K : PySem.W.Frag) (fd : FuncData) : Prop := FunD K "law" "law" (defArgs s_law) (defBody s_law) (defScope s_law) [] [] (He.fAd K ("law", none)) fd
theorem Tx.fun_law {K : PySem.W.Frag} {mg : Str → Option Value} (T : Tx K mg) : ∃ fd, FnP_law K fd := T.c.def_ 58 (d := d_law) rfl
end TW

set_option Elab.async false
set_option linter.all false
set_option maxRecDepth 100000
set_option maxHeartbeats 1000000
namespace TW
open PySem PySem.Spec PyProof.Rows L2 Evl
/-! ### steps of the heap -/
structure Stp (F F' : Addr → Prop) (H H' : Hp) : Prop where
  keep : ∀ a o, H a = some o → ¬ F a → H' a = some o
  tups : ∀ a xs, H a = some (.tup xs) → H' a = some (.tup xs)
  new : ∀ a, F' a → F a ∨ H a = none
section
variable {F F' F'' G : Addr → Prop} {H H' H1 H2 : Hp} {a p : Addr} {o : HO}
theorem Stp.ex (e : Ex H H') : Stp F F H H' := ⟨fun a o h _ => e a o h, fun a xs h => e a _ h, fun a h => .inl h⟩
theorem Stp.refl : Stp F F H H := .ex (Ex.refl H)
theorem Stp.trans (s : Stp F F' H H1) (t : Stp F' F'' H1 H2) : Stp F F'' H H2 := by
  refine ⟨fun a o h nf => t.keep a o (s.keep a o h nf) fun f' => ?_, fun a xs h => t.tups a xs (s.tups a xs h), fun a f'' => ?_⟩
  · rcases s.new a f' with z | z
    · exact nf z
    · rw [h] at z; cases z
  · rcases t.new a f'' with z | z
    · exact s.new a z
    · by_cases hf : F a
      · exact .inl hf
      · cases q : H a with
        | none => exact .inr rfl
        | some o => rw [s.keep a o q hf] at z; cases z
theorem Stp.pre (e : Ex H H1) (t : Stp F F' H1 H2) : Stp F F' H H2 := (Stp.ex e).trans t
theorem Stp.post (t : Stp F F' H H1) (e : Ex H1 H2) : Stp F F' H H2 := t.trans (Stp.ex e)
theorem Stp.sub (t : Stp F F' H H') (h : ∀ a, F'' a → F' a) : Stp F F'' H H' := ⟨t.keep, t.tups, fun a f => t.new a (h a f)⟩
/-- a wider part of the heap -/
theorem Stp.wide (t : Stp F F' H H') : Stp (fun a => F a ∨ G a) (fun a => F' a ∨ G a) H H' :=
  ⟨fun a o h nf => t.keep a o h fun f => nf (.inl f), t.tups, fun a f => f.elim (fun z => (t.new a z).elim (fun y => .inl (.inl y)) .inr) fun z => .inl (.inr z)⟩
theorem Stp.wider {F2 F2' : Addr → Prop} (t : Stp F F' H H') (h : ∀ a, F a → F2 a) (h' : ∀ a, F2' a → F' a ∨ F2 a) : Stp F2 F2' H H' :=
  ⟨fun a o e nf => t.keep a o e fun f => nf (h a f), t.tups, fun a f => (h' a f).elim (fun z => (t.new a z).elim (fun y => .inl (h a y)) .inr) .inl⟩
theorem Stp.upd (f : F a) (nt : ∀ xs, H a ≠ some (.tup xs)) : Stp F F H (L2.upd H a o) := by
  refine ⟨fun b u h nf => ?_, fun b xs h => ?_, fun b h => .inl h⟩
  · have n : b ≠ a := fun z => nf (by rw [z]; exact f)
    rw [upd_ne n]
    exact h
  · have n : b ≠ a := fun z => nt xs (by rw [← z]; exact h)
    rw [upd_ne n]
    exact h
theorem Stp.laid (hp : H p = none) : Stp F (fun a => F a ∨ a = p) H (L2.upd H p o) :=
  ⟨fun b u h nf => by rw [upd_ne (ne_of_none h hp)]; exact h, fun b xs h => by rw [upd_ne (ne_of_none h hp)]; exact h, fun b h => h.elim .inl fun z => .inr (z ▸ hp)⟩
/-- what lies apart stays apart -/
theorem Stp.apart (s : Stp F F' H H') (d : ∀ a, G a → ¬ F a) (tr : ∀ a, G a → H a ≠ none) : ∀ a, G a → ¬ F' a := fun a g f => by
  rcases s.new a f with z | z
  · exact d a g z
  · exact tr a g z
theorem Stp.kept (s : Stp F F' H H') (d : ∀ a, G a → ¬ F a) {u : HO} (g : G a) (h : H a = some u) : H' a = some u := s.keep a u h (d a g)
theorem nt_lst {xs : List V} (h : H a = some (.lst xs)) : ∀ ys, H a ≠ some (.tup ys) := fun ys z => by rw [h] at z; cases z
theorem nt_dK {xs : List (Key × V)} (h : H a = some (.dK xs)) : ∀ ys, H a ≠ some (.tup ys) := fun ys z => by rw [h] at z; cases z
theorem nt_ins {C dx : Addr} {fs : List (Str × V)} (h : H a = some (.ins C dx fs)) : ∀ ys, H a ≠ some (.tup ys) := fun ys z => by rw [h] at z; cases z
end
/-! ### the trail -/
structure Row where
  lit : Int
  lev : Nat
  rs : Option Nat
abbrev Row.ab (r : Row) : Int := (r.lit.natAbs : Int)
def rsV : Option Nat → V
  | none => .non
  | some n => .int (n : Int)
structure Tr where
  known : List Int
  rows : List Row
  depth : Nat
  stamps : List Nat
  made : Nat
def cntLe (rows : List Row) (l : Nat) : Nat := rows.countP fun r => decide (r.lev ≤ l)
def Tr.starts (T : Tr) : List Nat := (List.range T.depth).map (cntLe T.rows)
structure Tr.Ok (T : Tr) : Prop where
  kpos : ∀ n ∈ T.known, 0 < n
  knd : T.known.Nodup
  kl : T.known.length ≤ 100
  mem : ∀ r ∈ T.rows, r.ab ∈ T.known
  nd : (T.rows.map Row.ab).Nodup
  srt : T.rows.Pairwise fun a b => a.lev ≤ b.lev
  le : ∀ r ∈ T.rows, r.lev ≤ T.depth
  lv : ∀ l, 1 ≤ l → l ≤ T.depth → ∃ r ∈ T.rows, r.lev = l
  slen : T.stamps.length = T.rows.length
  sasc : T.stamps.Pairwise (· < ·)
  slt : ∀ x ∈ T.stamps, x < T.made
structure TL where
  (t dx kn od sd sa sm : Addr)
def tFs (L : TL) (made : Int) : List (Str × V) := [("_known", .ref L.kn), ("_order", .ref L.od), ("_state", .ref L.sd), ("_starts", .ref L.sa), ("_stamps", .ref L.sm), ("_made", .int made)]
def RowsK (H : Hp) : Nat → List Row → List (Key × V) → Prop
  | _, [], kvs => kvs = []
  | i, r :: rs, kvs => ∃ a rest, kvs = (.inl r.ab, .ref a) :: rest ∧ H a = some (.tup [.int r.lit, .int (r.lev : Int), rsV r.rs, .int (i : Int)]) ∧ RowsK H (i + 1) rs rest
def knK (known : List Int) : List (Key × V) := known.map fun n => (.inl n, .bl true)
structure TAt (C : Addr) (L : TL) (T : Tr) (H : Hp) : Prop where
  ob : H L.t = some (.ins C L.dx (tFs L T.made))
  kn : H L.kn = some (.dK (knK T.known))
  od : H L.od = some (.lst (T.rows.map fun r => .int r.lit))
  sd : ∃ kvs, H L.sd = some (.dK kvs) ∧ RowsK H 0 T.rows kvs
  sa : H L.sa = some (.lst (T.starts.map fun n : Nat => V.int (n : Int)))
  sm : H L.sm = some (.lst (T.stamps.map fun n : Nat => V.int (n : Int)))
  n1 : L.kn ≠ L.sd
  n2 : L.od ≠ L.sa
  n3 : L.od ≠ L.sm
  n4 : L.sa ≠ L.sm
def TL.In (L : TL) (a : Addr) : Prop := a = L.t ∨ a = L.kn ∨ a = L.od ∨ a = L.sd ∨ a = L.sa ∨ a = L.sm
section
variable {C : Addr} {L : TL} {T : Tr} {H H' : Hp} {F F' : Addr → Prop}
theorem RowsK.move (h : ∀ a xs, H a = some (.tup xs) → H' a = some (.tup xs)) : ∀ {i : Nat} {rows : List Row} {kvs : List (Key × V)}, RowsK H i rows kvs → RowsK H' i rows kvs
  | _, [], _, k => k
  | i, r :: rs, kvs, ⟨a, rest, e, ha, k⟩ => ⟨a, rest, e, h a _ ha, RowsK.move h k⟩
theorem TAt.tracked (A : TAt C L T H) : ∀ a, L.In a → H a ≠ none := by
  intro a h
  obtain ⟨kvs, hs, _⟩ := A.sd
  rcases h with rfl | rfl | rfl | rfl | rfl | rfl
  · rw [A.ob]; exact fun z => nomatch z
  · rw [A.kn]; exact fun z => nomatch z
  · rw [A.od]; exact fun z => nomatch z
  · rw [hs]; exact fun z => nomatch z
  · rw [A.sa]; exact fun z => nomatch z
  · rw [A.sm]; exact fun z => nomatch z
theorem TAt.keep (A : TAt C L T H) (k : ∀ a o, L.In a → H a = some o → H' a = some o) (t : ∀ a xs, H a = some (.tup xs) → H' a = some (.tup xs)) : TAt C L T H' := by
  obtain ⟨kvs, hs, hk⟩ := A.sd
  exact ⟨k _ _ (.inl rfl) A.ob, k _ _ (.inr (.inl rfl)) A.kn, k _ _ (.inr (.inr (.inl rfl))) A.od, ⟨kvs, k _ _ (.inr (.inr (.inr (.inl rfl)))) hs, hk.move t⟩, k _ _ (.inr (.inr (.inr (.inr (.inl rfl))))) A.sa, k _ _ (.inr (.inr (.inr (.inr (.inr rfl))))) A.sm, A.n1, A.n2, A.n3, A.n4⟩
theorem TAt.ex (A : TAt C L T H) (e : Ex H H') : TAt C L T H' := A.keep (fun a o _ h => e a o h) fun a xs h => e a _ h
theorem TAt.stp (A : TAt C L T H) (s : Stp F F' H H') (d : ∀ a, L.In a → ¬ F a) : TAt C L T H' := A.keep (fun a o i h => s.keep a o h (d a i)) s.tups
end
/-! ### looking a literal up -/
def look (rows : List Row) (x : Int) : Option (Row × Nat) := (rows.zipIdx.find? fun p => decide (p.1.ab = (x.natAbs : Int)))
def tupOf (p : Row × Nat) : List V := [.int p.1.lit, .int (p.1.lev : Int), rsV p.1.rs, .int (p.2 : Int)]
theorem RowsK.get {H : Hp} {x : Int} : ∀ {i : Nat} {rows : List Row} {kvs : List (Key × V)}, RowsK H i rows kvs →
    match (rows.zipIdx i).find? (fun p => decide (p.1.ab = (x.natAbs : Int))) with
    | none => valV kvs (Sum.inl (x.natAbs : Int)) = none
    | some p => ∃ a, valV kvs (Sum.inl (x.natAbs : Int)) = some (.ref a) ∧ H a = some (.tup (tupOf p))
  | i, [], kvs, k => by
    have e : kvs = [] := k
    subst e
    rfl
  | i, r :: rs, kvs, ⟨a, rest, e, ha, k⟩ => by
    subst e
    have ih := RowsK.get (x := x) k
    rw [List.zipIdx_cons, List.find?_cons]
    unfold valV at ih ⊢
    rw [List.find?_cons]
    by_cases h : r.ab = (x.natAbs : Int)
    · have h2 : (Sum.inl r.ab : Key) = Sum.inl (x.natAbs : Int) := by rw [h]
      rw [decide_eq_true h, decide_eq_true h2]
      exact ⟨a, rfl, ha⟩
    · have h2 : ¬ (Sum.inl r.ab : Key) = Sum.inl (x.natAbs : Int) := fun z => h (Sum.inl.inj z)
      rw [decide_eq_false h, decide_eq_false h2]
      exact ih
def valOf (rows : List Row) (x : Int) : V := match look rows x with
  | none => .non
  | some p => .bl (decide (p.1.lit = x))
def levOf (rows : List Row) (x : Int) : V := match look rows x with
  | none => .non
  | some p => .int (p.1.lev : Int)
def rsOf (rows : List Row) (x : Int) : V := match look rows x with
  | none => .non
  | some p => rsV p.1.rs
theorem knK_has {known : List Int} {n : Int} : (valV (knK known) (Sum.inl n)).isSome = decide (n ∈ known) := by
  induction known with
  | nil => rfl
  | cons a r ih =>
    unfold knK valV at *
    rw [List.map_cons, List.find?_cons]
    by_cases h : a = n
    · subst h
      simp
    · have h2 : ¬ (Sum.inl a : Key) = Sum.inl n := fun z => h (Sum.inl.inj z)
      rw [decide_eq_false h2]
      simp only [ih, List.mem_cons]
      have h3 : ¬ n = a := fun z => h z.symm
      simp [h3]
/-! ### what evaluates to what -/
section
variable {K : PySem.W.Frag} {σ : L2.St} {H H' : Hp} {ta tb te tx td ty : TE} {x y z v : V} {a C dx : Addr} {fs : List (Str × V)} {f : Str} {kvs : List (Key × V)} {k : Key}
theorem ev_fld (h : Ev ta σ H (.ref a)) (ho : H a = some (.ins C dx fs)) (hc : Cls K C) (hn : NoAttr K C f) (hl : fs.lookup f = some v) : Ev (tFld K ta f) σ H v := fun H1 e Q q =>
  h H1 e _ fun H2 e2 => ⟨a, C, dx, fs, v, rfl, e2 a _ (e a _ ho), hc, hn, hl, q H2 e2⟩
theorem ev_abs {i : Int} (h : Ev ta σ H (.int i)) : Ev (tCB rAbsR (tCons ta tNil)) σ H (.int (i.natAbs : Int)) := fun H1 e Q q =>
  h H1 e _ fun H2 e2 => ⟨i, rfl, by rw [abs_nat]; exact q H2 e2⟩
theorem ev_din (hy : Ev ty σ H (kV k)) (hd : Ev td σ H (.ref a)) (ha : H a = some (.dK kvs)) : Ev (tDIn ty td) σ H (.bl (valV kvs k).isSome) := fun H1 e Q q =>
  hy H1 e _ fun H2 e2 => hd H2 (e.trans e2) _ fun H3 e3 => ⟨a, _, rfl, DGet.k (((e.trans e2).trans e3) a _ ha), q H3 (e2.trans e3)⟩
theorem ev_dnin (hy : Ev ty σ H (kV k)) (hd : Ev td σ H (.ref a)) (ha : H a = some (.dK kvs)) : Ev (tDNotIn ty td) σ H (.bl (!(valV kvs k).isSome)) := fun H1 e Q q =>
  hy H1 e _ fun H2 e2 => hd H2 (e.trans e2) _ fun H3 e3 => ⟨a, _, rfl, DGet.k (((e.trans e2).trans e3) a _ ha), q H3 (e2.trans e3)⟩
theorem ev_dget1 (hd : Ev td σ H (.ref a)) (hy : Ev ty σ H (kV k)) (ha : H a = some (.dK kvs)) : Ev (tDGet1 td ty) σ H ((valV kvs k).getD .non) := fun H1 e Q q =>
  hd H1 e _ fun H2 e2 => ⟨a, rfl, .inl ⟨kvs, .inl ((e.trans e2) a _ ha)⟩, hy H2 (e.trans e2) _ fun H3 e3 => ⟨_, DGet.k (((e.trans e2).trans e3) a _ ha), q H3 (e2.trans e3)⟩⟩
theorem ev_isN (h : Ev ta σ H x) : Ev (tOp rIsN ta (tC .non)) σ H (.bl (decide (x = .non))) := ev_op h ev_c (rv_val fun H1 _ Q q => ⟨rfl, q⟩)
theorem ev_notN (h : Ev ta σ H x) : Ev (tOp rNotN ta (tC .non)) σ H (.bl (!decide (x = .non))) := ev_op h ev_c (rv_val fun H1 _ Q q => ⟨rfl, q⟩)
theorem ev_isV {b : Bool} (h : Ev ta σ H x) (hx : x = .non ∨ ∃ a, x = .bl a) : Ev (tOp rIsV ta (tC (.bl b))) σ H (.bl (decide (x = .bl b))) := ev_op h ev_c (rv_val fun H1 _ Q q => ⟨b, rfl, hx, q⟩)
theorem ev_notV {b : Bool} (h : Ev ta σ H x) (hx : x = .non ∨ ∃ a, x = .bl a) : Ev (tOp rNotV ta (tC (.bl b))) σ H (.bl (!decide (x = .bl b))) := ev_op h ev_c (rv_val fun H1 _ Q q => ⟨b, rfl, hx, q⟩)
theorem ev_cmp {p : Int → Int → Bool} {i j : Int} (ha : Ev ta σ H (.int i)) (hb : Ev tb σ H (.int j)) : Ev (tCmp p ta tb) σ H (.bl (p i j)) := fun H1 e Q q =>
  ha H1 e _ fun H2 e2 => hb H2 (e.trans e2) _ fun H3 e3 => ⟨i, j, rfl, rfl, q H3 (e2.trans e3)⟩
theorem ev_add {i j : Int} (ha : Ev ta σ H (.int i)) (hb : Ev tb σ H (.int j)) : Ev (tOp rAddR ta tb) σ H (.int (i + j)) := ev_op ha hb rv_I0
theorem ev_sub {i j : Int} (ha : Ev ta σ H (.int i)) (hb : Ev tb σ H (.int j)) : Ev (tOp rSubR ta tb) σ H (.int (i - j)) := ev_op ha hb rv_I0
theorem ev_neg {i : Int} (ha : Ev ta σ H (.int i)) : Ev (tUn rNegR ta) σ H (.int (-i)) := ev_un ha ru_neg
theorem ev_ixL {p : Addr} {xs : List V} {j : Nat} (ha : Ev ta σ H (.ref p)) (hb : Ev tb σ H (.int (j : Int))) (h : H p = some (.lst xs)) (hj : xs[j]? = some v) : Ev (tOp (rIxL K) ta tb) σ H v := ev_op ha hb (rv_ixL (sq_of h) (atI_nat hj))
theorem ev_ixT {p : Addr} {xs : List V} {j : Nat} (ha : Ev ta σ H (.ref p)) (hb : Ev tb σ H (.int (j : Int))) (h : H p = some (.tup xs)) (hj : xs[j]? = some v) : Ev (tOp (rIxT K) ta tb) σ H v := ev_op ha hb (rv_ixT (st_of h) (atI_nat hj))
theorem ev_lenL {p : Addr} {xs : List V} (ha : Ev ta σ H (.ref p)) (h : H p = some (.lst xs)) : Ev (tCB (rLenS K) (tCons ta tNil)) σ H (.int (xs.length : Int)) := ev_len ha (sq_of h)
theorem ev_lenT {p : Addr} {xs : List V} (ha : Ev ta σ H (.ref p)) (h : H p = some (.tup xs)) : Ev (tCB (rLenS K) (tCons ta tNil)) σ H (.int (xs.length : Int)) := fun H1 e Q q =>
  ha H1 e _ fun H2 e2 => ⟨p, xs, rfl, .inr (ex_t (e.trans e2) (st_of h)), q H2 e2⟩
/-- a method whose promise is known to give z -/
theorem ev_meth {m : Str} {sp : Sp} {ta2 : TA} {vs : List V} (ha : Ev ta σ H (.ref a)) (ho : H a = some (.ins C dx fs)) (hl : fs.lookup m = none) (hv : EvA ta2 σ H vs) (hs : SpV sp (.ref a :: vs) H z) : Ev (tMeth C m sp [] E0 ta ta2) σ H z := fun H1 e Q q =>
  ha H1 e _ fun H2 e2 => ⟨a, dx, fs, rfl, e2 a _ (e a _ ho), hl, hv H2 (e.trans e2) _ fun H3 e3 => by
    rw [List.append_nil]
    exact hs H3 ((e.trans e2).trans e3) Q (fun H4 e4 => q H4 ((e2.trans e3).trans e4)) E0⟩
theorem el_meth {m : Str} {sp : Sp} {ta2 : TA} {vs xs : List V} (ha : Ev ta σ H (.ref a)) (ho : H a = some (.ins C dx fs)) (hl : fs.lookup m = none) (hv : EvA ta2 σ H vs) (hs : SpL sp (.ref a :: vs) H xs) : EvL (tMeth C m sp [] E0 ta ta2) σ H xs := fun H1 e Q q =>
  ha H1 e _ fun H2 e2 => ⟨a, dx, fs, rfl, e2 a _ (e a _ ho), hl, hv H2 (e.trans e2) _ fun H3 e3 => by
    rw [List.append_nil]
    exact hs H3 ((e.trans e2).trans e3) Q (fun p H4 hp e4 h4 => q p H4 (fresh_back (e2.trans e3) hp) ((e2.trans e3).trans e4) h4) E0⟩
end
end TW

set_option Elab.async false
set_option linter.all false
set_option maxRecDepth 100000
set_option maxHeartbeats 1000000
namespace TW
open PySem PySem.Spec PyProof.Rows L2 Evl
abbrev CT (K : PySem.W.Frag) : Addr := He.ga K "Trail"
section
variable {K : PySem.W.Frag} {mg : Str → Option Value} {vs : List V} {H : Hp} {Q : VK} {E : XK}
/-! _row_of -/
def sp_Trailrow_of (K : PySem.W.Frag) : Sp := fun vs H Q _ => ∃ (L : TL) (T : Tr) (x : Int), vs = [.ref L.t, .int x] ∧ TAt (CT K) L T H ∧ (x.natAbs : Int) ∈ T.known ∧
  ∀ H' v, Ex H H' → (match look T.rows x with | none => v = V.non | some p => ∃ a, v = V.ref a ∧ H' a = some (.tup (tupOf p))) → Q v H'
abbrev N_Trailrow_of : List Str := ["self", "literal"]
theorem sc_Trailrow_of : FnScope N_Trailrow_of ["self", "literal"] (defScope s_Trailrow_of) := ⟨rfl, rfl, rfl, by decide +kernel, rfl, by decide +kernel, by decide +kernel⟩
def t_Trailrow_of (K : PySem.W.Frag) : TS := (tSeq (tIfS (tB (tDNotIn (tCB rAbsR (tCons (tVar 1) tNil)) (tFld K (tVar 0) "_known"))) tNever tNext)
    (tRet (tDGet1 (tFld K (tVar 0) "_state") (tCB rAbsR (tCons (tVar 1) tNil)))))
set_option maxHeartbeats 4000000 in
theorem der_Trailrow_of {P : Program} {w : World} {K : PySem.W.Frag} {mg : Str → Option Value} {base : Heap} {f : Addr} {cdv : Value} {A : Around} {outer : List Env} {s : Shared} {H : Hp} {E : XK} (T : Tx K mg) (hr : Room 0 (A.deeper (envOfC "Trail._row_of" (defScope s_Trailrow_of) s.heap.objs.size f cdv))) (hu : (A.deeper (envOfC "Trail._row_of" (defScope s_Trailrow_of) s.heap.objs.size f cdv)).units + 1 < cLine) :
    PSs (cxOf CX0 P w K mg base N_Trailrow_of "Trail._row_of" (defScope s_Trailrow_of) f cdv A outer s H E).nox (defBody s_Trailrow_of) (t_Trailrow_of K) := by
  exact (pss_cons (ps_if (pt_cmp (pc_dnotin hu (pe_callB call_abs rfl T.f_abs bt_abs (pa_cons (pv 1) pa_nil)) (pe_fld (pv 0) rfl))) (pss_one ps_never) pss_nil)
    (pss_one (ps_ret (pe_dget1 hu (pe_fld (pv 0) rfl) (pe_callB call_abs rfl T.f_abs bt_abs (pa_cons (pv 1) pa_nil)) ⟨rfl, rfl, rfl, rfl⟩))))
theorem len_Trailrow_of (h : sp_Trailrow_of K vs H Q E) : vs.length = 2 := by
  obtain ⟨_, _, _, rfl, _⟩ := h
  rfl
theorem pure_Trailrow_of (T : Tx K mg) (h : sp_Trailrow_of K vs H Q E) : t_Trailrow_of K { nx := fun _ H' => Q .non H', rt := Q } (start N_Trailrow_of vs) H := by
  obtain ⟨L, Tr, x, rfl, A, hx, k⟩ := h
  obtain ⟨kvs, hs, hk⟩ := A.sd
  refine q_when (b := false) (et_is (et_B (ev_dnin (k := Sum.inl (x.natAbs : Int)) (ev_abs (ev_var rfl)) (ev_fld (ev_var rfl) A.ob T.cl_Trail T.no_Trail_known rfl) A.kn)) ?_) (fun z => nomatch z) fun _ H1 e1 => ?_
  · rw [knK_has, decide_eq_true hx]
    rfl
  · refine s_ret (Ev.mono e1 (ev_dget1 (k := Sum.inl (x.natAbs : Int)) (ev_fld (ev_var rfl) A.ob T.cl_Trail T.no_Trail_state rfl) (ev_abs (ev_var rfl)) hs)) fun H2 e2 => k _ _ (e1.trans e2) ?_
    have z := hk.get (x := x)
    unfold look
    revert z
    cases (Tr.rows.zipIdx 0).find? (fun p => decide (p.1.ab = (x.natAbs : Int))) with
    | none => intro z; rw [z]; rfl
    | some p =>
      rintro ⟨a, z1, z2⟩
      refine ⟨a, ?_, e2 _ _ (e1 _ _ z2)⟩
      rw [z1]
      rfl
theorem ok_Trailrow_of {P : Program} {w : World} {K : PySem.W.Frag} {mg : Str → Option Value} {base : Heap} (T : Tx K mg) : FnX P w K mg base 1 (He.fAd K ("Trail", some "_row_of")) ps_Trailrow_of (sp_Trailrow_of K) := by
  obtain ⟨fd, F⟩ := T.fun_Trailrow_of
  refine ⟨fd, F.ok sc_Trailrow_of (fun vs H Q E h => len_Trailrow_of h) (fun cdv A outer s H vs Q E hr h => ⟨t_Trailrow_of K, PSs.nox (der_Trailrow_of T hr (hu_of hr)), pure_Trailrow_of T h⟩), F.bindsN fun _ _ _ _ _ _ us hl => match us, hl with | [_, _], _ => rfl⟩
/-! value, level_of, reason_of -/
def sp_Trail_value (K : PySem.W.Frag) : Sp := fun vs H Q _ => ∃ (L : TL) (T : Tr) (x : Int), vs = [.ref L.t, .int x] ∧ TAt (CT K) L T H ∧ (x.natAbs : Int) ∈ T.known ∧ ∀ H', Ex H H' → Q (valOf T.rows x) H'
def sp_Trail_level_of (K : PySem.W.Frag) : Sp := fun vs H Q _ => ∃ (L : TL) (T : Tr) (x : Int), vs = [.ref L.t, .int x] ∧ TAt (CT K) L T H ∧ (x.natAbs : Int) ∈ T.known ∧ ∀ H', Ex H H' → Q (levOf T.rows x) H'
def sp_Trail_reason_of (K : PySem.W.Frag) : Sp := fun vs H Q _ => ∃ (L : TL) (T : Tr) (x : Int), vs = [.ref L.t, .int x] ∧ TAt (CT K) L T H ∧ (x.natAbs : Int) ∈ T.known ∧ ∀ H', Ex H H' → Q (rsOf T.rows x) H'
theorem len_Trail_value (h : sp_Trail_value K vs H Q E) : vs.length = 2 := by
  obtain ⟨_, _, _, rfl, _⟩ := h
  rfl
theorem len_Trail_level_of (h : sp_Trail_level_of K vs H Q E) : vs.length = 2 := by
  obtain ⟨_, _, _, rfl, _⟩ := h
  rfl
theorem len_Trail_reason_of (h : sp_Trail_reason_of K vs H Q E) : vs.length = 2 := by
  obtain ⟨_, _, _, rfl, _⟩ := h
  rfl
abbrev N_Trail_value : List Str := ["self", "literal", "row"]
theorem sc_Trail_value : FnScope N_Trail_value ["self", "literal"] (defScope s_Trail_value) := ⟨rfl, rfl, rfl, by decide +kernel, rfl, by decide +kernel, by decide +kernel⟩
def t_Trail_value (K : PySem.W.Frag) : TS := (tSeq (tAsg (tMeth (He.ga K "Trail") "_row_of" (sp_Trailrow_of K) [] E0 (tVar 0) (tCons (tVar 1) tNil)) (gName 2))
    (tSeq (tIfS (tTest (tOp rIsN (tVar 2) (tC .non))) (tRet (tC .non)) tNext)
    (tRet (tEqI (tOp (rIxT K) (tVar 2) (tC (.int 0))) (tVar 1)))))
set_option maxHeartbeats 4000000 in
theorem der_Trail_value {P : Program} {w : World} {K : PySem.W.Frag} {mg : Str → Option Value} {base : Heap} {f : Addr} {cdv : Value} {A : Around} {outer : List Env} {s : Shared} {H : Hp} {E : XK} (T : Tx K mg) {fd_Trailrow_of : FuncData} (F_Trailrow_of : FnOk P w K mg base CX0 1 (He.fAd K ("Trail", some "_row_of")) fd_Trailrow_of ps_Trailrow_of (sp_Trailrow_of K)) (B_Trailrow_of : Binds K fd_Trailrow_of ps_Trailrow_of []) (hr : Room 1 (A.deeper (envOfC "Trail.value" (defScope s_Trail_value) s.heap.objs.size f cdv))) (hu : (A.deeper (envOfC "Trail.value" (defScope s_Trail_value) s.heap.objs.size f cdv)).units + 1 < cLine) :
    PSs (cxOf CX0 P w K mg base N_Trail_value "Trail.value" (defScope s_Trail_value) f cdv A outer s H E).nox (defBody s_Trail_value) (t_Trail_value K) := by
  exact (pss_cons (ps_set (i := 2) sc_Trail_value.nd rfl (Or.inl rfl) (pe_meth (pv 0) T.cl_Trail T.m_Trailrow_of F_Trailrow_of (hr.mono (by decide)) B_Trailrow_of .nil pass0 (pa_cons (pv 1) pa_nil)))
    (pss_cons (ps_if (pt_cmpR op_isN1 (pv 2) pe_non (by rfl)) (pss_one (ps_ret pe_non)) pss_nil)
    (pss_one (ps_ret (pe_cmp (pc_eqI (pe_ix ix_tup (pv 2) pe_int (fun _ _ => rfl)) (pv 1)))))))
theorem pure_Trail_value (T : Tx K mg) (h : sp_Trail_value K vs H Q E) : t_Trail_value K { nx := fun _ H' => Q .non H', rt := Q } (start N_Trail_value vs) H := by
  obtain ⟨L, Tr, x, rfl, A, hx, k⟩ := h
  refine ⟨_, rfl, _, _, _, rfl, A.ob, rfl, _, rfl, L, Tr, x, rfl, A, hx, fun H1 v e1 hv => ?_⟩
  have k' := k
  unfold valOf at k'
  revert hv k'
  cases look Tr.rows x with
  | none =>
    intro hv k'
    subst hv
    exact ⟨_, rfl, rfl, _, rfl, iteT (k' _ e1)⟩
  | some p =>
    rintro ⟨a, rfl, ha⟩ k'
    exact ⟨_, rfl, rfl, _, rfl, iteF ⟨_, rfl, a, _, _, _, rfl, rfl, st_of ha, atI_nat (j := 0) rfl, _, rfl, _, _, rfl, rfl, k' _ e1⟩⟩
theorem ok_Trail_value {P : Program} {w : World} {K : PySem.W.Frag} {mg : Str → Option Value} {base : Heap} (T : Tx K mg) : FnX P w K mg base 2 (He.fAd K ("Trail", some "value")) ps_Trail_value (sp_Trail_value K) := by
  obtain ⟨_, F_Trailrow_of, B_Trailrow_of⟩ := ok_Trailrow_of (P := P) (w := w) (base := base) T
  obtain ⟨fd, F⟩ := T.fun_Trail_value
  refine ⟨fd, F.ok sc_Trail_value (fun vs H Q E h => len_Trail_value h) (fun cdv A outer s H vs Q E hr h => ⟨t_Trail_value K, PSs.nox (der_Trail_value T F_Trailrow_of B_Trailrow_of hr (hu_of hr)), pure_Trail_value T h⟩), F.bindsN fun _ _ _ _ _ _ us hl => match us, hl with | [_, _], _ => rfl⟩
abbrev N_Trail_level_of : List Str := ["self", "literal", "row"]
theorem sc_Trail_level_of : FnScope N_Trail_level_of ["self", "literal"] (defScope s_Trail_level_of) := ⟨rfl, rfl, rfl, by decide +kernel, rfl, by decide +kernel, by decide +kernel⟩
def t_Trail_level_of (K : PySem.W.Frag) : TS := (tSeq (tAsg (tMeth (He.ga K "Trail") "_row_of" (sp_Trailrow_of K) [] E0 (tVar 0) (tCons (tVar 1) tNil)) (gName 2))
    (tSeq (tIfS (tTest (tOp rIsN (tVar 2) (tC .non))) (tRet (tC .non)) tNext)
    (tRet (tOp (rIxT K) (tVar 2) (tC (.int 1))))))
set_option maxHeartbeats 4000000 in
theorem der_Trail_level_of {P : Program} {w : World} {K : PySem.W.Frag} {mg : Str → Option Value} {base : Heap} {f : Addr} {cdv : Value} {A : Around} {outer : List Env} {s : Shared} {H : Hp} {E : XK} (T : Tx K mg) {fd_Trailrow_of : FuncData} (F_Trailrow_of : FnOk P w K mg base CX0 1 (He.fAd K ("Trail", some "_row_of")) fd_Trailrow_of ps_Trailrow_of (sp_Trailrow_of K)) (B_Trailrow_of : Binds K fd_Trailrow_of ps_Trailrow_of []) (hr : Room 1 (A.deeper (envOfC "Trail.level_of" (defScope s_Trail_level_of) s.heap.objs.size f cdv))) (hu : (A.deeper (envOfC "Trail.level_of" (defScope s_Trail_level_of) s.heap.objs.size f cdv)).units + 1 < cLine) :
    PSs (cxOf CX0 P w K mg base N_Trail_level_of "Trail.level_of" (defScope s_Trail_level_of) f cdv A outer s H E).nox (defBody s_Trail_level_of) (t_Trail_level_of K) := by
  exact (pss_cons (ps_set (i := 2) sc_Trail_level_of.nd rfl (Or.inl rfl) (pe_meth (pv 0) T.cl_Trail T.m_Trailrow_of F_Trailrow_of (hr.mono (by decide)) B_Trailrow_of .nil pass0 (pa_cons (pv 1) pa_nil)))
    (pss_cons (ps_if (pt_cmpR op_isN1 (pv 2) pe_non (by rfl)) (pss_one (ps_ret pe_non)) pss_nil)
    (pss_one (ps_ret (pe_ix ix_tup (pv 2) pe_int (fun _ _ => rfl))))))
theorem pure_Trail_level_of (T : Tx K mg) (h : sp_Trail_level_of K vs H Q E) : t_Trail_level_of K { nx := fun _ H' => Q .non H', rt := Q } (start N_Trail_level_of vs) H := by
  obtain ⟨L, Tr, x, rfl, A, hx, k⟩ := h
  refine ⟨_, rfl, _, _, _, rfl, A.ob, rfl, _, rfl, L, Tr, x, rfl, A, hx, fun H1 v e1 hv => ?_⟩
  have k' := k
  unfold levOf at k'
  revert hv k'
  cases look Tr.rows x with
  | none =>
    intro hv k'
    subst hv
    exact ⟨_, rfl, rfl, _, rfl, iteT (k' _ e1)⟩
  | some p =>
    rintro ⟨a, rfl, ha⟩ k'
    exact ⟨_, rfl, rfl, _, rfl, iteF ⟨_, rfl, a, _, _, _, rfl, rfl, st_of ha, atI_nat (j := 1) rfl, k' _ e1⟩⟩
theorem ok_Trail_level_of {P : Program} {w : World} {K : PySem.W.Frag} {mg : Str → Option Value} {base : Heap} (T : Tx K mg) : FnX P w K mg base 2 (He.fAd K ("Trail", some "level_of")) ps_Trail_level_of (sp_Trail_level_of K) := by
  obtain ⟨_, F_Trailrow_of, B_Trailrow_of⟩ := ok_Trailrow_of (P := P) (w := w) (base := base) T
  obtain ⟨fd, F⟩ := T.fun_Trail_level_of
  refine ⟨fd, F.ok sc_Trail_level_of (fun vs H Q E h => len_Trail_level_of h) (fun cdv A outer s H vs Q E hr h => ⟨t_Trail_level_of K, PSs.nox (der_Trail_level_of T F_Trailrow_of B_Trailrow_of hr (hu_of hr)), pure_Trail_level_of T h⟩), F.bindsN fun _ _ _ _ _ _ us hl => match us, hl with | [_, _], _ => rfl⟩
abbrev N_Trail_reason_of : List Str := ["self", "literal", "row"]
theorem sc_Trail_reason_of : FnScope N_Trail_reason_of ["self", "literal"] (defScope s_Trail_reason_of) := ⟨rfl, rfl, rfl, by decide +kernel, rfl, by decide +kernel, by decide +kernel⟩
def t_Trail_reason_of (K : PySem.W.Frag) : TS := (tSeq (tAsg (tMeth (He.ga K "Trail") "_row_of" (sp_Trailrow_of K) [] E0 (tVar 0) (tCons (tVar 1) tNil)) (gName 2))
    (tSeq (tIfS (tTest (tOp rIsN (tVar 2) (tC .non))) (tRet (tC .non)) tNext)
    (tRet (tOp (rIxT K) (tVar 2) (tC (.int 2))))))
set_option maxHeartbeats 4000000 in
theorem der_Trail_reason_of {P : Program} {w : World} {K : PySem.W.Frag} {mg : Str → Option Value} {base : Heap} {f : Addr} {cdv : Value} {A : Around} {outer : List Env} {s : Shared} {H : Hp} {E : XK} (T : Tx K mg) {fd_Trailrow_of : FuncData} (F_Trailrow_of : FnOk P w K mg base CX0 1 (He.fAd K ("Trail", some "_row_of")) fd_Trailrow_of ps_Trailrow_of (sp_Trailrow_of K)) (B_Trailrow_of : Binds K fd_Trailrow_of ps_Trailrow_of []) (hr : Room 1 (A.deeper (envOfC "Trail.reason_of" (defScope s_Trail_reason_of) s.heap.objs.size f cdv))) (hu : (A.deeper (envOfC "Trail.reason_of" (defScope s_Trail_reason_of) s.heap.objs.size f cdv)).units + 1 < cLine) :
    PSs (cxOf CX0 P w K mg base N_Trail_reason_of "Trail.reason_of" (defScope s_Trail_reason_of) f cdv A outer s H E).nox (defBody s_Trail_reason_of) (t_Trail_reason_of K) := by
  exact (pss_cons (ps_set (i := 2) sc_Trail_reason_of.nd rfl (Or.inl rfl) (pe_meth (pv 0) T.cl_Trail T.m_Trailrow_of F_Trailrow_of (hr.mono (by decide)) B_Trailrow_of .nil pass0 (pa_cons (pv 1) pa_nil)))
    (pss_cons (ps_if (pt_cmpR op_isN1 (pv 2) pe_non (by rfl)) (pss_one (ps_ret pe_non)) pss_nil)
    (pss_one (ps_ret (pe_ix ix_tup (pv 2) pe_int (fun _ _ => rfl))))))
theorem pure_Trail_reason_of (T : Tx K mg) (h : sp_Trail_reason_of K vs H Q E) : t_Trail_reason_of K { nx := fun _ H' => Q .non H', rt := Q } (start N_Trail_reason_of vs) H := by
  obtain ⟨L, Tr, x, rfl, A, hx, k⟩ := h
  refine ⟨_, rfl, _, _, _, rfl, A.ob, rfl, _, rfl, L, Tr, x, rfl, A, hx, fun H1 v e1 hv => ?_⟩
  have k' := k
  unfold rsOf at k'
  revert hv k'
  cases look Tr.rows x with
  | none =>
    intro hv k'
    subst hv
    exact ⟨_, rfl, rfl, _, rfl, iteT (k' _ e1)⟩
  | some p =>
    rintro ⟨a, rfl, ha⟩ k'
    exact ⟨_, rfl, rfl, _, rfl, iteF ⟨_, rfl, a, _, _, _, rfl, rfl, st_of ha, atI_nat (j := 2) rfl, k' _ e1⟩⟩
theorem ok_Trail_reason_of {P : Program} {w : World} {K : PySem.W.Frag} {mg : Str → Option Value} {base : Heap} (T : Tx K mg) : FnX P w K mg base 2 (He.fAd K ("Trail", some "reason_of")) ps_Trail_reason_of (sp_Trail_reason_of K) := by
  obtain ⟨_, F_Trailrow_of, B_Trailrow_of⟩ := ok_Trailrow_of (P := P) (w := w) (base := base) T
  obtain ⟨fd, F⟩ := T.fun_Trail_reason_of
  refine ⟨fd, F.ok sc_Trail_reason_of (fun vs H Q E h => len_Trail_reason_of h) (fun cdv A outer s H vs Q E hr h => ⟨t_Trail_reason_of K, PSs.nox (der_Trail_reason_of T F_Trailrow_of B_Trailrow_of hr (hu_of hr)), pure_Trail_reason_of T h⟩), F.bindsN fun _ _ _ _ _ _ us hl => match us, hl with | [_, _], _ => rfl⟩
/-! literals, depth, knows, length, literal_at, mark -/
def sp_Trail_literals (K : PySem.W.Frag) : Sp := fun vs H Q _ => ∃ (L : TL) (T : Tr), vs = [.ref L.t] ∧ TAt (CT K) L T H ∧ ∀ p H', H p = none → Ex H H' → H' p = some (.lst (T.rows.map fun r => .int r.lit)) → Q (.ref p) H'
abbrev N_Trail_literals : List Str := ["self"]
theorem sc_Trail_literals : FnScope N_Trail_literals ["self"] (defScope s_Trail_literals) := ⟨rfl, rfl, rfl, by decide +kernel, rfl, by decide +kernel, by decide +kernel⟩
def t_Trail_literals (K : PySem.W.Frag) : TS := (tRet (tCB (rListS K) (tCons (tFld K (tVar 0) "_order") tNil)))
set_option maxHeartbeats 4000000 in
theorem der_Trail_literals {P : Program} {w : World} {K : PySem.W.Frag} {mg : Str → Option Value} {base : Heap} {f : Addr} {cdv : Value} {A : Around} {outer : List Env} {s : Shared} {H : Hp} {E : XK} (T : Tx K mg) (hr : Room 0 (A.deeper (envOfC "Trail.literals" (defScope s_Trail_literals) s.heap.objs.size f cdv))) (hu : (A.deeper (envOfC "Trail.literals" (defScope s_Trail_literals) s.heap.objs.size f cdv)).units + 1 < cLine) :
    PSs (cxOf CX0 P w K mg base N_Trail_literals "Trail.literals" (defScope s_Trail_literals) f cdv A outer s H E).nox (defBody s_Trail_literals) (t_Trail_literals K) := by
  exact (pss_one (ps_ret (pe_callTy call_list_of rfl T.f_list bt_list (pa_cons (pe_fld (pv 0) rfl) pa_nil))))
theorem len_Trail_literals (h : sp_Trail_literals K vs H Q E) : vs.length = 1 := by
  obtain ⟨_, _, rfl, _⟩ := h
  rfl
theorem pure_Trail_literals (T : Tx K mg) (h : sp_Trail_literals K vs H Q E) : t_Trail_literals K { nx := fun _ H' => Q .non H', rt := Q } (start N_Trail_literals vs) H := by
  obtain ⟨L, Tr, rfl, A, k⟩ := h
  exact s_retL (el_list (ev_fld (ev_var rfl) A.ob T.cl_Trail T.no_Trail_order rfl) (sq_of A.od)) k
theorem ok_Trail_literals {P : Program} {w : World} {K : PySem.W.Frag} {mg : Str → Option Value} {base : Heap} (T : Tx K mg) : FnX P w K mg base 1 (He.fAd K ("Trail", some "literals")) ps_Trail_literals (sp_Trail_literals K) := by
  obtain ⟨fd, F⟩ := T.fun_Trail_literals
  refine ⟨fd, F.ok sc_Trail_literals (fun vs H Q E h => len_Trail_literals h) (fun cdv A outer s H vs Q E hr h => ⟨t_Trail_literals K, PSs.nox (der_Trail_literals T hr (hu_of hr)), pure_Trail_literals T h⟩), F.bindsN fun _ _ _ _ _ _ us hl => match us, hl with | [_], _ => rfl⟩
def sp_Trail_depth (K : PySem.W.Frag) : Sp := fun vs H Q _ => ∃ (L : TL) (T : Tr), vs = [.ref L.t] ∧ TAt (CT K) L T H ∧ ∀ H', Ex H H' → Q (.int (T.depth : Int)) H'
abbrev N_Trail_depth : List Str := ["self"]
theorem sc_Trail_depth : FnScope N_Trail_depth ["self"] (defScope s_Trail_depth) := ⟨rfl, rfl, rfl, by decide +kernel, rfl, by decide +kernel, by decide +kernel⟩
def t_Trail_depth (K : PySem.W.Frag) : TS := (tRet (tCB (rLenS K) (tCons (tFld K (tVar 0) "_starts") tNil)))
set_option maxHeartbeats 4000000 in
theorem der_Trail_depth {P : Program} {w : World} {K : PySem.W.Frag} {mg : Str → Option Value} {base : Heap} {f : Addr} {cdv : Value} {A : Around} {outer : List Env} {s : Shared} {H : Hp} {E : XK} (T : Tx K mg) (hr : Room 0 (A.deeper (envOfC "Trail.depth" (defScope s_Trail_depth) s.heap.objs.size f cdv))) (hu : (A.deeper (envOfC "Trail.depth" (defScope s_Trail_depth) s.heap.objs.size f cdv)).units + 1 < cLine) :
    PSs (cxOf CX0 P w K mg base N_Trail_depth "Trail.depth" (defScope s_Trail_depth) f cdv A outer s H E).nox (defBody s_Trail_depth) (t_Trail_depth K) := by
  exact (pss_one (ps_ret (pe_callB call_len_seq rfl T.f_len bt_len (pa_cons (pe_fld (pv 0) rfl) pa_nil))))
theorem len_Trail_depth (h : sp_Trail_depth K vs H Q E) : vs.length = 1 := by
  obtain ⟨_, _, rfl, _⟩ := h
  rfl
theorem starts_len (T : Tr) : T.starts.length = T.depth := by unfold Tr.starts; rw [List.length_map, List.length_range]
theorem pure_Trail_depth (T : Tx K mg) (h : sp_Trail_depth K vs H Q E) : t_Trail_depth K { nx := fun _ H' => Q .non H', rt := Q } (start N_Trail_depth vs) H := by
  obtain ⟨L, Tr, rfl, A, k⟩ := h
  refine s_ret (ev_lenL (ev_fld (ev_var rfl) A.ob T.cl_Trail T.no_Trail_starts rfl) A.sa) fun H1 e => ?_
  rw [List.length_map, starts_len]
  exact k H1 e
theorem ok_Trail_depth {P : Program} {w : World} {K : PySem.W.Frag} {mg : Str → Option Value} {base : Heap} (T : Tx K mg) : FnX P w K mg base 1 (He.fAd K ("Trail", some "depth")) ps_Trail_depth (sp_Trail_depth K) := by
  obtain ⟨fd, F⟩ := T.fun_Trail_depth
  refine ⟨fd, F.ok sc_Trail_depth (fun vs H Q E h => len_Trail_depth h) (fun cdv A outer s H vs Q E hr h => ⟨t_Trail_depth K, PSs.nox (der_Trail_depth T hr (hu_of hr)), pure_Trail_depth T h⟩), F.bindsN fun _ _ _ _ _ _ us hl => match us, hl with | [_], _ => rfl⟩
def sp_Trail_knows (K : PySem.W.Frag) : Sp := fun vs H Q _ => ∃ (L : TL) (T : Tr) (x : Int), vs = [.ref L.t, .int x] ∧ TAt (CT K) L T H ∧ ∀ H', Ex H H' → Q (.bl (decide ((x.natAbs : Int) ∈ T.known))) H'
abbrev N_Trail_knows : List Str := ["self", "literal"]
theorem sc_Trail_knows : FnScope N_Trail_knows ["self", "literal"] (defScope s_Trail_knows) := ⟨rfl, rfl, rfl, by decide +kernel, rfl, by decide +kernel, by decide +kernel⟩
def t_Trail_knows (K : PySem.W.Frag) : TS := (tRet (tDIn (tCB rAbsR (tCons (tVar 1) tNil)) (tFld K (tVar 0) "_known")))
set_option maxHeartbeats 4000000 in
theorem der_Trail_knows {P : Program} {w : World} {K : PySem.W.Frag} {mg : Str → Option Value} {base : Heap} {f : Addr} {cdv : Value} {A : Around} {outer : List Env} {s : Shared} {H : Hp} {E : XK} (T : Tx K mg) (hr : Room 0 (A.deeper (envOfC "Trail.knows" (defScope s_Trail_knows) s.heap.objs.size f cdv))) (hu : (A.deeper (envOfC "Trail.knows" (defScope s_Trail_knows) s.heap.objs.size f cdv)).units + 1 < cLine) :
    PSs (cxOf CX0 P w K mg base N_Trail_knows "Trail.knows" (defScope s_Trail_knows) f cdv A outer s H E).nox (defBody s_Trail_knows) (t_Trail_knows K) := by
  exact (pss_one (ps_ret (pe_cmp (pc_din hu (pe_callB call_abs rfl T.f_abs bt_abs (pa_cons (pv 1) pa_nil)) (pe_fld (pv 0) rfl)))))
theorem len_Trail_knows (h : sp_Trail_knows K vs H Q E) : vs.length = 2 := by
  obtain ⟨_, _, _, rfl, _⟩ := h
  rfl
theorem pure_Trail_knows (T : Tx K mg) (h : sp_Trail_knows K vs H Q E) : t_Trail_knows K { nx := fun _ H' => Q .non H', rt := Q } (start N_Trail_knows vs) H := by
  obtain ⟨L, Tr, x, rfl, A, k⟩ := h
  refine s_ret (ev_din (k := Sum.inl (x.natAbs : Int)) (ev_abs (ev_var rfl)) (ev_fld (ev_var rfl) A.ob T.cl_Trail T.no_Trail_known rfl) A.kn) fun H1 e => ?_
  rw [knK_has]
  exact k H1 e
theorem ok_Trail_knows {P : Program} {w : World} {K : PySem.W.Frag} {mg : Str → Option Value} {base : Heap} (T : Tx K mg) : FnX P w K mg base 1 (He.fAd K ("Trail", some "knows")) ps_Trail_knows (sp_Trail_knows K) := by
  obtain ⟨fd, F⟩ := T.fun_Trail_knows
  refine ⟨fd, F.ok sc_Trail_knows (fun vs H Q E h => len_Trail_knows h) (fun cdv A outer s H vs Q E hr h => ⟨t_Trail_knows K, PSs.nox (der_Trail_knows T hr (hu_of hr)), pure_Trail_knows T h⟩), F.bindsN fun _ _ _ _ _ _ us hl => match us, hl with | [_, _], _ => rfl⟩
def sp_Trail_length (K : PySem.W.Frag) : Sp := fun vs H Q _ => ∃ (L : TL) (T : Tr), vs = [.ref L.t] ∧ TAt (CT K) L T H ∧ ∀ H', Ex H H' → Q (.int (T.rows.length : Int)) H'
abbrev N_Trail_length : List Str := ["self"]
theorem sc_Trail_length : FnScope N_Trail_length ["self"] (defScope s_Trail_length) := ⟨rfl, rfl, rfl, by decide +kernel, rfl, by decide +kernel, by decide +kernel⟩
def t_Trail_length (K : PySem.W.Frag) : TS := (tRet (tCB (rLenS K) (tCons (tFld K (tVar 0) "_order") tNil)))
set_option maxHeartbeats 4000000 in
theorem der_Trail_length {P : Program} {w : World} {K : PySem.W.Frag} {mg : Str → Option Value} {base : Heap} {f : Addr} {cdv : Value} {A : Around} {outer : List Env} {s : Shared} {H : Hp} {E : XK} (T : Tx K mg) (hr : Room 0 (A.deeper (envOfC "Trail.length" (defScope s_Trail_length) s.heap.objs.size f cdv))) (hu : (A.deeper (envOfC "Trail.length" (defScope s_Trail_length) s.heap.objs.size f cdv)).units + 1 < cLine) :
    PSs (cxOf CX0 P w K mg base N_Trail_length "Trail.length" (defScope s_Trail_length) f cdv A outer s H E).nox (defBody s_Trail_length) (t_Trail_length K) := by
  exact (pss_one (ps_ret (pe_callB call_len_seq rfl T.f_len bt_len (pa_cons (pe_fld (pv 0) rfl) pa_nil))))
theorem len_Trail_length (h : sp_Trail_length K vs H Q E) : vs.length = 1 := by
  obtain ⟨_, _, rfl, _⟩ := h
  rfl
theorem pure_Trail_length (T : Tx K mg) (h : sp_Trail_length K vs H Q E) : t_Trail_length K { nx := fun _ H' => Q .non H', rt := Q } (start N_Trail_length vs) H := by
  obtain ⟨L, Tr, rfl, A, k⟩ := h
  refine s_ret (ev_lenL (ev_fld (ev_var rfl) A.ob T.cl_Trail T.no_Trail_order rfl) A.od) fun H1 e => ?_
  rw [List.length_map]
  exact k H1 e
theorem ok_Trail_length {P : Program} {w : World} {K : PySem.W.Frag} {mg : Str → Option Value} {base : Heap} (T : Tx K mg) : FnX P w K mg base 1 (He.fAd K ("Trail", some "length")) ps_Trail_length (sp_Trail_length K) := by
  obtain ⟨fd, F⟩ := T.fun_Trail_length
  refine ⟨fd, F.ok sc_Trail_length (fun vs H Q E h => len_Trail_length h) (fun cdv A outer s H vs Q E hr h => ⟨t_Trail_length K, PSs.nox (der_Trail_length T hr (hu_of hr)), pure_Trail_length T h⟩), F.bindsN fun _ _ _ _ _ _ us hl => match us, hl with | [_], _ => rfl⟩
def sp_Trail_literal_at (K : PySem.W.Frag) : Sp := fun vs H Q _ => ∃ (L : TL) (T : Tr) (j : Nat) (r : Row), vs = [.ref L.t, .int (j : Int)] ∧ TAt (CT K) L T H ∧ T.rows[j]? = some r ∧ ∀ H', Ex H H' → Q (.int r.lit) H'
abbrev N_Trail_literal_at : List Str := ["self", "place"]
theorem sc_Trail_literal_at : FnScope N_Trail_literal_at ["self", "place"] (defScope s_Trail_literal_at) := ⟨rfl, rfl, rfl, by decide +kernel, rfl, by decide +kernel, by decide +kernel⟩
def t_Trail_literal_at (K : PySem.W.Frag) : TS := (tRet (tOp (rIxL K) (tFld K (tVar 0) "_order") (tVar 1)))
set_option maxHeartbeats 4000000 in
theorem der_Trail_literal_at {P : Program} {w : World} {K : PySem.W.Frag} {mg : Str → Option Value} {base : Heap} {f : Addr} {cdv : Value} {A : Around} {outer : List Env} {s : Shared} {H : Hp} {E : XK} (T : Tx K mg) (hr : Room 0 (A.deeper (envOfC "Trail.literal_at" (defScope s_Trail_literal_at) s.heap.objs.size f cdv))) (hu : (A.deeper (envOfC "Trail.literal_at" (defScope s_Trail_literal_at) s.heap.objs.size f cdv)).units + 1 < cLine) :
    PSs (cxOf CX0 P w K mg base N_Trail_literal_at "Trail.literal_at" (defScope s_Trail_literal_at) f cdv A outer s H E).nox (defBody s_Trail_literal_at) (t_Trail_literal_at K) := by
  exact (pss_one (ps_ret (pe_ix ix_list (pe_fld (pv 0) rfl) (pv 1) (fun _ _ => rfl))))
theorem len_Trail_literal_at (h : sp_Trail_literal_at K vs H Q E) : vs.length = 2 := by
  obtain ⟨_, _, _, _, rfl, _⟩ := h
  rfl
theorem pure_Trail_literal_at (T : Tx K mg) (h : sp_Trail_literal_at K vs H Q E) : t_Trail_literal_at K { nx := fun _ H' => Q .non H', rt := Q } (start N_Trail_literal_at vs) H := by
  obtain ⟨L, Tr, j, r, rfl, A, hr, k⟩ := h
  refine s_ret (ev_ixL (j := j) (ev_fld (ev_var rfl) A.ob T.cl_Trail T.no_Trail_order rfl) (ev_var rfl) A.od ?_) k
  rw [List.getElem?_map, hr]
  rfl
theorem ok_Trail_literal_at {P : Program} {w : World} {K : PySem.W.Frag} {mg : Str → Option Value} {base : Heap} (T : Tx K mg) : FnX P w K mg base 1 (He.fAd K ("Trail", some "literal_at")) ps_Trail_literal_at (sp_Trail_literal_at K) := by
  obtain ⟨fd, F⟩ := T.fun_Trail_literal_at
  refine ⟨fd, F.ok sc_Trail_literal_at (fun vs H Q E h => len_Trail_literal_at h) (fun cdv A outer s H vs Q E hr h => ⟨t_Trail_literal_at K, PSs.nox (der_Trail_literal_at T hr (hu_of hr)), pure_Trail_literal_at T h⟩), F.bindsN fun _ _ _ _ _ _ us hl => match us, hl with | [_, _], _ => rfl⟩
def sp_Trail_mark (K : PySem.W.Frag) : Sp := fun vs H Q _ => ∃ (L : TL) (T : Tr), vs = [.ref L.t] ∧ TAt (CT K) L T H ∧ ∀ H', Ex H H' → Q (.int (T.made : Int)) H'
abbrev N_Trail_mark : List Str := ["self"]
theorem sc_Trail_mark : FnScope N_Trail_mark ["self"] (defScope s_Trail_mark) := ⟨rfl, rfl, rfl, by decide +kernel, rfl, by decide +kernel, by decide +kernel⟩
def t_Trail_mark (K : PySem.W.Frag) : TS := (tRet (tFld K (tVar 0) "_made"))
set_option maxHeartbeats 4000000 in
theorem der_Trail_mark {P : Program} {w : World} {K : PySem.W.Frag} {mg : Str → Option Value} {base : Heap} {f : Addr} {cdv : Value} {A : Around} {outer : List Env} {s : Shared} {H : Hp} {E : XK} (T : Tx K mg) (hr : Room 0 (A.deeper (envOfC "Trail.mark" (defScope s_Trail_mark) s.heap.objs.size f cdv))) (hu : (A.deeper (envOfC "Trail.mark" (defScope s_Trail_mark) s.heap.objs.size f cdv)).units + 1 < cLine) :
    PSs (cxOf CX0 P w K mg base N_Trail_mark "Trail.mark" (defScope s_Trail_mark) f cdv A outer s H E).nox (defBody s_Trail_mark) (t_Trail_mark K) := by
  exact (pss_one (ps_ret (pe_fld (pv 0) rfl)))
theorem len_Trail_mark (h : sp_Trail_mark K vs H Q E) : vs.length = 1 := by
  obtain ⟨_, _, rfl, _⟩ := h
  rfl
theorem pure_Trail_mark (T : Tx K mg) (h : sp_Trail_mark K vs H Q E) : t_Trail_mark K { nx := fun _ H' => Q .non H', rt := Q } (start N_Trail_mark vs) H := by
  obtain ⟨L, Tr, rfl, A, k⟩ := h
  exact s_ret (ev_fld (ev_var rfl) A.ob T.cl_Trail T.no_Trail_made rfl) k
theorem ok_Trail_mark {P : Program} {w : World} {K : PySem.W.Frag} {mg : Str → Option Value} {base : Heap} (T : Tx K mg) : FnX P w K mg base 1 (He.fAd K ("Trail", some "mark")) ps_Trail_mark (sp_Trail_mark K) := by
  obtain ⟨fd, F⟩ := T.fun_Trail_mark
  refine ⟨fd, F.ok sc_Trail_mark (fun vs H Q E h => len_Trail_mark h) (fun cdv A outer s H vs Q E hr h => ⟨t_Trail_mark K, PSs.nox (der_Trail_mark T hr (hu_of hr)), pure_Trail_mark T h⟩), F.bindsN fun _ _ _ _ _ _ us hl => match us, hl with | [_], _ => rfl⟩
/-! _require_open -/
def sp_Trailrequire_open (K : PySem.W.Frag) : Sp := fun vs H Q _ => ∃ (L : TL) (T : Tr) (x : Int), vs = [.ref L.t, .int x] ∧ TAt (CT K) L T H ∧ (x.natAbs : Int) ∈ T.known ∧ look T.rows x = none ∧ ∀ H', Ex H H' → Q .non H'
abbrev N_Trailrequire_open : List Str := ["self", "literal"]
theorem sc_Trailrequire_open : FnScope N_Trailrequire_open ["self", "literal"] (defScope s_Trailrequire_open) := ⟨rfl, rfl, rfl, by decide +kernel, rfl, by decide +kernel, by decide +kernel⟩
def t_Trailrequire_open (K : PySem.W.Frag) : TS := (tIfS (tTest (tOp rNotN (tMeth (He.ga K "Trail") "_row_of" (sp_Trailrow_of K) [] E0 (tVar 0) (tCons (tVar 1) tNil)) (tC .non))) tNever tNext)
set_option maxHeartbeats 4000000 in
theorem der_Trailrequire_open {P : Program} {w : World} {K : PySem.W.Frag} {mg : Str → Option Value} {base : Heap} {f : Addr} {cdv : Value} {A : Around} {outer : List Env} {s : Shared} {H : Hp} {E : XK} (T : Tx K mg) {fd_Trailrow_of : FuncData} (F_Trailrow_of : FnOk P w K mg base CX0 1 (He.fAd K ("Trail", some "_row_of")) fd_Trailrow_of ps_Trailrow_of (sp_Trailrow_of K)) (B_Trailrow_of : Binds K fd_Trailrow_of ps_Trailrow_of []) (hr : Room 1 (A.deeper (envOfC "Trail._require_open" (defScope s_Trailrequire_open) s.heap.objs.size f cdv))) (hu : (A.deeper (envOfC "Trail._require_open" (defScope s_Trailrequire_open) s.heap.objs.size f cdv)).units + 1 < cLine) :
    PSs (cxOf CX0 P w K mg base N_Trailrequire_open "Trail._require_open" (defScope s_Trailrequire_open) f cdv A outer s H E).nox (defBody s_Trailrequire_open) (t_Trailrequire_open K) := by
  exact (pss_one (ps_if (pt_cmpR op_notN1 (pe_meth (pv 0) T.cl_Trail T.m_Trailrow_of F_Trailrow_of (hr.mono (by decide)) B_Trailrow_of .nil pass0 (pa_cons (pv 1) pa_nil)) pe_non (by rfl)) (pss_one ps_never) pss_nil))
theorem len_Trailrequire_open (h : sp_Trailrequire_open K vs H Q E) : vs.length = 2 := by
  obtain ⟨_, _, _, rfl, _⟩ := h
  rfl
theorem pure_Trailrequire_open (T : Tx K mg) (h : sp_Trailrequire_open K vs H Q E) : t_Trailrequire_open K { nx := fun _ H' => Q .non H', rt := Q } (start N_Trailrequire_open vs) H := by
  obtain ⟨L, Tr, x, rfl, A, hx, hn, k⟩ := h
  refine ⟨_, rfl, _, _, _, rfl, A.ob, rfl, _, rfl, L, Tr, x, rfl, A, hx, fun H1 v e1 hv => ?_⟩
  rw [hn] at hv
  subst hv
  exact ⟨rfl, _, rfl, iteF (k _ e1)⟩
theorem ok_Trailrequire_open {P : Program} {w : World} {K : PySem.W.Frag} {mg : Str → Option Value} {base : Heap} (T : Tx K mg) : FnX P w K mg base 2 (He.fAd K ("Trail", some "_require_open")) ps_Trailrequire_open (sp_Trailrequire_open K) := by
  obtain ⟨_, F_Trailrow_of, B_Trailrow_of⟩ := ok_Trailrow_of (P := P) (w := w) (base := base) T
  obtain ⟨fd, F⟩ := T.fun_Trailrequire_open
  refine ⟨fd, F.ok sc_Trailrequire_open (fun vs H Q E h => len_Trailrequire_open h) (fun cdv A outer s H vs Q E hr h => ⟨t_Trailrequire_open K, PSs.nox (der_Trailrequire_open T F_Trailrow_of B_Trailrow_of hr (hu_of hr)), pure_Trailrequire_open T h⟩), F.bindsN fun _ _ _ _ _ _ us hl => match us, hl with | [_, _], _ => rfl⟩
end
end TW

set_option Elab.async false
set_option linter.all false
set_option maxRecDepth 100000
set_option maxHeartbeats 1000000
namespace TW
open PySem PySem.Spec PyProof.Rows L2 Evl
/-! ### plain facts of rows -/
def Tr.put (T : Tr) (x : Int) (rs : Option Nat) : Tr := { T with rows := T.rows ++ [⟨x, T.depth, rs⟩], stamps := T.stamps ++ [T.made], made := T.made + 1 }
def Tr.deeper (T : Tr) : Tr := { T with depth := T.depth + 1 }
def Tr.back (T : Tr) (l : Nat) : Tr := if l < T.depth then { T with rows := T.rows.take (cntLe T.rows l), depth := l, stamps := T.stamps.take (cntLe T.rows l) } else T
theorem cntLe_snoc (rows : List Row) (r : Row) (l : Nat) : cntLe (rows ++ [r]) l = cntLe rows l + (if r.lev ≤ l then 1 else 0) := by
  unfold cntLe
  rw [List.countP_append]
  simp [List.countP_cons, List.countP_nil]
theorem cntLe_all {rows : List Row} {l : Nat} (h : ∀ r ∈ rows, r.lev ≤ l) : cntLe rows l = rows.length := by
  unfold cntLe
  exact List.countP_eq_length.mpr fun r hr => decide_eq_true (h r hr)
theorem cntLe_len (rows : List Row) (l : Nat) : cntLe rows l ≤ rows.length := List.countP_le_length
/-- rows in order of levels: the first cntLe of them are those of levels up to l -/
theorem take_cnt : ∀ {rows : List Row} {l : Nat}, rows.Pairwise (fun a b => a.lev ≤ b.lev) → rows.take (cntLe rows l) = rows.filter fun r => decide (r.lev ≤ l)
  | [], _, _ => rfl
  | r :: rs, l, h => by
    obtain ⟨h1, h2⟩ := List.pairwise_cons.mp h
    unfold cntLe
    rw [List.countP_cons, List.filter_cons]
    by_cases hr : r.lev ≤ l
    · rw [if_pos (by simpa using hr), if_pos (by simpa using hr), List.take_succ_cons]
      exact congrArg (r :: ·) (take_cnt h2)
    · have z : ∀ b ∈ rs, ¬ b.lev ≤ l := fun b hb z => hr (Nat.le_trans (h1 b hb) z)
      have c0 : rs.countP (fun r => decide (r.lev ≤ l)) = 0 := List.countP_eq_zero.mpr fun b hb => by simpa using z b hb
      rw [if_neg (by simpa using hr), if_neg (by simpa using hr), c0]
      have e : rs.filter (fun r => decide (r.lev ≤ l)) = [] := List.filter_eq_nil_iff.mpr fun b hb => by simpa using z b hb
      rw [e]
      rfl
theorem cnt_filter (rows : List Row) (l j : Nat) (h : j ≤ l) : cntLe (rows.filter fun r => decide (r.lev ≤ l)) j = cntLe rows j := by
  unfold cntLe
  rw [List.countP_filter]
  apply List.countP_congr
  intro r _
  simp only [Bool.and_eq_true, decide_eq_true_eq]
  exact ⟨fun z => z.1, fun z => ⟨z, Nat.le_trans z h⟩⟩
theorem range_take (n l : Nat) (h : l ≤ n) : (List.range n).take l = List.range l := by
  rw [List.take_range, Nat.min_eq_left h]
theorem starts_back {T : Tr} {l : Nat} (hs : T.rows.Pairwise fun a b => a.lev ≤ b.lev) (h : l < T.depth) : (T.back l).starts = T.starts.take l := by
  unfold Tr.back Tr.starts
  rw [if_pos h, ← List.map_take, range_take _ _ (Nat.le_of_lt h)]
  refine List.map_congr_left fun j hj => ?_
  show cntLe (T.rows.take (cntLe T.rows l)) j = cntLe T.rows j
  rw [take_cnt hs, cnt_filter _ _ _ (Nat.le_of_lt (List.mem_range.mp hj))]
theorem starts_put (T : Tr) (x : Int) (rs : Option Nat) : (T.put x rs).starts = T.starts := by
  unfold Tr.put Tr.starts
  refine List.map_congr_left fun j hj => ?_
  show cntLe (T.rows ++ [⟨x, T.depth, rs⟩]) j = cntLe T.rows j
  have hj' : j < T.depth := List.mem_range.mp hj
  rw [cntLe_snoc, if_neg (by show ¬ T.depth ≤ j; omega)]
  rfl
theorem starts_deeper {T : Tr} (h : ∀ r ∈ T.rows, r.lev ≤ T.depth) : T.deeper.starts = T.starts ++ [T.rows.length] := by
  unfold Tr.deeper Tr.starts
  rw [List.range_succ, List.map_append]
  show _ ++ [cntLe T.rows T.depth] = _
  rw [cntLe_all h]
theorem starts_get {T : Tr} {l : Nat} (h : l < T.depth) : T.starts[l]? = some (cntLe T.rows l) := by
  unfold Tr.starts
  rw [List.getElem?_map, List.getElem?_range h]
  rfl
/-- Ok, the newest level perhaps empty -/
structure Tr.OkW (T : Tr) : Prop where
  kpos : ∀ n ∈ T.known, 0 < n
  knd : T.known.Nodup
  kl : T.known.length ≤ 100
  mem : ∀ r ∈ T.rows, r.ab ∈ T.known
  nd : (T.rows.map Row.ab).Nodup
  srt : T.rows.Pairwise fun a b => a.lev ≤ b.lev
  le : ∀ r ∈ T.rows, r.lev ≤ T.depth
  lv : ∀ l, 1 ≤ l → l < T.depth → ∃ r ∈ T.rows, r.lev = l
  slen : T.stamps.length = T.rows.length
  sasc : T.stamps.Pairwise (· < ·)
  slt : ∀ x ∈ T.stamps, x < T.made
theorem Tr.Ok.weak {T : Tr} (h : T.Ok) : T.OkW := ⟨h.kpos, h.knd, h.kl, h.mem, h.nd, h.srt, h.le, fun l h1 h2 => h.lv l h1 (Nat.le_of_lt h2), h.slen, h.sasc, h.slt⟩
theorem Tr.Ok.deeper {T : Tr} (h : T.Ok) : T.deeper.OkW := ⟨h.kpos, h.knd, h.kl, h.mem, h.nd, h.srt, fun r hr => Nat.le_succ_of_le (h.le r hr), fun l h1 h2 => h.lv l h1 (Nat.le_of_lt_succ h2), h.slen, h.sasc, h.slt⟩
theorem find_zip_none {α : Type} {p : α → Bool} : ∀ {l : List α} {i : Nat}, (l.zipIdx i).find? (fun q => p q.1) = none ↔ ∀ x ∈ l, p x = false
  | [], i => by simp
  | a :: r, i => by
    rw [List.zipIdx_cons, List.find?_cons]
    cases h : p a with
    | true => simp [h]
    | false => simp [h, find_zip_none (l := r) (i := i + 1)]
theorem look_none {rows : List Row} {x : Int} : look rows x = none ↔ ∀ r ∈ rows, r.ab ≠ (x.natAbs : Int) := by
  unfold look
  rw [find_zip_none (p := fun r : Row => decide (r.ab = (x.natAbs : Int)))]
  simp
theorem Tr.OkW.put {T : Tr} {x : Int} {rs : Option Nat} (h : T.OkW) (hx : (x.natAbs : Int) ∈ T.known) (hn : look T.rows x = none) : (T.put x rs).Ok := by
  have hn := look_none.mp hn
  refine ⟨h.kpos, h.knd, h.kl, fun r hr => ?_, ?_, ?_, fun r hr => ?_, fun l h1 h2 => ?_, ?_, ?_, fun z hz => ?_⟩
  · rcases List.mem_append.mp hr with hr | hr
    · exact h.mem r hr
    · obtain rfl := List.mem_singleton.mp hr
      exact hx
  · show ((T.rows ++ [_]).map Row.ab).Nodup
    rw [List.map_append]
    refine List.nodup_append.mpr ⟨h.nd, by simp, fun a ha b hb => ?_⟩
    obtain ⟨r, hr, rfl⟩ := List.mem_map.mp ha
    have e : b = (x.natAbs : Int) := by simpa using hb
    rw [e]
    exact hn r hr
  · show (T.rows ++ [_]).Pairwise _
    refine List.pairwise_append.mpr ⟨h.srt, by simp, fun a ha b hb => ?_⟩
    obtain rfl := List.mem_singleton.mp hb
    exact h.le a ha
  · rcases List.mem_append.mp hr with hr | hr
    · exact h.le r hr
    · obtain rfl := List.mem_singleton.mp hr
      exact Nat.le_refl _
  · rcases Nat.lt_or_eq_of_le (show l ≤ T.depth from h2) with h3 | h3
    · obtain ⟨r, hr, e⟩ := h.lv l h1 h3
      exact ⟨r, List.mem_append_left _ hr, e⟩
    · exact ⟨_, List.mem_append_right _ (List.mem_singleton.mpr rfl), h3.symm⟩
  · show (T.stamps ++ [T.made]).length = (T.rows ++ [_]).length
    rw [List.length_append, List.length_append, h.slen]
    rfl
  · show (T.stamps ++ [T.made]).Pairwise _
    refine List.pairwise_append.mpr ⟨h.sasc, by simp, fun a ha b hb => ?_⟩
    obtain rfl := List.mem_singleton.mp hb
    exact h.slt a ha
  · show z < T.made + 1
    rcases List.mem_append.mp (show z ∈ T.stamps ++ [T.made] from hz) with hz | hz
    · exact Nat.lt_succ_of_lt (h.slt z hz)
    · obtain rfl := List.mem_singleton.mp hz
      exact Nat.lt_succ_self _
theorem Tr.Ok.back {T : Tr} (h : T.Ok) (l : Nat) : (T.back l).Ok := by
  unfold Tr.back
  by_cases hl : l < T.depth
  · rw [if_pos hl]
    have e := take_cnt (l := l) h.srt
    have sub : ∀ r ∈ T.rows.take (cntLe T.rows l), r ∈ T.rows := fun r hr => List.mem_of_mem_take hr
    refine ⟨h.kpos, h.knd, h.kl, fun r hr => h.mem r (sub r hr), ?_, ?_, fun r hr => ?_, fun j h1 h2 => ?_, ?_, ?_, fun z hz => h.slt z (List.mem_of_mem_take hz)⟩
    · show ((T.rows.take _).map Row.ab).Nodup
      rw [List.map_take]
      exact h.nd.sublist (List.take_sublist _ _)
    · exact h.srt.sublist (List.take_sublist _ _)
    · have hr' : r ∈ T.rows.take (cntLe T.rows l) := hr
      rw [e] at hr'
      exact of_decide_eq_true (List.mem_filter.mp hr').2
    · have h2' : j ≤ l := h2
      obtain ⟨r, hr, er⟩ := h.lv j h1 (by omega)
      refine ⟨r, ?_, er⟩
      show r ∈ T.rows.take (cntLe T.rows l)
      rw [e]
      exact List.mem_filter.mpr ⟨hr, decide_eq_true (by omega)⟩
    · show (T.stamps.take _).length = (T.rows.take _).length
      rw [List.length_take, List.length_take, h.slen]
    · exact h.sasc.sublist (List.take_sublist _ _)
  · rw [if_neg hl]
    exact h
theorem nodup_len {l m : List Int} (h : l.Nodup) (hs : ∀ x ∈ l, x ∈ m) : l.length ≤ m.length := by
  induction l generalizing m with
  | nil => exact Nat.zero_le _
  | cons a r ih =>
    obtain ⟨h1, h2⟩ := List.nodup_cons.mp h
    have ha := hs a List.mem_cons_self
    have := ih (m := m.erase a) h2 fun x hx => by
      refine (List.mem_erase_of_ne ?_).mpr (hs x (List.mem_cons_of_mem _ hx))
      exact fun z => h1 (z ▸ hx)
    rw [List.length_erase_of_mem ha] at this
    have hp := List.length_pos_of_mem ha
    simp only [List.length_cons]
    omega
theorem Tr.OkW.rl {T : Tr} (h : T.OkW) : T.rows.length ≤ 100 := by
  have e : (T.rows.map Row.ab).length = T.rows.length := List.length_map _
  rw [← e]
  refine Nat.le_trans (nodup_len h.nd fun x hx => ?_) h.kl
  obtain ⟨r, hr, rfl⟩ := List.mem_map.mp hx
  exact h.mem r hr
end TW

set_option Elab.async false
set_option linter.all false
set_option maxRecDepth 100000
set_option maxHeartbeats 1000000
namespace TW
open PySem PySem.Spec PyProof.Rows L2 Evl
/-! ### a few more things that evaluate -/
section
variable {K : PySem.W.Frag} {σ : L2.St} {H : Hp} {ta tb : TE} {t u : TT}
theorem el_cat {b : Addr} {xs ys : List V} (ha : EvL ta σ H xs) (hb : Ev tb σ H (.ref b)) (h : H b = some (.lst ys)) (hl : xs.length + ys.length ≤ 100000) : EvL (tOp rCat ta tb) σ H (xs ++ ys) := fun H1 e Q q =>
  ha H1 e _ fun p H2 hp e2 h2 => hb H2 (e.trans e2) _ fun H3 e3 => ⟨p, b, xs, ys, rfl, rfl, e3 p _ h2, ((e.trans e2).trans e3) b _ h, sz_of hl, fun r hr => q r _ (fresh_back (e2.trans e3) hr) ((e2.trans e3).trans (Ex.new hr)) upd_same⟩
theorem el_catL {xs ys : List V} (ha : EvL ta σ H xs) (hb : EvL tb σ H ys) (hl : xs.length + ys.length ≤ 100000) : EvL (tOp rCat ta tb) σ H (xs ++ ys) := fun H1 e Q q =>
  ha H1 e _ fun p H2 hp e2 h2 => hb H2 (e.trans e2) _ fun p3 H3 hp3 e3 h3 => ⟨p, p3, xs, ys, rfl, rfl, e3 p _ h2, h3, sz_of hl, fun r hr => q r _ (fresh_back (e2.trans e3) hr) ((e2.trans e3).trans (Ex.new hr)) upd_same⟩
theorem el_catV {a b : Addr} {xs ys : List V} (ha : Ev ta σ H (.ref a)) (hb : Ev tb σ H (.ref b)) (h1 : H a = some (.lst xs)) (h : H b = some (.lst ys)) (hl : xs.length + ys.length ≤ 100000) : EvL (tOp rCat ta tb) σ H (xs ++ ys) := fun H1 e Q q =>
  ha H1 e _ fun H2 e2 => hb H2 (e.trans e2) _ fun H3 e3 => ⟨a, b, xs, ys, rfl, rfl, ((e.trans e2).trans e3) a _ h1, ((e.trans e2).trans e3) b _ h, sz_of hl, fun r hr => q r _ (fresh_back (e2.trans e3) hr) ((e2.trans e3).trans (Ex.new hr)) upd_same⟩
theorem el_catVL {a : Addr} {xs ys : List V} (ha : Ev ta σ H (.ref a)) (h1 : H a = some (.lst xs)) (hb : EvL tb σ H ys) (hl : xs.length + ys.length ≤ 100000) : EvL (tOp rCat ta tb) σ H (xs ++ ys) := fun H1 e Q q =>
  ha H1 e _ fun H2 e2 => hb H2 (e.trans e2) _ fun p3 H3 hp3 e3 h3 => ⟨a, p3, xs, ys, rfl, rfl, ((e.trans e2).trans e3) a _ h1, h3, sz_of hl, fun r hr => q r _ (fresh_back (e2.trans e3) hr) ((e2.trans e3).trans (Ex.new hr)) upd_same⟩
theorem et_yes : EvT tYes σ H true := fun H1 _ _ q => q H1 (Ex.refl H1)
theorem given_all (n : Nat) (v : Nat → V) : given n (fun _ => true) v = (List.range n).map v := by
  unfold given
  rw [List.filter_eq_self.mpr fun _ _ => rfl]
theorem cut_take {xs : List V} {n : Nat} (h : n ≤ xs.length) : cutV xs none (some (n : Int)) = xs.take n := by
  unfold cutV
  rw [HT.sIx_none, HT.sIx_nat, Nat.min_eq_left h]
  simp
theorem cut_drop {xs : List V} {n : Nat} (h : n ≤ xs.length) : cutV xs (some (n : Int)) none = xs.drop n := by
  unfold cutV
  rw [HT.sIx_none, HT.sIx_nat, Nat.min_eq_left h]
  exact List.take_of_length_le (by rw [List.length_drop]; exact Nat.le_refl _)
end
section
variable {K : PySem.W.Frag} {mg : Str → Option Value} {vs : List V} {H : Hp} {Q : VK} {E : XK}
/-! ### length_before -/
def sp_Trail_length_before (K : PySem.W.Frag) : Sp := fun vs H Q _ => ∃ (L : TL) (T : Tr) (m : Nat), vs = [.ref L.t, .int (m : Int)] ∧ TAt (CT K) L T H ∧ T.stamps.Pairwise (· < ·) ∧
  ∀ H' (l : Nat), Ex H H' → l ≤ T.stamps.length → (∀ i x, T.stamps[i]? = some x → (i < l ↔ x < m)) → Q (.int (l : Int)) H'
abbrev N_Trail_length_before : List Str := ["self", "mark", "length"]
theorem sc_Trail_length_before : FnScope N_Trail_length_before ["self", "mark"] (defScope s_Trail_length_before) := ⟨rfl, rfl, rfl, by decide +kernel, rfl, by decide +kernel, by decide +kernel⟩
def t_Trail_length_before (K : PySem.W.Frag) : TS := (tSeq (tAsg (tCB (rLenS K) (tCons (tFld K (tVar 0) "_stamps") tNil)) (gName 2))
    (tSeq (tWhile (tAnd (tB (tGt (tVar 2) (tC (.int 0)))) (tB (tGe (tOp (rIxL K) (tFld K (tVar 0) "_stamps") (tOp rSubR (tVar 2) (tC (.int 1)))) (tVar 1)))) (tAug 2 (tC (.int 1)) ipSubR))
    (tRet (tVar 2))))
set_option maxHeartbeats 4000000 in
theorem der_Trail_length_before {P : Program} {w : World} {K : PySem.W.Frag} {mg : Str → Option Value} {base : Heap} {f : Addr} {cdv : Value} {A : Around} {outer : List Env} {s : Shared} {H : Hp} {E : XK} (T : Tx K mg) (hr : Room 0 (A.deeper (envOfC "Trail.length_before" (defScope s_Trail_length_before) s.heap.objs.size f cdv))) (hu : (A.deeper (envOfC "Trail.length_before" (defScope s_Trail_length_before) s.heap.objs.size f cdv)).units + 1 < cLine) :
    PSs (cxOf CX0 P w K mg base N_Trail_length_before "Trail.length_before" (defScope s_Trail_length_before) f cdv A outer s H E).nox (defBody s_Trail_length_before) (t_Trail_length_before K) := by
  exact (pss_cons (ps_set (i := 2) sc_Trail_length_before.nd rfl (Or.inl rfl) (pe_callB call_len_seq rfl T.f_len bt_len (pa_cons (pe_fld (pv 0) rfl) pa_nil)))
    (pss_cons (ps_while PassesOwn.never (PW.pt (pw_and (pt_cmp (pc_gt (pv 2) pe_int)) (pw_and1 (pt_cmp (pc_ge (pe_ix ix_list (pe_fld (pv 0) rfl) (pe_op op_sub (pv 2) pe_int) (fun _ _ => rfl)) (pv 1)))))) (pss_one (ps_aug (i := 2) sc_Trail_length_before.nd rfl (Or.inl rfl) pe_int ip_sub)))
    (pss_one (ps_ret (pv 2)))))
theorem len_Trail_length_before (h : sp_Trail_length_before K vs H Q E) : vs.length = 2 := by
  obtain ⟨_, _, _, rfl, _⟩ := h
  rfl
theorem pure_Trail_length_before (T : Tx K mg) (h : sp_Trail_length_before K vs H Q E) : t_Trail_length_before K { nx := fun _ H' => Q .non H', rt := Q } (start N_Trail_length_before vs) H := by
  obtain ⟨L, Tr, m, rfl, A, asc, k⟩ := h
  refine q_asg (ev_lenL (ev_fld (ev_var rfl) A.ob T.cl_Trail T.no_Trail_stamps rfl) A.sm) fun H1 e1 => ?_
  rw [List.length_map]
  refine q_while (fun n σ H' => Ex H H' ∧ σ = [some (.ref L.t), some (.int (m : Int)), some (.int (n : Int))] ∧ n ≤ Tr.stamps.length ∧ ∀ i x, Tr.stamps[i]? = some x → n ≤ i → m ≤ x) Tr.stamps.length ⟨e1, rfl, Nat.le_refl _, fun i x hx hi => ?_⟩ fun n σ H' hw => ?_
  · have := (List.getElem?_eq_some_iff.mp hx).1
    omega
  · obtain ⟨eH, rfl, hn, hi⟩ := hw
    have A' := A.ex eH
    cases n with
    | zero =>
      refine ⟨false, et_and (a := false) (b := true) (et_is (et_B (ev_cmp (ev_var rfl) ev_c)) (by simp)) (fun z => nomatch z), (fun z => nomatch z), fun _ H2 e2 => s_ret (ev_var rfl) fun H3 e3 => k H3 0 ((eH.trans e2).trans e3) (Nat.zero_le _) fun i x hx => ?_⟩
      have := hi i x hx (Nat.zero_le _)
      omega
    | succ n =>
      obtain ⟨y, hy⟩ : ∃ y, Tr.stamps[n]? = some y := ⟨_, List.getElem?_eq_getElem (by omega)⟩
      have e0 : ((n + 1 : Nat) : Int) - 1 = (n : Int) := by omega
      refine ⟨decide (m ≤ y), et_is (et_and (a := true) (b := decide (m ≤ y)) (et_is (et_B (ev_cmp (ev_var rfl) ev_c)) (decide_eq_true (by omega))) fun _ => et_is (et_B (ev_cmp (ev_ixL (j := n) (ev_fld (ev_var rfl) A'.ob T.cl_Trail T.no_Trail_stamps rfl) (ev_is (ev_sub (ev_var rfl) ev_c) (by rw [e0])) A'.sm (by rw [List.getElem?_map, hy]; rfl)) (ev_var rfl))) ?_) (Bool.true_and _), fun hb H2 e2 => ?_, fun hb H2 e2 => ?_⟩
      · rw [Bool.eq_iff_iff]
        simp
      · refine ⟨fun σ2 H3 => Ex H H3 ∧ σ2 = [some (.ref L.t), some (.int (m : Int)), some (.int (n : Int))], fun σ2 H3 ⟨e3, es⟩ => ⟨n, Nat.lt_succ_self _, e3, es, by omega, fun i x hx hle => ?_⟩, s_aug rfl ev_c fun H3 e3 => ⟨(eH.trans e2).trans e3, ?_⟩⟩
        · rcases Nat.lt_or_eq_of_le hle with q | q
          · exact hi i x hx q
          · subst q
            rw [hy] at hx
            cases hx
            exact of_decide_eq_true hb
        · show [_, _, some (V.int (((n + 1 : Nat) : Int) - 1))] = _
          rw [e0]
      · refine s_ret (ev_var rfl) fun H3 e3 => k H3 (n + 1) ((eH.trans e2).trans e3) hn fun i x hx => ⟨fun q => ?_, fun q => ?_⟩
        · have hy2 : y < m := Nat.lt_of_not_le (of_decide_eq_false hb)
          rcases Nat.lt_or_eq_of_le (Nat.le_of_lt_succ q) with q | q
          · have := (List.pairwise_iff_getElem.mp asc) i n (List.getElem?_eq_some_iff.mp hx).1 (List.getElem?_eq_some_iff.mp hy).1 q
            rw [(List.getElem?_eq_some_iff.mp hx).2, (List.getElem?_eq_some_iff.mp hy).2] at this
            omega
          · subst q
            rw [hy] at hx
            cases hx
            exact hy2
        · refine Nat.lt_of_not_le fun z => ?_
          have := hi i x hx z
          omega
theorem ok_Trail_length_before {P : Program} {w : World} {K : PySem.W.Frag} {mg : Str → Option Value} {base : Heap} (T : Tx K mg) : FnX P w K mg base 1 (He.fAd K ("Trail", some "length_before")) ps_Trail_length_before (sp_Trail_length_before K) := by
  obtain ⟨fd, F⟩ := T.fun_Trail_length_before
  refine ⟨fd, F.ok sc_Trail_length_before (fun vs H Q E h => len_Trail_length_before h) (fun cdv A outer s H vs Q E hr h => ⟨t_Trail_length_before K, PSs.nox (der_Trail_length_before T hr (hu_of hr)), pure_Trail_length_before T h⟩), F.bindsN fun _ _ _ _ _ _ us hl => match us, hl with | [_, _], _ => rfl⟩
/-! ### sizes -/
def cntEq (rows : List Row) (l : Nat) : Nat := rows.countP fun r => decide (r.lev = l)
def sp_Trail_sizes (K : PySem.W.Frag) : Sp := fun vs H Q _ => ∃ (L : TL) (T : Tr), vs = [.ref L.t] ∧ TAt (CT K) L T H ∧ (∀ r ∈ T.rows, r.lev ≤ T.depth) ∧ T.depth ≤ 1000 ∧
  ∀ p H', H p = none → Ex H H' → H' p = some (.lst ((List.range (T.depth + 1)).map fun l => V.int (cntEq T.rows l : Nat))) → Q (.ref p) H'
abbrev N_Trail_sizes : List Str := ["self", "bounds", "level"]
theorem sc_Trail_sizes : FnScope N_Trail_sizes ["self"] (defScope s_Trail_sizes) := ⟨rfl, rfl, rfl, by decide +kernel, rfl, by decide +kernel, by decide +kernel⟩
def t_Trail_sizes (K : PySem.W.Frag) : TS := (tSeq (tAsg (tOp rCat (tOp rCat (tLst (tCons (tC (.int 0)) tNil)) (tFld K (tVar 0) "_starts")) (tLst (tCons (tCB (rLenS K) (tCons (tFld K (tVar 0) "_order") tNil)) tNil))) (gName 1))
    (tRet (tLc (iRng1 (tCons (tOp rSubR (tCB (rLenS K) (tCons (tVar 1) tNil)) (tC (.int 1))) tNil)) (gName 2) tYes (tOp rSubR (tOp (rIxL K) (tVar 1) (tOp rAddR (tVar 2) (tC (.int 1)))) (tOp (rIxL K) (tVar 1) (tVar 2))) [2])))
set_option maxHeartbeats 4000000 in
theorem der_Trail_sizes {P : Program} {w : World} {K : PySem.W.Frag} {mg : Str → Option Value} {base : Heap} {f : Addr} {cdv : Value} {A : Around} {outer : List Env} {s : Shared} {H : Hp} {E : XK} (T : Tx K mg) (hr : Room 0 (A.deeper (envOfC "Trail.sizes" (defScope s_Trail_sizes) s.heap.objs.size f cdv))) (hu : (A.deeper (envOfC "Trail.sizes" (defScope s_Trail_sizes) s.heap.objs.size f cdv)).units + 1 < cLine) :
    PSs (cxOf CX0 P w K mg base N_Trail_sizes "Trail.sizes" (defScope s_Trail_sizes) f cdv A outer s H E).nox (defBody s_Trail_sizes) (t_Trail_sizes K) := by
  exact (pss_cons (ps_set (i := 1) sc_Trail_sizes.nd rfl (Or.inr rfl) (pe_op op_cat (pe_op op_cat (pe_lst (pa_cons pe_int pa_nil)) (pe_fld (pv 0) rfl)) (pe_lst (pa_cons (pe_callB call_len_seq rfl T.f_len bt_len (pa_cons (pe_fld (pv 0) rfl) pa_nil)) pa_nil))))
    (pss_one (ps_ret (pe_lc (own := [("level", 2)]) (g := gName 2) rfl sc_Trail_sizes.nd (pi_range1 rfl T.f_range (pa_cons (pe_op op_sub (pe_callB call_len_seq rfl T.f_len bt_len (pa_cons (pv 1) pa_nil)) pe_int) pa_nil)) (blkOk_by (N := N_Trail_sizes) (sc := defScope s_Trail_sizes) (by decide +kernel)) (fun _ _ _ _ _ => pg_name (i := 2) sc_Trail_sizes.nd rfl (Or.inl rfl)) (fun _ _ _ _ _ => pts_nil) (fun _ _ _ _ _ => (pe_op op_sub (pe_ix ix_list (pv 1) (pe_op op_add (pv 2) pe_int) (fun _ _ => rfl)) (pe_ix ix_list (pv 1) (pv 2) (fun _ _ => rfl))))))))
theorem len_Trail_sizes (h : sp_Trail_sizes K vs H Q E) : vs.length = 1 := by
  obtain ⟨_, _, rfl, _⟩ := h
  rfl
theorem cnt_split (rows : List Row) (l : Nat) : cntLe rows (l + 1) = cntLe rows l + cntEq rows (l + 1) := by
  unfold cntLe cntEq
  induction rows with
  | nil => rfl
  | cons r rs ih =>
    simp only [List.countP_cons, ih, decide_eq_true_eq]
    by_cases h1 : r.lev ≤ l
    · rw [if_pos h1, if_pos (show r.lev ≤ l + 1 by omega), if_neg (show ¬ r.lev = l + 1 by omega)]
      omega
    · by_cases h2 : r.lev = l + 1
      · rw [if_neg h1, if_pos (show r.lev ≤ l + 1 by omega), if_pos h2]
        omega
      · rw [if_neg h1, if_neg (show ¬ r.lev ≤ l + 1 by omega), if_neg h2]
        omega
theorem cnt_zero (rows : List Row) : cntLe rows 0 = cntEq rows 0 := by
  unfold cntLe cntEq
  apply List.countP_congr
  intro r _
  simp
theorem pure_Trail_sizes (T : Tx K mg) (h : sp_Trail_sizes K vs H Q E) : t_Trail_sizes K { nx := fun _ H' => Q .non H', rt := Q } (start N_Trail_sizes vs) H := by
  obtain ⟨L, Tr, rfl, A, hle, hd, k⟩ := h
  refine q_asgL (el_catL (el_cat (el_lst (ea_cons ev_c ea_nil) (by simp)) (ev_fld (ev_var rfl) A.ob T.cl_Trail T.no_Trail_starts rfl) A.sa (by rw [List.length_map, starts_len]; simp; omega)) (el_lst (ea_cons (ev_lenL (ev_fld (ev_var rfl) A.ob T.cl_Trail T.no_Trail_order rfl) A.od) ea_nil) (by simp)) (by
      rw [List.length_append, List.length_map, starts_len]; simp; omega)) fun p H1 hp e1 h1 => ?_
  have hbl : (([V.int 0] ++ Tr.starts.map fun n : Nat => V.int (n : Int)) ++ [V.int ((Tr.rows.map fun r => V.int r.lit).length : Nat)]).length = Tr.depth + 2 := by
    rw [List.length_append, List.length_append, List.length_map, starts_len]; simp; omega
  have hat : ∀ l, l ≤ Tr.depth → (([V.int 0] ++ Tr.starts.map fun n : Nat => V.int (n : Int)) ++ [V.int ((Tr.rows.map fun r => V.int r.lit).length : Nat)])[l + 1]? = some (V.int (cntLe Tr.rows l : Nat)) := fun l hl => by
    rcases Nat.lt_or_eq_of_le hl with q | q
    · rw [List.getElem?_append_left (by rw [List.length_append, List.length_map, starts_len]; simp; omega)]
      show (Tr.starts.map fun n : Nat => V.int (n : Int))[l]? = _
      rw [List.getElem?_map, starts_get q]
      rfl
    · subst q
      rw [List.getElem?_append_right (by rw [List.length_append, List.length_map, starts_len]; simp; omega), cntLe_all hle]
      simp only [List.length_append, List.length_map, starts_len, List.length_cons, List.length_nil]
      have e : Tr.depth + 1 - (0 + 1 + Tr.depth) = 0 := by omega
      rw [e]
      rfl
  have eN : (((([V.int 0] ++ Tr.starts.map fun n : Nat => V.int (n : Int)) ++ [V.int ((Tr.rows.map fun r => V.int r.lit).length : Nat)]).length : Nat) : Int) - 1 = ((Tr.depth + 1 : Nat) : Int) := by rw [hbl]; omega
  refine s_retL (el_lcR1 (n := ((Tr.depth + 1 : Nat) : Int)) (fun _ => true) (fun l => V.int (cntEq Tr.rows l : Nat)) (ea_cons (ev_is (ev_sub (ev_lenL (ev_var rfl) h1) ev_c) (by rw [eN])) ea_nil) ⟨by omega, by omega⟩ (fun x => rfl) (fun i H2 e2 hi => et_yes) fun i H2 e2 hi _ => ?_) fun p2 H2 hp2 e2 h2 => k p2 H2 (fresh_back e1 hp2) (e1.trans e2) ?_
  · have hi' : i ≤ Tr.depth := by omega
    have b1 : (([V.int 0] ++ Tr.starts.map fun n : Nat => V.int (n : Int)) ++ [V.int ((Tr.rows.map fun r => V.int r.lit).length : Nat)])[i]? = some (V.int (((cntLe Tr.rows i : Nat) : Int) - (cntEq Tr.rows i : Nat))) := by
      cases i with
      | zero =>
        rw [cnt_zero]
        have e : ((cntEq Tr.rows 0 : Nat) : Int) - (cntEq Tr.rows 0 : Nat) = 0 := by omega
        rw [e]
        rfl
      | succ i =>
        rw [hat i (by omega), cnt_split]
        have e : ((cntLe Tr.rows i + cntEq Tr.rows (i + 1) : Nat) : Int) - (cntEq Tr.rows (i + 1) : Nat) = (cntLe Tr.rows i : Nat) := by omega
        rw [e]
    refine ev_is (ev_sub (ev_ixL (j := i + 1) (ev_var rfl) (ev_is (ev_add (ev_var rfl) ev_c) (by rfl)) (e2 p _ h1) (hat i hi')) (ev_ixL (j := i) (ev_var rfl) (ev_var rfl) (e2 p _ h1) b1)) ?_
    congr 1
    omega
  · rw [h2, given_all]
    rfl
theorem ok_Trail_sizes {P : Program} {w : World} {K : PySem.W.Frag} {mg : Str → Option Value} {base : Heap} (T : Tx K mg) : FnX P w K mg base 1 (He.fAd K ("Trail", some "sizes")) ps_Trail_sizes (sp_Trail_sizes K) := by
  obtain ⟨fd, F⟩ := T.fun_Trail_sizes
  refine ⟨fd, F.ok sc_Trail_sizes (fun vs H Q E h => len_Trail_sizes h) (fun cdv A outer s H vs Q E hr h => ⟨t_Trail_sizes K, PSs.nox (der_Trail_sizes T hr (hu_of hr)), pure_Trail_sizes T h⟩), F.bindsN fun _ _ _ _ _ _ us hl => match us, hl with | [_], _ => rfl⟩
end
end TW

set_option Elab.async false
set_option linter.all false
set_option maxRecDepth 100000
set_option maxHeartbeats 1000000
namespace TW
open PySem PySem.Spec PyProof.Rows L2 Evl
/-! ### statements that store -/
section
variable {K : PySem.W.Frag} {σ : L2.St} {H : Hp} {ta tv td ty : TE} {v : V} {a C dx : Addr} {fs : List (Str × V)} {f : Str} {kvs : List (Key × V)} {k : Key} {D : Ends} {tz : TS}
theorem s_fld (hv : Ev tv σ H v) (ha : Ev ta σ H (.ref a)) (ho : H a = some (.ins C dx fs)) (hc : Cls K C) (hn : NoAttr K C f) (hl : fs.length < 1000) (q : ∀ H1, Ex H H1 → D.nx σ (upd H1 a (.ins C dx (putF f v fs)))) : sFld K ta tv f D σ H :=
  hv H (Ex.refl H) _ fun H1 e1 => ha H1 e1 _ fun H2 e2 => ⟨a, C, dx, fs, rfl, (e1.trans e2) a _ ho, hc, hn, hl, q H2 (e1.trans e2)⟩
theorem q_fld (hv : Ev tv σ H v) (ha : Ev ta σ H (.ref a)) (ho : H a = some (.ins C dx fs)) (hc : Cls K C) (hn : NoAttr K C f) (hl : fs.length < 1000) (q : ∀ H1, Ex H H1 → tz D σ (upd H1 a (.ins C dx (putF f v fs)))) : tSeq (sFld K ta tv f) tz D σ H :=
  s_fld (D := { D with nx := tz D }) hv ha ho hc hn hl q
theorem s_fldL {xs : List V} (hv : EvL tv σ H xs) (ha : Ev ta σ H (.ref a)) (ho : H a = some (.ins C dx fs)) (hc : Cls K C) (hn : NoAttr K C f) (hl : fs.length < 1000)
    (q : ∀ p H1, H p = none → Ex H H1 → H1 p = some (.lst xs) → D.nx σ (upd H1 a (.ins C dx (putF f (.ref p) fs)))) : sFld K ta tv f D σ H :=
  hv H (Ex.refl H) _ fun p H1 hp e1 h1 => ha H1 e1 _ fun H2 e2 => ⟨a, C, dx, fs, rfl, (e1.trans e2) a _ ho, hc, hn, hl, q p H2 hp (e1.trans e2) (e2 p _ h1)⟩
theorem q_fldL {xs : List V} (hv : EvL tv σ H xs) (ha : Ev ta σ H (.ref a)) (ho : H a = some (.ins C dx fs)) (hc : Cls K C) (hn : NoAttr K C f) (hl : fs.length < 1000)
    (q : ∀ p H1, H p = none → Ex H H1 → H1 p = some (.lst xs) → tz D σ (upd H1 a (.ins C dx (putF f (.ref p) fs)))) : tSeq (sFld K ta tv f) tz D σ H := s_fldL (D := { D with nx := tz D }) hv ha ho hc hn hl q
theorem q_dputU {xs : List V} (hv : EvU tv σ H xs) (hd : Ev td σ H (.ref a)) (hy : Ev ty σ H (kV k)) (h : H a = some (.dK kvs)) (hl : kvs.length < 100000)
    (q : ∀ p H1, H p = none → Ex H H1 → H1 p = some (.tup xs) → tz D σ (upd H1 a (.dK (putK kvs k (.ref p))))) : tSeq (sDPut td ty tv) tz D σ H :=
  hv H (Ex.refl H) _ fun p H1 hp e1 h1 => hd H1 e1 _ fun H2 e2 => hy H2 (e1.trans e2) _ fun H3 e3 => ⟨a, _, rfl, DPut.k (((e1.trans e2).trans e3) a _ h) (sz_lt hl), q p H3 hp ((e1.trans e2).trans e3) (e3 p _ (e2 p _ h1))⟩
theorem s_dput (hv : Ev tv σ H v) (hd : Ev td σ H (.ref a)) (hy : Ev ty σ H (kV k)) (h : H a = some (.dK kvs)) (hl : kvs.length < 100000)
    (q : ∀ H1, Ex H H1 → D.nx σ (upd H1 a (.dK (putK kvs k v)))) : sDPut td ty tv D σ H :=
  hv H (Ex.refl H) _ fun H1 e1 => hd H1 e1 _ fun H2 e2 => hy H2 (e1.trans e2) _ fun H3 e3 => ⟨a, _, rfl, DPut.k (((e1.trans e2).trans e3) a _ h) (sz_lt hl), q H3 ((e1.trans e2).trans e3)⟩
theorem s_ddel (hd : Ev td σ H (.ref a)) (hy : Ev ty σ H (kV k)) (h : H a = some (.dK kvs)) (hk : (valV kvs k).isSome = true) (q : ∀ H1, Ex H H1 → D.nx σ (upd H1 a (.dK (dropK kvs k)))) : sDDel td ty D σ H :=
  hd H (Ex.refl H) _ fun H1 e1 => hy H1 e1 _ fun H2 e2 => ⟨a, kvs, k, rfl, (e1.trans e2) a _ h, rfl, hk, q H2 (e1.trans e2)⟩
theorem s_augI {i j : Int} (ha : Ev ta σ H (.ref a)) (ho : H a = some (.ins C dx fs)) (hc : Cls K C) (hn : NoAttr K C f) (hf : fs.lookup f = some (.int i)) (hv : Ev tv σ H (.int j)) (hl : fs.length < 1000)
    (q : ∀ H1, Ex H H1 → D.nx σ (upd H1 a (.ins C dx (putF f (.int (i + j)) fs)))) : sFldAug K ta tv rAdd f D σ H :=
  ha H (Ex.refl H) _ fun H1 e1 => ⟨a, C, dx, fs, _, rfl, e1 a _ ho, hc, hn, hf, hv H1 e1 _ fun H2 e2 => ⟨i, j, rfl, rfl, dx, fs, (e1.trans e2) a _ ho, hl, q H2 (e1.trans e2)⟩⟩
end
/-! ### the trail's objects with any contents -/
structure TRaw (C : Addr) (L : TL) (mk : Int) (kn : List (Key × V)) (od : List V) (sd : List (Key × V)) (sa sm : List V) (H : Hp) : Prop where
  ob : H L.t = some (.ins C L.dx (tFs L mk))
  kn : H L.kn = some (.dK kn)
  od : H L.od = some (.lst od)
  sd : H L.sd = some (.dK sd)
  sa : H L.sa = some (.lst sa)
  sm : H L.sm = some (.lst sm)
  n1 : L.kn ≠ L.sd
  n2 : L.od ≠ L.sa
  n3 : L.od ≠ L.sm
  n4 : L.sa ≠ L.sm
section
variable {C : Addr} {L : TL} {T : Tr} {H H' : Hp} {mk : Int} {kn sd : List (Key × V)} {od sa sm : List V}
theorem TAt.raw (A : TAt C L T H) : ∃ kvs, TRaw C L T.made (knK T.known) (T.rows.map fun r => .int r.lit) kvs (T.starts.map fun n : Nat => V.int (n : Int)) (T.stamps.map fun n : Nat => V.int (n : Int)) H ∧ RowsK H 0 T.rows kvs := by
  obtain ⟨kvs, hs, hk⟩ := A.sd
  exact ⟨kvs, ⟨A.ob, A.kn, A.od, hs, A.sa, A.sm, A.n1, A.n2, A.n3, A.n4⟩, hk⟩
theorem TRaw.at {kvs : List (Key × V)} (R : TRaw C L T.made (knK T.known) (T.rows.map fun r => .int r.lit) kvs (T.starts.map fun n : Nat => V.int (n : Int)) (T.stamps.map fun n : Nat => V.int (n : Int)) H) (hk : RowsK H 0 T.rows kvs) : TAt C L T H :=
  ⟨R.ob, R.kn, R.od, ⟨kvs, R.sd, hk⟩, R.sa, R.sm, R.n1, R.n2, R.n3, R.n4⟩
theorem TRaw.ex (R : TRaw C L mk kn od sd sa sm H) (e : Ex H H') : TRaw C L mk kn od sd sa sm H' := ⟨e _ _ R.ob, e _ _ R.kn, e _ _ R.od, e _ _ R.sd, e _ _ R.sa, e _ _ R.sm, R.n1, R.n2, R.n3, R.n4⟩
theorem ne_il {a b C dx : Addr} {fs : List (Str × V)} {xs : List V} (h : H a = some (.ins C dx fs)) (h' : H b = some (.lst xs)) : a ≠ b := ne_of h h' (fun z => nomatch z)
theorem ne_id {a b C dx : Addr} {fs : List (Str × V)} {xs : List (Key × V)} (h : H a = some (.ins C dx fs)) (h' : H b = some (.dK xs)) : a ≠ b := ne_of h h' (fun z => nomatch z)
theorem ne_dl {a b : Addr} {ys : List (Key × V)} {xs : List V} (h : H a = some (.dK ys)) (h' : H b = some (.lst xs)) : a ≠ b := ne_of h h' (fun z => nomatch z)
theorem TRaw.setSd (R : TRaw C L mk kn od sd sa sm H) (sd' : List (Key × V)) : TRaw C L mk kn od sd' sa sm (upd H L.sd (.dK sd')) :=
  ⟨by rw [upd_ne (ne_id R.ob R.sd)]; exact R.ob, by rw [upd_ne R.n1]; exact R.kn, by rw [upd_ne (ne_dl R.sd R.od).symm]; exact R.od, upd_same, by rw [upd_ne (ne_dl R.sd R.sa).symm]; exact R.sa, by rw [upd_ne (ne_dl R.sd R.sm).symm]; exact R.sm, R.n1, R.n2, R.n3, R.n4⟩
theorem TRaw.setOd (R : TRaw C L mk kn od sd sa sm H) (od' : List V) : TRaw C L mk kn od' sd sa sm (upd H L.od (.lst od')) :=
  ⟨by rw [upd_ne (ne_il R.ob R.od)]; exact R.ob, by rw [upd_ne (ne_dl R.kn R.od)]; exact R.kn, upd_same, by rw [upd_ne (ne_dl R.sd R.od)]; exact R.sd, by rw [upd_ne R.n2.symm]; exact R.sa, by rw [upd_ne R.n3.symm]; exact R.sm, R.n1, R.n2, R.n3, R.n4⟩
theorem TRaw.setSa (R : TRaw C L mk kn od sd sa sm H) (sa' : List V) : TRaw C L mk kn od sd sa' sm (upd H L.sa (.lst sa')) :=
  ⟨by rw [upd_ne (ne_il R.ob R.sa)]; exact R.ob, by rw [upd_ne (ne_dl R.kn R.sa)]; exact R.kn, by rw [upd_ne R.n2]; exact R.od, by rw [upd_ne (ne_dl R.sd R.sa)]; exact R.sd, upd_same, by rw [upd_ne R.n4.symm]; exact R.sm, R.n1, R.n2, R.n3, R.n4⟩
theorem TRaw.setSm (R : TRaw C L mk kn od sd sa sm H) (sm' : List V) : TRaw C L mk kn od sd sa sm' (upd H L.sm (.lst sm')) :=
  ⟨by rw [upd_ne (ne_il R.ob R.sm)]; exact R.ob, by rw [upd_ne (ne_dl R.kn R.sm)]; exact R.kn, by rw [upd_ne R.n3]; exact R.od, by rw [upd_ne (ne_dl R.sd R.sm)]; exact R.sd, by rw [upd_ne R.n4]; exact R.sa, upd_same, R.n1, R.n2, R.n3, R.n4⟩
theorem TRaw.setMk (R : TRaw C L mk kn od sd sa sm H) (mk' : Int) : TRaw C L mk' kn od sd sa sm (upd H L.t (.ins C L.dx (tFs L mk'))) :=
  ⟨upd_same, by rw [upd_ne (ne_id R.ob R.kn).symm]; exact R.kn, by rw [upd_ne (ne_il R.ob R.od).symm]; exact R.od, by rw [upd_ne (ne_id R.ob R.sd).symm]; exact R.sd, by rw [upd_ne (ne_il R.ob R.sa).symm]; exact R.sa, by rw [upd_ne (ne_il R.ob R.sm).symm]; exact R.sm, R.n1, R.n2, R.n3, R.n4⟩
theorem TRaw.ptOd (R : TRaw C L mk kn od sd sa sm H) {p : Addr} {xs : List V} (hp : H p = some (.lst xs)) (n2 : p ≠ L.sa) (n3 : p ≠ L.sm) : TRaw C { L with od := p } mk kn xs sd sa sm (upd H L.t (.ins C L.dx (putF "_order" (.ref p) (tFs L mk)))) :=
  ⟨upd_same, by rw [upd_ne (ne_id R.ob R.kn).symm]; exact R.kn, by rw [upd_ne (ne_il R.ob hp).symm]; exact hp, by rw [upd_ne (ne_id R.ob R.sd).symm]; exact R.sd, by rw [upd_ne (ne_il R.ob R.sa).symm]; exact R.sa, by rw [upd_ne (ne_il R.ob R.sm).symm]; exact R.sm, R.n1, n2, n3, R.n4⟩
theorem TRaw.ptSm (R : TRaw C L mk kn od sd sa sm H) {p : Addr} {xs : List V} (hp : H p = some (.lst xs)) (n3 : L.od ≠ p) (n4 : L.sa ≠ p) : TRaw C { L with sm := p } mk kn od sd sa xs (upd H L.t (.ins C L.dx (putF "_stamps" (.ref p) (tFs L mk)))) :=
  ⟨upd_same, by rw [upd_ne (ne_id R.ob R.kn).symm]; exact R.kn, by rw [upd_ne (ne_il R.ob R.od).symm]; exact R.od, by rw [upd_ne (ne_id R.ob R.sd).symm]; exact R.sd, by rw [upd_ne (ne_il R.ob R.sa).symm]; exact R.sa, by rw [upd_ne (ne_il R.ob hp).symm]; exact hp, R.n1, R.n2, n3, n4⟩
theorem TRaw.ptSa (R : TRaw C L mk kn od sd sa sm H) {p : Addr} {xs : List V} (hp : H p = some (.lst xs)) (n2 : L.od ≠ p) (n4 : p ≠ L.sm) : TRaw C { L with sa := p } mk kn od sd xs sm (upd H L.t (.ins C L.dx (putF "_starts" (.ref p) (tFs L mk)))) :=
  ⟨upd_same, by rw [upd_ne (ne_id R.ob R.kn).symm]; exact R.kn, by rw [upd_ne (ne_il R.ob R.od).symm]; exact R.od, by rw [upd_ne (ne_id R.ob R.sd).symm]; exact R.sd, by rw [upd_ne (ne_il R.ob hp).symm]; exact hp, by rw [upd_ne (ne_il R.ob R.sm).symm]; exact R.sm, R.n1, n2, R.n3, n4⟩
/-! the part of the heap that is the trail's -/
theorem TRaw.sSd (R : TRaw C L mk kn od sd sa sm H) {o : HO} : Stp L.In L.In H (upd H L.sd o) := Stp.upd (.inr (.inr (.inr (.inl rfl)))) (nt_dK R.sd)
theorem TRaw.sOd (R : TRaw C L mk kn od sd sa sm H) {o : HO} : Stp L.In L.In H (upd H L.od o) := Stp.upd (.inr (.inr (.inl rfl))) (nt_lst R.od)
theorem TRaw.sSa (R : TRaw C L mk kn od sd sa sm H) {o : HO} : Stp L.In L.In H (upd H L.sa o) := Stp.upd (.inr (.inr (.inr (.inr (.inl rfl))))) (nt_lst R.sa)
theorem TRaw.sSm (R : TRaw C L mk kn od sd sa sm H) {o : HO} : Stp L.In L.In H (upd H L.sm o) := Stp.upd (.inr (.inr (.inr (.inr (.inr rfl))))) (nt_lst R.sm)
theorem TRaw.sOb (R : TRaw C L mk kn od sd sa sm H) {o : HO} : Stp L.In L.In H (upd H L.t o) := Stp.upd (.inl rfl) (nt_ins R.ob)
theorem Stp.newer {F F' : Addr → Prop} {H1 : Hp} {p : Addr} (s : Stp F F H1 H') (e : Ex H H1) (hp : H p = none) (h : ∀ a, F' a → F a ∨ a = p) : Stp F F' H H' :=
  ⟨fun a o q nf => s.keep a o (e a o q) nf, fun a xs q => s.tups a xs (e a _ q), fun a f => (h a f).elim .inl fun z => .inr (z ▸ hp)⟩
theorem RowsK.snoc {a : Addr} {r : Row} : ∀ {i : Nat} {rows : List Row} {kvs : List (Key × V)}, RowsK H i rows kvs → H a = some (.tup [.int r.lit, .int (r.lev : Int), rsV r.rs, .int ((i + rows.length : Nat) : Int)]) → RowsK H i (rows ++ [r]) (kvs ++ [(.inl r.ab, .ref a)])
  | i, [], kvs, k, h => by
    have e : kvs = [] := k
    subst e
    exact ⟨a, [], rfl, h, rfl⟩
  | i, q :: rs, kvs, ⟨b, rest, e, hb, k⟩, h => by
    subst e
    refine ⟨b, rest ++ [(.inl r.ab, .ref a)], rfl, hb, RowsK.snoc k ?_⟩
    rw [h]
    have e2 : i + (q :: rs).length = i + 1 + rs.length := by rw [List.length_cons]; omega
    rw [e2]
theorem RowsK.len : ∀ {i : Nat} {rows : List Row} {kvs : List (Key × V)}, RowsK H i rows kvs → kvs.length = rows.length
  | _, [], kvs, k => by
    have e : kvs = [] := k
    subst e
    rfl
  | i, q :: rs, kvs, ⟨b, rest, e, hb, k⟩ => by
    subst e
    exact congrArg (· + 1) k.len
theorem RowsK.keys : ∀ {i : Nat} {rows : List Row} {kvs : List (Key × V)}, RowsK H i rows kvs → kvs.map (·.1) = rows.map fun r => (Sum.inl r.ab : Key)
  | _, [], kvs, k => by
    have e : kvs = [] := k
    subst e
    rfl
  | i, q :: rs, kvs, ⟨b, rest, e, hb, k⟩ => by
    subst e
    show (Sum.inl q.ab : Key) :: rest.map (·.1) = _
    rw [k.keys]
    rfl
theorem RowsK.take : ∀ {n i : Nat} {rows : List Row} {kvs : List (Key × V)}, RowsK H i rows kvs → RowsK H i (rows.take n) (kvs.take n)
  | 0, _, _, _, _ => rfl
  | n + 1, _, [], kvs, k => by
    have e : kvs = [] := k
    subst e
    rfl
  | n + 1, i, q :: rs, kvs, ⟨b, rest, e, hb, k⟩ => by
    subst e
    exact ⟨b, rest.take n, rfl, hb, k.take⟩
theorem RowsK.none {x : Int} {i : Nat} {rows : List Row} {kvs : List (Key × V)} (k : RowsK H 0 rows kvs) (h : look rows x = none) : valV kvs (Sum.inl (x.natAbs : Int)) = none := by
  have z := k.get (x := x)
  unfold look at h
  rw [h] at z
  exact z
end
section
variable {K : PySem.W.Frag} {mg : Str → Option Value} {vs : List V} {H : Hp} {Q : VK} {E : XK}
/-! ### _put_on -/
def sp_Trailput_on (K : PySem.W.Frag) : Sp := fun vs H Q _ => ∃ (L : TL) (T : Tr) (x : Int) (rs : Option Nat), vs = [.ref L.t, .int x, rsV rs] ∧ TAt (CT K) L T H ∧ T.rows.length ≤ 1000 ∧ T.stamps.length ≤ 1000 ∧ look T.rows x = none ∧
  ∀ H', TAt (CT K) L (T.put x rs) H' → Stp L.In L.In H H' → Q .non H'
abbrev N_Trailput_on : List Str := ["self", "literal", "reason"]
theorem sc_Trailput_on : FnScope N_Trailput_on ["self", "literal", "reason"] (defScope s_Trailput_on) := ⟨rfl, rfl, rfl, by decide +kernel, rfl, by decide +kernel, by decide +kernel⟩
def t_Trailput_on (K : PySem.W.Frag) : TS := (tSeq (sDPut (tFld K (tVar 0) "_state") (tCB rAbsR (tCons (tVar 1) tNil)) (tTup (tCons (tVar 1) (tCons (tCB (rLenS K) (tCons (tFld K (tVar 0) "_starts") tNil)) (tCons (tVar 2) (tCons (tCB (rLenS K) (tCons (tFld K (tVar 0) "_order") tNil)) tNil))))))
    (tSeq (tDrop (tBM K "list" rAppend (tFld K (tVar 0) "_order") (tCons (tVar 1) tNil)))
    (tSeq (tDrop (tBM K "list" rAppend (tFld K (tVar 0) "_stamps") (tCons (tFld K (tVar 0) "_made") tNil)))
    (sFldAug K (tVar 0) (tC (.int 1)) rAdd "_made"))))
set_option maxHeartbeats 4000000 in
theorem der_Trailput_on {P : Program} {w : World} {K : PySem.W.Frag} {mg : Str → Option Value} {base : Heap} {f : Addr} {cdv : Value} {A : Around} {outer : List Env} {s : Shared} {H : Hp} {E : XK} (T : Tx K mg) (hr : Room 0 (A.deeper (envOfC "Trail._put_on" (defScope s_Trailput_on) s.heap.objs.size f cdv))) (hu : (A.deeper (envOfC "Trail._put_on" (defScope s_Trailput_on) s.heap.objs.size f cdv)).units + 1 < cLine) :
    PSs (cxOf CX0 P w K mg base N_Trailput_on "Trail._put_on" (defScope s_Trailput_on) f cdv A outer s H E).nox (defBody s_Trailput_on) (t_Trailput_on K) := by
  exact (pss_cons (ps_dput hu (pe_fld (pv 0) rfl) (pe_callB call_abs rfl T.f_abs bt_abs (pa_cons (pv 1) pa_nil)) (pe_tup (pa_cons (pv 1) (pa_cons (pe_callB call_len_seq rfl T.f_len bt_len (pa_cons (pe_fld (pv 0) rfl) pa_nil)) (pa_cons (pv 2) (pa_cons (pe_callB call_len_seq rfl T.f_len bt_len (pa_cons (pe_fld (pv 0) rfl) pa_nil)) pa_nil))))) rfl)
    (pss_cons (ps_expr (pe_bm PySem.F.plainAttrs_list PySem.F.slot_list_append PySem.F.type_list_append mt_append (pe_fld (pv 0) rfl) (pa_cons (pv 1) pa_nil)))
    (pss_cons (ps_expr (pe_bm PySem.F.plainAttrs_list PySem.F.slot_list_append PySem.F.type_list_append mt_append (pe_fld (pv 0) rfl) (pa_cons (pe_fld (pv 0) rfl) pa_nil)))
    (pss_one (ps_fldaug (pv 0) pe_int in_add)))))
theorem len_Trailput_on (h : sp_Trailput_on K vs H Q E) : vs.length = 3 := by
  obtain ⟨_, _, _, _, rfl, _⟩ := h
  rfl
theorem pure_Trailput_on (T : Tx K mg) (h : sp_Trailput_on K vs H Q E) : t_Trailput_on K { nx := fun _ H' => Q .non H', rt := Q } (start N_Trailput_on vs) H := by
  obtain ⟨L, Tr, x, rs, rfl, A, hr, hst, hn, k⟩ := h
  obtain ⟨kvs, R, hk⟩ := A.raw
  have hlen := hk.len
  refine q_dputU (k := Sum.inl (x.natAbs : Int)) (eu_tup (ea_cons (ev_var rfl) (ea_cons (ev_lenL (ev_fld (ev_var rfl) R.ob T.cl_Trail T.no_Trail_starts rfl) R.sa) (ea_cons (ev_var rfl) (ea_cons (ev_lenL (ev_fld (ev_var rfl) R.ob T.cl_Trail T.no_Trail_order rfl) R.od) ea_nil)))) (by simp))
    (ev_fld (ev_var rfl) R.ob T.cl_Trail T.no_Trail_state rfl) (ev_abs (ev_var rfl)) R.sd (by omega) fun p H1 hp e1 h1 => ?_
  rw [putK_new _ (hk.none (i := 0) hn)]
  have R1 := (R.ex e1).setSd (kvs ++ [(Sum.inl (x.natAbs : Int), V.ref p)])
  have s1 : Stp L.In L.In H _ := Stp.pre e1 ((R.ex e1).sSd (o := .dK (kvs ++ [(Sum.inl (x.natAbs : Int), V.ref p)])))
  refine q_app R1.od (ev_fld (ev_var rfl) R1.ob T.cl_Trail T.no_Trail_order rfl) (ev_var rfl) (by rw [List.length_map]; omega) fun H2 e2 => ?_
  have R2 := (R1.ex e2).setOd (Tr.rows.map (fun r => V.int r.lit) ++ [.int x])
  have s2 := (s1.post e2).trans ((R1.ex e2).sOd (o := .lst (Tr.rows.map (fun r => V.int r.lit) ++ [.int x])))
  refine q_app R2.sm (ev_fld (ev_var rfl) R2.ob T.cl_Trail T.no_Trail_stamps rfl) (ev_fld (ev_var rfl) R2.ob T.cl_Trail T.no_Trail_made rfl) (by rw [List.length_map]; omega) fun H3 e3 => ?_
  have R3 := (R2.ex e3).setSm (Tr.stamps.map (fun n : Nat => V.int (n : Int)) ++ [.int Tr.made])
  have s3 := (s2.post e3).trans ((R2.ex e3).sSm (o := .lst (Tr.stamps.map (fun n : Nat => V.int (n : Int)) ++ [.int Tr.made])))
  refine s_augI (i := Tr.made) (j := 1) (ev_var rfl) R3.ob T.cl_Trail T.no_Trail_made rfl ev_c (by show 6 < 1000; decide) fun H4 e4 => ?_
  have R4 := (R3.ex e4).setMk (Tr.made + 1)
  have s4 := (s3.post e4).trans ((R3.ex e4).sOb (o := .ins (CT K) L.dx (tFs L (Tr.made + 1))))
  refine k _ (TRaw.at (T := Tr.put x rs) (kvs := kvs ++ [(Sum.inl (x.natAbs : Int), V.ref p)]) ?_ ?_) s4
  · rw [starts_put]
    have e5 : (Tr.put x rs).rows.map (fun r => V.int r.lit) = Tr.rows.map (fun r => V.int r.lit) ++ [.int x] := by
      show (Tr.rows ++ [_]).map _ = _
      rw [List.map_append]
      rfl
    have e6 : (Tr.put x rs).stamps.map (fun n : Nat => V.int (n : Int)) = Tr.stamps.map (fun n : Nat => V.int (n : Int)) ++ [.int Tr.made] := by
      show (Tr.stamps ++ [_]).map _ = _
      rw [List.map_append]
      rfl
    rw [e5, e6]
    exact R4
  · refine RowsK.snoc (r := ⟨x, Tr.depth, rs⟩) (hk.move s4.tups) ?_
    have s41 : Stp L.In L.In H1 _ := ((((R.ex e1).sSd (o := .dK (kvs ++ [(Sum.inl (x.natAbs : Int), V.ref p)]))).post e2).trans ((R1.ex e2).sOd (o := .lst (Tr.rows.map (fun r => V.int r.lit) ++ [.int x])))).post e3 |>.trans ((R2.ex e3).sSm (o := .lst (Tr.stamps.map (fun n : Nat => V.int (n : Int)) ++ [.int Tr.made]))) |>.post e4 |>.trans ((R3.ex e4).sOb (o := .ins (CT K) L.dx (tFs L (Tr.made + 1))))
    have z := s41.tups p _ h1
    rw [List.length_map, List.length_map, starts_len] at z
    rw [Nat.zero_add]
    exact z
theorem ok_Trailput_on {P : Program} {w : World} {K : PySem.W.Frag} {mg : Str → Option Value} {base : Heap} (T : Tx K mg) : FnX P w K mg base 1 (He.fAd K ("Trail", some "_put_on")) ps_Trailput_on (sp_Trailput_on K) := by
  obtain ⟨fd, F⟩ := T.fun_Trailput_on
  refine ⟨fd, F.ok sc_Trailput_on (fun vs H Q E h => len_Trailput_on h) (fun cdv A outer s H vs Q E hr h => ⟨t_Trailput_on K, PSs.nox (der_Trailput_on T hr (hu_of hr)), pure_Trailput_on T h⟩), F.bindsN fun _ _ _ _ _ _ us hl => match us, hl with | [_, _, _], _ => rfl⟩
/-! ### choose, force -/
def sp_Trail_force (K : PySem.W.Frag) : Sp := fun vs H Q _ => ∃ (L : TL) (T : Tr) (x : Int) (n : Nat), vs = [.ref L.t, .int x, .int (n : Int)] ∧ TAt (CT K) L T H ∧ T.Ok ∧ (x.natAbs : Int) ∈ T.known ∧ look T.rows x = none ∧
  ∀ H', TAt (CT K) L (T.put x (some n)) H' → Stp L.In L.In H H' → Q .non H'
def sp_Trail_choose (K : PySem.W.Frag) : Sp := fun vs H Q _ => ∃ (L : TL) (T : Tr) (x : Int), vs = [.ref L.t, .int x] ∧ TAt (CT K) L T H ∧ T.Ok ∧ T.depth ≤ 1000 ∧ (x.natAbs : Int) ∈ T.known ∧ look T.rows x = none ∧
  ∀ H', TAt (CT K) L (T.deeper.put x none) H' → Stp L.In L.In H H' → Q .non H'
abbrev N_Trail_force : List Str := ["self", "literal", "reason"]
theorem sc_Trail_force : FnScope N_Trail_force ["self", "literal", "reason"] (defScope s_Trail_force) := ⟨rfl, rfl, rfl, by decide +kernel, rfl, by decide +kernel, by decide +kernel⟩
def t_Trail_force (K : PySem.W.Frag) : TS := (tSeq (tDrop (tMeth (He.ga K "Trail") "_require_open" (sp_Trailrequire_open K) [] E0 (tVar 0) (tCons (tVar 1) tNil)))
    (tDrop (tMeth (He.ga K "Trail") "_put_on" (sp_Trailput_on K) [] E0 (tVar 0) (tCons (tVar 1) (tCons (tVar 2) tNil)))))
set_option maxHeartbeats 4000000 in
theorem der_Trail_force {P : Program} {w : World} {K : PySem.W.Frag} {mg : Str → Option Value} {base : Heap} {f : Addr} {cdv : Value} {A : Around} {outer : List Env} {s : Shared} {H : Hp} {E : XK} (T : Tx K mg) {fd_Trailrequire_open : FuncData} (F_Trailrequire_open : FnOk P w K mg base CX0 2 (He.fAd K ("Trail", some "_require_open")) fd_Trailrequire_open ps_Trailrequire_open (sp_Trailrequire_open K)) (B_Trailrequire_open : Binds K fd_Trailrequire_open ps_Trailrequire_open []) {fd_Trailput_on : FuncData} (F_Trailput_on : FnOk P w K mg base CX0 1 (He.fAd K ("Trail", some "_put_on")) fd_Trailput_on ps_Trailput_on (sp_Trailput_on K)) (B_Trailput_on : Binds K fd_Trailput_on ps_Trailput_on []) (hr : Room 2 (A.deeper (envOfC "Trail.force" (defScope s_Trail_force) s.heap.objs.size f cdv))) (hu : (A.deeper (envOfC "Trail.force" (defScope s_Trail_force) s.heap.objs.size f cdv)).units + 1 < cLine) :
    PSs (cxOf CX0 P w K mg base N_Trail_force "Trail.force" (defScope s_Trail_force) f cdv A outer s H E).nox (defBody s_Trail_force) (t_Trail_force K) := by
  exact (pss_cons (ps_expr (pe_meth (pv 0) T.cl_Trail T.m_Trailrequire_open F_Trailrequire_open (hr.mono (by decide)) B_Trailrequire_open .nil pass0 (pa_cons (pv 1) pa_nil)))
    (pss_one (ps_expr (pe_meth (pv 0) T.cl_Trail T.m_Trailput_on F_Trailput_on (hr.mono (by decide)) B_Trailput_on .nil pass0 (pa_cons (pv 1) (pa_cons (pv 2) pa_nil))))))
theorem len_Trail_force (h : sp_Trail_force K vs H Q E) : vs.length = 3 := by
  obtain ⟨_, _, _, _, rfl, _⟩ := h
  rfl
theorem pure_Trail_force (T : Tx K mg) (h : sp_Trail_force K vs H Q E) : t_Trail_force K { nx := fun _ H' => Q .non H', rt := Q } (start N_Trail_force vs) H := by
  obtain ⟨L, Tr, x, n, rfl, A, ok, hx, hn, k⟩ := h
  have hl := ok.weak.rl
  refine ⟨_, rfl, _, _, _, rfl, A.ob, rfl, _, rfl, L, Tr, x, rfl, A, hx, hn, fun H1 e1 => ?_⟩
  exact ⟨_, rfl, _, _, _, rfl, (A.ex e1).ob, rfl, _, rfl, _, rfl, L, Tr, x, some n, rfl, A.ex e1, by omega, by rw [ok.slen]; omega, hn, fun H2 A2 s2 => k H2 A2 (Stp.pre e1 s2)⟩
theorem ok_Trail_force {P : Program} {w : World} {K : PySem.W.Frag} {mg : Str → Option Value} {base : Heap} (T : Tx K mg) : FnX P w K mg base 3 (He.fAd K ("Trail", some "force")) ps_Trail_force (sp_Trail_force K) := by
  obtain ⟨_, F_Trailrequire_open, B_Trailrequire_open⟩ := ok_Trailrequire_open (P := P) (w := w) (base := base) T
  obtain ⟨_, F_Trailput_on, B_Trailput_on⟩ := ok_Trailput_on (P := P) (w := w) (base := base) T
  obtain ⟨fd, F⟩ := T.fun_Trail_force
  refine ⟨fd, F.ok sc_Trail_force (fun vs H Q E h => len_Trail_force h) (fun cdv A outer s H vs Q E hr h => ⟨t_Trail_force K, PSs.nox (der_Trail_force T F_Trailrequire_open B_Trailrequire_open F_Trailput_on B_Trailput_on hr (hu_of hr)), pure_Trail_force T h⟩), F.bindsN fun _ _ _ _ _ _ us hl => match us, hl with | [_, _, _], _ => rfl⟩
abbrev N_Trail_choose : List Str := ["self", "literal"]
theorem sc_Trail_choose : FnScope N_Trail_choose ["self", "literal"] (defScope s_Trail_choose) := ⟨rfl, rfl, rfl, by decide +kernel, rfl, by decide +kernel, by decide +kernel⟩
def t_Trail_choose (K : PySem.W.Frag) : TS := (tSeq (tDrop (tMeth (He.ga K "Trail") "_require_open" (sp_Trailrequire_open K) [] E0 (tVar 0) (tCons (tVar 1) tNil)))
    (tSeq (tDrop (tBM K "list" rAppend (tFld K (tVar 0) "_starts") (tCons (tCB (rLenS K) (tCons (tFld K (tVar 0) "_order") tNil)) tNil)))
    (tDrop (tMeth (He.ga K "Trail") "_put_on" (sp_Trailput_on K) [] E0 (tVar 0) (tCons (tVar 1) (tCons (tC .non) tNil))))))
set_option maxHeartbeats 4000000 in
theorem der_Trail_choose {P : Program} {w : World} {K : PySem.W.Frag} {mg : Str → Option Value} {base : Heap} {f : Addr} {cdv : Value} {A : Around} {outer : List Env} {s : Shared} {H : Hp} {E : XK} (T : Tx K mg) {fd_Trailrequire_open : FuncData} (F_Trailrequire_open : FnOk P w K mg base CX0 2 (He.fAd K ("Trail", some "_require_open")) fd_Trailrequire_open ps_Trailrequire_open (sp_Trailrequire_open K)) (B_Trailrequire_open : Binds K fd_Trailrequire_open ps_Trailrequire_open []) {fd_Trailput_on : FuncData} (F_Trailput_on : FnOk P w K mg base CX0 1 (He.fAd K ("Trail", some "_put_on")) fd_Trailput_on ps_Trailput_on (sp_Trailput_on K)) (B_Trailput_on : Binds K fd_Trailput_on ps_Trailput_on []) (hr : Room 2 (A.deeper (envOfC "Trail.choose" (defScope s_Trail_choose) s.heap.objs.size f cdv))) (hu : (A.deeper (envOfC "Trail.choose" (defScope s_Trail_choose) s.heap.objs.size f cdv)).units + 1 < cLine) :
    PSs (cxOf CX0 P w K mg base N_Trail_choose "Trail.choose" (defScope s_Trail_choose) f cdv A outer s H E).nox (defBody s_Trail_choose) (t_Trail_choose K) := by
  exact (pss_cons (ps_expr (pe_meth (pv 0) T.cl_Trail T.m_Trailrequire_open F_Trailrequire_open (hr.mono (by decide)) B_Trailrequire_open .nil pass0 (pa_cons (pv 1) pa_nil)))
    (pss_cons (ps_expr (pe_bm PySem.F.plainAttrs_list PySem.F.slot_list_append PySem.F.type_list_append mt_append (pe_fld (pv 0) rfl) (pa_cons (pe_callB call_len_seq rfl T.f_len bt_len (pa_cons (pe_fld (pv 0) rfl) pa_nil)) pa_nil)))
    (pss_one (ps_expr (pe_meth (pv 0) T.cl_Trail T.m_Trailput_on F_Trailput_on (hr.mono (by decide)) B_Trailput_on .nil pass0 (pa_cons (pv 1) (pa_cons pe_non pa_nil)))))))
theorem len_Trail_choose (h : sp_Trail_choose K vs H Q E) : vs.length = 2 := by
  obtain ⟨_, _, _, rfl, _⟩ := h
  rfl
theorem pure_Trail_choose (T : Tx K mg) (h : sp_Trail_choose K vs H Q E) : t_Trail_choose K { nx := fun _ H' => Q .non H', rt := Q } (start N_Trail_choose vs) H := by
  obtain ⟨L, Tr, x, rfl, A, ok, hd, hx, hn, k⟩ := h
  have hl := ok.weak.rl
  refine ⟨_, rfl, _, _, _, rfl, A.ob, rfl, _, rfl, L, Tr, x, rfl, A, hx, hn, fun H1 e1 => ?_⟩
  obtain ⟨kvs, R, hk⟩ := (A.ex e1).raw
  refine q_app R.sa (ev_fld (ev_var rfl) R.ob T.cl_Trail T.no_Trail_starts rfl) (ev_lenL (ev_fld (ev_var rfl) R.ob T.cl_Trail T.no_Trail_order rfl) R.od) (by rw [List.length_map, starts_len]; omega) fun H2 e2 => ?_
  have R2 := (R.ex e2).setSa (Tr.starts.map (fun n : Nat => V.int (n : Int)) ++ [.int ((Tr.rows.map fun r => V.int r.lit).length : Nat)])
  have s2 := Stp.pre (e1.trans e2) ((R.ex e2).sSa (o := .lst (Tr.starts.map (fun n : Nat => V.int (n : Int)) ++ [.int ((Tr.rows.map fun r => V.int r.lit).length : Nat)])))
  have A2 : TAt (CT K) L Tr.deeper (upd H2 L.sa (.lst (Tr.starts.map (fun n : Nat => V.int (n : Int)) ++ [.int ((Tr.rows.map fun r => V.int r.lit).length : Nat)]))) := by
    refine TRaw.at (T := Tr.deeper) (kvs := kvs) ?_ (hk.move (Stp.pre e2 ((R.ex e2).sSa (o := .lst (Tr.starts.map (fun n : Nat => V.int (n : Int)) ++ [.int ((Tr.rows.map fun r => V.int r.lit).length : Nat)])))).tups)
    rw [starts_deeper ok.le, List.map_append]
    have e3 : [Tr.rows.length].map (fun n : Nat => V.int (n : Int)) = [V.int ((Tr.rows.map fun r => V.int r.lit).length : Nat)] := by rw [List.length_map]; rfl
    rw [e3]
    exact R2
  exact ⟨_, rfl, _, _, _, rfl, A2.ob, rfl, _, rfl, L, Tr.deeper, x, none, rfl, A2, by show Tr.rows.length ≤ 1000; omega, by show Tr.stamps.length ≤ 1000; rw [ok.slen]; omega, hn, fun H3 A3 s3 => k H3 A3 (s2.trans s3)⟩
theorem ok_Trail_choose {P : Program} {w : World} {K : PySem.W.Frag} {mg : Str → Option Value} {base : Heap} (T : Tx K mg) : FnX P w K mg base 3 (He.fAd K ("Trail", some "choose")) ps_Trail_choose (sp_Trail_choose K) := by
  obtain ⟨_, F_Trailrequire_open, B_Trailrequire_open⟩ := ok_Trailrequire_open (P := P) (w := w) (base := base) T
  obtain ⟨_, F_Trailput_on, B_Trailput_on⟩ := ok_Trailput_on (P := P) (w := w) (base := base) T
  obtain ⟨fd, F⟩ := T.fun_Trail_choose
  refine ⟨fd, F.ok sc_Trail_choose (fun vs H Q E h => len_Trail_choose h) (fun cdv A outer s H vs Q E hr h => ⟨t_Trail_choose K, PSs.nox (der_Trail_choose T F_Trailrequire_open B_Trailrequire_open F_Trailput_on B_Trailput_on hr (hu_of hr)), pure_Trail_choose T h⟩), F.bindsN fun _ _ _ _ _ _ us hl => match us, hl with | [_, _], _ => rfl⟩
end
end TW

set_option Elab.async false
set_option linter.all false
set_option maxRecDepth 100000
set_option maxHeartbeats 1000000
namespace TW
open PySem PySem.Spec PyProof.Rows L2 Evl
theorem dropK_mid {A B : List (Key × V)} {k : Key} {v : V} (hA : ¬ k ∈ A.map (·.1)) (hB : ¬ k ∈ B.map (·.1)) : dropK (A ++ (k, v) :: B) k = A ++ B := by
  unfold dropK
  rw [List.filter_append, List.filter_cons]
  have e1 : A.filter (fun kv => decide (kv.1 ≠ k)) = A := List.filter_eq_self.mpr fun p hp => decide_eq_true fun z => hA (z ▸ List.mem_map.mpr ⟨p, hp, rfl⟩)
  have e2 : B.filter (fun kv => decide (kv.1 ≠ k)) = B := List.filter_eq_self.mpr fun p hp => decide_eq_true fun z => hB (z ▸ List.mem_map.mpr ⟨p, hp, rfl⟩)
  rw [e1, e2]
  simp
theorem valV_mid {A B : List (Key × V)} {k : Key} {v : V} : (valV (A ++ (k, v) :: B) k).isSome = true := by
  unfold valV
  rw [Option.isSome_map, List.find?_isSome]
  exact ⟨(k, v), by simp, by simp⟩
section
variable {K : PySem.W.Frag} {σ : L2.St} {H : Hp} {ta tv te : TE} {a C dx : Addr} {fs : List (Str × V)} {f : Str} {D : Ends} {tz : TS} {xs ys : List V}
theorem el_is (h : EvL te σ H xs) (e : xs = ys) : EvL te σ H ys := e ▸ h
/-- a new dict -/
def EvD (te : TE) (σ : L2.St) (H : Hp) (kvs : List (Key × V)) : Prop := ∀ H1, Ex H H1 → ∀ Q : VK, (∀ p H2, H1 p = none → Ex H1 H2 → H2 p = some (.dK kvs) → Q (.ref p) H2) → te σ H1 Q
theorem ed_new : EvD tDNewK σ H [] := fun H1 _ _ q p hp => q p _ hp (Ex.new hp) upd_same
theorem q_fldD {kvs : List (Key × V)} (hv : EvD tv σ H kvs) (ha : Ev ta σ H (.ref a)) (ho : H a = some (.ins C dx fs)) (hc : Cls K C) (hn : NoAttr K C f) (hl : fs.length < 1000)
    (q : ∀ p H1, H p = none → Ex H H1 → H1 p = some (.dK kvs) → tz D σ (upd H1 a (.ins C dx (putF f (.ref p) fs)))) : tSeq (sFld K ta tv f) tz D σ H :=
  hv H (Ex.refl H) _ fun p H1 hp e1 h1 => ha H1 e1 _ fun H2 e2 => ⟨a, C, dx, fs, rfl, (e1.trans e2) a _ ho, hc, hn, hl, q p H2 hp (e1.trans e2) (e2 p _ h1)⟩
end
section
variable {K : PySem.W.Frag} {mg : Str → Option Value} {vs : List V} {H : Hp} {Q : VK} {E : XK}
/-! ### back -/
def sp_Trail_back (K : PySem.W.Frag) : Sp := fun vs H Q _ => ∃ (L : TL) (T : Tr) (l : Nat), vs = [.ref L.t, .int (l : Int)] ∧ TAt (CT K) L T H ∧ T.Ok ∧
  ∀ L' H', L'.t = L.t → TAt (CT K) L' (T.back l) H' → Stp L.In L'.In H H' → Q .non H'
abbrev N_Trail_back : List Str := ["self", "level", "start", "literal"]
theorem sc_Trail_back : FnScope N_Trail_back ["self", "level"] (defScope s_Trail_back) := ⟨rfl, rfl, rfl, by decide +kernel, rfl, by decide +kernel, by decide +kernel⟩
def t_Trail_back (K : PySem.W.Frag) : TS := (tSeq (tIfS (tB (tGe (tVar 1) (tCB (rLenS K) (tCons (tFld K (tVar 0) "_starts") tNil)))) tRetN tNext)
    (tSeq (tAsg (tOp (rIxL K) (tFld K (tVar 0) "_starts") (tVar 1)) (gName 2))
    (tSeq (tFor (iList K (tSl (rSlL K) (tFld K (tVar 0) "_order") (tPart (tVar 2)) tNoPart)) (gName 3) (sDDel (tFld K (tVar 0) "_state") (tCB rAbsR (tCons (tVar 3) tNil))))
    (tSeq (sFld K (tVar 0) (tSl (rSlL K) (tFld K (tVar 0) "_order") tNoPart (tPart (tVar 2))) "_order")
    (tSeq (sFld K (tVar 0) (tSl (rSlL K) (tFld K (tVar 0) "_stamps") tNoPart (tPart (tVar 2))) "_stamps")
    (sFld K (tVar 0) (tSl (rSlL K) (tFld K (tVar 0) "_starts") tNoPart (tPart (tVar 1))) "_starts"))))))
set_option maxHeartbeats 4000000 in
theorem der_Trail_back {P : Program} {w : World} {K : PySem.W.Frag} {mg : Str → Option Value} {base : Heap} {f : Addr} {cdv : Value} {A : Around} {outer : List Env} {s : Shared} {H : Hp} {E : XK} (T : Tx K mg) (hr : Room 0 (A.deeper (envOfC "Trail.back" (defScope s_Trail_back) s.heap.objs.size f cdv))) (hu : (A.deeper (envOfC "Trail.back" (defScope s_Trail_back) s.heap.objs.size f cdv)).units + 1 < cLine) :
    PSs (cxOf CX0 P w K mg base N_Trail_back "Trail.back" (defScope s_Trail_back) f cdv A outer s H E).nox (defBody s_Trail_back) (t_Trail_back K) := by
  exact (pss_cons (ps_if (pt_cmp (pc_ge (pv 1) (pe_callB call_len_seq rfl T.f_len bt_len (pa_cons (pe_fld (pv 0) rfl) pa_nil)))) (pss_one ps_retN) pss_nil)
    (pss_cons (ps_set (i := 2) sc_Trail_back.nd rfl (Or.inl rfl) (pe_ix ix_list (pe_fld (pv 0) rfl) (pv 1) (fun _ _ => rfl)))
    (pss_cons (ps_for PassesOwn.never rfl (pi_list (pe_slice sl_list (pe_fld (pv 0) rfl) (po_some (pv 2)) po_none)) (pg_name (i := 3) sc_Trail_back.nd rfl (Or.inl rfl)) (pss_one (ps_ddel (pe_fld (pv 0) rfl) (pe_callB call_abs rfl T.f_abs bt_abs (pa_cons (pv 3) pa_nil)))))
    (pss_cons (ps_fld (pv 0) (pe_slice sl_list (pe_fld (pv 0) rfl) po_none (po_some (pv 2))) rfl)
    (pss_cons (ps_fld (pv 0) (pe_slice sl_list (pe_fld (pv 0) rfl) po_none (po_some (pv 2))) rfl)
    (pss_one (ps_fld (pv 0) (pe_slice sl_list (pe_fld (pv 0) rfl) po_none (po_some (pv 1))) rfl)))))))
theorem len_Trail_back (h : sp_Trail_back K vs H Q E) : vs.length = 2 := by
  obtain ⟨_, _, _, rfl, _⟩ := h
  rfl
theorem pure_Trail_back (T : Tx K mg) (h : sp_Trail_back K vs H Q E) : t_Trail_back K { nx := fun _ H' => Q .non H', rt := Q } (start N_Trail_back vs) H := by
  obtain ⟨L, Tr, l, rfl, A, ok, k⟩ := h
  have hrl := ok.weak.rl
  have et : EvT (tB (tGe (tVar 1) (tCB (rLenS K) (tCons (tFld K (tVar 0) "_starts") tNil)))) (start N_Trail_back [.ref L.t, .int (l : Int)]) H (decide (Tr.depth ≤ l)) := by
    refine et_is (et_B (ev_cmp (ev_var rfl) (ev_lenL (ev_fld (ev_var rfl) A.ob T.cl_Trail T.no_Trail_starts rfl) A.sa))) ?_
    rw [List.length_map, starts_len, Bool.eq_iff_iff]
    simp
  refine q_when et (fun hb H1 e1 => ?_) (fun hb H1 e1 => ?_)
  · have hd : ¬ l < Tr.depth := by have := of_decide_eq_true hb; omega
    refine k L H1 rfl ?_ (Stp.ex e1)
    unfold TW.Tr.back
    rw [if_neg hd]
    exact A.ex e1
  · have hd : l < Tr.depth := by have := of_decide_eq_false hb; omega
    clear et hb
    generalize hn : cntLe Tr.rows l = n
    have hnl : n ≤ Tr.rows.length := hn ▸ cntLe_len _ _
    obtain ⟨kvs, R0, hk⟩ := A.raw
    have R := R0.ex e1
    have hlen := hk.len
    have hkeys := hk.keys
    have hnd : (kvs.map (·.1)).Nodup := by
      rw [hkeys]
      have z := ok.nd
      have z2 : (Tr.rows.map Row.ab).map (fun x : Int => (Sum.inl x : Key)) = Tr.rows.map fun r => (Sum.inl r.ab : Key) := by rw [List.map_map]; rfl
      rw [← z2]
      exact List.Pairwise.map _ (fun a b (h : a ≠ b) => fun q => h (Sum.inl.inj q)) z
    refine q_asg (ev_ixL (j := l) (ev_fld (ev_var rfl) R.ob T.cl_Trail T.no_Trail_starts rfl) (ev_var rfl) R.sa (by rw [List.getElem?_map, starts_get hd, hn]; rfl)) fun H2 e2 => ?_
    have R2 := R.ex e2
    refine q_forNLn (xs := (Tr.rows.map fun r => V.int r.lit).drop n) (el_is (el_sl (ev_fld (ev_var rfl) R2.ob T.cl_Trail T.no_Trail_order rfl) (eo_some (ev_var rfl)) eo_none (sq_of R2.od)) (cut_drop (by rw [List.length_map]; exact hnl)))
      (fun p i σ' H' => (∃ y, σ' = [some (.ref L.t), some (.int (l : Int)), some (.int (n : Int)), y]) ∧ H' p = some (.lst ((Tr.rows.map fun r => V.int r.lit).drop n)) ∧ ¬ L.In p ∧ Stp L.In L.In H H' ∧
        TRaw (CT K) L Tr.made (knK Tr.known) (Tr.rows.map fun r => .int r.lit) (kvs.take n ++ kvs.drop (n + i)) (Tr.starts.map fun n : Nat => V.int (n : Int)) (Tr.stamps.map fun n : Nat => V.int (n : Int)) H')
      (fun p H3 hp e3 h3 => ⟨⟨none, rfl⟩, h3, fun z => (A.ex (e1.trans e2)).tracked p z hp, Stp.ex ((e1.trans e2).trans e3), ?_⟩) (fun p i σ' H' _ w => sq_of w.2.1) (fun p i x σ' H' hx w => ?_) (fun p σ' H' w => ?_)
    · rw [Nat.add_zero, List.take_append_drop]
      exact R2.ex e3
    · obtain ⟨⟨y, rfl⟩, hp, np, s, R3⟩ := w
      rw [List.getElem?_drop, List.getElem?_map] at hx
      obtain ⟨r, hr, ex⟩ := Option.map_eq_some_iff.mp hx
      subst ex
      have hi : n + i < kvs.length := by rw [hlen]; exact (List.getElem?_eq_some_iff.mp hr).1
      obtain ⟨⟨kk, vv⟩, hkv⟩ : ∃ q, kvs[n + i]? = some q := ⟨_, List.getElem?_eq_getElem hi⟩
      have ek : kk = Sum.inl r.ab := by
        have z : (kvs.map (·.1))[n + i]? = some kk := by rw [List.getElem?_map, hkv]; rfl
        rw [hkeys, List.getElem?_map, hr] at z
        exact (Option.some.inj z).symm
      subst ek
      have ed : kvs.drop (n + i) = (Sum.inl r.ab, vv) :: kvs.drop (n + (i + 1)) := by
        rw [List.drop_eq_getElem_cons hi]
        congr 1
        exact (List.getElem?_eq_some_iff.mp hkv).2
      rw [ed] at R3
      have hsplit : kvs = kvs.take (n + i) ++ (Sum.inl r.ab, vv) :: kvs.drop (n + (i + 1)) := by rw [← ed, List.take_append_drop]
      have nd2 : ((kvs.take (n + i)).map (·.1) ++ (Sum.inl r.ab :: (kvs.drop (n + (i + 1))).map (·.1))).Nodup := by
        have z := hnd
        rw [hsplit, List.map_append, List.map_cons] at z
        exact z
      obtain ⟨_, d2, d3⟩ := List.nodup_append.mp nd2
      have nB : ¬ (Sum.inl r.ab : Key) ∈ (kvs.drop (n + (i + 1))).map (·.1) := (List.nodup_cons.mp d2).1
      have nA : ¬ (Sum.inl r.ab : Key) ∈ (kvs.take n).map (·.1) := fun z => by
        obtain ⟨q, hq, e⟩ := List.mem_map.mp z
        have z2 : (Sum.inl r.ab : Key) ∈ (kvs.take (n + i)).map (·.1) := by
          refine List.mem_map.mpr ⟨q, ?_, e⟩
          have e4 : kvs.take n = (kvs.take (n + i)).take n := by rw [List.take_take, Nat.min_eq_left (Nat.le_add_right _ _)]
          rw [e4] at hq
          exact List.mem_of_mem_take hq
        exact d3 _ z2 _ List.mem_cons_self rfl
      refine s_ddel (k := Sum.inl r.ab) (ev_fld (ev_var rfl) R3.ob T.cl_Trail T.no_Trail_state rfl) (ev_abs (ev_var rfl)) R3.sd valV_mid fun H4 e4 => ?_
      rw [dropK_mid nA nB]
      refine ⟨⟨_, rfl⟩, ?_, np, (s.post e4).trans ((R3.ex e4).sSd), (R3.ex e4).setSd _⟩
      have np2 : p ≠ L.sd := fun z => np (by rw [z]; exact .inr (.inr (.inr (.inl rfl))))
      rw [upd_ne np2]
      exact e4 _ _ hp
    · obtain ⟨⟨y, rfl⟩, _, _, s, R3⟩ := w
      have e5 : kvs.take n ++ kvs.drop (n + ((Tr.rows.map fun r => V.int r.lit).drop n).length) = kvs.take n := by
        rw [List.length_drop, List.length_map, List.drop_of_length_le (by rw [hlen]; omega), List.append_nil]
      rw [e5] at R3
      -- order
      refine q_fldL (xs := (Tr.rows.map fun r => V.int r.lit).take n) (el_is (el_sl (ev_fld (ev_var rfl) R3.ob T.cl_Trail T.no_Trail_order rfl) eo_none (eo_some (ev_var rfl)) (sq_of R3.od)) (cut_take (by rw [List.length_map]; exact hnl))) (ev_var rfl) R3.ob T.cl_Trail T.no_Trail_order (by show 6 < 1000; decide) fun p1 H4 hp1 e4 h4 => ?_
      have R4 := R3.ex e4
      have q2 : p1 ≠ L.sa := (ne_of_none R3.sa hp1).symm
      have q3 : p1 ≠ L.sm := (ne_of_none R3.sm hp1).symm
      have R5 := R4.ptOd h4 q2 q3
      have s5 : Stp L.In ({ L with od := p1 } : TL).In H _ := s.trans (Stp.newer (p := p1) (R4.sOb (o := .ins (CT K) L.dx (putF "_order" (.ref p1) (tFs L Tr.made)))) e4 hp1 (F' := ({ L with od := p1 } : TL).In) fun a f => by
        rcases f with f | f | f | f | f | f
        · exact .inl (.inl f)
        · exact .inl (.inr (.inl f))
        · exact .inr f
        · exact .inl (.inr (.inr (.inr (.inl f))))
        · exact .inl (.inr (.inr (.inr (.inr (.inl f)))))
        · exact .inl (.inr (.inr (.inr (.inr (.inr f))))))
      -- stamps
      refine q_fldL (xs := (Tr.stamps.map fun n : Nat => V.int (n : Int)).take n) (el_is (el_sl (ev_fld (ev_var rfl) R5.ob T.cl_Trail T.no_Trail_stamps rfl) eo_none (eo_some (ev_var rfl)) (sq_of R5.sm)) (cut_take (by rw [List.length_map, ok.slen]; exact hnl))) (ev_var rfl) R5.ob T.cl_Trail T.no_Trail_stamps (by show 6 < 1000; decide) fun p2 H6 hp2 e6 h6 => ?_
      have R6 := R5.ex e6
      have q4 : p1 ≠ p2 := ne_of_none R5.od hp2
      have q5 : L.sa ≠ p2 := ne_of_none R5.sa hp2
      have R7 := R6.ptSm h6 q4 q5
      have s7 : Stp L.In ({ L with od := p1, sm := p2 } : TL).In H _ := s5.trans (Stp.newer (p := p2) (R6.sOb (o := .ins (CT K) L.dx (putF "_stamps" (.ref p2) (tFs { L with od := p1 } Tr.made)))) e6 hp2 (F' := ({ L with od := p1, sm := p2 } : TL).In) fun a f => by
        rcases f with f | f | f | f | f | f
        · exact .inl (.inl f)
        · exact .inl (.inr (.inl f))
        · exact .inl (.inr (.inr (.inl f)))
        · exact .inl (.inr (.inr (.inr (.inl f))))
        · exact .inl (.inr (.inr (.inr (.inr (.inl f)))))
        · exact .inr f)
      -- starts
      refine s_fldL (xs := (Tr.starts.map fun n : Nat => V.int (n : Int)).take l) (el_is (el_sl (ev_fld (ev_var rfl) R7.ob T.cl_Trail T.no_Trail_starts rfl) eo_none (eo_some (ev_var rfl)) (sq_of R7.sa)) (cut_take (by rw [List.length_map, starts_len]; omega))) (ev_var rfl) R7.ob T.cl_Trail T.no_Trail_starts (by show 6 < 1000; decide) fun p3 H8 hp3 e8 h8 => ?_
      have R8 := R7.ex e8
      have q6 : p1 ≠ p3 := ne_of_none R7.od hp3
      have q7 : p3 ≠ p2 := (ne_of_none R7.sm hp3).symm
      have R9 := R8.ptSa h8 q6 q7
      have s9 : Stp L.In ({ L with od := p1, sm := p2, sa := p3 } : TL).In H _ := s7.trans (Stp.newer (p := p3) (R8.sOb (o := .ins (CT K) L.dx (putF "_starts" (.ref p3) (tFs { L with od := p1, sm := p2 } Tr.made)))) e8 hp3 (F' := ({ L with od := p1, sm := p2, sa := p3 } : TL).In) fun a f => by
        rcases f with f | f | f | f | f | f
        · exact .inl (.inl f)
        · exact .inl (.inr (.inl f))
        · exact .inl (.inr (.inr (.inl f)))
        · exact .inl (.inr (.inr (.inr (.inl f))))
        · exact .inr f
        · exact .inl (.inr (.inr (.inr (.inr (.inr f))))))
      refine k { L with od := p1, sm := p2, sa := p3 } _ rfl (TRaw.at (kvs := kvs.take n) ?_ ?_) s9
      · have b1 : (Tr.back l).rows = Tr.rows.take n := by unfold TW.Tr.back; rw [if_pos hd, hn]
        have b2 : (Tr.back l).stamps = Tr.stamps.take n := by unfold TW.Tr.back; rw [if_pos hd, hn]
        have b3 : (Tr.back l).made = Tr.made := by unfold TW.Tr.back; rw [if_pos hd]
        have b4 : (Tr.back l).known = Tr.known := by unfold TW.Tr.back; rw [if_pos hd]
        rw [b1, b2, b3, b4, starts_back ok.srt hd, List.map_take, List.map_take, List.map_take]
        exact R9
      · have b1 : (Tr.back l).rows = Tr.rows.take n := by unfold TW.Tr.back; rw [if_pos hd, hn]
        rw [b1]
        exact hk.take.move s9.tups
theorem ok_Trail_back {P : Program} {w : World} {K : PySem.W.Frag} {mg : Str → Option Value} {base : Heap} (T : Tx K mg) : FnX P w K mg base 1 (He.fAd K ("Trail", some "back")) ps_Trail_back (sp_Trail_back K) := by
  obtain ⟨fd, F⟩ := T.fun_Trail_back
  refine ⟨fd, F.ok sc_Trail_back (fun vs H Q E h => len_Trail_back h) (fun cdv A outer s H vs Q E hr h => ⟨t_Trail_back K, PSs.nox (der_Trail_back T hr (hu_of hr)), pure_Trail_back T h⟩), F.bindsN fun _ _ _ _ _ _ us hl => match us, hl with | [_, _], _ => rfl⟩
/-! ### __init__ -/
def Tr.fresh (known : List Int) : Tr := ⟨known, [], 0, [], 0⟩
def sp_Trail_init (K : PySem.W.Frag) : Sp := fun vs H Q _ => ∃ (t dx a : Addr) (known : List Int), vs = [.ref t, .ref a] ∧ H t = some (.ins (CT K) dx []) ∧ H a = some (.lst (known.map V.int)) ∧ known.Nodup ∧ known.length ≤ 1000 ∧
  ∀ (L : TL) H', L.t = t → TAt (CT K) L (Tr.fresh known) H' → Stp (fun b => b = t) L.In H H' → Q .non H'
abbrev N_Trail_init : List Str := ["self", "nodes", "node"]
theorem sc_Trail_init : FnScope N_Trail_init ["self", "nodes"] (defScope s_Trail_init) := ⟨rfl, rfl, rfl, by decide +kernel, rfl, by decide +kernel, by decide +kernel⟩
def t_Trail_init (K : PySem.W.Frag) : TS := (tSeq (sFld K (tVar 0) (tDc (iList K (tVar 1)) (gName 2) tYes (tVar 2) (tC (.bl true)) [2]) "_known")
    (tSeq (sFld K (tVar 0) (tLst tNil) "_order")
    (tSeq (sFld K (tVar 0) tDNewK "_state")
    (tSeq (sFld K (tVar 0) (tLst tNil) "_starts")
    (tSeq (sFld K (tVar 0) (tLst tNil) "_stamps")
    (sFld K (tVar 0) (tC (.int 0)) "_made"))))))
set_option maxHeartbeats 4000000 in
theorem der_Trail_init {P : Program} {w : World} {K : PySem.W.Frag} {mg : Str → Option Value} {base : Heap} {f : Addr} {cdv : Value} {A : Around} {outer : List Env} {s : Shared} {H : Hp} {E : XK} (T : Tx K mg) (hr : Room 0 (A.deeper (envOfC "Trail.__init__" (defScope s_Trail_init) s.heap.objs.size f cdv))) (hu : (A.deeper (envOfC "Trail.__init__" (defScope s_Trail_init) s.heap.objs.size f cdv)).units + 1 < cLine) :
    PSs (cxOf CX0 P w K mg base N_Trail_init "Trail.__init__" (defScope s_Trail_init) f cdv A outer s H E).nox (defBody s_Trail_init) (t_Trail_init K) := by
  exact (pss_cons (ps_fld (pv 0) (pe_dc (own := [("node", 2)]) (g := gName 2) rfl sc_Trail_init.nd (pi_list (pv 1)) (blkOk_by (N := N_Trail_init) (sc := defScope s_Trail_init) (by decide +kernel)) (fun _ _ _ _ _ => pg_name (i := 2) sc_Trail_init.nd rfl (Or.inl rfl)) (fun _ _ _ _ _ => pts_nil) (fun _ _ _ _ _ => (pv 2)) (fun _ _ _ _ _ => pe_bl)) rfl)
    (pss_cons (ps_fld (pv 0) (pe_lst pa_nil) rfl)
    (pss_cons (ps_fld (pv 0) pe_dnewK rfl)
    (pss_cons (ps_fld (pv 0) (pe_lst pa_nil) rfl)
    (pss_cons (ps_fld (pv 0) (pe_lst pa_nil) rfl)
    (pss_one (ps_fld (pv 0) pe_int rfl)))))))
theorem len_Trail_init (h : sp_Trail_init K vs H Q E) : vs.length = 2 := by
  obtain ⟨_, _, _, _, rfl, _⟩ := h
  rfl
theorem knK_snoc (l : List Int) (n : Int) : knK (l ++ [n]) = knK l ++ [(Sum.inl n, V.bl true)] := by unfold knK; rw [List.map_append]; rfl
theorem knK_new {l : List Int} {n : Int} (h : ¬ n ∈ l) : valV (knK l) (Sum.inl n) = none := by
  have z := knK_has (known := l) (n := n)
  rw [decide_eq_false h] at z
  exact Option.not_isSome_iff_eq_none.mp (by rw [z]; decide)
theorem tyes_if {σ : L2.St} {H : Hp} {A B : Hp → Prop} (h : A H) : tYes σ H (fun b H3 => if b = true then A H3 else B H3) := by
  show (if true = true then A H else B H)
  exact iteT h
theorem ed_known {t a : Addr} {known : List Int} (ha : H a = some (.lst (known.map V.int))) (hnd : known.Nodup) (hl : known.length ≤ 1000) :
    EvD (tDc (iList K (tVar 1)) (gName 2) tYes (tVar 2) (tC (.bl true)) [2]) [some (.ref t), some (.ref a), none] H (knK known) := by
  intro H1 e Q q
  refine ⟨_, rfl, a, rfl, ⟨_, sq_of (e _ _ ha)⟩, fun D hD => ⟨fun i m H' => m = known.length - i ∧ i ≤ known.length ∧ Ex H1 H' ∧ H' D = some (.dK (knK (known.take i))), ⟨known.length, by simp, Nat.zero_le _, Ex.new hD, upd_same⟩, ?_⟩⟩
  rintro i m H' ⟨rfl, hi, eH, hd⟩
  have hs := sq_of (K := K) (eH a _ (e _ _ ha))
  by_cases hlt : i < known.length
  · have hx : (known.map V.int)[i]? = some (V.int known[i]) := by rw [List.getElem?_map, List.getElem?_eq_getElem hlt]; rfl
    refine .inr ⟨⟨known.map V.int, _, hs, hx⟩, fun H'' => Ex H1 H'' ∧ H'' D = some (.dK (knK (known.take (i + 1)))), fun H'' w => ⟨_, by omega, rfl, hlt, w⟩, fun x H'' y => ?_⟩
    obtain ⟨rfl, hy⟩ := y
    have z := hy _ hs
    rw [hx] at z
    cases z
    refine ⟨rfl, ?_⟩
    refine tyes_if ⟨_, rfl, knK (known.take i), Sum.inl known[i], rfl, hd, ?_, eH.mut hD, ?_⟩
    · refine sz_lt ?_
      unfold knK
      rw [List.length_map, List.length_take]
      omega
    · rw [upd_same, putK_new _ (knK_new ?_), ← knK_snoc]
      · rw [List.take_add_one, List.getElem?_eq_getElem hlt]
        rfl
      · intro m
        have z2 : (known.take i ++ [known[i]]).Nodup := by
          have e3 : known.take i ++ [known[i]] = known.take (i + 1) := by rw [List.take_add_one, List.getElem?_eq_getElem hlt]; rfl
          rw [e3]
          exact hnd.sublist (List.take_sublist _ _)
        exact (List.nodup_append.mp z2).2.2 _ m _ (List.mem_singleton.mpr rfl) rfl
  · have e3 : i = known.length := by omega
    subst e3
    rw [List.take_length] at hd
    exact .inl ⟨⟨_, hs, by simp⟩, q D H' hD eH hd⟩
theorem pure_Trail_init (T : Tx K mg) (h : sp_Trail_init K vs H Q E) : t_Trail_init K { nx := fun _ H' => Q .non H', rt := Q } (start N_Trail_init vs) H := by
  obtain ⟨t, dx, a, known, rfl, ht, ha, hnd, hl, k⟩ := h
  have up : ∀ {G : Hp} {u : HO} {b : Addr} {o : HO}, b ≠ t → G b = some o → upd G t u b = some o := fun {G u b o} n h => by rw [upd_ne n]; exact h
  have s0 : ∀ {G : Hp} {u : HO} {C d : Addr} {fs : List (Str × V)}, G t = some (.ins C d fs) → Stp (fun b => b = t) (fun b => b = t) G (upd G t u) := fun {G u C d fs} h => Stp.upd rfl (nt_ins h)
  refine q_fldD (ed_known ha hnd hl) (ev_var rfl) ht T.cl_Trail T.no_Trail_known (by show 0 < 1000; decide) fun kn H1 hkn e1 h1 => ?_
  have nk : kn ≠ t := (ne_of_none ht hkn).symm
  have g1 := up nk h1 (u := .ins (CT K) dx (putF "_known" (.ref kn) []))
  refine q_fldL (xs := []) (el_lst ea_nil (by simp)) (ev_var rfl) upd_same T.cl_Trail T.no_Trail_order (by show 1 < 1000; decide) fun od H2 hod e2 h2 => ?_
  have no : od ≠ t := (ne_of_none (upd_same) hod).symm
  refine q_fldD ed_new (ev_var rfl) upd_same T.cl_Trail T.no_Trail_state (by show 2 < 1000; decide) fun sd H3 hsd e3 h3 => ?_
  have ns : sd ≠ t := (ne_of_none (upd_same) hsd).symm
  refine q_fldL (xs := []) (el_lst ea_nil (by simp)) (ev_var rfl) upd_same T.cl_Trail T.no_Trail_starts (by show 3 < 1000; decide) fun sa H4 hsa e4 h4 => ?_
  have na : sa ≠ t := (ne_of_none (upd_same) hsa).symm
  refine q_fldL (xs := []) (el_lst ea_nil (by simp)) (ev_var rfl) upd_same T.cl_Trail T.no_Trail_stamps (by show 4 < 1000; decide) fun sm H5 hsm e5 h5 => ?_
  have nm : sm ≠ t := (ne_of_none (upd_same) hsm).symm
  refine s_fld ev_c (ev_var rfl) upd_same T.cl_Trail T.no_Trail_made (by show 5 < 1000; decide) fun H6 e6 => ?_
  -- what stands at the end
  have m2 : ∀ {b : Addr} {o : HO}, b ≠ t → H2 b = some o → (upd H6 t (.ins (CT K) dx (putF "_made" (.int 0) (putF "_stamps" (.ref sm) (putF "_starts" (.ref sa) (putF "_state" (.ref sd) (putF "_order" (.ref od) (putF "_known" (.ref kn) [])))))))) b = some o := fun {b o} n h => up n (e6 _ _ (up n (e5 _ _ (up n (e4 _ _ (up n (e3 _ _ (up n h))))))))
  have m3 : ∀ {b : Addr} {o : HO}, b ≠ t → H3 b = some o → (upd H6 t (.ins (CT K) dx (putF "_made" (.int 0) (putF "_stamps" (.ref sm) (putF "_starts" (.ref sa) (putF "_state" (.ref sd) (putF "_order" (.ref od) (putF "_known" (.ref kn) [])))))))) b = some o := fun {b o} n h => up n (e6 _ _ (up n (e5 _ _ (up n (e4 _ _ (up n h))))))
  have m4 : ∀ {b : Addr} {o : HO}, b ≠ t → H4 b = some o → (upd H6 t (.ins (CT K) dx (putF "_made" (.int 0) (putF "_stamps" (.ref sm) (putF "_starts" (.ref sa) (putF "_state" (.ref sd) (putF "_order" (.ref od) (putF "_known" (.ref kn) [])))))))) b = some o := fun {b o} n h => up n (e6 _ _ (up n (e5 _ _ (up n h))))
  have m5 : ∀ {b : Addr} {o : HO}, b ≠ t → H5 b = some o → (upd H6 t (.ins (CT K) dx (putF "_made" (.int 0) (putF "_stamps" (.ref sm) (putF "_starts" (.ref sa) (putF "_state" (.ref sd) (putF "_order" (.ref od) (putF "_known" (.ref kn) [])))))))) b = some o := fun {b o} n h => up n (e6 _ _ (up n h))
  have k2 := e2 _ _ g1
  have d1 : kn ≠ sd := ne_of_none (up nk k2) hsd
  have o4 := e4 _ _ (up no (e3 _ _ (up no h2)))
  have d2 : od ≠ sa := ne_of_none (up no (e3 _ _ (up no h2))) hsa
  have d3 : od ≠ sm := ne_of_none (up no o4) hsm
  have d4 : sa ≠ sm := ne_of_none (up na h4) hsm
  have b1 : Stp (fun b => b = t) (fun b => b = t) H _ := ((((((Stp.ex e1).trans (s0 (e1 _ _ ht))).post e2).trans (s0 (e2 _ _ upd_same))).post e3).trans (s0 (e3 _ _ upd_same))).post e4 |>.trans (s0 (e4 _ _ upd_same)) |>.post e5 |>.trans (s0 (e5 _ _ upd_same)) |>.post e6 |>.trans (s0 (u := .ins (CT K) dx (putF "_made" (.int 0) (putF "_stamps" (.ref sm) (putF "_starts" (.ref sa) (putF "_state" (.ref sd) (putF "_order" (.ref od) (putF "_known" (.ref kn) []))))))) (e6 _ _ upd_same))
  have fr : ∀ {b : Addr} {G : Hp}, b ≠ t → Stp (fun b => b = t) (fun b => b = t) H G → G b = none → H b = none := fun {b G} n s h => by
    cases q : H b with
    | none => rfl
    | some o => rw [s.keep b o q n] at h; cases h
  have c1 : Stp (fun b => b = t) (fun b => b = t) H _ := (Stp.ex e1).trans (s0 (u := .ins (CT K) dx (putF "_known" (.ref kn) [])) (e1 _ _ ht))
  have c2 : Stp (fun b => b = t) (fun b => b = t) H _ := (c1.post e2).trans (s0 (u := .ins (CT K) dx (putF "_order" (.ref od) (putF "_known" (.ref kn) []))) (e2 _ _ upd_same))
  have c3 : Stp (fun b => b = t) (fun b => b = t) H _ := (c2.post e3).trans (s0 (u := .ins (CT K) dx (putF "_state" (.ref sd) (putF "_order" (.ref od) (putF "_known" (.ref kn) [])))) (e3 _ _ upd_same))
  have c4 : Stp (fun b => b = t) (fun b => b = t) H _ := (c3.post e4).trans (s0 (u := .ins (CT K) dx (putF "_starts" (.ref sa) (putF "_state" (.ref sd) (putF "_order" (.ref od) (putF "_known" (.ref kn) []))))) (e4 _ _ upd_same))
  refine k ⟨t, dx, kn, od, sd, sa, sm⟩ _ rfl ⟨upd_same, m2 nk k2, m2 no h2, ⟨[], m3 ns h3, rfl⟩, m4 na h4, m5 nm h5, d1, d2, d3, d4⟩ ⟨b1.keep, b1.tups, fun b f => ?_⟩
  rcases f with f | f | f | f | f | f
  · exact .inl f
  · exact .inr (f ▸ hkn)
  · exact .inr (f ▸ fr no c1 hod)
  · exact .inr (f ▸ fr ns c2 hsd)
  · exact .inr (f ▸ fr na c3 hsa)
  · exact .inr (f ▸ fr nm c4 hsm)
theorem ok_Trail_init {P : Program} {w : World} {K : PySem.W.Frag} {mg : Str → Option Value} {base : Heap} (T : Tx K mg) : FnX P w K mg base 1 (He.fAd K ("Trail", some "__init__")) ps_Trail_init (sp_Trail_init K) := by
  obtain ⟨fd, F⟩ := T.fun_Trail_init
  refine ⟨fd, F.ok sc_Trail_init (fun vs H Q E h => len_Trail_init h) (fun cdv A outer s H vs Q E hr h => ⟨t_Trail_init K, PSs.nox (der_Trail_init T hr (hu_of hr)), pure_Trail_init T h⟩), F.bindsN fun _ _ _ _ _ _ us hl => match us, hl with | [_, _], _ => rfl⟩
end
end TW

set_option Elab.async false
set_option linter.all false
set_option maxRecDepth 100000
set_option maxHeartbeats 1000000
namespace TW
open PySem PySem.Spec PyProof.Rows L2 Evl
abbrev CW (K : PySem.W.Frag) : Addr := He.ga K "Watching"
structure WL where
  (w dx cl so pr go bY sh : Addr)
  kv : List (Int × Addr)
structure Wt where
  cls : List (List Int)
  src : List Int
  prs : List (List Int)
  gone : List Bool
  bY : Int → List Nat
  short : List Nat
  looked : Nat
  done : Nat
  mark : Nat
def wFs (M : WL) (t : Addr) (lk dn mk : Int) : List (Str × V) := [("_trail", .ref t), ("_clauses", .ref M.cl), ("_sources", .ref M.so), ("_pairs", .ref M.pr), ("_gone", .ref M.go), ("_by", .ref M.bY), ("_short", .ref M.sh), ("_looked", .int lk), ("_done", .int dn), ("_mark", .int mk)]
def kvK (kv : List (Int × Addr)) : List (Key × V) := kv.map fun p => (Sum.inl p.1, V.ref p.2)
def natsV (l : List Nat) : List V := l.map fun n : Nat => V.int (n : Int)
def TupsK (H : Hp) (xss : List (List Int)) (vs : List V) : Prop := vs.length = xss.length ∧ ∀ (i : Nat) (xs : List Int), xss[i]? = some xs → ∃ a, vs[i]? = some (V.ref a) ∧ H a = some (.tup (xs.map V.int))
structure WRaw (C : Addr) (M : WL) (t : Addr) (lk dn mk : Int) (cl so pr go sh : List V) (B : Int → List Nat) (H : Hp) : Prop where
  ob : H M.w = some (.ins C M.dx (wFs M t lk dn mk))
  cl : H M.cl = some (.lst cl)
  so : H M.so = some (.lst so)
  pr : H M.pr = some (.lst pr)
  go : H M.go = some (.lst go)
  sh : H M.sh = some (.lst sh)
  bY : H M.bY = some (.dK (kvK M.kv))
  ls : ∀ p ∈ M.kv, H p.2 = some (.lst (natsV (B p.1)))
  nk : (M.kv.map (·.1)).Nodup
  na : (M.kv.map (·.2)).Nodup
  em : ∀ x, ¬ x ∈ M.kv.map (·.1) → B x = []
  nd : [M.cl, M.so, M.pr, M.go, M.sh].Nodup
  nl : ∀ p ∈ M.kv, ¬ p.2 ∈ [M.cl, M.so, M.pr, M.go, M.sh]
def WL.In (M : WL) (a : Addr) : Prop := a = M.w ∨ a = M.bY ∨ a ∈ [M.cl, M.so, M.pr, M.go, M.sh] ∨ a ∈ M.kv.map (·.2)
theorem nd5 {a b c d e : Addr} (h : [a, b, c, d, e].Nodup) : a ≠ b ∧ a ≠ c ∧ a ≠ d ∧ a ≠ e ∧ b ≠ c ∧ b ≠ d ∧ b ≠ e ∧ c ≠ d ∧ c ≠ e ∧ d ≠ e := by
  simp only [List.nodup_cons, List.mem_cons, List.not_mem_nil, or_false, not_or] at h
  obtain ⟨⟨h1, h2, h3, h4⟩, ⟨h5, h6, h7⟩, ⟨h8, h9⟩, h10, _⟩ := h
  exact ⟨h1, h2, h3, h4, h5, h6, h7, h8, h9, h10⟩
theorem nl5 {x a b c d e : Addr} (h : ¬ x ∈ [a, b, c, d, e]) : x ≠ a ∧ x ≠ b ∧ x ≠ c ∧ x ≠ d ∧ x ≠ e := by
  simp only [List.mem_cons, List.not_mem_nil, or_false, not_or] at h
  exact h
section
variable {C : Addr} {M : WL} {t : Addr} {lk dn mk : Int} {cl so pr go sh : List V} {B : Int → List Nat} {H H' : Hp} {F F' : Addr → Prop}
theorem TupsK.move {xss : List (List Int)} {vs : List V} (k : TupsK H xss vs) (h : ∀ a xs, H a = some (.tup xs) → H' a = some (.tup xs)) : TupsK H' xss vs :=
  ⟨k.1, fun i xs hx => let ⟨a, h1, h2⟩ := k.2 i xs hx; ⟨a, h1, h a _ h2⟩⟩
theorem TupsK.snoc {xss : List (List Int)} {vs : List V} {xs : List Int} {a : Addr} (k : TupsK H xss vs) (h : H a = some (.tup (xs.map V.int))) : TupsK H (xss ++ [xs]) (vs ++ [.ref a]) := by
  refine ⟨by rw [List.length_append, List.length_append, k.1]; rfl, fun i ys hy => ?_⟩
  rcases Nat.lt_or_ge i xss.length with q | q
  · rw [List.getElem?_append_left q] at hy
    obtain ⟨b, h1, h2⟩ := k.2 i ys hy
    exact ⟨b, by rw [List.getElem?_append_left (by rw [k.1]; exact q)]; exact h1, h2⟩
  · rw [List.getElem?_append_right q] at hy
    have e : i - xss.length = 0 := by
      have := (List.getElem?_eq_some_iff.mp hy).1
      simp at this
      exact this
    rw [e] at hy
    cases hy
    refine ⟨a, ?_, h⟩
    rw [List.getElem?_append_right (by rw [k.1]; exact q), k.1, e]
    rfl
theorem TupsK.set {xss : List (List Int)} {vs : List V} {xs : List Int} {a : Addr} {n : Nat} (k : TupsK H xss vs) (h : H a = some (.tup (xs.map V.int))) : TupsK H (xss.set n xs) (vs.set n (.ref a)) := by
  refine ⟨by rw [List.length_set, List.length_set, k.1], fun i ys hy => ?_⟩
  by_cases e : n = i
  · subst e
    by_cases hn : n < xss.length
    · rw [List.getElem?_set_self hn] at hy
      cases hy
      exact ⟨a, by rw [List.getElem?_set_self (by rw [k.1]; exact hn)], h⟩
    · rw [List.getElem?_eq_none (by rw [List.length_set]; omega)] at hy
      cases hy
  · rw [List.getElem?_set_ne e] at hy
    obtain ⟨b, h1, h2⟩ := k.2 i ys hy
    exact ⟨b, by rw [List.getElem?_set_ne e]; exact h1, h2⟩
theorem WRaw.keep (R : WRaw C M t lk dn mk cl so pr go sh B H) (k : ∀ a o, M.In a → H a = some o → H' a = some o) : WRaw C M t lk dn mk cl so pr go sh B H' :=
  ⟨k _ _ (.inl rfl) R.ob, k _ _ (.inr (.inr (.inl (by simp)))) R.cl, k _ _ (.inr (.inr (.inl (by simp)))) R.so, k _ _ (.inr (.inr (.inl (by simp)))) R.pr, k _ _ (.inr (.inr (.inl (by simp)))) R.go, k _ _ (.inr (.inr (.inl (by simp)))) R.sh, k _ _ (.inr (.inl rfl)) R.bY,
    fun p hp => k _ _ (.inr (.inr (.inr (List.mem_map.mpr ⟨p, hp, rfl⟩)))) (R.ls p hp), R.nk, R.na, R.em, R.nd, R.nl⟩
theorem WRaw.ex (R : WRaw C M t lk dn mk cl so pr go sh B H) (e : Ex H H') : WRaw C M t lk dn mk cl so pr go sh B H' := R.keep fun a o _ h => e a o h
theorem WRaw.tracked (R : WRaw C M t lk dn mk cl so pr go sh B H) : ∀ a, M.In a → H a ≠ none := by
  intro a h
  rcases h with rfl | rfl | h | h
  · rw [R.ob]; exact fun z => nomatch z
  · rw [R.bY]; exact fun z => nomatch z
  · simp only [List.mem_cons, List.not_mem_nil, or_false] at h
    rcases h with rfl | rfl | rfl | rfl | rfl
    · rw [R.cl]; exact fun z => nomatch z
    · rw [R.so]; exact fun z => nomatch z
    · rw [R.pr]; exact fun z => nomatch z
    · rw [R.go]; exact fun z => nomatch z
    · rw [R.sh]; exact fun z => nomatch z
  · obtain ⟨p, hp, rfl⟩ := List.mem_map.mp h
    rw [R.ls p hp]
    exact fun z => nomatch z
theorem WRaw.setCl (R : WRaw C M t lk dn mk cl so pr go sh B H) (x : List V) : WRaw C M t lk dn mk x so pr go sh B (upd H M.cl (.lst x)) := by
  obtain ⟨a1, a2, a3, a4, a5, a6, a7, a8, a9, a10⟩ := nd5 R.nd
  exact ⟨by rw [upd_ne (ne_il R.ob R.cl)]; exact R.ob, upd_same, by rw [upd_ne a1.symm]; exact R.so, by rw [upd_ne a2.symm]; exact R.pr, by rw [upd_ne a3.symm]; exact R.go, by rw [upd_ne a4.symm]; exact R.sh, by rw [upd_ne (ne_dl R.bY R.cl)]; exact R.bY,
    fun p hp => by rw [upd_ne (nl5 (R.nl p hp)).1]; exact R.ls p hp, R.nk, R.na, R.em, R.nd, R.nl⟩
theorem WRaw.setSo (R : WRaw C M t lk dn mk cl so pr go sh B H) (x : List V) : WRaw C M t lk dn mk cl x pr go sh B (upd H M.so (.lst x)) := by
  obtain ⟨a1, a2, a3, a4, a5, a6, a7, a8, a9, a10⟩ := nd5 R.nd
  exact ⟨by rw [upd_ne (ne_il R.ob R.so)]; exact R.ob, by rw [upd_ne a1]; exact R.cl, upd_same, by rw [upd_ne a5.symm]; exact R.pr, by rw [upd_ne a6.symm]; exact R.go, by rw [upd_ne a7.symm]; exact R.sh, by rw [upd_ne (ne_dl R.bY R.so)]; exact R.bY,
    fun p hp => by rw [upd_ne (nl5 (R.nl p hp)).2.1]; exact R.ls p hp, R.nk, R.na, R.em, R.nd, R.nl⟩
theorem WRaw.setPr (R : WRaw C M t lk dn mk cl so pr go sh B H) (x : List V) : WRaw C M t lk dn mk cl so x go sh B (upd H M.pr (.lst x)) := by
  obtain ⟨a1, a2, a3, a4, a5, a6, a7, a8, a9, a10⟩ := nd5 R.nd
  exact ⟨by rw [upd_ne (ne_il R.ob R.pr)]; exact R.ob, by rw [upd_ne a2]; exact R.cl, by rw [upd_ne a5]; exact R.so, upd_same, by rw [upd_ne a8.symm]; exact R.go, by rw [upd_ne a9.symm]; exact R.sh, by rw [upd_ne (ne_dl R.bY R.pr)]; exact R.bY,
    fun p hp => by rw [upd_ne (nl5 (R.nl p hp)).2.2.1]; exact R.ls p hp, R.nk, R.na, R.em, R.nd, R.nl⟩
theorem WRaw.setGo (R : WRaw C M t lk dn mk cl so pr go sh B H) (x : List V) : WRaw C M t lk dn mk cl so pr x sh B (upd H M.go (.lst x)) := by
  obtain ⟨a1, a2, a3, a4, a5, a6, a7, a8, a9, a10⟩ := nd5 R.nd
  exact ⟨by rw [upd_ne (ne_il R.ob R.go)]; exact R.ob, by rw [upd_ne a3]; exact R.cl, by rw [upd_ne a6]; exact R.so, by rw [upd_ne a8]; exact R.pr, upd_same, by rw [upd_ne a10.symm]; exact R.sh, by rw [upd_ne (ne_dl R.bY R.go)]; exact R.bY,
    fun p hp => by rw [upd_ne (nl5 (R.nl p hp)).2.2.2.1]; exact R.ls p hp, R.nk, R.na, R.em, R.nd, R.nl⟩
theorem WRaw.setSh (R : WRaw C M t lk dn mk cl so pr go sh B H) (x : List V) : WRaw C M t lk dn mk cl so pr go x B (upd H M.sh (.lst x)) := by
  obtain ⟨a1, a2, a3, a4, a5, a6, a7, a8, a9, a10⟩ := nd5 R.nd
  exact ⟨by rw [upd_ne (ne_il R.ob R.sh)]; exact R.ob, by rw [upd_ne a4]; exact R.cl, by rw [upd_ne a7]; exact R.so, by rw [upd_ne a9]; exact R.pr, by rw [upd_ne a10]; exact R.go, upd_same, by rw [upd_ne (ne_dl R.bY R.sh)]; exact R.bY,
    fun p hp => by rw [upd_ne (nl5 (R.nl p hp)).2.2.2.2]; exact R.ls p hp, R.nk, R.na, R.em, R.nd, R.nl⟩
theorem WRaw.setOb (R : WRaw C M t lk dn mk cl so pr go sh B H) (lk' dn' mk' : Int) : WRaw C M t lk' dn' mk' cl so pr go sh B (upd H M.w (.ins C M.dx (wFs M t lk' dn' mk'))) :=
  ⟨upd_same, by rw [upd_ne (ne_il R.ob R.cl).symm]; exact R.cl, by rw [upd_ne (ne_il R.ob R.so).symm]; exact R.so, by rw [upd_ne (ne_il R.ob R.pr).symm]; exact R.pr, by rw [upd_ne (ne_il R.ob R.go).symm]; exact R.go, by rw [upd_ne (ne_il R.ob R.sh).symm]; exact R.sh, by rw [upd_ne (ne_id R.ob R.bY).symm]; exact R.bY,
    fun p hp => by rw [upd_ne (ne_il R.ob (R.ls p hp)).symm]; exact R.ls p hp, R.nk, R.na, R.em, R.nd, R.nl⟩
theorem kv_inj {kv : List (Int × Addr)} (na : (kv.map (·.2)).Nodup) {p q : Int × Addr} (hp : p ∈ kv) (hq : q ∈ kv) (e : p.2 = q.2) : p = q := by
  induction kv with
  | nil => cases hp
  | cons a r ih =>
    obtain ⟨h1, h2⟩ := List.nodup_cons.mp (show (a.2 :: r.map (·.2)).Nodup from na)
    rcases List.mem_cons.mp hp with rfl | hp2
    · rcases List.mem_cons.mp hq with rfl | hq2
      · rfl
      · exact (h1 (List.mem_map.mpr ⟨q, hq2, e.symm⟩)).elim
    · rcases List.mem_cons.mp hq with rfl | hq2
      · exact (h1 (List.mem_map.mpr ⟨p, hp2, e⟩)).elim
      · exact ih h2 hp2 hq2
theorem kv_key {kv : List (Int × Addr)} (nk : (kv.map (·.1)).Nodup) {p q : Int × Addr} (hp : p ∈ kv) (hq : q ∈ kv) (e : p.1 = q.1) : p = q := by
  induction kv with
  | nil => cases hp
  | cons a r ih =>
    obtain ⟨h1, h2⟩ := List.nodup_cons.mp (show (a.1 :: r.map (·.1)).Nodup from nk)
    rcases List.mem_cons.mp hp with rfl | hp2
    · rcases List.mem_cons.mp hq with rfl | hq2
      · rfl
      · exact (h1 (List.mem_map.mpr ⟨q, hq2, e.symm⟩)).elim
    · rcases List.mem_cons.mp hq with rfl | hq2
      · exact (h1 (List.mem_map.mpr ⟨p, hp2, e⟩)).elim
      · exact ih h2 hp2 hq2
/-- what the dict gives for a literal -/
theorem kv_get (kv : List (Int × Addr)) (x : Int) : (∃ a, (x, a) ∈ kv ∧ valV (kvK kv) (Sum.inl x) = some (.ref a)) ∨ (¬ x ∈ kv.map (·.1) ∧ valV (kvK kv) (Sum.inl x) = none) := by
  induction kv with
  | nil => exact .inr ⟨by simp, rfl⟩
  | cons p r ih =>
    unfold kvK valV at ih ⊢
    rw [List.map_cons, List.find?_cons]
    by_cases h : p.1 = x
    · have h2 : (Sum.inl p.1 : Key) = Sum.inl x := by rw [h]
      rw [decide_eq_true h2]
      exact .inl ⟨p.2, by rw [← h]; exact List.mem_cons_self, rfl⟩
    · have h2 : ¬ (Sum.inl p.1 : Key) = Sum.inl x := fun z => h (Sum.inl.inj z)
      rw [decide_eq_false h2]
      rcases ih with ⟨a, i1, i2⟩ | ⟨i1, i2⟩
      · exact .inl ⟨a, List.mem_cons_of_mem _ i1, i2⟩
      · refine .inr ⟨fun z => ?_, i2⟩
        rcases List.mem_cons.mp (show x ∈ p.1 :: r.map (·.1) from z) with z | z
        · exact h z.symm
        · exact i1 z
/-- the list of a literal given other numbers -/
theorem WRaw.setLs (R : WRaw C M t lk dn mk cl so pr go sh B H) {x : Int} {a : Addr} (h : (x, a) ∈ M.kv) (l : List Nat) : WRaw C M t lk dn mk cl so pr go sh (fun z => if z = x then l else B z) (upd H a (.lst (natsV l))) := by
  have ha := R.ls _ h
  obtain ⟨b1, b2, b3, b4, b5⟩ := nl5 (R.nl _ h)
  refine ⟨by rw [upd_ne (ne_il R.ob ha)]; exact R.ob, by rw [upd_ne b1.symm]; exact R.cl, by rw [upd_ne b2.symm]; exact R.so, by rw [upd_ne b3.symm]; exact R.pr, by rw [upd_ne b4.symm]; exact R.go, by rw [upd_ne b5.symm]; exact R.sh, by rw [upd_ne (ne_dl R.bY ha)]; exact R.bY,
    fun p hp => ?_, R.nk, R.na, fun z hz => ?_, R.nd, R.nl⟩
  · by_cases e : p.2 = a
    · have e2 : p = (x, a) := kv_inj R.na hp h e
      subst e2
      rw [upd_same, if_pos rfl]
    · have e2 : ¬ p.1 = x := fun q => e (congrArg Prod.snd (kv_key R.nk hp h q))
      rw [upd_ne e, if_neg e2]
      exact R.ls p hp
  · have e : ¬ z = x := fun q => hz (List.mem_map.mpr ⟨_, h, q.symm⟩)
    rw [if_neg e]
    exact R.em z hz
/-- a literal with a new list -/
theorem WRaw.newLs (R : WRaw C M t lk dn mk cl so pr go sh B H) {x : Int} {a : Addr} {l : List Nat} (hx : ¬ x ∈ M.kv.map (·.1)) (ha : H a = some (.lst (natsV l))) (n1 : ∀ b, M.In b → b ≠ a) :
    WRaw C { M with kv := M.kv ++ [(x, a)] } t lk dn mk cl so pr go sh (fun z => if z = x then l else B z) (upd H M.bY (.dK (kvK M.kv ++ [(Sum.inl x, V.ref a)]))) := by
  have k1 : ∀ {b : Addr} {xs : List V}, H b = some (.lst xs) → upd H M.bY (.dK (kvK M.kv ++ [(Sum.inl x, V.ref a)])) b = some (.lst xs) := fun {b xs} h => by rw [upd_ne (ne_dl R.bY h).symm]; exact h
  refine ⟨by rw [upd_ne (ne_id R.ob R.bY)]; exact R.ob, k1 R.cl, k1 R.so, k1 R.pr, k1 R.go, k1 R.sh, ?_, fun p hp => ?_, ?_, ?_, fun z hz => ?_, R.nd, fun p hp => ?_⟩
  · rw [upd_same]
    show _ = some (HO.dK (kvK (M.kv ++ [(x, a)])))
    unfold kvK
    rw [List.map_append]
    rfl
  · rcases List.mem_append.mp hp with hp | hp
    · have e : ¬ p.1 = x := fun q => hx (List.mem_map.mpr ⟨p, hp, q⟩)
      rw [if_neg e]
      exact k1 (R.ls p hp)
    · obtain rfl := List.mem_singleton.mp hp
      rw [if_pos rfl]
      exact k1 ha
  · show ((M.kv ++ [(x, a)]).map (·.1)).Nodup
    rw [List.map_append]
    refine List.nodup_append.mpr ⟨R.nk, by simp, fun b hb c hc => ?_⟩
    have e : c = x := by simpa using hc
    rw [e]
    exact fun z => hx (z ▸ hb)
  · show ((M.kv ++ [(x, a)]).map (·.2)).Nodup
    rw [List.map_append]
    refine List.nodup_append.mpr ⟨R.na, by simp, fun b hb c hc => ?_⟩
    have e : c = a := by simpa using hc
    rw [e]
    exact n1 b (.inr (.inr (.inr hb)))
  · have hz' : ¬ z ∈ (M.kv ++ [(x, a)]).map (·.1) := hz
    rw [List.map_append] at hz'
    have e : ¬ z = x := fun q => hz' (List.mem_append_right _ (by simp [q]))
    rw [if_neg e]
    exact R.em z fun q => hz' (List.mem_append_left _ q)
  · rcases List.mem_append.mp hp with hp | hp
    · exact R.nl p hp
    · obtain rfl := List.mem_singleton.mp hp
      intro q
      exact n1 a (.inr (.inr (.inl q))) rfl
/-- a literal's list put anew -/
theorem WRaw.putLs (R : WRaw C M t lk dn mk cl so pr go sh B H) {x : Int} {a b : Addr} {l : List Nat} (hx : (x, b) ∈ M.kv) (ha : H a = some (.lst (natsV l))) (n1 : ∀ b, M.In b → b ≠ a) :
    WRaw C { M with kv := M.kv.map fun p => if p.1 = x then (x, a) else p } t lk dn mk cl so pr go sh (fun z => if z = x then l else B z) (upd H M.bY (.dK (putK (kvK M.kv) (Sum.inl x) (V.ref a)))) := by
  have k1 : ∀ {b : Addr} {xs : List V}, H b = some (.lst xs) → upd H M.bY (.dK (putK (kvK M.kv) (Sum.inl x) (V.ref a))) b = some (.lst xs) := fun {b xs} h => by rw [upd_ne (ne_dl R.bY h).symm]; exact h
  have e1 : (M.kv.map fun p => if p.1 = x then (x, a) else p).map (·.1) = M.kv.map (·.1) := by
    rw [List.map_map]
    refine List.map_congr_left fun p hp => ?_
    show (if p.1 = x then (x, a) else p).1 = p.1
    split
    · rename_i h
      exact h.symm
    · rfl
  refine ⟨by rw [upd_ne (ne_id R.ob R.bY)]; exact R.ob, k1 R.cl, k1 R.so, k1 R.pr, k1 R.go, k1 R.sh, ?_, fun p hp => ?_, by rw [e1]; exact R.nk, ?_, fun z hz => ?_, R.nd, fun p hp => ?_⟩
  · rw [upd_same]
    have h1 : ((kvK M.kv).any fun kv => decide (kv.1 = (Sum.inl x : Key))) = true := List.any_eq_true.mpr ⟨(Sum.inl x, V.ref b), List.mem_map.mpr ⟨_, hx, rfl⟩, decide_eq_true rfl⟩
    unfold putK
    rw [if_pos h1]
    show _ = some (HO.dK (kvK (M.kv.map fun p => if p.1 = x then (x, a) else p)))
    unfold kvK
    rw [List.map_map, List.map_map]
    congr 2
    refine List.map_congr_left fun p hp => ?_
    show (if (Sum.inl p.1 : Key) = Sum.inl x then ((Sum.inl p.1 : Key), V.ref a) else (Sum.inl p.1, V.ref p.2)) = (Sum.inl (if p.1 = x then (x, a) else p).1, V.ref (if p.1 = x then (x, a) else p).2)
    by_cases h : p.1 = x
    · have h2 : (Sum.inl p.1 : Key) = Sum.inl x := by rw [h]
      rw [if_pos h2, if_pos h, h]
    · have h2 : ¬ (Sum.inl p.1 : Key) = Sum.inl x := fun z => h (Sum.inl.inj z)
      rw [if_neg h2, if_neg h]
  · obtain ⟨q, hq, rfl⟩ := List.mem_map.mp hp
    by_cases h : q.1 = x
    · rw [if_pos h]
      show upd H M.bY _ a = some (HO.lst (natsV (if x = x then l else B x)))
      rw [if_pos rfl]
      exact k1 ha
    · rw [if_neg h, if_neg h]
      exact k1 (R.ls q hq)
  · have na := R.na
    have nk := R.nk
    have hn : ∀ p ∈ M.kv, p.2 ≠ a := fun p hp => n1 p.2 (.inr (.inr (.inr (List.mem_map.mpr ⟨p, hp, rfl⟩))))
    revert na nk hn
    generalize M.kv = kv
    intro na nk hn
    induction kv with
    | nil => simp
    | cons p r ih =>
      obtain ⟨a1, a2⟩ := List.nodup_cons.mp (show (p.2 :: r.map (·.2)).Nodup from na)
      obtain ⟨c1, c2⟩ := List.nodup_cons.mp (show (p.1 :: r.map (·.1)).Nodup from nk)
      have ih2 := ih a2 c2 fun q hq => hn q (List.mem_cons_of_mem _ hq)
      show ((if p.1 = x then (x, a) else p).2 :: (r.map fun p => if p.1 = x then (x, a) else p).map (·.2)).Nodup
      refine List.nodup_cons.mpr ⟨fun z => ?_, ih2⟩
      obtain ⟨q, hq, e⟩ := List.mem_map.mp z
      obtain ⟨q0, hq0, rfl⟩ := List.mem_map.mp hq
      by_cases h1 : p.1 = x
      · have h2 : ¬ q0.1 = x := fun y => c1 (by rw [h1, ← y]; exact List.mem_map.mpr ⟨q0, hq0, rfl⟩)
        rw [if_neg h2, if_pos h1] at e
        exact hn q0 (List.mem_cons_of_mem _ hq0) e
      · rw [if_neg h1] at e
        by_cases h2 : q0.1 = x
        · rw [if_pos h2] at e
          exact hn p List.mem_cons_self e.symm
        · rw [if_neg h2] at e
          exact a1 (List.mem_map.mpr ⟨q0, hq0, e⟩)
  · rw [e1] at hz
    have e : ¬ z = x := fun q => hz (List.mem_map.mpr ⟨_, hx, q.symm⟩)
    rw [if_neg e]
    exact R.em z hz
  · obtain ⟨q, hq, rfl⟩ := List.mem_map.mp hp
    by_cases h : q.1 = x
    · rw [if_pos h]
      intro y
      exact n1 a (.inr (.inr (.inl y))) rfl
    · rw [if_neg h]
      exact R.nl q hq
end
end TW

set_option Elab.async false
set_option linter.all false
set_option maxRecDepth 100000
set_option maxHeartbeats 1000000
namespace TW
open PySem PySem.Spec PyProof.Rows L2 Evl
/-! ### comprehensions over what a list of ours stands for -/
section
variable {K : PySem.W.Frag} {σ : L2.St} {H H' : Hp} {ta tb te tl : TE} {t : TT} {α : Type} {j : Nat} {vs : List Nat}
def Acc (H : Hp) (xs : List α) (f : α → Bool) (g : α → V) (Dl : Addr) (i : Nat) (H' : Hp) : Prop := H Dl = none ∧ Ex H H' ∧ H' Dl = some (.lst (((xs.take i).filter f).map g))
theorem acc_turn {xs : List α} {f : α → Bool} {g : α → V} {Dl : Addr} {i : Nat} {x : α} {σ2 : L2.St} (p : Acc H xs f g Dl i H') (hi : xs[i]? = some x) (hz : xs.length ≤ 40000) (ht : EvT t σ2 H (f x)) (he : f x = true → Ev te σ2 H (g x)) :
    t σ2 H' fun b H3 => if b = true then te σ2 H3 fun y H4 => ∃ acc, H4 Dl = some (.lst acc) ∧ acc.length < sizeLine ∧ Acc H xs f g Dl (i + 1) (upd H4 Dl (.lst (acc ++ [y]))) else Acc H xs f g Dl (i + 1) H3 := by
  obtain ⟨p1, p2, p3⟩ := p
  have e1 : xs.take (i + 1) = xs.take i ++ [x] := by rw [List.take_add_one, hi]; rfl
  refine ht H' p2 _ fun H3 e3 => ?_
  cases hf : f x with
  | true =>
    refine iteT (he hf H3 (p2.trans e3) _ fun H4 e4 => ⟨_, e4 Dl _ (e3 Dl _ p3), sz_lt ?_, p1, Ex.mut ((p2.trans e3).trans e4) p1, ?_⟩)
    · rw [List.length_map]
      have h1 := List.length_filter_le f (xs.take i)
      have h2 : (xs.take i).length ≤ xs.length := by rw [List.length_take]; exact Nat.min_le_right _ _
      omega
    · rw [upd_same, e1, List.filter_append, List.map_append, List.filter_cons, if_pos hf]
      rfl
  | false =>
    refine iteF ⟨p1, p2.trans e3, ?_⟩
    rw [e1, List.filter_append, List.map_append, List.filter_cons, if_neg (by rw [hf]; decide)]
    rw [e3 Dl _ p3]
    simp
theorem el_lcG {a : Addr} (enc : α → V) (xs : List α) (f : α → Bool) (g : α → V) (h : Ev tl σ H (.ref a)) (hx : H a = some (.lst (xs.map enc))) (hz : xs.length ≤ 40000) (hw : ∀ x, wipe ((wipe σ vs).set j (some x)) vs = wipe σ vs)
    (ht : ∀ x ∈ xs, EvT t ((wipe σ vs).set j (some (enc x))) H (f x)) (he : ∀ x ∈ xs, f x = true → Ev te ((wipe σ vs).set j (some (enc x))) H (g x)) : EvL (tLc (iList K tl) (gName j) t te vs) σ H ((xs.filter f).map g) := fun H0 e Q q => h H0 e _ fun H1 e1 => ⟨a, rfl, ⟨_, sq_of ((e.trans e1) a _ hx)⟩, fun Dl hD =>
  lc_list (xs := xs.map enc) (Acc H1 xs f g Dl) ⟨hD, Ex.new hD, upd_same⟩ (fun i H' _ p => sq_of (((e.trans e1).trans p.2.1) a _ hx)) (fun i x H' hi p => by
    rw [List.getElem?_map] at hi
    obtain ⟨y, hy, rfl⟩ := Option.map_eq_some_iff.mp hi
    have hm := List.mem_of_getElem? hy
    exact ⟨hw _, acc_turn p hy hz ((ht y hm).mono (e.trans e1)) (fun hf => (he y hm hf).mono (e.trans e1))⟩) (fun H' p => by
    have p3 := p.2.2
    rw [List.length_map, List.take_length] at p3
    exact q Dl H' (fresh_back e1 p.1) (e1.trans p.2.1) p3)⟩
theorem el_lcGT {a : Addr} (enc : α → V) (xs : List α) (f : α → Bool) (g : α → V) (h : Ev tl σ H (.ref a)) (hx : H a = some (.tup (xs.map enc))) (hz : xs.length ≤ 40000) (hw : ∀ x, wipe ((wipe σ vs).set j (some x)) vs = wipe σ vs)
    (ht : ∀ x ∈ xs, EvT t ((wipe σ vs).set j (some (enc x))) H (f x)) (he : ∀ x ∈ xs, f x = true → Ev te ((wipe σ vs).set j (some (enc x))) H (g x)) : EvL (tLc (iTup K tl) (gName j) t te vs) σ H ((xs.filter f).map g) := fun H0 e Q q => h H0 e _ fun H1 e1 => ⟨a, rfl, ⟨_, st_of ((e.trans e1) a _ hx)⟩, fun Dl hD =>
  lc_tup (xs := xs.map enc) (Acc H1 xs f g Dl) ⟨hD, Ex.new hD, upd_same⟩ (fun i H' _ p => st_of (((e.trans e1).trans p.2.1) a _ hx)) (fun i x H' hi p => by
    rw [List.getElem?_map] at hi
    obtain ⟨y, hy, rfl⟩ := Option.map_eq_some_iff.mp hi
    have hm := List.mem_of_getElem? hy
    exact ⟨hw _, acc_turn p hy hz ((ht y hm).mono (e.trans e1)) (fun hf => (he y hm hf).mono (e.trans e1))⟩) (fun H' p => by
    have p3 := p.2.2
    rw [List.length_map, List.take_length] at p3
    exact q Dl H' (fresh_back e1 p.1) (e1.trans p.2.1) p3)⟩
theorem cut_to {xs : List V} (n : Nat) : cutV xs none (some (n : Int)) = xs.take n := by
  unfold cutV
  rw [HT.sIx_none, HT.sIx_nat, Nat.sub_zero, List.drop_zero]
  rcases Nat.le_total n xs.length with h | h
  · rw [Nat.min_eq_left h]
  · rw [Nat.min_eq_right h, List.take_length, List.take_of_length_le h]
theorem eu_tupL {xs : List V} (h : EvL te σ H xs) : EvU (tCB (rTupS K) (tCons te tNil)) σ H xs := fun H1 e Q q =>
  h H1 e _ fun p H2 hp e2 h2 => ⟨p, xs, rfl, .inl ⟨sq_of h2, fun l hl => q l _ (fresh_back e2 hl) (e2.trans (Ex.new hl)) upd_same⟩⟩
end
/-! ### both objects -/
def WAt (C : Addr) (M : WL) (t : Addr) (known : List Int) (W : Wt) (H : Hp) : Prop := ∃ clv prv, WRaw C M t W.looked W.done W.mark clv (W.src.map V.int) prv (W.gone.map V.bl) (natsV W.short) W.bY H ∧ TupsK H W.cls clv ∧ TupsK H W.prs prv ∧ ∀ p ∈ M.kv, (p.1.natAbs : Int) ∈ known
structure Two (K : PySem.W.Frag) (L : TL) (T : Tr) (M : WL) (W : Wt) (H : Hp) : Prop where
  t : TAt (CT K) L T H
  w : WAt (CW K) M L.t T.known W H
  dj : ∀ a, M.In a → ¬ L.In a
def In2 (L : TL) (M : WL) (a : Addr) : Prop := L.In a ∨ M.In a
section
variable {K : PySem.W.Frag} {L L' : TL} {T T' : Tr} {M M' : WL} {W W' : Wt} {H H' : Hp} {F F' : Addr → Prop}
theorem Two.ex (A : Two K L T M W H) (e : Ex H H') : Two K L T M W H' := by
  obtain ⟨cv, pv, R, k1, k2, k3⟩ := A.w
  exact ⟨A.t.ex e, ⟨cv, pv, R.ex e, k1.move fun a _ h => e a _ h, k2.move fun a _ h => e a _ h, k3⟩, A.dj⟩
theorem WAt.tracked {C t : Addr} {known : List Int} (A : WAt C M t known W H) : ∀ a, M.In a → H a ≠ none := by
  obtain ⟨cv, pv, R, _⟩ := A
  exact R.tracked
theorem Two.tracked (A : Two K L T M W H) : ∀ a, In2 L M a → H a ≠ none := fun a h => h.elim (A.t.tracked a) (A.w.tracked a)
/-- the trail alone moves -/
theorem Two.tr (A : Two K L T M W H) (B : TAt (CT K) L' T' H') (s : Stp L.In L'.In H H') (ht : L'.t = L.t) (hk : T'.known = T.known) : Two K L' T' M W H' ∧ Stp (In2 L M) (In2 L' M) H H' := by
  obtain ⟨cv, pv, R, k1, k2, k3⟩ := A.w
  refine ⟨⟨B, ⟨cv, pv, ?_, k1.move s.tups, k2.move s.tups, by rw [hk]; exact k3⟩, s.apart A.dj R.tracked⟩, s.wide⟩
  rw [ht]
  exact R.keep fun a o i h => s.keep a o h (A.dj a i)
/-- the watcher alone moves -/
theorem Two.wr (A : Two K L T M W H) (B : WAt (CW K) M' L.t T.known W' H') (s : Stp M.In M'.In H H') : Two K L T M' W' H' ∧ Stp (In2 L M) (In2 L M') H H' := by
  have dj : ∀ a, L.In a → ¬ M.In a := fun a h z => A.dj a z h
  refine ⟨⟨A.t.stp s dj, B, fun a h z => s.apart dj A.t.tracked a z h⟩, ⟨fun a o h n => s.keep a o h fun z => n (.inr z), s.tups, fun a h => ?_⟩⟩
  rcases h with h | h
  · exact .inl (.inl h)
  · exact (s.new a h).elim (fun z => .inl (.inr z)) .inr
theorem Two.stp (A : Two K L T M W H) (s : Stp F F' H H') (d : ∀ a, In2 L M a → ¬ F a) : Two K L T M W H' := by
  obtain ⟨cv, pv, R, k1, k2, k3⟩ := A.w
  exact ⟨A.t.stp s fun a h => d a (.inl h), ⟨cv, pv, R.keep fun a o i h => s.keep a o h (d a (.inr i)), k1.move s.tups, k2.move s.tups, k3⟩, A.dj⟩
end
/-! ### _pair_for -/
def isFb (rows : List Row) (x : Int) : Bool := decide (valOf rows x = V.bl false)
def levI (rows : List Row) (x : Int) : Int := match look rows x with
  | none => 0
  | some p => (p.1.lev : Int)
def PairFor (rows : List Row) (c pr : List Int) : Prop := ∃ srt : List Int, srt.Perm (c.filter fun x => isFb rows x) ∧ srt.Pairwise (fun x y => levI rows y ≤ levI rows x) ∧
  pr = (if (c.filter fun x => !isFb rows x).length < 2 then (c.filter fun x => !isFb rows x) ++ srt else c.filter fun x => !isFb rows x).take 2
theorem valOf_two (rows : List Row) (x : Int) : valOf rows x = V.non ∨ ∃ b, valOf rows x = V.bl b := by
  unfold valOf
  split
  · exact .inl rfl
  · exact .inr ⟨_, rfl⟩
section
variable {K : PySem.W.Frag} {mg : Str → Option Value} {vs : List V} {H : Hp} {Q : VK} {E : XK}
theorem spv_value {L : TL} {T : Tr} {x : Int} (A : TAt (CT K) L T H) (hx : (x.natAbs : Int) ∈ T.known) : SpV (sp_Trail_value K) [.ref L.t, .int x] H (valOf T.rows x) := fun H1 e1 Q q E => ⟨L, T, x, rfl, A.ex e1, hx, q⟩
def sp_Watchingpair_for (K : PySem.W.Frag) : Sp := fun vs H Q _ => ∃ (L : TL) (T : Tr) (M : WL) (W : Wt) (a : Addr) (c : List Int), vs = [.ref M.w, .ref a] ∧ Two K L T M W H ∧ H a = some (.tup (c.map V.int)) ∧ c.length < 64 ∧ (∀ x ∈ c, (x.natAbs : Int) ∈ T.known) ∧
  ∀ p pr H', H p = none → Ex H H' → H' p = some (.tup (pr.map V.int)) → PairFor T.rows c pr → Q (.ref p) H'
abbrev N_Watchingpair_for : List Str := ["self", "clause", "first", "rest", "literal"]
theorem sc_Watchingpair_for : FnScope N_Watchingpair_for ["self", "clause"] (defScope s_Watchingpair_for) := ⟨rfl, rfl, rfl, by decide +kernel, rfl, by decide +kernel, by decide +kernel⟩
def t_Watchingpair_for (K : PySem.W.Frag) : TS := (tSeq (tAsg (tLc (iTup K (tVar 1)) (gName 4) (tTest (tOp rNotV (tMeth (He.ga K "Trail") "value" (sp_Trail_value K) [] E0 (tFld K (tVar 0) "_trail") (tCons (tVar 4) tNil)) (tC (.bl false)))) (tVar 4) [4]) (gName 2))
    (tSeq (tIfS (tB (tLt (tCB (rLenS K) (tCons (tVar 2) tNil)) (tC (.int 2)))) (tSeq (tAsg (tLc (iTup K (tVar 1)) (gName 4) (tTest (tOp rIsV (tMeth (He.ga K "Trail") "value" (sp_Trail_value K) [] E0 (tFld K (tVar 0) "_trail") (tCons (tVar 4) tNil)) (tC (.bl false)))) (tVar 4) [4]) (gName 3))
    (tAsg (tOp rCat (tVar 2) (tCKw (rSortedMet K (He.fAd K ("Trail", some "level_of")) (sp_Trail_level_of K) true) (tCons (tVar 3) tNil) (tCons (tBnd (He.ga K "Trail") "level_of" (He.fAd K ("Trail", some "level_of")) (tFld K (tVar 0) "_trail")) (tCons (tC (.bl true)) tNil)))) (gName 2))) tNext)
    (tRet (tCB (rTupS K) (tCons (tSl (rSlL K) (tVar 2) tNoPart (tPart (tC (.int 2)))) tNil)))))
set_option maxHeartbeats 4000000 in
theorem der_Watchingpair_for {P : Program} {w : World} {K : PySem.W.Frag} {mg : Str → Option Value} {base : Heap} {f : Addr} {cdv : Value} {A : Around} {outer : List Env} {s : Shared} {H : Hp} {E : XK} (T : Tx K mg) {fd_Trail_value : FuncData} (F_Trail_value : FnOk P w K mg base CX0 2 (He.fAd K ("Trail", some "value")) fd_Trail_value ps_Trail_value (sp_Trail_value K)) (B_Trail_value : Binds K fd_Trail_value ps_Trail_value []) {fd_Trail_level_of : FuncData} (F_Trail_level_of : FnOk P w K mg base CX0 2 (He.fAd K ("Trail", some "level_of")) fd_Trail_level_of ps_Trail_level_of (sp_Trail_level_of K)) (B_Trail_level_of : Binds K fd_Trail_level_of ps_Trail_level_of []) (hr : Room 4 (A.deeper (envOfC "Watching._pair_for" (defScope s_Watchingpair_for) s.heap.objs.size f cdv))) (hu : (A.deeper (envOfC "Watching._pair_for" (defScope s_Watchingpair_for) s.heap.objs.size f cdv)).units + 1 < cLine) :
    PSs (cxOf CX0 P w K mg base N_Watchingpair_for "Watching._pair_for" (defScope s_Watchingpair_for) f cdv A outer s H E).nox (defBody s_Watchingpair_for) (t_Watchingpair_for K) := by
  exact (pss_cons (ps_setLc (i := 2) (own := [("literal", 4)]) (g := gName 4) rfl sc_Watchingpair_for.nd rfl rfl (sw_true rfl rfl rfl (by decide +kernel)) (pi_tup (pv 1)) (blkOk_by (N := N_Watchingpair_for) (sc := defScope s_Watchingpair_for) (by decide +kernel)) (fun _ _ _ _ _ => pg_name (i := 4) sc_Watchingpair_for.nd rfl (Or.inl rfl)) (fun _ _ _ _ _ => (pts_one (pt_cmpR op_notV (pe_meth (pe_fld (pv 0) rfl) T.cl_Trail T.m_Trail_value F_Trail_value (hr.mono (by decide)) B_Trail_value .nil pass0 (pa_cons (pv 4) pa_nil)) pe_bl (by rfl)))) (fun _ _ _ _ _ => (pv 4)))
    (pss_cons (ps_if (pt_cmp (pc_lt (pe_callB call_len_seq rfl T.f_len bt_len (pa_cons (pv 2) pa_nil)) pe_int)) (pss_cons (ps_setLc (i := 3) (own := [("literal", 4)]) (g := gName 4) rfl sc_Watchingpair_for.nd rfl rfl (sw_true rfl rfl rfl (by decide +kernel)) (pi_tup (pv 1)) (blkOk_by (N := N_Watchingpair_for) (sc := defScope s_Watchingpair_for) (by decide +kernel)) (fun _ _ _ _ _ => pg_name (i := 4) sc_Watchingpair_for.nd rfl (Or.inl rfl)) (fun _ _ _ _ _ => (pts_one (pt_cmpR op_isV (pe_meth (pe_fld (pv 0) rfl) T.cl_Trail T.m_Trail_value F_Trail_value (hr.mono (by decide)) B_Trail_value .nil pass0 (pa_cons (pv 4) pa_nil)) pe_bl (by rfl)))) (fun _ _ _ _ _ => (pv 4)))
    (pss_one (ps_set (i := 2) sc_Watchingpair_for.nd rfl (Or.inl rfl) (pe_op op_cat (pv 2) (pe_callBK (cr_sortedMet (b := true) F_Trail_level_of (hr.mono (by decide)) B_Trail_level_of) rfl T.f_sorted bt_sorted (pa_cons (pv 3) pa_nil) (pk_cons (pe_bnd (pe_fld (pv 0) rfl) T.cl_Trail T.bm_Trail_level_of) (pk_cons pe_bl pk_nil))))))) pss_nil)
    (pss_one (ps_ret (pe_callTy call_tuple_of rfl T.f_tuple bt_tuple (pa_cons (pe_slice sl_list (pv 2) po_none (po_some pe_int)) pa_nil))))))
theorem len_Watchingpair_for (h : sp_Watchingpair_for K vs H Q E) : vs.length = 2 := by
  obtain ⟨_, _, _, _, _, _, rfl, _⟩ := h
  rfl
theorem pure_Watchingpair_for (T : Tx K mg) (h : sp_Watchingpair_for K vs H Q E) : t_Watchingpair_for K { nx := fun _ H' => Q .non H', rt := Q } (start N_Watchingpair_for vs) H := by
  obtain ⟨L, Tr, M, W, a, c, rfl, A, ha, hl, hk, k⟩ := h
  obtain ⟨cv, pv, R, _⟩ := A.w
  have hval : ∀ {σ : L2.St} (x : Int), x ∈ c → σ[0]? = some (some (V.ref M.w)) → σ[4]? = some (some (V.int x)) → Ev (tMeth (He.ga K "Trail") "value" (sp_Trail_value K) [] E0 (tFld K (tVar 0) "_trail") (tCons (tVar 4) tNil)) σ H (valOf Tr.rows x) := fun {σ} x hx h0 h4 =>
    ev_meth (ev_fld (ev_var h0) R.ob T.cl_Watching T.no_Watching_trail rfl) A.t.ob rfl (ea_cons (ev_var h4) ea_nil) (spv_value A.t (hk x hx))
  have fin : ∀ {σ : L2.St} {q : Addr} {xs : List Int} {H' : Hp}, σ[2]? = some (some (V.ref q)) → Ex H H' → H' q = some (.lst (xs.map V.int)) → PairFor Tr.rows c (xs.take 2) →
      tRet (tCB (rTupS K) (tCons (tSl (rSlL K) (tVar 2) tNoPart (tPart (tC (.int 2)))) tNil)) { nx := fun _ H' => Q .non H', rt := Q } σ H' := fun {σ q xs H'} h2 e hq hp =>
    s_retU (eu_tupL (el_is (el_sl (ev_var h2) eo_none (eo_some ev_c) (sq_of hq)) (cut_to 2))) fun p H2 hpn e2 h2' => k p (xs.take 2) H2 (fresh_back e hpn) (e.trans e2) (by rw [h2', List.map_take]) hp
  refine q_asgL (el_lcGT (α := Int) V.int c (fun x => !isFb Tr.rows x) V.int (ev_var rfl) ha (by omega) (fun x => rfl) (fun x hx => et_is (et_test (ev_notV (hval x hx rfl rfl) (valOf_two _ _))) rfl) (fun x hx _ => ev_var rfl)) fun p H1 hp e1 h1 => ?_
  refine q_if (b := decide ((c.filter fun x => !isFb Tr.rows x).length < 2)) (et_is (et_B (ev_cmp (ev_lenL (ev_var rfl) h1) ev_c)) ?_) (fun hb H2 e2 => ?_) (fun hb H2 e2 => ?_)
  · rw [List.length_map, Bool.eq_iff_iff]
    simp
    omega
  · have hb' := of_decide_eq_true hb
    have e12 := e1.trans e2
    refine q_asgL (el_lcGT (α := Int) V.int c (fun x => isFb Tr.rows x) V.int (ev_var rfl) (e12 _ _ ha) (by omega) (fun x => rfl) (fun x hx => et_is (et_test (ev_isV ((hval x hx rfl rfl).mono e12) (valOf_two _ _))) rfl) (fun x hx _ => ev_var rfl)) fun p3 H3 hp3 e3 h3 => ?_
    have e13 := e12.trans e3
    -- first + sorted(rest, key=self._trail.level_of, reverse=True)
    refine ⟨_, rfl, _, rfl, _, rfl, _, _, _, _, _, rfl, e13 _ _ R.ob, T.cl_Watching, T.no_Watching_trail, rfl, _, _, _, rfl, e13 _ _ A.t.ob, rfl, fun q hq => ?_⟩
    refine ⟨p3, c.filter fun x => isFb Tr.rows x, q, L.t, levI Tr.rows, rfl, rfl, sq_of (Ex.new hq _ _ h3), ?_, upd_same, fun n hn H4 e4 Q' k4 => ?_, fun ns' p4 H4 hperm hpw hp4 e4 h4 => ?_⟩
    · have := List.length_filter_le (fun x => isFb Tr.rows x) c
      omega
    · have hn' := (List.mem_filter.mp hn)
      refine ⟨L, Tr, n, rfl, (A.ex ((e13.trans (Ex.new hq)).trans e4)).t, hk n hn'.1, fun H5 e5 => ?_⟩
      have hf := of_decide_eq_true hn'.2
      have z : levOf Tr.rows n = V.int (levI Tr.rows n) := by
        unfold valOf at hf
        unfold levOf levI
        revert hf
        cases look Tr.rows n with
        | none => intro hf; cases hf
        | some p => intro _; rfl
      rw [z]
      exact k4 H5 e5
    · have h1' : H4 p = some (.lst ((c.filter fun x => !isFb Tr.rows x).map V.int)) := e4 _ _ (Ex.new hq _ _ (e3 _ _ (e2 _ _ h1)))
      refine ⟨p, p4, _, _, rfl, rfl, h1', h4, ?_, fun r hr => ?_⟩
      · refine sz_of ?_
        rw [List.length_map, List.length_map, hperm.length_eq]
        have h5 := List.length_filter_le (fun x => isFb Tr.rows x) c
        have h6 := List.length_filter_le (fun x => !isFb Tr.rows x) c
        omega
      · refine fin (q := r) (xs := (c.filter fun x => !isFb Tr.rows x) ++ ns') rfl (((e13.trans (Ex.new hq)).trans e4).trans (Ex.new hr)) ?_ ⟨ns', hperm, hpw, ?_⟩
        · rw [upd_same, List.map_append]
        · rw [if_pos hb']
  · have hb' := of_decide_eq_false hb
    refine fin (q := p) (xs := c.filter fun x => !isFb Tr.rows x) rfl (e1.trans e2) (e2 _ _ h1) ⟨(c.filter fun x => isFb Tr.rows x).mergeSort (fun x y => decide (levI Tr.rows y ≤ levI Tr.rows x)), List.mergeSort_perm _ _, ?_, by rw [if_neg hb']⟩
    have z := List.pairwise_mergeSort (le := fun x y => decide (levI Tr.rows y ≤ levI Tr.rows x)) (fun a b c h1 h2 => by simp only [decide_eq_true_eq] at *; omega) (fun a b => by simp only [Bool.or_eq_true, decide_eq_true_eq]; omega) (c.filter fun x => isFb Tr.rows x)
    exact z.imp fun {x y} h => of_decide_eq_true h
theorem ok_Watchingpair_for {P : Program} {w : World} {K : PySem.W.Frag} {mg : Str → Option Value} {base : Heap} (T : Tx K mg) : FnX P w K mg base 5 (He.fAd K ("Watching", some "_pair_for")) ps_Watchingpair_for (sp_Watchingpair_for K) := by
  obtain ⟨_, F_Trail_value, B_Trail_value⟩ := ok_Trail_value (P := P) (w := w) (base := base) T
  obtain ⟨_, F_Trail_level_of, B_Trail_level_of⟩ := ok_Trail_level_of (P := P) (w := w) (base := base) T
  obtain ⟨fd, F⟩ := T.fun_Watchingpair_for
  refine ⟨fd, F.ok sc_Watchingpair_for (fun vs H Q E h => len_Watchingpair_for h) (fun cdv A outer s H vs Q E hr h => ⟨t_Watchingpair_for K, PSs.nox (der_Watchingpair_for T F_Trail_value B_Trail_value F_Trail_level_of B_Trail_level_of hr (hu_of hr)), pure_Watchingpair_for T h⟩), F.bindsN fun _ _ _ _ _ _ us hl => match us, hl with | [_, _], _ => rfl⟩
end
end TW

set_option Elab.async false
set_option linter.all false
set_option maxRecDepth 100000
set_option maxHeartbeats 1000000
namespace TW
open PySem PySem.Spec PyProof.Rows L2 Evl
def Wt.addBy (W : Wt) (x : Int) (n : Nat) : Wt := { W with bY := fun z => if z = x then W.bY x ++ [n] else W.bY z }
def Wt.setPr (W : Wt) (n : Nat) (p : List Int) : Wt := { W with prs := W.prs.set n p }
theorem natsV_snoc (l : List Nat) (n : Nat) : natsV (l ++ [n]) = natsV l ++ [V.int (n : Int)] := by unfold natsV; rw [List.map_append]; rfl
theorem natsV_len (l : List Nat) : (natsV l).length = l.length := List.length_map _
theorem lits_len {kv : List (Int × Addr)} {known : List Int} (nk : (kv.map (·.1)).Nodup) (hk : ∀ p ∈ kv, (p.1.natAbs : Int) ∈ known) : kv.length ≤ 2 * known.length := by
  have h := nodup_len (m := known ++ known.map fun x => -x) nk fun x hx => by
    obtain ⟨p, hp, rfl⟩ := List.mem_map.mp hx
    have h1 := hk p hp
    rcases Int.natAbs_eq p.1 with e | e
    · rw [e]
      exact List.mem_append_left _ (by simpa using h1)
    · refine List.mem_append_right _ (List.mem_map.mpr ⟨_, h1, ?_⟩)
      exact e.symm
  rw [List.length_map, List.length_append, List.length_map] at h
  omega
section
variable {K : PySem.W.Frag} {σ : L2.St} {H : Hp} {to tx tn : TE} {D : Ends} {tz : TS} {M : WL} {t : Addr} {known : List Int} {W : Wt} {x : Int} {n : Nat} {C : Addr}
theorem WL.in_kv {p : Int × Addr} (h : p ∈ M.kv) : M.In p.2 := .inr (.inr (.inr (List.mem_map.mpr ⟨p, h, rfl⟩)))
theorem in_new {a b : Addr} (h : ({ M with kv := M.kv ++ [(x, a)] } : WL).In b) : M.In b ∨ b = a := by
  rcases h with h | h | h | h
  · exact .inl (.inl h)
  · exact .inl (.inr (.inl h))
  · exact .inl (.inr (.inr (.inl h)))
  · obtain ⟨p, hp, rfl⟩ := List.mem_map.mp h
    rcases List.mem_append.mp hp with hp | hp
    · exact .inl (WL.in_kv hp)
    · obtain rfl := List.mem_singleton.mp hp
      exact .inr rfl
/-- self._by.setdefault(x, []).append(n) -/
theorem s_by (A : WAt C M t known W H) (hC : Cls K C) (hb : NoAttr K C "_by") (ho : Ev to σ H (.ref M.w)) (hx : Ev tx σ H (.int x)) {i : Nat} (hn : σ[i]? = some (some (V.int (n : Int)))) (xk : (x.natAbs : Int) ∈ known) (kl : known.length ≤ 1000) (bl : (W.bY x).length ≤ 10000)
    (q : ∀ M' H', M'.w = M.w → WAt C M' t known (W.addBy x n) H' → Stp M.In M'.In H H' → D.nx σ H') : tDrop (tBM K "list" rAppend (tDSetd (tFld K to "_by") tx (tLst tNil)) (tCons (tVar i) tNil)) D σ H := by
  obtain ⟨cv, pv, R, k1, k2, k3⟩ := A
  have hlen : (kvK M.kv).length < sizeLine := by
    refine sz_lt ?_
    have := lits_len R.nk k3
    unfold kvK
    rw [List.length_map]
    omega
  refine (ev_fld ho R.ob hC hb rfl) H (Ex.refl H) _ fun H1 e1 => ⟨M.bY, rfl, .inl ⟨_, .inl (e1 _ _ R.bY)⟩, hx H1 e1 _ fun H2 e2 => ⟨Nat.zero_le _, fun p hp => ⟨kvK M.kv, Sum.inl x, ?_, rfl, hlen, fun v hv => ?_, fun hv => ?_⟩⟩⟩
  · rw [upd_ne (ne_of_none (e2 _ _ (e1 _ _ R.bY)) hp)]
    exact e2 _ _ (e1 _ _ R.bY)
  · -- the list stands there
    rcases kv_get M.kv x with ⟨a, ha, hg⟩ | ⟨_, hg⟩
    · rw [hg] at hv
      cases hv
      have e3 : Ex H (upd H2 p (.lst [])) := (e1.trans e2).trans (Ex.new hp)
      have R3 := R.ex e3
      refine ⟨.inl ⟨rfl, _, sq_of (R3.ls _ ha)⟩, _, hn, ?_⟩
      have R4 := R3
      refine ⟨a, _, _, rfl, rfl, R4.ls _ ha, sz_lt (by rw [natsV_len]; show (W.bY x).length < 100000; omega), ?_⟩
      have R5 := R4.setLs ha (W.bY x ++ [n])
      have s5 : Stp M.In M.In H _ := Stp.pre e3 (Stp.upd (o := .lst (natsV (W.bY x ++ [n]))) (WL.in_kv ha) (nt_lst (R4.ls _ ha)))
      rw [← natsV_snoc]
      exact q M _ rfl ⟨cv, pv, R5, k1.move s5.tups, k2.move s5.tups, k3⟩ s5
    · rw [hg] at hv
      cases hv
  · rcases kv_get M.kv x with ⟨a, ha, hg⟩ | ⟨hno, hg⟩
    · rw [hg] at hv
      cases hv
    · rw [putK_new _ hg]
      have e3 : Ex H (upd H2 p (.lst [])) := (e1.trans e2).trans (Ex.new hp)
      have R3 := R.ex e3
      have np : ∀ b, M.In b → b ≠ p := fun b hb z => by
        have := (R.ex (e1.trans e2)).tracked b hb
        rw [z] at this
        exact this hp
      have R4 := R3.newLs (l := []) hno (a := p) upd_same np
      have hp4 : upd (upd H2 p (HO.lst [])) M.bY (.dK (kvK M.kv ++ [(Sum.inl x, V.ref p)])) p = some (.lst []) := by
        rw [upd_ne (np _ (.inr (.inl rfl))).symm]
        exact upd_same
      refine ⟨.inl ⟨rfl, _, sq_of hp4⟩, _, hn, p, _, _, rfl, rfl, hp4, by decide, ?_⟩
      have s4 : Stp M.In ({ M with kv := M.kv ++ [(x, p)] } : WL).In H _ := Stp.newer (p := p) (Stp.upd (o := .dK (kvK M.kv ++ [(Sum.inl x, V.ref p)])) (F := M.In) (.inr (.inl rfl)) (nt_dK R3.bY)) e3 (fresh_back (e1.trans e2) hp) fun b hb => in_new hb
      have hmem : (x, p) ∈ ({ M with kv := M.kv ++ [(x, p)] } : WL).kv := List.mem_append_right _ (List.mem_singleton.mpr rfl)
      have R5 := R4.setLs hmem [n]
      have s5 : Stp M.In ({ M with kv := M.kv ++ [(x, p)] } : WL).In H _ := s4.trans (Stp.upd (o := .lst (natsV [n])) (WL.in_kv hmem) (nt_lst hp4))
      refine q { M with kv := M.kv ++ [(x, p)] } _ rfl ⟨cv, pv, ?_, k1.move s5.tups, k2.move s5.tups, fun b hb => ?_⟩ s5
      · have eB : (W.addBy x n).bY = fun z => if z = x then [n] else if z = x then [] else W.bY z := by
          funext z
          show (if z = x then W.bY x ++ [n] else W.bY z) = _
          by_cases h : z = x
          · rw [if_pos h, if_pos h, R.em x hno]
            rfl
          · rw [if_neg h, if_neg h, if_neg h]
        rw [eB]
        exact R5
      · rcases List.mem_append.mp hb with hb | hb
        · exact k3 b hb
        · obtain rfl := List.mem_singleton.mp hb
          exact xk
theorem q_setLU {te ta tb : TE} {l : Addr} {xs ys : List V} {j : Nat} (hl : H l = some (.lst xs)) (h : EvU te σ H ys) (ho : Ev ta σ H (.ref l)) (hi : Ev tb σ H (.int (j : Int))) (hj : j < xs.length)
    (k : ∀ p H1, H p = none → Ex H H1 → H1 p = some (.tup ys) → tz D σ (upd H1 l (.lst (xs.set j (.ref p))))) : tSeq (tAsg te (gSub ta tb rSetL)) tz D σ H := h H (Ex.refl H) _ fun p H1 hp e1 h1 => ho H1 e1 _ fun H2 e2 => hi H2 (e1.trans e2) _ fun H3 e3 =>
  ⟨l, xs, (j : Int), j, rfl, rfl, ((e1.trans e2).trans e3) l _ hl, ixN_nat hj, k p H3 hp ((e1.trans e2).trans e3) (e3 p _ (e2 p _ h1))⟩
theorem q_by (A : WAt C M t known W H) (hC : Cls K C) (hb : NoAttr K C "_by") (ho : Ev to σ H (.ref M.w)) (hx : Ev tx σ H (.int x)) {i : Nat} (hn : σ[i]? = some (some (V.int (n : Int)))) (xk : (x.natAbs : Int) ∈ known) (kl : known.length ≤ 1000) (bl : (W.bY x).length ≤ 10000)
    (q : ∀ M' H', M'.w = M.w → WAt C M' t known (W.addBy x n) H' → Stp M.In M'.In H H' → tz D σ H') : tSeq (tDrop (tBM K "list" rAppend (tDSetd (tFld K to "_by") tx (tLst tNil)) (tCons (tVar i) tNil))) tz D σ H := s_by (D := { D with nx := tz D }) A hC hb ho hx hn xk kl bl q
end
section
variable {K : PySem.W.Frag} {mg : Str → Option Value} {vs : List V} {H : Hp} {Q : VK} {E : XK}
/-! ### watched, forget -/
def sp_Watching_watched (K : PySem.W.Frag) : Sp := fun vs H Q _ => ∃ (L : TL) (T : Tr) (M : WL) (W : Wt) (n : Nat) (p : List Int), vs = [.ref M.w, .int (n : Int)] ∧ Two K L T M W H ∧ W.prs[n]? = some p ∧
  ∀ a H', Ex H H' → H' a = some (.tup (p.map V.int)) → Q (.ref a) H'
abbrev N_Watching_watched : List Str := ["self", "number"]
theorem sc_Watching_watched : FnScope N_Watching_watched ["self", "number"] (defScope s_Watching_watched) := ⟨rfl, rfl, rfl, by decide +kernel, rfl, by decide +kernel, by decide +kernel⟩
def t_Watching_watched (K : PySem.W.Frag) : TS := (tRet (tOp (rIxL K) (tFld K (tVar 0) "_pairs") (tVar 1)))
set_option maxHeartbeats 4000000 in
theorem der_Watching_watched {P : Program} {w : World} {K : PySem.W.Frag} {mg : Str → Option Value} {base : Heap} {f : Addr} {cdv : Value} {A : Around} {outer : List Env} {s : Shared} {H : Hp} {E : XK} (T : Tx K mg) (hr : Room 0 (A.deeper (envOfC "Watching.watched" (defScope s_Watching_watched) s.heap.objs.size f cdv))) (hu : (A.deeper (envOfC "Watching.watched" (defScope s_Watching_watched) s.heap.objs.size f cdv)).units + 1 < cLine) :
    PSs (cxOf CX0 P w K mg base N_Watching_watched "Watching.watched" (defScope s_Watching_watched) f cdv A outer s H E).nox (defBody s_Watching_watched) (t_Watching_watched K) := by
  exact (pss_one (ps_ret (pe_ix ix_list (pe_fld (pv 0) rfl) (pv 1) (fun _ _ => rfl))))
theorem len_Watching_watched (h : sp_Watching_watched K vs H Q E) : vs.length = 2 := by
  obtain ⟨_, _, _, _, _, _, rfl, _⟩ := h
  rfl
theorem pure_Watching_watched (T : Tx K mg) (h : sp_Watching_watched K vs H Q E) : t_Watching_watched K { nx := fun _ H' => Q .non H', rt := Q } (start N_Watching_watched vs) H := by
  obtain ⟨L, Tr, M, W, n, p, rfl, A, hp, k⟩ := h
  obtain ⟨cv, pv, R, k1, k2, k3⟩ := A.w
  obtain ⟨a, ha, hh⟩ := k2.2 n p hp
  exact s_ret (ev_ixL (j := n) (ev_fld (ev_var rfl) R.ob T.cl_Watching T.no_Watching_pairs rfl) (ev_var rfl) R.pr ha) fun H1 e1 => k a H1 e1 (e1 _ _ hh)
theorem ok_Watching_watched {P : Program} {w : World} {K : PySem.W.Frag} {mg : Str → Option Value} {base : Heap} (T : Tx K mg) : FnX P w K mg base 1 (He.fAd K ("Watching", some "watched")) ps_Watching_watched (sp_Watching_watched K) := by
  obtain ⟨fd, F⟩ := T.fun_Watching_watched
  refine ⟨fd, F.ok sc_Watching_watched (fun vs H Q E h => len_Watching_watched h) (fun cdv A outer s H vs Q E hr h => ⟨t_Watching_watched K, PSs.nox (der_Watching_watched T hr (hu_of hr)), pure_Watching_watched T h⟩), F.bindsN fun _ _ _ _ _ _ us hl => match us, hl with | [_, _], _ => rfl⟩
def Wt.forget (W : Wt) (n : Nat) : Wt := { W with gone := W.gone.set n true }
def sp_Watching_forget (K : PySem.W.Frag) : Sp := fun vs H Q _ => ∃ (L : TL) (T : Tr) (M : WL) (W : Wt) (n : Nat), vs = [.ref M.w, .int (n : Int)] ∧ Two K L T M W H ∧ n < W.gone.length ∧
  ∀ H', Two K L T M (W.forget n) H' → Stp (In2 L M) (In2 L M) H H' → Q .non H'
abbrev N_Watching_forget : List Str := ["self", "number"]
theorem sc_Watching_forget : FnScope N_Watching_forget ["self", "number"] (defScope s_Watching_forget) := ⟨rfl, rfl, rfl, by decide +kernel, rfl, by decide +kernel, by decide +kernel⟩
def t_Watching_forget (K : PySem.W.Frag) : TS := (tAsg (tC (.bl true)) (gSub (tFld K (tVar 0) "_gone") (tVar 1) rSetL))
set_option maxHeartbeats 4000000 in
theorem der_Watching_forget {P : Program} {w : World} {K : PySem.W.Frag} {mg : Str → Option Value} {base : Heap} {f : Addr} {cdv : Value} {A : Around} {outer : List Env} {s : Shared} {H : Hp} {E : XK} (T : Tx K mg) (hr : Room 0 (A.deeper (envOfC "Watching.forget" (defScope s_Watching_forget) s.heap.objs.size f cdv))) (hu : (A.deeper (envOfC "Watching.forget" (defScope s_Watching_forget) s.heap.objs.size f cdv)).units + 1 < cLine) :
    PSs (cxOf CX0 P w K mg base N_Watching_forget "Watching.forget" (defScope s_Watching_forget) f cdv A outer s H E).nox (defBody s_Watching_forget) (t_Watching_forget K) := by
  exact (pss_one (ps_asg pe_bl (pg_sub (pe_fld (pv 0) rfl) (pv 1) set_list)))
theorem len_Watching_forget (h : sp_Watching_forget K vs H Q E) : vs.length = 2 := by
  obtain ⟨_, _, _, _, _, rfl, _⟩ := h
  rfl
theorem pure_Watching_forget (T : Tx K mg) (h : sp_Watching_forget K vs H Q E) : t_Watching_forget K { nx := fun _ H' => Q .non H', rt := Q } (start N_Watching_forget vs) H := by
  obtain ⟨L, Tr, M, W, n, rfl, A, hn, k⟩ := h
  obtain ⟨cv, pv, R, k1, k2, k3⟩ := A.w
  refine s_setL (j := n) R.go ev_c (ev_fld (ev_var rfl) R.ob T.cl_Watching T.no_Watching_gone rfl) (ev_var rfl) (by rw [List.length_map]; exact hn) fun H1 e1 => ?_
  have R1 := (R.ex e1).setGo ((W.gone.map V.bl).set n (.bl true))
  have s1 : Stp M.In M.In H _ := Stp.pre e1 (Stp.upd (o := .lst ((W.gone.map V.bl).set n (.bl true))) (.inr (.inr (.inl (by simp)))) (nt_lst (R.ex e1).go))
  have B : WAt (CW K) M L.t Tr.known (W.forget n) _ := ⟨cv, pv, by
    have e2 : (W.forget n).gone.map V.bl = (W.gone.map V.bl).set n (.bl true) := List.map_set
    rw [e2]
    exact R1, k1.move s1.tups, k2.move s1.tups, k3⟩
  obtain ⟨A2, s2⟩ := A.wr B s1
  exact k _ A2 s2
theorem ok_Watching_forget {P : Program} {w : World} {K : PySem.W.Frag} {mg : Str → Option Value} {base : Heap} (T : Tx K mg) : FnX P w K mg base 1 (He.fAd K ("Watching", some "forget")) ps_Watching_forget (sp_Watching_forget K) := by
  obtain ⟨fd, F⟩ := T.fun_Watching_forget
  refine ⟨fd, F.ok sc_Watching_forget (fun vs H Q E h => len_Watching_forget h) (fun cdv A outer s H vs Q E hr h => ⟨t_Watching_forget K, PSs.nox (der_Watching_forget T hr (hu_of hr)), pure_Watching_forget T h⟩), F.bindsN fun _ _ _ _ _ _ us hl => match us, hl with | [_, _], _ => rfl⟩
/-! ### _other -/
def othOf (x y f : Int) : Int := if x = f then y else x
def sp_Watchingother (K : PySem.W.Frag) : Sp := fun vs H Q _ => ∃ (L : TL) (T : Tr) (M : WL) (W : Wt) (n : Nat) (f x y : Int), vs = [.ref M.w, .int (n : Int), .int f] ∧ Two K L T M W H ∧ W.prs[n]? = some [x, y] ∧ ∀ H', Ex H H' → Q (.int (othOf x y f)) H'
abbrev N_Watchingother : List Str := ["self", "number", "literal", "one", "two"]
theorem sc_Watchingother : FnScope N_Watchingother ["self", "number", "literal"] (defScope s_Watchingother) := ⟨rfl, rfl, rfl, by decide +kernel, rfl, by decide +kernel, by decide +kernel⟩
def t_Watchingother (K : PySem.W.Frag) : TS := (tSeq (tAsg (tOp (rIxL K) (tFld K (tVar 0) "_pairs") (tVar 1)) (gTup K 2 (gCons (gName 3) (gCons (gName 4) gNil))))
    (tSeq (tIfS (tB (tEqI (tVar 3) (tVar 2))) (tRet (tVar 4)) tNext)
    (tRet (tVar 3))))
set_option maxHeartbeats 4000000 in
theorem der_Watchingother {P : Program} {w : World} {K : PySem.W.Frag} {mg : Str → Option Value} {base : Heap} {f : Addr} {cdv : Value} {A : Around} {outer : List Env} {s : Shared} {H : Hp} {E : XK} (T : Tx K mg) (hr : Room 0 (A.deeper (envOfC "Watching._other" (defScope s_Watchingother) s.heap.objs.size f cdv))) (hu : (A.deeper (envOfC "Watching._other" (defScope s_Watchingother) s.heap.objs.size f cdv)).units + 1 < cLine) :
    PSs (cxOf CX0 P w K mg base N_Watchingother "Watching._other" (defScope s_Watchingother) f cdv A outer s H E).nox (defBody s_Watchingother) (t_Watchingother K) := by
  exact (pss_cons (ps_asg (pe_ix ix_list (pe_fld (pv 0) rfl) (pv 1) (fun _ _ => rfl)) (pg_tup rfl (pgs_cons (pg_name (i := 3) sc_Watchingother.nd rfl (Or.inl rfl)) (pgs_cons (pg_name (i := 4) sc_Watchingother.nd rfl (Or.inl rfl)) pgs_nil))))
    (pss_cons (ps_if (pt_cmp (pc_eqI (pv 3) (pv 2))) (pss_one (ps_ret (pv 4))) pss_nil)
    (pss_one (ps_ret (pv 3)))))
theorem len_Watchingother (h : sp_Watchingother K vs H Q E) : vs.length = 3 := by
  obtain ⟨_, _, _, _, _, _, _, _, rfl, _⟩ := h
  rfl
theorem pure_Watchingother (T : Tx K mg) (h : sp_Watchingother K vs H Q E) : t_Watchingother K { nx := fun _ H' => Q .non H', rt := Q } (start N_Watchingother vs) H := by
  obtain ⟨L, Tr, M, W, n, f, x, y, rfl, A, hp, k⟩ := h
  obtain ⟨cv, pv, R, k1, k2, k3⟩ := A.w
  obtain ⟨a, ha, hh⟩ := k2.2 n _ hp
  refine (ev_ixL (j := n) (ev_fld (ev_var rfl) R.ob T.cl_Watching T.no_Watching_pairs rfl) (ev_var rfl) R.pr ha) H (Ex.refl H) _ fun H1 e1 => ?_
  refine ⟨a, [.int x, .int y], rfl, st_of (e1 _ _ hh), rfl, _, _, rfl, _, _, rfl, rfl, ?_⟩
  refine q_when (b := decide (x = f)) (et_B (ev_cmp (p := fun i j => decide (i = j)) (ev_var rfl) (ev_var rfl))) (fun hb H2 e2 => ?_) (fun hb H2 e2 => ?_)
  · refine s_ret (ev_var rfl) fun H3 e3 => ?_
    have z := k H3 ((e1.trans e2).trans e3)
    unfold othOf at z
    rw [if_pos (of_decide_eq_true hb)] at z
    exact z
  · refine s_ret (ev_var rfl) fun H3 e3 => ?_
    have z := k H3 ((e1.trans e2).trans e3)
    unfold othOf at z
    rw [if_neg (of_decide_eq_false hb)] at z
    exact z
theorem ok_Watchingother {P : Program} {w : World} {K : PySem.W.Frag} {mg : Str → Option Value} {base : Heap} (T : Tx K mg) : FnX P w K mg base 1 (He.fAd K ("Watching", some "_other")) ps_Watchingother (sp_Watchingother K) := by
  obtain ⟨fd, F⟩ := T.fun_Watchingother
  refine ⟨fd, F.ok sc_Watchingother (fun vs H Q E h => len_Watchingother h) (fun cdv A outer s H vs Q E hr h => ⟨t_Watchingother K, PSs.nox (der_Watchingother T hr (hu_of hr)), pure_Watchingother T h⟩), F.bindsN fun _ _ _ _ _ _ us hl => match us, hl with | [_, _, _], _ => rfl⟩
/-! ### _moves -/
def candOf (rows : List Row) (c : List Int) (o : Int) : Option Int := c.find? fun z => decide (z ≠ o) && !isFb rows z
def Wt.move (W : Wt) (n : Nat) (o z : Int) : Wt := (W.setPr n [o, z]).addBy z n
def sp_Watchingmoves (K : PySem.W.Frag) : Sp := fun vs H Q _ => ∃ (L : TL) (T : Tr) (M : WL) (W : Wt) (n : Nat) (f x y : Int) (c : List Int), vs = [.ref M.w, .int (n : Int), .int f] ∧ Two K L T M W H ∧ T.known.length ≤ 1000 ∧ W.prs[n]? = some [x, y] ∧ W.cls[n]? = some c ∧
  (∀ z ∈ c, (z.natAbs : Int) ∈ T.known ∧ (W.bY z).length ≤ 10000) ∧ ((othOf x y f).natAbs : Int) ∈ T.known ∧
  (valOf T.rows (othOf x y f) = .bl true ∨ candOf T.rows c (othOf x y f) = none → ∀ H', Ex H H' → Q (.bl false) H') ∧
  (valOf T.rows (othOf x y f) ≠ .bl true → ∀ z, candOf T.rows c (othOf x y f) = some z → ∀ M' H', M'.w = M.w → Two K L T M' (W.move n (othOf x y f) z) H' → Stp (In2 L M) (In2 L M') H H' → Q (.bl true) H')
abbrev N_Watchingmoves : List Str := ["self", "number", "literal", "other", "candidate"]
theorem sc_Watchingmoves : FnScope N_Watchingmoves ["self", "number", "literal"] (defScope s_Watchingmoves) := ⟨rfl, rfl, rfl, by decide +kernel, rfl, by decide +kernel, by decide +kernel⟩
def t_Watchingmoves (K : PySem.W.Frag) : TS := (tSeq (tAsg (tMeth (He.ga K "Watching") "_other" (sp_Watchingother K) [] E0 (tVar 0) (tCons (tVar 1) (tCons (tVar 2) tNil))) (gName 3))
    (tSeq (tIfS (tTest (tOp rIsV (tMeth (He.ga K "Trail") "value" (sp_Trail_value K) [] E0 (tFld K (tVar 0) "_trail") (tCons (tVar 3) tNil)) (tC (.bl true)))) (tRet (tC (.bl false))) tNext)
    (tSeq (tFor (iTup K (tOp (rIxL K) (tFld K (tVar 0) "_clauses") (tVar 1))) (gName 4) (tIfS (tAnd (tB (tNeI (tVar 4) (tVar 3))) (tTest (tOp rNotV (tMeth (He.ga K "Trail") "value" (sp_Trail_value K) [] E0 (tFld K (tVar 0) "_trail") (tCons (tVar 4) tNil)) (tC (.bl false))))) (tSeq (tAsg (tTup (tCons (tVar 3) (tCons (tVar 4) tNil))) (gSub (tFld K (tVar 0) "_pairs") (tVar 1) rSetL))
    (tSeq (tDrop (tBM K "list" rAppend (tDSetd (tFld K (tVar 0) "_by") (tVar 4) (tLst tNil)) (tCons (tVar 1) tNil)))
    (tRet (tC (.bl true))))) tNext))
    (tRet (tC (.bl false))))))
set_option maxHeartbeats 4000000 in
theorem der_Watchingmoves {P : Program} {w : World} {K : PySem.W.Frag} {mg : Str → Option Value} {base : Heap} {f : Addr} {cdv : Value} {A : Around} {outer : List Env} {s : Shared} {H : Hp} {E : XK} (T : Tx K mg) {fd_Watchingother : FuncData} (F_Watchingother : FnOk P w K mg base CX0 1 (He.fAd K ("Watching", some "_other")) fd_Watchingother ps_Watchingother (sp_Watchingother K)) (B_Watchingother : Binds K fd_Watchingother ps_Watchingother []) {fd_Trail_value : FuncData} (F_Trail_value : FnOk P w K mg base CX0 2 (He.fAd K ("Trail", some "value")) fd_Trail_value ps_Trail_value (sp_Trail_value K)) (B_Trail_value : Binds K fd_Trail_value ps_Trail_value []) (hr : Room 2 (A.deeper (envOfC "Watching._moves" (defScope s_Watchingmoves) s.heap.objs.size f cdv))) (hu : (A.deeper (envOfC "Watching._moves" (defScope s_Watchingmoves) s.heap.objs.size f cdv)).units + 1 < cLine) :
    PSs (cxOf CX0 P w K mg base N_Watchingmoves "Watching._moves" (defScope s_Watchingmoves) f cdv A outer s H E).nox (defBody s_Watchingmoves) (t_Watchingmoves K) := by
  exact (pss_cons (ps_set (i := 3) sc_Watchingmoves.nd rfl (Or.inl rfl) (pe_meth (pv 0) T.cl_Watching T.m_Watchingother F_Watchingother (hr.mono (by decide)) B_Watchingother .nil pass0 (pa_cons (pv 1) (pa_cons (pv 2) pa_nil))))
    (pss_cons (ps_if (pt_cmpR op_isV (pe_meth (pe_fld (pv 0) rfl) T.cl_Trail T.m_Trail_value F_Trail_value (hr.mono (by decide)) B_Trail_value .nil pass0 (pa_cons (pv 3) pa_nil)) pe_bl (by rfl)) (pss_one (ps_ret pe_bl)) pss_nil)
    (pss_cons (ps_for PassesOwn.never rfl (pi_tup (pe_ix ix_list (pe_fld (pv 0) rfl) (pv 1) (fun _ _ => rfl))) (pg_name (i := 4) sc_Watchingmoves.nd rfl (Or.inl rfl)) (pss_one (ps_if (PW.pt (pw_and (pt_cmp (pc_neI (pv 4) (pv 3))) (pw_and1 (pt_cmpR op_notV (pe_meth (pe_fld (pv 0) rfl) T.cl_Trail T.m_Trail_value F_Trail_value (hr.mono (by decide)) B_Trail_value .nil pass0 (pa_cons (pv 4) pa_nil)) pe_bl (by rfl))))) (pss_cons (ps_asg (pe_tup (pa_cons (pv 3) (pa_cons (pv 4) pa_nil))) (pg_sub (pe_fld (pv 0) rfl) (pv 1) set_list))
    (pss_cons (ps_expr (pe_bm PySem.F.plainAttrs_list PySem.F.slot_list_append PySem.F.type_list_append mt_append (pe_dsetd (pe_fld (pv 0) rfl) (pv 4) (pe_lst pa_nil) ⟨rfl, rfl, rfl, rfl⟩) (pa_cons (pv 1) pa_nil)))
    (pss_one (ps_ret pe_bl)))) pss_nil)))
    (pss_one (ps_ret pe_bl)))))
theorem len_Watchingmoves (h : sp_Watchingmoves K vs H Q E) : vs.length = 3 := by
  obtain ⟨_, _, _, _, _, _, _, _, _, rfl, _⟩ := h
  rfl
theorem pure_Watchingmoves (T : Tx K mg) (h : sp_Watchingmoves K vs H Q E) : t_Watchingmoves K { nx := fun _ H' => Q .non H', rt := Q } (start N_Watchingmoves vs) H := by
  obtain ⟨L, Tr, M, W, n, f, x, y, c, rfl, A, kl, hp, hc, hz, ho, k1, k2⟩ := h
  generalize hoe : othOf x y f = o at ho k1 k2
  obtain ⟨cv0, pv0, R0, _⟩ := A.w
  refine ⟨_, rfl, _, _, _, rfl, R0.ob, rfl, _, rfl, _, rfl, L, Tr, M, W, n, f, x, y, rfl, A, hp, fun H1 e1 => ?_⟩
  rw [hoe]
  have A1 := A.ex e1
  obtain ⟨cv, pv, R, q1, q2, q3⟩ := A1.w
  have hval : ∀ {σ : L2.St} {i : Nat} {z : Int} {H' : Hp}, σ[0]? = some (some (V.ref M.w)) → σ[i]? = some (some (V.int z)) → (z.natAbs : Int) ∈ Tr.known → Ex H1 H' → Ev (tMeth (He.ga K "Trail") "value" (sp_Trail_value K) [] E0 (tFld K (tVar 0) "_trail") (tCons (tVar i) tNil)) σ H' (valOf Tr.rows z) := fun {σ i z H'} h0 h4 hk e =>
    ev_meth (ev_fld (ev_var h0) (e _ _ R.ob) T.cl_Watching T.no_Watching_trail rfl) (A1.ex e).t.ob rfl (ea_cons (ev_var h4) ea_nil) (spv_value (A1.ex e).t hk)
  refine q_when (b := decide (valOf Tr.rows o = V.bl true)) (et_test (ev_isV (hval rfl rfl ho (Ex.refl _)) (valOf_two _ _))) (fun hb H2 e2 => ?_) (fun hb H2 e2 => ?_)
  · exact s_ret ev_c fun H3 e3 => k1 (.inl (of_decide_eq_true hb)) H3 ((e1.trans e2).trans e3)
  · have hv := of_decide_eq_false hb
    have A2 := A1.ex e2
    have R2 := R.ex e2
    have e12 := e1.trans e2
    obtain ⟨a, ha, hh⟩ := (q1.move fun b _ h => e2 b _ h).2 n c hc
    refine q_forT (ev_ixL (j := n) (ev_fld (ev_var rfl) R2.ob T.cl_Watching T.no_Watching_clauses rfl) (ev_var rfl) R2.cl ha) (st_of hh)
      (fun i σ' H' => Ex H H' ∧ Ex H2 H' ∧ (∃ u, σ' = [some (.ref M.w), some (.int (n : Int)), some (.int f), some (.int o), u]) ∧ ∀ z ∈ c.take i, (decide (z ≠ o) && !isFb Tr.rows z) = false) (fun H3 e3 => ⟨e12.trans e3, e3, ⟨none, rfl⟩, fun z hz => by simp at hz⟩) (fun i σ' H' _ w => st_of (w.2.1 _ _ hh)) (fun i v σ' H' hi w => ?_) (fun σ' H' w => ?_)
    · obtain ⟨w1, w2, ⟨u, rfl⟩, w3⟩ := w
      rw [List.getElem?_map] at hi
      obtain ⟨z, hzi, rfl⟩ := Option.map_eq_some_iff.mp hi
      have hm := List.mem_of_getElem? hzi
      have et : EvT (tAnd (tB (tNeI (tVar 4) (tVar 3))) (tTest (tOp rNotV (tMeth (He.ga K "Trail") "value" (sp_Trail_value K) [] E0 (tFld K (tVar 0) "_trail") (tCons (tVar 4) tNil)) (tC (.bl false))))) [some (.ref M.w), some (.int (n : Int)), some (.int f), some (.int o), some (V.int z)] H' (decide (z ≠ o) && !isFb Tr.rows z) :=
        et_and (et_is (et_B (ev_cmp (ev_var rfl) (ev_var rfl))) (by simp)) fun _ => et_test (ev_notV (hval rfl rfl (hz z hm).1 (e2.trans w2)) (valOf_two _ _))
      refine s_when et (fun hb2 H3 e3 => ?_) (fun hb2 H3 e3 => ?_)
      · have hcand : candOf Tr.rows c o = some z := by
          unfold candOf
          rw [List.find?_eq_some_iff_getElem]
          obtain ⟨hlt, hge⟩ := List.getElem?_eq_some_iff.mp hzi
          refine ⟨hb2, i, hlt, hge, fun j hj => ?_⟩
          have := w3 (c[j]'(by omega)) (by
            refine List.mem_iff_getElem.mpr ⟨j, by rw [List.length_take]; omega, ?_⟩
            rw [List.getElem_take])
          rw [this]
          rfl
        have A3 := (A.ex w1).ex e3
        obtain ⟨cv3, pv3, R3, p1, p2, p3⟩ := A3.w
        have hlen : n < pv3.length := by rw [p2.1]; exact (List.getElem?_eq_some_iff.mp hp).1
        -- self._pairs[number] = (other, candidate)
        refine q_setLU (j := n) R3.pr (eu_tup (ea_cons (ev_var rfl) (ea_cons (ev_var rfl) ea_nil)) (by simp)) (ev_fld (ev_var rfl) R3.ob T.cl_Watching T.no_Watching_pairs rfl) (ev_var rfl) hlen fun p H5 hp5 e5 h5 => ?_
        have R5 := R3.ex e5
        have R6 := R5.setPr (pv3.set n (.ref p))
        have s6 : Stp M.In M.In H3 _ := Stp.pre e5 (Stp.upd (o := .lst (pv3.set n (.ref p))) (.inr (.inr (.inl (by simp)))) (nt_lst R5.pr))
        have hp6 := s6.tups
        have B : WAt (CW K) M L.t Tr.known (W.setPr n [o, z]) (upd H5 M.pr (.lst (pv3.set n (.ref p)))) := by
          refine ⟨cv3, pv3.set n (.ref p), R6, p1.move s6.tups, ?_, p3⟩
          refine TupsK.set (p2.move s6.tups) ?_
          have np : p ≠ M.pr := ne_of h5 R5.pr (fun z => nomatch z)
          rw [upd_ne np]
          exact h5
        obtain ⟨A6, t6⟩ := A3.wr B s6
        show tSeq (tDrop (tBM K "list" rAppend _ _)) _ _ _ _
        refine q_by A6.w T.cl_Watching T.no_Watching_by (ev_var rfl) (ev_var rfl) rfl (hz z hm).1 kl (hz z hm).2 fun M' H7 hw7 B7 s7 => ?_
        obtain ⟨A7, t7⟩ := A6.wr B7 s7
        exact s_ret ev_c fun H8 e8 => k2 hv z hcand M' H8 hw7 (A7.ex e8) (((Stp.ex (w1.trans e3)).trans t6).trans t7 |>.post e8)
      · refine ⟨w1.trans e3, w2.trans e3, ⟨_, rfl⟩, fun z' hz' => ?_⟩
        have e5 : c.take (i + 1) = c.take i ++ [z] := by rw [List.take_add_one, hzi]; rfl
        rw [e5] at hz'
        rcases List.mem_append.mp hz' with hz' | hz'
        · exact w3 z' hz'
        · obtain rfl := List.mem_singleton.mp hz'
          exact hb2
    · obtain ⟨w1, w2, ⟨u, rfl⟩, w3⟩ := w
      refine s_ret ev_c fun H3 e3 => k1 (.inr ?_) H3 (w1.trans e3)
      unfold candOf
      rw [List.find?_eq_none]
      intro z hz'
      rw [List.length_map, List.take_length] at w3
      rw [w3 z hz']
      decide
theorem ok_Watchingmoves {P : Program} {w : World} {K : PySem.W.Frag} {mg : Str → Option Value} {base : Heap} (T : Tx K mg) : FnX P w K mg base 3 (He.fAd K ("Watching", some "_moves")) ps_Watchingmoves (sp_Watchingmoves K) := by
  obtain ⟨_, F_Watchingother, B_Watchingother⟩ := ok_Watchingother (P := P) (w := w) (base := base) T
  obtain ⟨_, F_Trail_value, B_Trail_value⟩ := ok_Trail_value (P := P) (w := w) (base := base) T
  obtain ⟨fd, F⟩ := T.fun_Watchingmoves
  refine ⟨fd, F.ok sc_Watchingmoves (fun vs H Q E h => len_Watchingmoves h) (fun cdv A outer s H vs Q E hr h => ⟨t_Watchingmoves K, PSs.nox (der_Watchingmoves T F_Watchingother B_Watchingother F_Trail_value B_Trail_value hr (hu_of hr)), pure_Watchingmoves T h⟩), F.bindsN fun _ _ _ _ _ _ us hl => match us, hl with | [_, _, _], _ => rfl⟩
end
end TW

set_option Elab.async false
set_option linter.all false
set_option maxRecDepth 100000
set_option maxHeartbeats 1000000
namespace TW
open PySem PySem.Spec PyProof.Rows L2 Evl
theorem find_zip_some {α : Type} {p : α → Bool} {y : α} {k : Nat} : ∀ {l : List α} {i : Nat}, (l.zipIdx i).find? (fun q => p q.1) = some (y, k) → p y = true ∧ ∃ j, l[j]? = some y ∧ k = i + j
  | [], i, h => by simp at h
  | a :: r, i, h => by
    rw [List.zipIdx_cons, List.find?_cons] at h
    cases hp : p a with
    | true =>
      rw [hp] at h
      cases h
      exact ⟨hp, 0, rfl, rfl⟩
    | false =>
      rw [hp] at h
      obtain ⟨h1, j, h2, h3⟩ := find_zip_some (l := r) (i := i + 1) h
      exact ⟨h1, j + 1, by simpa using h2, by omega⟩
theorem find_zip_append {α : Type} {p : α → Bool} {m : List α} : ∀ {l : List α} {i : Nat}, ((l ++ m).zipIdx i).find? (fun q => p q.1) = ((l.zipIdx i).find? (fun q => p q.1)).or ((m.zipIdx (i + l.length)).find? (fun q => p q.1))
  | [], i => by simp
  | a :: r, i => by
    rw [List.cons_append, List.zipIdx_cons, List.zipIdx_cons, List.find?_cons, List.find?_cons]
    cases hp : p a with
    | true => rfl
    | false =>
      rw [find_zip_append (l := r) (i := i + 1)]
      have e : i + 1 + r.length = i + (a :: r).length := by rw [List.length_cons]; omega
      rw [e]
theorem look_snoc (rows : List Row) (r : Row) (x : Int) : look (rows ++ [r]) x = (look rows x).or (if r.ab = (x.natAbs : Int) then some (r, rows.length) else none) := by
  unfold look
  rw [find_zip_append (p := fun r : Row => decide (r.ab = (x.natAbs : Int)))]
  congr 1
  rw [List.zipIdx_cons, List.find?_cons, Nat.zero_add]
  by_cases h : r.ab = (x.natAbs : Int)
  · rw [decide_eq_true h, if_pos h]
  · rw [decide_eq_false h, if_neg h]
    rfl
theorem valOf_none {rows : List Row} {x : Int} : valOf rows x = .non ↔ look rows x = none := by
  unfold valOf
  cases look rows x with
  | none => exact ⟨fun _ => rfl, fun _ => rfl⟩
  | some p => exact ⟨fun h => (nomatch h), fun h => (nomatch h)⟩
theorem valOf_put {T : Tr} {x : Int} {rs : Option Nat} (h : look T.rows x = none) : valOf (T.put x rs).rows x = .bl true := by
  unfold valOf
  have e : look (T.put x rs).rows x = some (⟨x, T.depth, rs⟩, T.rows.length) := by
    show look (T.rows ++ [⟨x, T.depth, rs⟩]) x = _
    rw [look_snoc, h, if_pos rfl]
    rfl
  rw [e]
  show V.bl (decide (x = x)) = _
  rw [decide_eq_true rfl]
section
variable {K : PySem.W.Frag} {mg : Str → Option Value} {vs : List V} {H : Hp} {Q : VK} {E : XK}
/-! ### _settles -/
def sp_Watchingsettles (K : PySem.W.Frag) : Sp := fun vs H Q _ => ∃ (L : TL) (T : Tr) (M : WL) (W : Wt) (n : Nat) (f x y : Int), vs = [.ref M.w, .int (n : Int), .int f] ∧ Two K L T M W H ∧ T.Ok ∧ W.prs[n]? = some [x, y] ∧ ((othOf x y f).natAbs : Int) ∈ T.known ∧
  (valOf T.rows (othOf x y f) = .non → ∀ H', Two K L (T.put (othOf x y f) (some n)) M W H' → Stp (In2 L M) (In2 L M) H H' → Q (.bl true) H') ∧
  (valOf T.rows (othOf x y f) ≠ .non → ∀ H', Ex H H' → Q (.bl (decide (valOf T.rows (othOf x y f) = .bl true))) H')
abbrev N_Watchingsettles : List Str := ["self", "number", "literal", "other"]
theorem sc_Watchingsettles : FnScope N_Watchingsettles ["self", "number", "literal"] (defScope s_Watchingsettles) := ⟨rfl, rfl, rfl, by decide +kernel, rfl, by decide +kernel, by decide +kernel⟩
def t_Watchingsettles (K : PySem.W.Frag) : TS := (tSeq (tAsg (tMeth (He.ga K "Watching") "_other" (sp_Watchingother K) [] E0 (tVar 0) (tCons (tVar 1) (tCons (tVar 2) tNil))) (gName 3))
    (tSeq (tIfS (tTest (tOp rIsN (tMeth (He.ga K "Trail") "value" (sp_Trail_value K) [] E0 (tFld K (tVar 0) "_trail") (tCons (tVar 3) tNil)) (tC .non))) (tDrop (tMeth (He.ga K "Trail") "force" (sp_Trail_force K) [] E0 (tFld K (tVar 0) "_trail") (tCons (tVar 3) (tCons (tVar 1) tNil)))) tNext)
    (tRet (tOp rIsV (tMeth (He.ga K "Trail") "value" (sp_Trail_value K) [] E0 (tFld K (tVar 0) "_trail") (tCons (tVar 3) tNil)) (tC (.bl true))))))
set_option maxHeartbeats 4000000 in
theorem der_Watchingsettles {P : Program} {w : World} {K : PySem.W.Frag} {mg : Str → Option Value} {base : Heap} {f : Addr} {cdv : Value} {A : Around} {outer : List Env} {s : Shared} {H : Hp} {E : XK} (T : Tx K mg) {fd_Watchingother : FuncData} (F_Watchingother : FnOk P w K mg base CX0 1 (He.fAd K ("Watching", some "_other")) fd_Watchingother ps_Watchingother (sp_Watchingother K)) (B_Watchingother : Binds K fd_Watchingother ps_Watchingother []) {fd_Trail_value : FuncData} (F_Trail_value : FnOk P w K mg base CX0 2 (He.fAd K ("Trail", some "value")) fd_Trail_value ps_Trail_value (sp_Trail_value K)) (B_Trail_value : Binds K fd_Trail_value ps_Trail_value []) {fd_Trail_force : FuncData} (F_Trail_force : FnOk P w K mg base CX0 3 (He.fAd K ("Trail", some "force")) fd_Trail_force ps_Trail_force (sp_Trail_force K)) (B_Trail_force : Binds K fd_Trail_force ps_Trail_force []) (hr : Room 3 (A.deeper (envOfC "Watching._settles" (defScope s_Watchingsettles) s.heap.objs.size f cdv))) (hu : (A.deeper (envOfC "Watching._settles" (defScope s_Watchingsettles) s.heap.objs.size f cdv)).units + 1 < cLine) :
    PSs (cxOf CX0 P w K mg base N_Watchingsettles "Watching._settles" (defScope s_Watchingsettles) f cdv A outer s H E).nox (defBody s_Watchingsettles) (t_Watchingsettles K) := by
  exact (pss_cons (ps_set (i := 3) sc_Watchingsettles.nd rfl (Or.inl rfl) (pe_meth (pv 0) T.cl_Watching T.m_Watchingother F_Watchingother (hr.mono (by decide)) B_Watchingother .nil pass0 (pa_cons (pv 1) (pa_cons (pv 2) pa_nil))))
    (pss_cons (ps_if (pt_cmpR op_isN1 (pe_meth (pe_fld (pv 0) rfl) T.cl_Trail T.m_Trail_value F_Trail_value (hr.mono (by decide)) B_Trail_value .nil pass0 (pa_cons (pv 3) pa_nil)) pe_non (by rfl)) (pss_one (ps_expr (pe_meth (pe_fld (pv 0) rfl) T.cl_Trail T.m_Trail_force F_Trail_force (hr.mono (by decide)) B_Trail_force .nil pass0 (pa_cons (pv 3) (pa_cons (pv 1) pa_nil))))) pss_nil)
    (pss_one (ps_ret (pe_cmpR op_isV (pe_meth (pe_fld (pv 0) rfl) T.cl_Trail T.m_Trail_value F_Trail_value (hr.mono (by decide)) B_Trail_value .nil pass0 (pa_cons (pv 3) pa_nil)) pe_bl (by rfl))))))
theorem len_Watchingsettles (h : sp_Watchingsettles K vs H Q E) : vs.length = 3 := by
  obtain ⟨_, _, _, _, _, _, _, _, rfl, _⟩ := h
  rfl
theorem pure_Watchingsettles (T : Tx K mg) (h : sp_Watchingsettles K vs H Q E) : t_Watchingsettles K { nx := fun _ H' => Q .non H', rt := Q } (start N_Watchingsettles vs) H := by
  obtain ⟨L, Tr, M, W, n, f, x, y, rfl, A, ok, hp, ho, k1, k2⟩ := h
  generalize hoe : othOf x y f = o at ho k1 k2
  obtain ⟨cv0, pv0, R0, _⟩ := A.w
  refine ⟨_, rfl, _, _, _, rfl, R0.ob, rfl, _, rfl, _, rfl, L, Tr, M, W, n, f, x, y, rfl, A, hp, fun H1 e1 => ?_⟩
  rw [hoe]
  have A1 := A.ex e1
  obtain ⟨cv, pv, R, q1, q2, q3⟩ := A1.w
  have hval : ∀ {σ : L2.St} {i : Nat} {z : Int} {T' : TW.Tr} {H' : Hp}, Two K L T' M W H' → σ[0]? = some (some (V.ref M.w)) → σ[i]? = some (some (V.int z)) → (z.natAbs : Int) ∈ T'.known → Ev (tMeth (He.ga K "Trail") "value" (sp_Trail_value K) [] E0 (tFld K (tVar 0) "_trail") (tCons (tVar i) tNil)) σ H' (valOf T'.rows z) := fun {σ i z T' H'} A h0 h4 hk =>
    let ⟨_, _, R, _⟩ := A.w; ev_meth (ev_fld (ev_var h0) R.ob T.cl_Watching T.no_Watching_trail rfl) A.t.ob rfl (ea_cons (ev_var h4) ea_nil) (spv_value A.t hk)
  refine q_if (b := decide (valOf Tr.rows o = V.non)) (et_test (ev_isN (hval A1 rfl rfl ho))) (fun hb H2 e2 => ?_) (fun hb H2 e2 => ?_)
  · have hv := of_decide_eq_true hb
    have hl := valOf_none.mp hv
    have A2 := A1.ex e2
    obtain ⟨cv2, pv2, R2, _⟩ := A2.w
    refine ⟨_, rfl, _, _, _, _, _, rfl, R2.ob, T.cl_Watching, T.no_Watching_trail, rfl, _, _, _, rfl, A2.t.ob, rfl, _, rfl, _, rfl, L, Tr, o, n, rfl, A2.t, ok, ho, hl, fun H3 B3 s3 => ?_⟩
    obtain ⟨A3, t3⟩ := A2.tr B3 s3 rfl rfl
    refine s_ret (ev_is (ev_isV (hval A3 rfl rfl ho) (valOf_two _ _)) ?_) fun H4 e4 => k1 hv H4 (A3.ex e4) ((Stp.pre (e1.trans e2) t3).post e4)
    rw [valOf_put hl]
    rfl
  · have hv := of_decide_eq_false hb
    exact s_ret (ev_isV (hval (A1.ex e2) rfl rfl ho) (valOf_two _ _)) fun H4 e4 => k2 hv H4 ((e1.trans e2).trans e4)
theorem ok_Watchingsettles {P : Program} {w : World} {K : PySem.W.Frag} {mg : Str → Option Value} {base : Heap} (T : Tx K mg) : FnX P w K mg base 4 (He.fAd K ("Watching", some "_settles")) ps_Watchingsettles (sp_Watchingsettles K) := by
  obtain ⟨_, F_Watchingother, B_Watchingother⟩ := ok_Watchingother (P := P) (w := w) (base := base) T
  obtain ⟨_, F_Trail_value, B_Trail_value⟩ := ok_Trail_value (P := P) (w := w) (base := base) T
  obtain ⟨_, F_Trail_force, B_Trail_force⟩ := ok_Trail_force (P := P) (w := w) (base := base) T
  obtain ⟨fd, F⟩ := T.fun_Watchingsettles
  refine ⟨fd, F.ok sc_Watchingsettles (fun vs H Q E h => len_Watchingsettles h) (fun cdv A outer s H vs Q E hr h => ⟨t_Watchingsettles K, PSs.nox (der_Watchingsettles T F_Watchingother B_Watchingother F_Trail_value B_Trail_value F_Trail_force B_Trail_force hr (hu_of hr)), pure_Watchingsettles T h⟩), F.bindsN fun _ _ _ _ _ _ us hl => match us, hl with | [_, _, _], _ => rfl⟩
/-! ### _stands -/
def dueB (rows : List Row) (x : Int) (r : List Int) : Bool := decide (valOf rows x = .non) && (match r with | [] => true | y :: _ => isFb rows y)
def sp_Watchingstands (K : PySem.W.Frag) : Sp := fun vs H Q _ => ∃ (L : TL) (T : Tr) (M : WL) (W : Wt) (n : Nat) (c : List Int), vs = [.ref M.w, .int (n : Int)] ∧ Two K L T M W H ∧ T.Ok ∧ W.cls[n]? = some c ∧ n < W.prs.length ∧ c.length < 64 ∧ (∀ x ∈ c, (x.natAbs : Int) ∈ T.known) ∧
  ∀ pr, PairFor T.rows c pr → (∀ x ∈ pr, x ∈ c) ∧
    (pr = [] → ∀ H', Two K L T M (W.setPr n pr) H' → Stp (In2 L M) (In2 L M) H H' → Q (.bl false) H') ∧
    ∀ x r, pr = x :: r →
      (dueB T.rows x r = true → ∀ H', Two K L (T.put x (some n)) M (W.setPr n pr) H' → Stp (In2 L M) (In2 L M) H H' → Q (.bl true) H') ∧
      (dueB T.rows x r = false → ∀ H', Two K L T M (W.setPr n pr) H' → Stp (In2 L M) (In2 L M) H H' → Q (.bl (!isFb T.rows x)) H')
abbrev N_Watchingstands : List Str := ["self", "number", "pair"]
theorem sc_Watchingstands : FnScope N_Watchingstands ["self", "number"] (defScope s_Watchingstands) := ⟨rfl, rfl, rfl, by decide +kernel, rfl, by decide +kernel, by decide +kernel⟩
def t_Watchingstands (K : PySem.W.Frag) : TS := (tSeq (tAsg (tMeth (He.ga K "Watching") "_pair_for" (sp_Watchingpair_for K) [] E0 (tVar 0) (tCons (tOp (rIxL K) (tFld K (tVar 0) "_clauses") (tVar 1)) tNil)) (gName 2))
    (tSeq (tAsg (tVar 2) (gSub (tFld K (tVar 0) "_pairs") (tVar 1) rSetL))
    (tSeq (tIfS (tB (tEqI (tCB (rLenS K) (tCons (tVar 2) tNil)) (tC (.int 0)))) (tRet (tC (.bl false))) tNext)
    (tSeq (tIfS (tAnd (tTest (tOp rIsN (tMeth (He.ga K "Trail") "value" (sp_Trail_value K) [] E0 (tFld K (tVar 0) "_trail") (tCons (tOp (rIxT K) (tVar 2) (tC (.int 0))) tNil)) (tC .non))) (tOr (tB (tEqI (tCB (rLenS K) (tCons (tVar 2) tNil)) (tC (.int 1)))) (tTest (tOp rIsV (tMeth (He.ga K "Trail") "value" (sp_Trail_value K) [] E0 (tFld K (tVar 0) "_trail") (tCons (tOp (rIxT K) (tVar 2) (tC (.int 1))) tNil)) (tC (.bl false)))))) (tDrop (tMeth (He.ga K "Trail") "force" (sp_Trail_force K) [] E0 (tFld K (tVar 0) "_trail") (tCons (tOp (rIxT K) (tVar 2) (tC (.int 0))) (tCons (tVar 1) tNil)))) tNext)
    (tRet (tOp rNotV (tMeth (He.ga K "Trail") "value" (sp_Trail_value K) [] E0 (tFld K (tVar 0) "_trail") (tCons (tOp (rIxT K) (tVar 2) (tC (.int 0))) tNil)) (tC (.bl false))))))))
set_option maxHeartbeats 4000000 in
theorem der_Watchingstands {P : Program} {w : World} {K : PySem.W.Frag} {mg : Str → Option Value} {base : Heap} {f : Addr} {cdv : Value} {A : Around} {outer : List Env} {s : Shared} {H : Hp} {E : XK} (T : Tx K mg) {fd_Watchingpair_for : FuncData} (F_Watchingpair_for : FnOk P w K mg base CX0 5 (He.fAd K ("Watching", some "_pair_for")) fd_Watchingpair_for ps_Watchingpair_for (sp_Watchingpair_for K)) (B_Watchingpair_for : Binds K fd_Watchingpair_for ps_Watchingpair_for []) {fd_Trail_value : FuncData} (F_Trail_value : FnOk P w K mg base CX0 2 (He.fAd K ("Trail", some "value")) fd_Trail_value ps_Trail_value (sp_Trail_value K)) (B_Trail_value : Binds K fd_Trail_value ps_Trail_value []) {fd_Trail_force : FuncData} (F_Trail_force : FnOk P w K mg base CX0 3 (He.fAd K ("Trail", some "force")) fd_Trail_force ps_Trail_force (sp_Trail_force K)) (B_Trail_force : Binds K fd_Trail_force ps_Trail_force []) (hr : Room 5 (A.deeper (envOfC "Watching._stands" (defScope s_Watchingstands) s.heap.objs.size f cdv))) (hu : (A.deeper (envOfC "Watching._stands" (defScope s_Watchingstands) s.heap.objs.size f cdv)).units + 1 < cLine) :
    PSs (cxOf CX0 P w K mg base N_Watchingstands "Watching._stands" (defScope s_Watchingstands) f cdv A outer s H E).nox (defBody s_Watchingstands) (t_Watchingstands K) := by
  exact (pss_cons (ps_set (i := 2) sc_Watchingstands.nd rfl (Or.inl rfl) (pe_meth (pv 0) T.cl_Watching T.m_Watchingpair_for F_Watchingpair_for (hr.mono (by decide)) B_Watchingpair_for .nil pass0 (pa_cons (pe_ix ix_list (pe_fld (pv 0) rfl) (pv 1) (fun _ _ => rfl)) pa_nil)))
    (pss_cons (ps_asg (pv 2) (pg_sub (pe_fld (pv 0) rfl) (pv 1) set_list))
    (pss_cons (ps_if (pt_cmp (pc_eqI (pe_callB call_len_seq rfl T.f_len bt_len (pa_cons (pv 2) pa_nil)) pe_int)) (pss_one (ps_ret pe_bl)) pss_nil)
    (pss_cons (ps_if (PW.pt (pw_and (pt_cmpR op_isN1 (pe_meth (pe_fld (pv 0) rfl) T.cl_Trail T.m_Trail_value F_Trail_value (hr.mono (by decide)) B_Trail_value .nil pass0 (pa_cons (pe_ix ix_tup (pv 2) pe_int (fun _ _ => rfl)) pa_nil)) pe_non (by rfl)) (pw_and1 (PW.pt (pw_or (pt_cmp (pc_eqI (pe_callB call_len_seq rfl T.f_len bt_len (pa_cons (pv 2) pa_nil)) pe_int)) (pw_or1 (pt_cmpR op_isV (pe_meth (pe_fld (pv 0) rfl) T.cl_Trail T.m_Trail_value F_Trail_value (hr.mono (by decide)) B_Trail_value .nil pass0 (pa_cons (pe_ix ix_tup (pv 2) pe_int (fun _ _ => rfl)) pa_nil)) pe_bl (by rfl)))))))) (pss_one (ps_expr (pe_meth (pe_fld (pv 0) rfl) T.cl_Trail T.m_Trail_force F_Trail_force (hr.mono (by decide)) B_Trail_force .nil pass0 (pa_cons (pe_ix ix_tup (pv 2) pe_int (fun _ _ => rfl)) (pa_cons (pv 1) pa_nil))))) pss_nil)
    (pss_one (ps_ret (pe_cmpR op_notV (pe_meth (pe_fld (pv 0) rfl) T.cl_Trail T.m_Trail_value F_Trail_value (hr.mono (by decide)) B_Trail_value .nil pass0 (pa_cons (pe_ix ix_tup (pv 2) pe_int (fun _ _ => rfl)) pa_nil)) pe_bl (by rfl))))))))
theorem len_Watchingstands (h : sp_Watchingstands K vs H Q E) : vs.length = 2 := by
  obtain ⟨_, _, _, _, _, _, rfl, _⟩ := h
  rfl
theorem pure_Watchingstands (T : Tx K mg) (h : sp_Watchingstands K vs H Q E) : t_Watchingstands K { nx := fun _ H' => Q .non H', rt := Q } (start N_Watchingstands vs) H := by
  obtain ⟨L, Tr, M, W, n, c, rfl, A, ok, hc, hn, hl, hk, k⟩ := h
  obtain ⟨cv, pv, R, q1, q2, q3⟩ := A.w
  obtain ⟨a, ha, hh⟩ := q1.2 n c hc
  -- pair = self._pair_for(self._clauses[number])
  refine ⟨_, rfl, _, _, _, rfl, R.ob, rfl, ?_⟩
  refine (ev_ixL (j := n) (ev_fld (ev_var rfl) R.ob T.cl_Watching T.no_Watching_clauses rfl) (ev_var rfl) R.cl ha) H (Ex.refl H) _ fun H1 e1 => ?_
  refine ⟨L, Tr, M, W, a, c, rfl, A.ex e1, e1 _ _ hh, hl, hk, fun p pr H2 hp2 e2 h2 hpf => ?_⟩
  have e12 := e1.trans e2
  have A2 := A.ex e12
  obtain ⟨cv2, pv2, R2, p1, p2, p3⟩ := A2.w
  obtain ⟨kc, k0, kx⟩ := k pr hpf
  have hlen : n < pv2.length := by rw [p2.1]; exact hn
  -- self._pairs[number] = pair
  refine q_setL (j := n) R2.pr (ev_var rfl) (ev_fld (ev_var rfl) R2.ob T.cl_Watching T.no_Watching_pairs rfl) (ev_var rfl) hlen fun H3 e3 => ?_
  have R3 := (R2.ex e3).setPr (pv2.set n (.ref p))
  have s3 : Stp M.In M.In H2 _ := Stp.pre e3 (Stp.upd (o := .lst (pv2.set n (.ref p))) (.inr (.inr (.inl (by simp)))) (nt_lst (R2.ex e3).pr))
  have hp3 := s3.tups p _ h2
  have B3 : WAt (CW K) M L.t Tr.known (W.setPr n pr) (upd H3 M.pr (.lst (pv2.set n (.ref p)))) := ⟨cv2, pv2.set n (.ref p), R3, p1.move s3.tups, TupsK.set (p2.move s3.tups) hp3, p3⟩
  obtain ⟨A3, t3⟩ := A2.wr B3 s3
  have t03 := Stp.pre e12 t3
  generalize upd H3 M.pr (.lst (pv2.set n (.ref p))) = G at A3 t3 t03 hp3 R3 B3 s3
  clear R3 B3 s3 t3
  have hval : ∀ {σ : L2.St} {te : TE} {z : Int} {T' : TW.Tr} {H' : Hp}, Two K L T' M (W.setPr n pr) H' → σ[0]? = some (some (V.ref M.w)) → Ev te σ H' (V.int z) → (z.natAbs : Int) ∈ T'.known → Ev (tMeth (He.ga K "Trail") "value" (sp_Trail_value K) [] E0 (tFld K (tVar 0) "_trail") (tCons te tNil)) σ H' (valOf T'.rows z) := fun {σ te z T' H'} A h0 h4 hk =>
    let ⟨_, _, R, _⟩ := A.w; ev_meth (ev_fld (ev_var h0) R.ob T.cl_Watching T.no_Watching_trail rfl) A.t.ob rfl (ea_cons h4 ea_nil) (spv_value A.t hk)
  cases pr with
  | nil =>
    refine q_when (b := true) (et_is (et_B (ev_cmp (p := fun i j => decide (i = j)) (ev_lenT (ev_var rfl) hp3) ev_c)) rfl) (fun _ H4 e4 => ?_) (fun z => nomatch z)
    exact s_ret ev_c fun H5 e5 => k0 rfl H5 (A3.ex (e4.trans e5)) (t03.post (e4.trans e5))
  | cons x r =>
    obtain ⟨kf, kn⟩ := kx x r rfl
    have hx := hk x (kc x List.mem_cons_self)
    refine q_when (b := false) (et_is (et_B (ev_cmp (p := fun i j => decide (i = j)) (ev_lenT (ev_var rfl) hp3) ev_c)) ?_) (fun z => nomatch z) (fun _ H4 e4 => ?_)
    · refine decide_eq_false ?_
      rw [List.map_cons, List.length_cons]
      omega
    · have A4 := A3.ex e4
      have hp4 := e4 _ _ hp3
      have x0 : ∀ {σ : L2.St} {H' : Hp}, σ[2]? = some (some (V.ref p)) → Ex H4 H' → Ev (tOp (rIxT K) (tVar 2) (tC (.int 0))) σ H' (V.int x) := fun {σ H'} h e => ev_ixT (j := 0) (ev_var h) ev_c (e _ _ hp4) rfl
      have ec : EvT (tAnd (tTest (tOp rIsN (tMeth (He.ga K "Trail") "value" (sp_Trail_value K) [] E0 (tFld K (tVar 0) "_trail") (tCons (tOp (rIxT K) (tVar 2) (tC (.int 0))) tNil)) (tC .non)))
          (tOr (tB (tEqI (tCB (rLenS K) (tCons (tVar 2) tNil)) (tC (.int 1)))) (tTest (tOp rIsV (tMeth (He.ga K "Trail") "value" (sp_Trail_value K) [] E0 (tFld K (tVar 0) "_trail") (tCons (tOp (rIxT K) (tVar 2) (tC (.int 1))) tNil)) (tC (.bl false))))))
          [some (.ref M.w), some (.int (n : Int)), some (.ref p)] H4 (dueB Tr.rows x r) := by
        refine et_and (a := decide (valOf Tr.rows x = .non)) (et_test (ev_isN (hval A4 rfl (x0 rfl (Ex.refl _)) hx))) fun _ => ?_
        cases r with
        | nil => exact et_is (et_or (a := true) (b := true) (et_is (et_B (ev_cmp (p := fun i j => decide (i = j)) (ev_lenT (ev_var rfl) hp4) ev_c)) rfl) (fun z => nomatch z)) rfl
        | cons y r' =>
          have hy := hk y (kc y (List.mem_cons_of_mem _ List.mem_cons_self))
          refine et_is (et_or (a := false) (b := isFb Tr.rows y) (et_is (et_B (ev_cmp (p := fun i j => decide (i = j)) (ev_lenT (ev_var rfl) hp4) ev_c)) ?_) fun _ => et_test (ev_isV (hval A4 rfl (ev_ixT (j := 1) (ev_var rfl) ev_c hp4 rfl) hy) (valOf_two _ _))) ?_
          · refine decide_eq_false ?_
            rw [List.map_cons, List.map_cons, List.length_cons, List.length_cons]
            omega
          · exact Bool.false_or _
      refine q_if ec (fun hb H5 e5 => ?_) (fun hb H5 e5 => ?_)
      · have hc2 := hb
        have hlk := valOf_none.mp (of_decide_eq_true (Bool.and_eq_true_iff.mp hb).1)
        have A5 := A4.ex e5
        obtain ⟨cv5, pv5, R5, _⟩ := A5.w
        refine ⟨_, rfl, _, _, _, _, _, rfl, R5.ob, T.cl_Watching, T.no_Watching_trail, rfl, _, _, _, rfl, A5.t.ob, rfl, ?_⟩
        refine (x0 rfl e5) H5 (Ex.refl H5) _ fun H6 e6 => ⟨_, rfl, L, Tr, x, n, rfl, (A5.ex e6).t, ok, hx, hlk, fun H7 B7 s7 => ?_⟩
        obtain ⟨A7, t7⟩ := (A5.ex e6).tr B7 s7 rfl rfl
        have hp7 := s7.tups _ _ (e6 _ _ (e5 _ _ hp4))
        refine s_ret (ev_is (ev_notV (hval A7 rfl (ev_ixT (j := 0) (ev_var rfl) ev_c hp7 rfl) hx) (valOf_two _ _)) ?_) fun H8 e8 => kf hc2 H8 (A7.ex e8) (((t03.post ((e4.trans e5).trans e6)).trans t7).post e8)
        rw [valOf_put hlk]
        rfl
      · have hc2 := hb
        exact s_ret (ev_notV (hval (A4.ex e5) rfl (x0 rfl e5) hx) (valOf_two _ _)) fun H8 e8 => kn hc2 H8 (A4.ex (e5.trans e8)) (t03.post (e4.trans (e5.trans e8)))
theorem ok_Watchingstands {P : Program} {w : World} {K : PySem.W.Frag} {mg : Str → Option Value} {base : Heap} (T : Tx K mg) : FnX P w K mg base 6 (He.fAd K ("Watching", some "_stands")) ps_Watchingstands (sp_Watchingstands K) := by
  obtain ⟨_, F_Watchingpair_for, B_Watchingpair_for⟩ := ok_Watchingpair_for (P := P) (w := w) (base := base) T
  obtain ⟨_, F_Trail_value, B_Trail_value⟩ := ok_Trail_value (P := P) (w := w) (base := base) T
  obtain ⟨_, F_Trail_force, B_Trail_force⟩ := ok_Trail_force (P := P) (w := w) (base := base) T
  obtain ⟨fd, F⟩ := T.fun_Watchingstands
  refine ⟨fd, F.ok sc_Watchingstands (fun vs H Q E h => len_Watchingstands h) (fun cdv A outer s H vs Q E hr h => ⟨t_Watchingstands K, PSs.nox (der_Watchingstands T F_Watchingpair_for B_Watchingpair_for F_Trail_value B_Trail_value F_Trail_force B_Trail_force hr (hu_of hr)), pure_Watchingstands T h⟩), F.bindsN fun _ _ _ _ _ _ us hl => match us, hl with | [_, _], _ => rfl⟩
/-! ### _enter -/
def Wt.addShort (W : Wt) (n : Nat) : Wt := { W with short := W.short ++ [n] }
def sp_Watchingenter (K : PySem.W.Frag) : Sp := fun vs H Q _ => ∃ (L : TL) (T : Tr) (M : WL) (W : Wt) (n : Nat) (pr : List Int), vs = [.ref M.w, .int (n : Int)] ∧ Two K L T M W H ∧ T.known.length ≤ 1000 ∧ W.prs[n]? = some pr ∧ W.short.length ≤ 10000 ∧ (∀ x ∈ pr, (x.natAbs : Int) ∈ T.known) ∧ (∀ x, (W.bY x).length ≤ 9999) ∧
  (pr.length < 2 → ∀ H', Two K L T M (W.addShort n) H' → Stp (In2 L M) (In2 L M) H H' → Q .non H') ∧
  (∀ x y, pr = [x, y] → ∀ M' H', M'.w = M.w → Two K L T M' ((W.addBy x n).addBy y n) H' → Stp (In2 L M) (In2 L M') H H' → Q .non H') ∧ pr.length ≤ 2
abbrev N_Watchingenter : List Str := ["self", "number", "pair", "literal"]
theorem sc_Watchingenter : FnScope N_Watchingenter ["self", "number"] (defScope s_Watchingenter) := ⟨rfl, rfl, rfl, by decide +kernel, rfl, by decide +kernel, by decide +kernel⟩
def t_Watchingenter (K : PySem.W.Frag) : TS := (tSeq (tAsg (tOp (rIxL K) (tFld K (tVar 0) "_pairs") (tVar 1)) (gName 2))
    (tSeq (tIfS (tB (tLt (tCB (rLenS K) (tCons (tVar 2) tNil)) (tC (.int 2)))) (tSeq (tDrop (tBM K "list" rAppend (tFld K (tVar 0) "_short") (tCons (tVar 1) tNil)))
    tRetN) tNext)
    (tFor (iTup K (tVar 2)) (gName 3) (tDrop (tBM K "list" rAppend (tDSetd (tFld K (tVar 0) "_by") (tVar 3) (tLst tNil)) (tCons (tVar 1) tNil))))))
set_option maxHeartbeats 4000000 in
theorem der_Watchingenter {P : Program} {w : World} {K : PySem.W.Frag} {mg : Str → Option Value} {base : Heap} {f : Addr} {cdv : Value} {A : Around} {outer : List Env} {s : Shared} {H : Hp} {E : XK} (T : Tx K mg) (hr : Room 0 (A.deeper (envOfC "Watching._enter" (defScope s_Watchingenter) s.heap.objs.size f cdv))) (hu : (A.deeper (envOfC "Watching._enter" (defScope s_Watchingenter) s.heap.objs.size f cdv)).units + 1 < cLine) :
    PSs (cxOf CX0 P w K mg base N_Watchingenter "Watching._enter" (defScope s_Watchingenter) f cdv A outer s H E).nox (defBody s_Watchingenter) (t_Watchingenter K) := by
  exact (pss_cons (ps_set (i := 2) sc_Watchingenter.nd rfl (Or.inl rfl) (pe_ix ix_list (pe_fld (pv 0) rfl) (pv 1) (fun _ _ => rfl)))
    (pss_cons (ps_if (pt_cmp (pc_lt (pe_callB call_len_seq rfl T.f_len bt_len (pa_cons (pv 2) pa_nil)) pe_int)) (pss_cons (ps_expr (pe_bm PySem.F.plainAttrs_list PySem.F.slot_list_append PySem.F.type_list_append mt_append (pe_fld (pv 0) rfl) (pa_cons (pv 1) pa_nil)))
    (pss_one ps_retN)) pss_nil)
    (pss_one (ps_for PassesOwn.never rfl (pi_tup (pv 2)) (pg_name (i := 3) sc_Watchingenter.nd rfl (Or.inl rfl)) (pss_one (ps_expr (pe_bm PySem.F.plainAttrs_list PySem.F.slot_list_append PySem.F.type_list_append mt_append (pe_dsetd (pe_fld (pv 0) rfl) (pv 3) (pe_lst pa_nil) ⟨rfl, rfl, rfl, rfl⟩) (pa_cons (pv 1) pa_nil))))))))
theorem len_Watchingenter (h : sp_Watchingenter K vs H Q E) : vs.length = 2 := by
  obtain ⟨_, _, _, _, _, _, rfl, _⟩ := h
  rfl
theorem pure_Watchingenter (T : Tx K mg) (h : sp_Watchingenter K vs H Q E) : t_Watchingenter K { nx := fun _ H' => Q .non H', rt := Q } (start N_Watchingenter vs) H := by
  obtain ⟨L, Tr, M, W, n, pr, rfl, A, kl, hp, hs, hk, hbl, k1, k2, hpl⟩ := h
  obtain ⟨cv, pv, R, q1, q2, q3⟩ := A.w
  obtain ⟨a, ha, hh⟩ := q2.2 n pr hp
  refine q_asg (ev_ixL (j := n) (ev_fld (ev_var rfl) R.ob T.cl_Watching T.no_Watching_pairs rfl) (ev_var rfl) R.pr ha) fun H1 e1 => ?_
  refine q_when (b := decide (pr.length < 2)) (et_is (et_B (ev_cmp (ev_lenT (ev_var rfl) (e1 _ _ hh)) ev_c)) ?_) (fun hb H2 e2 => ?_) (fun hb H2 e2 => ?_)
  · rw [List.length_map, Bool.eq_iff_iff]
    simp
    omega
  · have R2 := (R.ex e1).ex e2
    refine q_app R2.sh (ev_fld (ev_var rfl) R2.ob T.cl_Watching T.no_Watching_short rfl) (ev_var rfl) (by rw [natsV_len]; omega) fun H3 e3 => ?_
    rw [← natsV_snoc]
    have R3 := (R2.ex e3).setSh (natsV (W.short ++ [n]))
    have s3 : Stp M.In M.In H _ := Stp.pre ((e1.trans e2).trans e3) (Stp.upd (o := .lst (natsV (W.short ++ [n]))) (.inr (.inr (.inl (by simp)))) (nt_lst (R2.ex e3).sh))
    obtain ⟨A3, t3⟩ := A.wr (W' := W.addShort n) ⟨cv, pv, R3, q1.move s3.tups, q2.move s3.tups, q3⟩ s3
    exact k1 (of_decide_eq_true hb) _ A3 t3
  · have hb' := of_decide_eq_false hb
    obtain ⟨x, y, rfl⟩ : ∃ x y, pr = [x, y] := by
      match pr, hpl, hb' with
      | [x, y], _, _ => exact ⟨x, y, rfl⟩
      | [], _, h => exact absurd (by decide) h
      | [x], _, h => exact absurd (by simp) h
      | x :: y :: z :: r, h, _ => simp at h
    have e12 := e1.trans e2
    have hh2 := e12 _ _ hh
    refine s_forT (ev_var rfl) (st_of hh2) (fun i σ' H' => (∃ u, σ' = [some (.ref M.w), some (.int (n : Int)), some (.ref a), u]) ∧
      ∃ M', M'.w = M.w ∧ Stp (In2 L M) (In2 L M') H H' ∧ Two K L Tr M' (match i with | 0 => W | 1 => W.addBy x n | _ => (W.addBy x n).addBy y n) H')
      (fun H3 e3 => ⟨⟨none, rfl⟩, M, rfl, Stp.ex (e12.trans e3), A.ex (e12.trans e3)⟩) (fun i σ' H' _ w => ?_) (fun i v σ' H' hi w => ?_) (fun σ' H' w => ?_)
    · obtain ⟨_, M', _, s, _⟩ := w
      exact st_of (s.tups _ _ hh)
    · obtain ⟨⟨u, rfl⟩, M', hw, s, B⟩ := w
      match i, hi, B with
      | 0, hi, B =>
        cases hi
        rw [← hw]
        refine s_by B.w T.cl_Watching T.no_Watching_by (ev_var rfl) (ev_var rfl) rfl (hk x List.mem_cons_self) kl (by have := hbl x; show (W.bY x).length ≤ 10000; omega) fun M2 H3 hw2 B2 s2 => ?_
        obtain ⟨A2, t2⟩ := B.wr B2 s2
        exact ⟨⟨_, rfl⟩, M2, hw2, s.trans t2, A2⟩
      | 1, hi, B =>
        cases hi
        rw [← hw]
        refine s_by B.w T.cl_Watching T.no_Watching_by (ev_var rfl) (ev_var rfl) rfl (hk y (List.mem_cons_of_mem _ List.mem_cons_self)) kl ?_ fun M2 H3 hw2 B2 s2 => ?_
        · show (if y = x then W.bY x ++ [n] else W.bY y).length ≤ 10000
          split
          · rw [List.length_append]
            have := hbl x
            simp
            omega
          · have := hbl y
            omega
        · obtain ⟨A2, t2⟩ := B.wr B2 s2
          exact ⟨⟨_, rfl⟩, M2, hw2, s.trans t2, A2⟩
      | i + 2, hi, B => cases hi
    · obtain ⟨_, M', hw, s, B⟩ := w
      exact k2 x y rfl M' H' hw B s
theorem ok_Watchingenter {P : Program} {w : World} {K : PySem.W.Frag} {mg : Str → Option Value} {base : Heap} (T : Tx K mg) : FnX P w K mg base 1 (He.fAd K ("Watching", some "_enter")) ps_Watchingenter (sp_Watchingenter K) := by
  obtain ⟨fd, F⟩ := T.fun_Watchingenter
  refine ⟨fd, F.ok sc_Watchingenter (fun vs H Q E h => len_Watchingenter h) (fun cdv A outer s H vs Q E hr h => ⟨t_Watchingenter K, PSs.nox (der_Watchingenter T hr (hu_of hr)), pure_Watchingenter T h⟩), F.bindsN fun _ _ _ _ _ _ us hl => match us, hl with | [_, _], _ => rfl⟩
end
end TW

set_option Elab.async false
set_option linter.all false
set_option maxRecDepth 100000
set_option maxHeartbeats 1000000
namespace TW
open PySem PySem.Spec PyProof.Rows L2 Evl
/-! ### what the rows say of a literal -/
def On (rows : List Row) (x : Int) : Prop := ∃ r ∈ rows, r.lit = x
def OnL (rows : List Row) (x : Int) (l : Nat) : Prop := ∃ r ∈ rows, r.lit = x ∧ r.lev ≤ l
section
variable {rows more : List Row} {x y : Int} {l : Nat} {r : Row}
theorem On.app (h : On rows x) : On (rows ++ more) x := let ⟨r, h1, h2⟩ := h; ⟨r, List.mem_append_left _ h1, h2⟩
theorem OnL.app (h : OnL rows x l) : OnL (rows ++ more) x l := let ⟨r, h1, h2⟩ := h; ⟨r, List.mem_append_left _ h1, h2⟩
theorem OnL.on (h : OnL rows x l) : On rows x := let ⟨r, h1, h2, _⟩ := h; ⟨r, h1, h2⟩
theorem nd_eq (nd : (rows.map Row.ab).Nodup) {r s : Row} (hr : r ∈ rows) (hs : s ∈ rows) (e : r.ab = s.ab) : r = s := by
  induction rows with
  | nil => cases hr
  | cons a t ih =>
    obtain ⟨h1, h2⟩ := List.nodup_cons.mp (show (a.ab :: t.map Row.ab).Nodup from nd)
    rcases List.mem_cons.mp hr with rfl | hr2
    · rcases List.mem_cons.mp hs with rfl | hs2
      · rfl
      · exact (h1 (List.mem_map.mpr ⟨s, hs2, e.symm⟩)).elim
    · rcases List.mem_cons.mp hs with rfl | hs2
      · exact (h1 (List.mem_map.mpr ⟨r, hr2, e⟩)).elim
      · exact ih h2 hr2 hs2
theorem look_mem {p : Row × Nat} (h : look rows x = some p) : p.1 ∈ rows ∧ p.1.ab = (x.natAbs : Int) := by
  obtain ⟨y, k⟩ := p
  obtain ⟨h1, j, h2, _⟩ := find_zip_some (p := fun r : Row => decide (r.ab = (x.natAbs : Int))) h
  exact ⟨List.mem_of_getElem? h2, of_decide_eq_true h1⟩
theorem look_of (nd : (rows.map Row.ab).Nodup) (hr : r ∈ rows) (e : r.ab = (x.natAbs : Int)) : ∃ k, look rows x = some (r, k) := by
  cases h : look rows x with
  | none => exact (look_none.mp h r hr e).elim
  | some p =>
    obtain ⟨h1, h2⟩ := look_mem h
    have := nd_eq nd h1 hr (h2.trans e.symm)
    exact ⟨p.2, by rw [← this]⟩
theorem ab_or {r : Row} (h : r.ab = (x.natAbs : Int)) : r.lit = x ∨ r.lit = -x := by
  have : r.lit.natAbs = x.natAbs := by exact_mod_cast h
  omega
theorem ab_eq {r : Row} (h : r.lit = x ∨ r.lit = -x) : r.ab = (x.natAbs : Int) := by
  show (r.lit.natAbs : Int) = _
  rcases h with h | h <;> rw [h]
  rw [Int.natAbs_neg]
theorem on_val (nd : (rows.map Row.ab).Nodup) : valOf rows x = .bl true ↔ On rows x := by
  unfold valOf
  constructor
  · intro h
    cases hl : look rows x with
    | none => rw [hl] at h; cases h
    | some p =>
      rw [hl] at h
      have h' : decide (p.1.lit = x) = true := by injection h
      exact ⟨p.1, (look_mem hl).1, of_decide_eq_true h'⟩
  · rintro ⟨r, h1, h2⟩
    obtain ⟨k, hk⟩ := look_of nd h1 (ab_eq (.inl h2))
    rw [hk]
    show V.bl (decide (r.lit = x)) = _
    rw [decide_eq_true h2]
theorem on_fb (nd : (rows.map Row.ab).Nodup) (hx : x ≠ 0) : isFb rows x = true ↔ On rows (-x) := by
  unfold isFb valOf
  constructor
  · intro h
    have h := of_decide_eq_true h
    cases hl : look rows x with
    | none => rw [hl] at h; cases h
    | some p =>
      rw [hl] at h
      have h' : decide (p.1.lit = x) = false := by injection h
      have hm := look_mem hl
      rcases ab_or hm.2 with e | e
      · exact (of_decide_eq_false h' e).elim
      · exact ⟨p.1, hm.1, e⟩
  · rintro ⟨r, h1, h2⟩
    obtain ⟨k, hk⟩ := look_of nd h1 (ab_eq (.inr h2))
    rw [hk]
    refine decide_eq_true ?_
    show V.bl (decide (r.lit = x)) = _
    rw [decide_eq_false]
    intro e
    omega
theorem on_both (nd : (rows.map Row.ab).Nodup) (hx : x ≠ 0) (h : On rows x) (h' : On rows (-x)) : False := by
  have h1 := (on_val nd).mpr h
  have h2 := of_decide_eq_true ((on_fb nd hx).mpr h')
  rw [h1] at h2
  cases h2
theorem open_or (nd : (rows.map Row.ab).Nodup) (hx : x ≠ 0) (h : ¬ isFb rows x = true) (h' : ¬ valOf rows x = .non) : On rows x := by
  refine (on_val nd).mp ?_
  rcases valOf_two rows x with e | ⟨b, e⟩
  · exact (h' e).elim
  · cases b with
    | true => exact e
    | false => exact (h (decide_eq_true e)).elim
theorem not_on (nd : (rows.map Row.ab).Nodup) (h : valOf rows x = .non) : ¬ On rows x := fun z => by
  have := (on_val nd).mpr z
  rw [h] at this
  cases this
theorem levI_of (nd : (rows.map Row.ab).Nodup) (hr : r ∈ rows) (h : r.lit = -x) : levI rows x = (r.lev : Int) := by
  obtain ⟨k, hk⟩ := look_of nd hr (ab_eq (.inr h))
  unfold levI
  rw [hk]
end
/-! ### the invariants -/
def Wt.live (W : Wt) (n : Nat) : Prop := W.gone[n]? = some false
structure WOk (known : List Int) (W : Wt) : Prop where
  ls : W.src.length = W.cls.length
  lp : W.prs.length = W.cls.length
  lg : W.gone.length = W.cls.length
  ck : ∀ (n : Nat) (c : List Int), W.cls[n]? = some c → (∀ x ∈ c, (x.natAbs : Int) ∈ known) ∧ c.Nodup ∧ c.length < 64
  pp : ∀ (n : Nat) (c p : List Int), W.cls[n]? = some c → W.prs[n]? = some p → p.Nodup ∧ p.length = min 2 c.length ∧ ∀ x ∈ p, x ∈ c
  lk : W.looked ≤ W.cls.length
  by1 : ∀ (x : Int) (n : Nat), n ∈ W.bY x → n < W.looked ∧ ∃ p, W.prs[n]? = some p ∧ x ∈ p ∧ p.length = 2
  bn : ∀ x, (W.bY x).Nodup
  ent : ∀ (n : Nat) (p : List Int), n < W.looked → W.live n → W.prs[n]? = some p → (p.length = 2 → ∀ x ∈ p, n ∈ W.bY x) ∧ (p.length < 2 → n ∈ W.short)
  sh : ∀ n ∈ W.short, n < W.looked ∧ ∃ p, W.prs[n]? = some p ∧ p.length < 2
  shn : W.short.Nodup
def Hi (T : Tr) (x : Int) : Prop := ∀ r ∈ T.rows, r.lit = -x → r.lev = T.depth
structure Dyn (T : Tr) (W : Wt) (d : Nat) : Prop where
  dl : d ≤ T.rows.length
  wk : ∀ (n : Nat) (p : List Int), n < W.looked → W.live n → W.prs[n]? = some p → ∀ x y, (p = [x, y] ∨ p = [y, x]) → ∀ (i : Nat) (r : Row), i < d → T.rows[i]? = some r → r.lit = -x → OnL T.rows y r.lev
  lt : ∀ (i : Nat) (r : Row), d ≤ i → T.rows[i]? = some r → r.lev = T.depth
  nw : ∀ (n : Nat) (c : List Int), W.looked ≤ n → W.live n → W.cls[n]? = some c → T.depth = 0 ∨ ∃ x ∈ c, ∃ y ∈ c, x ≠ y ∧ Hi T x ∧ Hi T y
  st : ∀ (n : Nat) (c : List Int), n < W.looked → W.live n → W.cls[n]? = some c → c.length < 2 → ∃ x, c = [x] ∧ (T.depth = 0 ∨ OnL T.rows x 0)
  rsn : ∀ (i : Nat) (r : Row) (n : Nat), T.rows[i]? = some r → r.rs = some n → W.live n ∧ ∃ c, W.cls[n]? = some c ∧ r.lit ∈ c ∧ ∀ y ∈ c, y ≠ r.lit → On (T.rows.take i) (-y)
def deff (T : Tr) (W : Wt) : Nat := min W.done (T.stamps.countP fun s => decide (s < W.mark))
structure J (T : Tr) (W : Wt) : Prop where
  ok : T.Ok
  wo : WOk T.known W
  dy : Dyn T W (deff T W)
  mm : W.mark ≤ T.made
def ShortOn (T : Tr) (W : Wt) : Prop := ∀ (n : Nat) (c : List Int), W.live n → W.cls[n]? = some c → c.length < 2 → ∃ x, c = [x] ∧ OnL T.rows x 0
structure Full (T : Tr) (W : Wt) : Prop where
  j : J T W
  fd : deff T W = T.rows.length
  fl : W.looked = W.cls.length
  fs : ShortOn T W
section
variable {T : Tr} {W : Wt} {d : Nat} {x : Int}
theorem ok_ne (ok : T.Ok) (h : (x.natAbs : Int) ∈ T.known) : x ≠ 0 := by
  have := ok.kpos _ h
  intro e
  rw [e] at this
  exact absurd this (by decide)
theorem take_app {α : Type} {a b : List α} {i : Nat} (h : i ≤ a.length) : (a ++ b).take i = a.take i := by
  rw [List.take_append, Nat.sub_eq_zero_of_le h, List.take_zero, List.append_nil]
/-- rows put on by a clause of which the rest is false -/
theorem Dyn.put (D : Dyn T W d) {n : Nat} {c : List Int} (hl : W.live n) (hc : W.cls[n]? = some c) (hx : x ∈ c) (ho : ∀ y ∈ c, y ≠ x → On T.rows (-y)) : Dyn (T.put x (some n)) W d := by
  have hrows : (T.put x (some n)).rows = T.rows ++ [⟨x, T.depth, some n⟩] := rfl
  have split : ∀ {i : Nat} {r : Row}, (T.put x (some n)).rows[i]? = some r → T.rows[i]? = some r ∨ (i = T.rows.length ∧ r = ⟨x, T.depth, some n⟩) := fun {i r} h => by
    rw [hrows] at h
    rcases Nat.lt_or_ge i T.rows.length with q | q
    · rw [List.getElem?_append_left q] at h
      exact .inl h
    · rw [List.getElem?_append_right q] at h
      have e : i - T.rows.length = 0 := by
        have := (List.getElem?_eq_some_iff.mp h).1
        simp at this
        exact this
      rw [e] at h
      cases h
      exact .inr ⟨by omega, rfl⟩
  have hi : ∀ {z}, Hi T z → Hi (T.put x (some n)) z := fun {z} h r hr e => by
    rcases List.mem_append.mp hr with q | q
    · exact h r q e
    · obtain rfl := List.mem_singleton.mp q
      rfl
  refine ⟨?_, fun m p h1 h2 h3 a b h4 i r h5 h6 h7 => ?_, fun i r h1 h2 => ?_, fun m c' h1 h2 h3 => ?_, fun m c' h1 h2 h3 h4 => ?_, fun i r m h1 h2 => ?_⟩
  · rw [hrows, List.length_append]
    exact Nat.le_add_right_of_le D.dl
  · rcases split h6 with q | ⟨q, _⟩
    · exact (D.wk m p h1 h2 h3 a b h4 i r h5 q h7).app
    · have := D.dl
      omega
  · rcases split h2 with q | ⟨_, q⟩
    · exact D.lt i r h1 q
    · rw [q]
      rfl
  · rcases D.nw m c' h1 h2 h3 with q | ⟨a, ha, b, hb, q1, q2, q3⟩
    · exact .inl q
    · exact .inr ⟨a, ha, b, hb, q1, hi q2, hi q3⟩
  · obtain ⟨a, q1, q2⟩ := D.st m c' h1 h2 h3 h4
    exact ⟨a, q1, q2.imp id OnL.app⟩
  · rcases split h1 with q | ⟨q, rfl⟩
    · obtain ⟨a1, c', a2, a3, a4⟩ := D.rsn i r m q h2
      refine ⟨a1, c', a2, a3, fun y h5 h6 => ?_⟩
      rw [hrows, take_app (Nat.le_of_lt (List.getElem?_eq_some_iff.mp q).1)]
      exact a4 y h5 h6
    · cases h2
      refine ⟨hl, c, hc, hx, fun y h5 h6 => ?_⟩
      rw [hrows, take_app (by omega), q, List.take_length]
      exact ho y h5 h6
end
end TW

set_option Elab.async false
set_option linter.all false
set_option maxRecDepth 100000
set_option maxHeartbeats 1000000
namespace TW
open PySem PySem.Spec PyProof.Rows L2 Evl
section
variable {T : Tr} {W : Wt} {d : Nat} {x : Int} {known : List Int}
/-- the last lines of the rows -/
theorem snoc_get {α : Type} {l : List α} {a b : α} {i : Nat} (h : (l ++ [a])[i]? = some b) : l[i]? = some b ∨ (i = l.length ∧ b = a) := by
  rcases Nat.lt_or_ge i l.length with q | q
  · rw [List.getElem?_append_left q] at h
    exact .inl h
  · rw [List.getElem?_append_right q] at h
    have e : i - l.length = 0 := by
      have := (List.getElem?_eq_some_iff.mp h).1
      simp at this
      exact this
    rw [e] at h
    cases h
    exact .inr ⟨by omega, rfl⟩
/-- a choice at the end of all work -/
theorem Full.choose (F : Full T W) (hx : (x.natAbs : Int) ∈ T.known) (hn : look T.rows x = none) : J (T.deeper.put x none) W := by
  have D := F.j.dy
  rw [F.fd] at D
  have hrows : (T.deeper.put x none).rows = T.rows ++ [⟨x, T.depth + 1, none⟩] := rfl
  have hd : deff (T.deeper.put x none) W = T.rows.length := by
    rw [← F.fd]
    show min W.done ((T.stamps ++ [T.made]).countP _) = min W.done _
    rw [List.countP_append, List.countP_cons, List.countP_nil, if_neg (by have := F.j.mm; simp; omega)]
    rfl
  refine ⟨F.j.ok.deeper.put hx hn, F.j.wo, ?_, Nat.le_succ_of_le F.j.mm⟩
  rw [hd]
  refine ⟨by rw [hrows, List.length_append]; omega, fun m p h1 h2 h3 a b h4 i r h5 h6 h7 => ?_, fun i r h1 h2 => ?_, fun m c' h1 h2 h3 => ?_, fun m c' h1 h2 h3 h4 => ?_, fun i r m h1 h2 => ?_⟩
  · rcases snoc_get h6 with q | ⟨q, _⟩
    · exact (D.wk m p h1 h2 h3 a b h4 i r h5 q h7).app
    · have q : i = T.rows.length := q
      omega
  · rcases snoc_get h2 with q | ⟨_, q⟩
    · have : i < T.rows.length := (List.getElem?_eq_some_iff.mp q).1
      omega
    · rw [q]
      rfl
  · have := (List.getElem?_eq_some_iff.mp h3).1
    rw [F.fl] at h1
    omega
  · obtain ⟨a, q1, q2⟩ := F.fs m c' h2 h3 h4
    exact ⟨a, q1, .inr q2.app⟩
  · rcases snoc_get h1 with q | ⟨q, rfl⟩
    · have q : T.rows[i]? = some r := q
      obtain ⟨a1, c', a2, a3, a4⟩ := D.rsn i r m q h2
      refine ⟨a1, c', a2, a3, fun y h5 h6 => ?_⟩
      rw [hrows, take_app (Nat.le_of_lt (List.getElem?_eq_some_iff.mp q).1)]
      exact a4 y h5 h6
    · cases h2
/-- stamps grow, so those below a mark come first -/
theorem countP_take : ∀ {l : List Nat} {m k : Nat}, l.Pairwise (· < ·) → (l.take k).countP (fun s => decide (s < m)) = min (l.countP fun s => decide (s < m)) k
  | [], m, k, _ => by simp
  | a :: r, m, 0, _ => by simp
  | a :: r, m, k + 1, h => by
    obtain ⟨h1, h2⟩ := List.pairwise_cons.mp h
    rw [List.take_succ_cons, List.countP_cons, List.countP_cons, countP_take h2]
    by_cases q : a < m
    · rw [if_pos (by simpa using q)]
      omega
    · rw [if_neg (by simpa using q)]
      have z : r.countP (fun s => decide (s < m)) = 0 := List.countP_eq_zero.mpr fun b hb => by
        have := h1 b hb
        simp
        omega
      rw [z]
      omega
theorem back_rows (h : T.rows.Pairwise fun a b => a.lev ≤ b.lev) {l : Nat} (hl : l < T.depth) : (T.back l).rows = T.rows.take (cntLe T.rows l) ∧ (T.back l).rows = T.rows.filter (fun r => decide (r.lev ≤ l)) ∧ (T.back l).depth = l ∧ (T.back l).stamps = T.stamps.take (cntLe T.rows l) ∧ (T.back l).known = T.known ∧ (T.back l).made = T.made := by
  have e : (T.back l).rows = T.rows.take (cntLe T.rows l) := by unfold Tr.back; rw [if_pos hl]
  refine ⟨e, e.trans (take_cnt h), ?_, ?_, ?_, ?_⟩ <;> unfold Tr.back <;> rw [if_pos hl]
theorem back_known (l : Nat) : (T.back l).known = T.known := by unfold Tr.back; split <;> rfl
theorem back_none {l : Nat} (h : ¬ l < T.depth) : T.back l = T := by unfold Tr.back; rw [if_neg h]
theorem take_get {α : Type} {l : List α} {k i : Nat} {a : α} (h : (l.take k)[i]? = some a) : i < k ∧ l[i]? = some a := by
  rw [List.getElem?_take] at h
  split at h
  · exact ⟨‹_›, h⟩
  · cases h
theorem J.back (F : J T W) (l : Nat) : J (T.back l) W := by
  by_cases hl : l < T.depth
  · obtain ⟨e1, e2, e3, e4, e5, e6⟩ := back_rows F.ok.srt hl
    refine ⟨F.ok.back l, by rw [e5]; exact F.wo, ?_, by rw [e6]; exact F.mm⟩
    have D := F.dy
    have hd : deff (T.back l) W = min (deff T W) (cntLe T.rows l) := by
      unfold deff
      rw [e4, countP_take F.ok.sasc]
      omega
    have mem : ∀ r, r ∈ T.rows → r.lev ≤ l → r ∈ (T.back l).rows := fun r h1 h2 => by
      rw [e2]
      exact List.mem_filter.mpr ⟨h1, decide_eq_true h2⟩
    have low : ∀ r, r ∈ (T.back l).rows → r ∈ T.rows ∧ r.lev ≤ l := fun r h => by
      rw [e2] at h
      exact ⟨(List.mem_filter.mp h).1, of_decide_eq_true (List.mem_filter.mp h).2⟩
    rw [hd]
    refine ⟨?_, fun m p h1 h2 h3 a b h4 i r h5 h6 h7 => ?_, fun i r h1 h2 => ?_, fun m c' h1 h2 h3 => ?_, fun m c' h1 h2 h3 h4 => ?_, fun i r m h1 h2 => ?_⟩
    · rw [e1, List.length_take]
      have := D.dl
      omega
    · have hm := (low r (List.mem_of_getElem? h6)).2
      rw [e1] at h6
      obtain ⟨r', q1, q2, q3⟩ := D.wk m p h1 h2 h3 a b h4 i r (by omega) (take_get h6).2 h7
      exact ⟨r', mem r' q1 (Nat.le_trans q3 hm), q2, q3⟩
    · have hm := (low r (List.mem_of_getElem? h2)).2
      rw [e1] at h2
      have q := take_get h2
      have := D.lt i r (by omega) q.2
      omega
    · rcases D.nw m c' h1 h2 h3 with q | ⟨a, ha, b, hb, q1, q2, q3⟩
      · omega
      · refine .inr ⟨a, ha, b, hb, q1, fun r hr e => ?_, fun r hr e => ?_⟩
        · have := low r hr
          have := q2 r this.1 e
          omega
        · have := low r hr
          have := q3 r this.1 e
          omega
    · obtain ⟨a, q1, q2⟩ := D.st m c' h1 h2 h3 h4
      refine ⟨a, q1, .inr ?_⟩
      rcases q2 with q2 | ⟨r, a1, a2, a3⟩
      · omega
      · exact ⟨r, mem r a1 (by omega), a2, a3⟩
    · rw [e1] at h1
      have q := take_get h1
      obtain ⟨a1, c', a2, a3, a4⟩ := D.rsn i r m q.2 h2
      refine ⟨a1, c', a2, a3, fun y h5 h6 => ?_⟩
      rw [e1, List.take_take, Nat.min_eq_left (Nat.le_of_lt q.1)]
      exact a4 y h5 h6
  · rw [back_none hl]
    exact F
theorem Full.back (F : Full T W) (l : Nat) : Full (T.back l) W := by
  by_cases hl : l < T.depth
  · obtain ⟨e1, e2, e3, e4, e5, e6⟩ := back_rows F.j.ok.srt hl
    refine ⟨F.j.back l, ?_, F.fl, fun n c h1 h2 h3 => ?_⟩
    · have := F.fd
      unfold deff at this ⊢
      rw [e4, countP_take F.j.ok.sasc, e1, List.length_take]
      omega
    · obtain ⟨x, q1, r, a1, a2, a3⟩ := F.fs n c h1 h2 h3
      refine ⟨x, q1, r, ?_, a2, a3⟩
      rw [e2]
      exact List.mem_filter.mpr ⟨a1, decide_eq_true (by omega)⟩
  · rw [back_none hl]
    exact F
/-! ### a clause forgotten -/
theorem live_forget {n m : Nat} (h : (W.forget n).live m) : W.live m ∧ m ≠ n := by
  unfold Wt.live Wt.forget at h
  rw [List.getElem?_set] at h
  split at h
  · split at h <;> cases h
  · exact ⟨h, fun e => ‹¬ n = m› e.symm⟩
theorem WOk.forget (F : WOk known W) (n : Nat) : WOk known (W.forget n) :=
  ⟨F.ls, F.lp, by unfold Wt.forget; rw [List.length_set]; exact F.lg, F.ck, F.pp, F.lk, F.by1, F.bn, fun m p h1 h2 h3 => F.ent m p h1 (live_forget h2).1 h3, F.sh, F.shn⟩
theorem Dyn.forget (D : Dyn T W d) {n : Nat} (hn : ∀ r ∈ T.rows, r.rs ≠ some n) : Dyn T (W.forget n) d :=
  ⟨D.dl, fun m p h1 h2 h3 => D.wk m p h1 (live_forget h2).1 h3, D.lt, fun m c h1 h2 h3 => D.nw m c h1 (live_forget h2).1 h3, fun m c h1 h2 h3 => D.st m c h1 (live_forget h2).1 h3, fun i r m h1 h2 => by
    obtain ⟨a1, a2⟩ := D.rsn i r m h1 h2
    refine ⟨?_, a2⟩
    have : ¬ n = m := fun e => hn r (List.mem_of_getElem? h1) (by rw [h2, e])
    show (W.gone.set n true)[m]? = some false
    rw [List.getElem?_set_ne this]
    exact a1⟩
theorem J.forget (F : J T W) {n : Nat} (hn : ∀ r ∈ T.rows, r.rs ≠ some n) : J T (W.forget n) := ⟨F.ok, F.wo.forget n, F.dy.forget hn, F.mm⟩
theorem Full.forget (F : Full T W) {n : Nat} (hn : ∀ r ∈ T.rows, r.rs ≠ some n) : Full T (W.forget n) := ⟨F.j.forget hn, F.fd, F.fl, fun m c h1 h2 h3 => F.fs m c (live_forget h1).1 h2 h3⟩
/-! ### a clause put in -/
def Wt.putC (W : Wt) (c : List Int) (s : Int) (p : List Int) : Wt := { W with cls := W.cls ++ [c], src := W.src ++ [s], prs := W.prs ++ [p], gone := W.gone ++ [false] }
theorem filt_len {α : Type} (c : List α) (f : α → Bool) : c.length = (c.filter f).length + (c.filter fun x => !f x).length := by
  induction c with
  | nil => rfl
  | cons a r ih =>
    rw [List.filter_cons, List.filter_cons]
    cases f a <;> simp <;> omega
theorem PairFor.facts {rows : List Row} {c pr : List Int} (h : PairFor rows c pr) (cn : c.Nodup) : pr.Nodup ∧ pr.length = min 2 c.length ∧ ∀ x ∈ pr, x ∈ c := by
  obtain ⟨srt, h1, h2, rfl⟩ := h
  have nf : (c.filter fun x => isFb rows x).Nodup := cn.sublist List.filter_sublist
  have ng : (c.filter fun x => !isFb rows x).Nodup := cn.sublist List.filter_sublist
  have hl := filt_len c (fun x => isFb rows x)
  have mt : ∀ x ∈ (c.filter fun x => !isFb rows x) ++ srt, x ∈ c := fun x hx => by
    rcases List.mem_append.mp hx with q | q
    · exact (List.mem_filter.mp q).1
    · exact (List.mem_filter.mp (h1.mem_iff.mp q)).1
  have nt : ((c.filter fun x => !isFb rows x) ++ srt).Nodup := List.nodup_append.mpr ⟨ng, h1.nodup_iff.mpr nf, fun a ha b hb e => by
    subst e
    have q1 := (List.mem_filter.mp ha).2
    have q2 := (List.mem_filter.mp (h1.mem_iff.mp hb)).2
    rw [q2] at q1
    cases q1⟩
  split
  · refine ⟨nt.sublist (List.take_sublist _ _), ?_, fun x hx => mt x (List.mem_of_mem_take hx)⟩
    rw [List.length_take, List.length_append, h1.length_eq]
    omega
  · refine ⟨ng.sublist (List.take_sublist _ _), ?_, fun x hx => (List.mem_filter.mp (List.mem_of_mem_take hx)).1⟩
    rw [List.length_take]
    omega
theorem WOk.putC (F : WOk known W) {c p : List Int} {s : Int} (hc : (∀ x ∈ c, (x.natAbs : Int) ∈ known) ∧ c.Nodup ∧ c.length < 64) (hp : p.Nodup ∧ p.length = min 2 c.length ∧ ∀ x ∈ p, x ∈ c) : WOk known (W.putC c s p) := by
  have lt : ∀ {n : Nat}, n < W.looked → n < W.prs.length := fun {n} h => by rw [F.lp]; exact Nat.lt_of_lt_of_le h F.lk
  refine ⟨?_, ?_, ?_, fun n c' h => ?_, fun n c' p' h h2 => ?_, ?_, fun x n h => ?_, F.bn, fun n p' h1 h2 h3 => ?_, fun n h => ?_, F.shn⟩
  · show (W.src ++ [s]).length = (W.cls ++ [c]).length
    rw [List.length_append, List.length_append, F.ls]; rfl
  · show (W.prs ++ [p]).length = (W.cls ++ [c]).length
    rw [List.length_append, List.length_append, F.lp]; rfl
  · show (W.gone ++ [false]).length = (W.cls ++ [c]).length
    rw [List.length_append, List.length_append, F.lg]; rfl
  · rcases snoc_get h with q | ⟨_, rfl⟩
    · exact F.ck n c' q
    · exact hc
  · rcases snoc_get h with q | ⟨q, rfl⟩
    · rcases snoc_get h2 with q2 | ⟨q2, _⟩
      · exact F.pp n c' p' q q2
      · rw [F.lp] at q2
        have := (List.getElem?_eq_some_iff.mp q).1
        omega
    · rcases snoc_get h2 with q2 | ⟨_, rfl⟩
      · have := (List.getElem?_eq_some_iff.mp q2).1
        rw [F.lp] at this
        omega
      · exact hp
  · show W.looked ≤ (W.cls ++ [c]).length
    rw [List.length_append]
    exact Nat.le_add_right_of_le F.lk
  · obtain ⟨h1, p', h2, h3⟩ := F.by1 x n h
    refine ⟨h1, p', ?_, h3⟩
    show (W.prs ++ [p])[n]? = _
    rw [List.getElem?_append_left (lt h1)]
    exact h2
  · have h2' : (W.gone ++ [false])[n]? = some false := h2
    have h3' : (W.prs ++ [p])[n]? = some p' := h3
    rw [List.getElem?_append_left (by rw [F.lg, ← F.lp]; exact lt h1)] at h2'
    rw [List.getElem?_append_left (lt h1)] at h3'
    exact F.ent n p' h1 h2' h3'
  · obtain ⟨h1, p', h2, h3⟩ := F.sh n h
    refine ⟨h1, p', ?_, h3⟩
    show (W.prs ++ [p])[n]? = _
    rw [List.getElem?_append_left (lt h1)]
    exact h2
theorem Dyn.putC (D : Dyn T W d) (F : WOk known W) {c p : List Int} {s : Int} (hn : T.depth = 0 ∨ ∃ x ∈ c, ∃ y ∈ c, x ≠ y ∧ Hi T x ∧ Hi T y) : Dyn T (W.putC c s p) d := by
  have lt : ∀ {n : Nat}, n < W.looked → n < W.prs.length := fun {n} h => by rw [F.lp]; exact Nat.lt_of_lt_of_le h F.lk
  have lv : ∀ {n : Nat}, n < W.looked → (W.putC c s p).live n → W.live n := fun {n} h h2 => by
    have h2' : (W.gone ++ [false])[n]? = some false := h2
    rw [List.getElem?_append_left (by rw [F.lg, ← F.lp]; exact lt h)] at h2'
    exact h2'
  refine ⟨D.dl, fun n p' h1 h2 h3 => ?_, D.lt, fun n c' h1 h2 h3 => ?_, fun n c' h1 h2 h3 h4 => ?_, fun i r n h1 h2 => ?_⟩
  · have h3' : (W.prs ++ [p])[n]? = some p' := h3
    rw [List.getElem?_append_left (lt h1)] at h3'
    exact D.wk n p' h1 (lv h1 h2) h3'
  · rcases snoc_get h3 with q | ⟨_, rfl⟩
    · refine D.nw n c' h1 ?_ q
      rcases snoc_get h2 with q2 | ⟨q2, _⟩
      · exact q2
      · rw [F.lg] at q2
        have := (List.getElem?_eq_some_iff.mp q).1
        omega
    · exact hn
  · have h3' : (W.cls ++ [c])[n]? = some c' := h3
    rw [List.getElem?_append_left (by rw [← F.lp]; exact lt h1)] at h3'
    exact D.st n c' h1 (lv h1 h2) h3' h4
  · obtain ⟨a1, c', a2, a3, a4⟩ := D.rsn i r n h1 h2
    have q := (List.getElem?_eq_some_iff.mp a2).1
    refine ⟨?_, c', ?_, a3, a4⟩
    · show (W.gone ++ [false])[n]? = _
      rw [List.getElem?_append_left (by rw [F.lg]; exact q)]
      exact a1
    · show (W.cls ++ [c])[n]? = _
      rw [List.getElem?_append_left q]
      exact a2
theorem J.putC (F : J T W) {c p : List Int} {s : Int} (hc : (∀ x ∈ c, (x.natAbs : Int) ∈ T.known) ∧ c.Nodup ∧ c.length < 64) (hp : PairFor T.rows c p) (hn : T.depth = 0 ∨ ∃ x ∈ c, ∃ y ∈ c, x ≠ y ∧ Hi T x ∧ Hi T y) : J T (W.putC c s p) :=
  ⟨F.ok, F.wo.putC hc (hp.facts hc.2.1), F.dy.putC F.wo hn, F.mm⟩
end
end TW

set_option Elab.async false
set_option linter.all false
set_option maxRecDepth 100000
set_option maxHeartbeats 1000000
namespace TW
open PySem PySem.Spec PyProof.Rows L2 Evl
section
variable {T T' : Tr} {W W' : Wt} {d : Nat} {x y f o z : Int} {known : List Int} {rows : List Row} {c pr r : List Int} {n : Nat}
theorem PairFor.clash (h : PairFor rows c (x :: r)) (hx : isFb rows x = true) : ∀ z ∈ c, isFb rows z = true := by
  obtain ⟨srt, h1, h2, h3⟩ := h
  intro z hz
  cases hf : isFb rows z with
  | true => rfl
  | false =>
    have hm : z ∈ c.filter fun x => !isFb rows x := List.mem_filter.mpr ⟨hz, by rw [hf]; rfl⟩
    have hall : ∀ w ∈ c.filter (fun x => !isFb rows x), isFb rows w = false := fun w hw => by simpa using (List.mem_filter.mp hw).2
    revert hm hall h3
    generalize (c.filter fun x => !isFb rows x) = g
    intro h3 hm hall
    cases g with
    | nil => cases hm
    | cons a t =>
      have : x = a := by
        split at h3
        · rw [List.cons_append, List.take_succ_cons] at h3
          exact (List.cons.inj h3).1
        · rw [List.take_succ_cons] at h3
          exact (List.cons.inj h3).1
      rw [this, hall a List.mem_cons_self] at hx
      cases hx
theorem PairFor.form (h : PairFor rows c pr) (hx : pr = [x] ∨ ∃ y, pr = [x, y] ∧ isFb rows y = true) (nx : isFb rows x = false) : c.filter (fun x => !isFb rows x) = [x] ∧ ∃ srt : List Int, srt.Perm (c.filter fun x => isFb rows x) ∧ srt.Pairwise (fun x y => levI rows y ≤ levI rows x) ∧ pr = x :: srt.take 1 := by
  obtain ⟨srt, h1, h2, h3⟩ := h
  have hall : ∀ w ∈ c.filter (fun x => !isFb rows x), isFb rows w = false := fun w hw => by simpa using (List.mem_filter.mp hw).2
  have hs : ∀ w ∈ srt, isFb rows w = true := fun w hw => (List.mem_filter.mp (h1.mem_iff.mp hw)).2
  have h4 : (c.filter fun x => !isFb rows x) = [x] ∧ pr = x :: srt.take 1 := by
    revert hall h3
    generalize (c.filter fun x => !isFb rows x) = g
    intro h3 hall
    match g with
    | [] =>
      rw [if_pos (by decide), List.nil_append] at h3
      have : x ∈ srt := by
        refine List.mem_of_mem_take (i := 2) ?_
        rw [← h3]
        rcases hx with e | ⟨y, e, _⟩ <;> rw [e] <;> exact List.mem_cons_self
      rw [hs x this] at nx
      cases nx
    | [a] =>
      rw [if_pos (by simp)] at h3
      have e : pr = a :: srt.take 1 := h3
      have : a = x := by
        rcases hx with q | ⟨y, q, _⟩
        · rw [q] at e; exact (List.cons.inj e).1.symm
        · rw [q] at e; exact (List.cons.inj e).1.symm
      rw [← this]
      exact ⟨rfl, e⟩
    | a :: b :: t =>
      rw [if_neg (by simp)] at h3
      have e : pr = [a, b] := h3
      rcases hx with q | ⟨y, q, hy⟩
      · rw [q] at e; cases e
      · rw [q] at e
        cases e
        rw [hall _ (List.mem_cons_of_mem _ List.mem_cons_self)] at hy
        cases hy
  exact ⟨h4.1, srt, h1, h2, h4.2⟩
theorem PairFor.sole (h : PairFor rows c pr) (hx : pr = [x] ∨ ∃ y, pr = [x, y] ∧ isFb rows y = true) (nx : isFb rows x = false) : ∀ z ∈ c, z ≠ x → isFb rows z = true := by
  intro z hz hne
  cases hf : isFb rows z with
  | true => rfl
  | false =>
    have hm : z ∈ c.filter fun x => !isFb rows x := List.mem_filter.mpr ⟨hz, by rw [hf]; rfl⟩
    rw [(h.form hx nx).1] at hm
    exact (hne (List.mem_singleton.mp hm)).elim
theorem PairFor.top (h : PairFor rows c [x, y]) (hy : isFb rows y = true) (nx : isFb rows x = false) : ∀ z ∈ c, isFb rows z = true → levI rows z ≤ levI rows y := by
  intro z hz hf
  obtain ⟨_, srt, h1, h2, h3⟩ := h.form (.inr ⟨y, rfl, hy⟩) nx
  have hm : z ∈ srt := h1.mem_iff.mpr (List.mem_filter.mpr ⟨hz, hf⟩)
  cases srt with
  | nil => cases hm
  | cons a t =>
    have : y = a := by injection h3 with _ h3; injection h3
    subst this
    rcases List.mem_cons.mp hm with rfl | hm
    · exact Int.le_refl _
    · exact (List.pairwise_cons.mp h2).1 z hm
theorem due_iff {x : Int} {r : List Int} : dueB rows x r = true ↔ valOf rows x = .non ∧ (r = [] ∨ ∃ y t, r = y :: t ∧ isFb rows y = true) := by
  unfold dueB
  rw [Bool.and_eq_true, decide_eq_true_eq]
  cases r with
  | nil => simp
  | cons y t => simp
theorem none_fb (h : valOf rows x = .non) : isFb rows x = false := by
  unfold isFb
  rw [h]
  rfl
/-! ### the numbers looked at -/
theorem Dyn.same (D : Dyn T W d) (e1 : W'.looked = W.looked) (e2 : W'.gone = W.gone) (e3 : W'.prs = W.prs) (e4 : W'.cls = W.cls) : Dyn T W' d := by
  have lv : ∀ n, W'.live n = W.live n := fun n => by unfold Wt.live; rw [e2]
  refine ⟨D.dl, ?_, D.lt, ?_, ?_, ?_⟩
  · simp only [e1, e3, lv]; exact D.wk
  · simp only [e1, e4, lv]; exact D.nw
  · simp only [e1, e4, lv]; exact D.st
  · simp only [e4, lv]; exact D.rsn
theorem Dyn.next (D : Dyn T W d) (hE : W.live W.looked → ∀ c p, W.cls[W.looked]? = some c → (W.prs[W.looked]? = some p → ∀ x y, (p = [x, y] ∨ p = [y, x]) → ∀ (i : Nat) (r : Row), i < d → T.rows[i]? = some r → r.lit = -x → OnL T.rows y r.lev) ∧ (c.length < 2 → ∃ x, c = [x] ∧ (T.depth = 0 ∨ OnL T.rows x 0)))
    (hc : W.looked < W.cls.length) (e1 : W'.looked = W.looked + 1) (e2 : W'.gone = W.gone) (e3 : W'.prs = W.prs) (e4 : W'.cls = W.cls) : Dyn T W' d := by
  have lv : ∀ n, W'.live n = W.live n := fun n => by unfold Wt.live; rw [e2]
  obtain ⟨c0, hc0⟩ : ∃ c, W.cls[W.looked]? = some c := ⟨_, List.getElem?_eq_getElem hc⟩
  refine ⟨D.dl, ?_, D.lt, ?_, ?_, ?_⟩
  · simp only [e1, e3, lv]
    intro n p h1 h2 h3
    rcases Nat.lt_or_eq_of_le (Nat.le_of_lt_succ h1) with q | q
    · exact D.wk n p q h2 h3
    · subst q
      exact (hE h2 c0 p hc0).1 h3
  · simp only [e1, e4, lv]
    intro n c h1 h2 h3
    exact D.nw n c (by omega) h2 h3
  · simp only [e1, e4, lv]
    intro n c h1 h2 h3 h4
    rcases Nat.lt_or_eq_of_le (Nat.le_of_lt_succ h1) with q | q
    · exact D.st n c q h2 h3 h4
    · subst q
      exact (hE h2 c [] h3).2 h4
  · simp only [e4, lv]; exact D.rsn
theorem Dyn.setNew (D : Dyn T W d) (p : List Int) : Dyn T (W.setPr W.looked p) d := by
  refine ⟨D.dl, fun n p' h1 h2 h3 => ?_, D.lt, D.nw, D.st, D.rsn⟩
  have h1' : n < W.looked := h1
  have h3' : (W.prs.set W.looked p)[n]? = some p' := h3
  rw [List.getElem?_set_ne (by omega)] at h3'
  exact D.wk n p' h1' h2 h3'
theorem setPr_same {n : Nat} {p : List Int} (h : W.prs[n]? = some p) : W.setPr n p = W := by
  unfold Wt.setPr
  obtain ⟨h1, h2⟩ := List.getElem?_eq_some_iff.mp h
  rw [← h2, List.set_getElem_self]
theorem WOk.setNew (F : WOk known W) {c p : List Int} (hc : W.cls[W.looked]? = some c) (hp : p.Nodup ∧ p.length = min 2 c.length ∧ ∀ x ∈ p, x ∈ c) : WOk known (W.setPr W.looked p) := by
  have ne : ∀ {n : Nat}, n < W.looked → (W.prs.set W.looked p)[n]? = W.prs[n]? := fun {n} h => List.getElem?_set_ne (by omega)
  refine ⟨F.ls, by unfold Wt.setPr; rw [List.length_set]; exact F.lp, F.lg, F.ck, fun n c' p' h h2 => ?_, F.lk, fun x n h => ?_, F.bn, fun n p' h1 h2 h3 => ?_, fun n h => ?_, F.shn⟩
  · have h2' : (W.prs.set W.looked p)[n]? = some p' := h2
    have h' : W.cls[n]? = some c' := h
    by_cases q : W.looked = n
    · subst q
      rw [List.getElem?_set_self (by rw [F.lp]; exact (List.getElem?_eq_some_iff.mp hc).1)] at h2'
      cases h2'
      rw [hc] at h'
      cases h'
      exact hp
    · rw [List.getElem?_set_ne q] at h2'
      exact F.pp n c' p' h' h2'
  · obtain ⟨h1, p', h2, h3⟩ := F.by1 x n h
    exact ⟨h1, p', (ne h1).trans h2, h3⟩
  · exact F.ent n p' h1 h2 ((ne h1).symm.trans h3)
  · obtain ⟨h1, p', h2, h3⟩ := F.sh n h
    exact ⟨h1, p', (ne h1).trans h2, h3⟩
def Wt.seen (W : Wt) : Wt := { W with looked := W.looked + 1 }
theorem WOk.skip (F : WOk known W) (hc : W.looked < W.cls.length) (hg : ¬ W.live W.looked) : WOk known W.seen := by
  refine ⟨F.ls, F.lp, F.lg, F.ck, F.pp, hc, fun x n h => ?_, F.bn, fun n p' h1 h2 h3 => ?_, fun n h => ?_, F.shn⟩
  · obtain ⟨h1, h2⟩ := F.by1 x n h
    exact ⟨Nat.lt_succ_of_lt h1, h2⟩
  · rcases Nat.lt_or_eq_of_le (Nat.le_of_lt_succ h1) with q | q
    · exact F.ent n p' q h2 h3
    · subst q
      exact (hg h2).elim
  · obtain ⟨h1, h2⟩ := F.sh n h
    exact ⟨Nat.lt_succ_of_lt h1, h2⟩
theorem WOk.enterS (F : WOk known W) (hc : W.looked < W.cls.length) {p : List Int} (hp : W.prs[W.looked]? = some p) (hl : p.length < 2) : WOk known (W.addShort W.looked).seen := by
  refine ⟨F.ls, F.lp, F.lg, F.ck, F.pp, hc, fun x n h => ?_, F.bn, fun n p' h1 h2 h3 => ?_, fun n h => ?_, ?_⟩
  · obtain ⟨h1, h2⟩ := F.by1 x n h
    exact ⟨Nat.lt_succ_of_lt h1, h2⟩
  · rcases Nat.lt_or_eq_of_le (Nat.le_of_lt_succ h1) with q | q
    · obtain ⟨q1, q2⟩ := F.ent n p' q h2 h3
      exact ⟨q1, fun z => List.mem_append_left _ (q2 z)⟩
    · have q : n = W.looked := q
      subst q
      rw [show (W.addShort W.looked).seen.prs = W.prs from rfl, hp] at h3
      cases h3
      exact ⟨fun z => absurd z (by omega), fun _ => List.mem_append_right _ (List.mem_singleton.mpr rfl)⟩
  · rcases List.mem_append.mp h with h | h
    · obtain ⟨h1, h2⟩ := F.sh n h
      exact ⟨Nat.lt_succ_of_lt h1, h2⟩
    · obtain rfl := List.mem_singleton.mp h
      exact ⟨Nat.lt_succ_self _, p, hp, hl⟩
  · refine List.nodup_append.mpr ⟨F.shn, by simp, fun a ha b hb e => ?_⟩
    have h1 := (F.sh a ha).1
    have := List.mem_singleton.mp hb
    omega
theorem WOk.enterP (F : WOk known W) (hc : W.looked < W.cls.length) (hp : W.prs[W.looked]? = some [x, y]) (hxy : x ≠ y) : WOk known ((W.addBy x W.looked).addBy y W.looked).seen := by
  have eB : ((W.addBy x W.looked).addBy y W.looked).seen.bY = fun k => if k = y then W.bY y ++ [W.looked] else if k = x then W.bY x ++ [W.looked] else W.bY k := by
    funext k
    show (if k = y then (if y = x then W.bY x ++ [W.looked] else W.bY y) ++ [W.looked] else if k = x then W.bY x ++ [W.looked] else W.bY k) = _
    rw [if_neg (fun e : y = x => hxy e.symm)]
  have no : ∀ k, ¬ W.looked ∈ W.bY k := fun k h => Nat.lt_irrefl _ (F.by1 k _ h).1
  have mem : ∀ k n, n ∈ ((W.addBy x W.looked).addBy y W.looked).seen.bY k → n ∈ W.bY k ∨ (n = W.looked ∧ (k = x ∨ k = y)) := fun k n h => by
    rw [eB] at h
    dsimp only at h
    split at h
    · rename_i e
      subst e
      rcases List.mem_append.mp h with h | h
      · exact .inl h
      · exact .inr ⟨List.mem_singleton.mp h, .inr rfl⟩
    · split at h
      · rename_i e
        subst e
        rcases List.mem_append.mp h with h | h
        · exact .inl h
        · exact .inr ⟨List.mem_singleton.mp h, .inl rfl⟩
      · exact .inl h
  have mem2 : ∀ k n, n ∈ W.bY k → n ∈ ((W.addBy x W.looked).addBy y W.looked).seen.bY k := fun k n h => by
    rw [eB]
    dsimp only
    split
    · rename_i e
      subst e
      exact List.mem_append_left _ h
    · split
      · rename_i e
        subst e
        exact List.mem_append_left _ h
      · exact h
  refine ⟨F.ls, F.lp, F.lg, F.ck, F.pp, hc, fun k n h => ?_, fun k => ?_, fun n p' h1 h2 h3 => ?_, fun n h => ?_, F.shn⟩
  · have hm := mem k n h
    clear h
    rcases hm with q | ⟨q1, q2⟩
    · obtain ⟨h1, h2⟩ := F.by1 k n q
      exact ⟨Nat.lt_succ_of_lt h1, h2⟩
    · rw [q1]
      refine ⟨Nat.lt_succ_self _, _, hp, ?_, rfl⟩
      rcases q2 with q2 | q2 <;> rw [q2] <;> simp
  · rw [eB]
    dsimp only
    split
    · exact List.nodup_append.mpr ⟨F.bn y, by simp, fun a ha b hb e => no y (by rw [← List.mem_singleton.mp hb, ← e]; exact ha)⟩
    · split
      · exact List.nodup_append.mpr ⟨F.bn x, by simp, fun a ha b hb e => no x (by rw [← List.mem_singleton.mp hb, ← e]; exact ha)⟩
      · exact F.bn k
  · rcases Nat.lt_or_eq_of_le (Nat.le_of_lt_succ h1) with q | q
    · obtain ⟨q1, q2⟩ := F.ent n p' q h2 h3
      exact ⟨fun z k hk => mem2 k n (q1 z k hk), q2⟩
    · have q : n = W.looked := q
      subst q
      have h3' : W.prs[W.looked]? = some p' := h3
      rw [hp] at h3'
      cases h3'
      refine ⟨fun _ k hk => ?_, fun z => absurd z (by simp)⟩
      rw [eB]
      dsimp only
      by_cases e : k = y
      · rw [if_pos e]
        exact List.mem_append_right _ (List.mem_singleton.mpr rfl)
      · have : k = x := by simpa [e] using hk
        rw [if_neg e, if_pos this]
        exact List.mem_append_right _ (List.mem_singleton.mpr rfl)
  · obtain ⟨h1, h2⟩ := F.sh n h
    exact ⟨Nat.lt_succ_of_lt h1, h2⟩
/-- a clause that stands: what its pair says -/
theorem Dyn.stood (ok : T.Ok) (D : Dyn T W d) (hl : W.live W.looked) (hc : W.cls[W.looked]? = some c) (hk : ∀ x ∈ c, (x.natAbs : Int) ∈ T.known) (cn : c.Nodup) {r : List Int} (hp : PairFor T.rows c (x :: r)) (hx : isFb T.rows x = false)
    (hT : (dueB T.rows x r = true ∧ T' = T.put x (some W.looked)) ∨ (dueB T.rows x r = false ∧ T' = T)) :
    (∀ a b, (x :: r = [a, b] ∨ x :: r = [b, a]) → ∀ (i : Nat) (s : Row), i < d → T'.rows[i]? = some s → s.lit = -a → OnL T'.rows b s.lev) ∧ (c.length < 2 → c = [x] ∧ T'.depth = 0) ∧ (c.length < 2 → On T'.rows x) := by
  obtain ⟨f1, f2, f3⟩ := hp.facts cn
  have hxk := hk x (f3 x List.mem_cons_self)
  have xne := ok_ne ok hxk
  have hdep : T'.depth = T.depth := by rcases hT with ⟨_, rfl⟩ | ⟨_, rfl⟩ <;> rfl
  have hin : ∀ {i : Nat} {s : Row}, i < d → T'.rows[i]? = some s → T.rows[i]? = some s := fun {i s} h1 h2 => by
    rcases hT with ⟨_, rfl⟩ | ⟨_, rfl⟩
    · have h2' : (T.rows ++ [⟨x, T.depth, some W.looked⟩])[i]? = some s := h2
      rw [List.getElem?_append_left (Nat.lt_of_lt_of_le h1 D.dl)] at h2'
      exact h2'
    · exact h2
  have one : c.length < 2 → c = [x] ∧ r = [] := fun h => by
    have h1 : (x :: r).length ≤ c.length := by rw [f2]; omega
    have h2 : r = [] := by
      cases r with
      | nil => rfl
      | cons a t => simp at h1; omega
    refine ⟨?_, h2⟩
    match c, h, f3 x List.mem_cons_self with
    | [a], _, hm => rw [List.mem_singleton.mp hm]
  refine ⟨fun a b h i s h1 h2 h3 => ?_, fun h => ?_, fun h => ?_⟩
  · have h2' := hin h1 h2
    have hs := List.mem_of_getElem? h2'
    rcases h with h | h
    · have e : x = a := (List.cons.inj h).1
      subst e
      have := (on_fb ok.nd xne).mpr ⟨s, hs, h3⟩
      rw [hx] at this
      cases this
    · have e : x = b := (List.cons.inj h).1
      have e2 : r = [a] := (List.cons.inj h).2
      subst e
      subst e2
      have hak := hk a (f3 a (List.mem_cons_of_mem _ List.mem_cons_self))
      have hy := (on_fb ok.nd (ok_ne ok hak)).mpr ⟨s, hs, h3⟩
      have hon : OnL T'.rows x T.depth := by
        rcases hT with ⟨hd, rfl⟩ | ⟨hd, rfl⟩
        · exact ⟨_, List.mem_append_right _ (List.mem_singleton.mpr rfl), rfl, Nat.le_refl _⟩
        · obtain ⟨w, hw, hwe⟩ := open_or (x := x) ok.nd xne (by rw [hx]; decide) fun z => by
            have := due_iff.mpr ⟨z, .inr ⟨a, [], rfl, hy⟩⟩
            rw [hd] at this
            cases this
          exact ⟨w, hw, hwe, ok.le w hw⟩
      have hlev : T.depth ≤ s.lev := by
        rcases D.nw _ c (Nat.le_refl _) hl hc with q | ⟨u, hu, v, hv, huv, q1, q2⟩
        · omega
        · have key : ∀ z ∈ c, z ≠ x → Hi T z → T.depth ≤ s.lev := fun z hz hzx hhi => by
            have hfz := hp.sole (.inr ⟨a, rfl, hy⟩) hx z hz hzx
            obtain ⟨w, hw, hwe⟩ := (on_fb ok.nd (ok_ne ok (hk z hz))).mp hfz
            have t1 := hp.top hy hx z hz hfz
            rw [levI_of ok.nd hw hwe, levI_of ok.nd hs h3, hhi w hw hwe] at t1
            exact_mod_cast t1
          by_cases hux : u = x
          · exact key v hv (fun e => huv (hux.trans e.symm)) q2
          · exact key u hu hux q1
      obtain ⟨w, hw, hwe, hwl⟩ := hon
      exact ⟨w, hw, hwe, Nat.le_trans hwl hlev⟩
  · obtain ⟨e, _⟩ := one h
    refine ⟨e, ?_⟩
    rw [hdep]
    rcases D.nw _ c (Nat.le_refl _) hl hc with q | ⟨u, hu, v, hv, huv, _⟩
    · exact q
    · rw [e] at hu hv
      exact (huv ((List.mem_singleton.mp hu).trans (List.mem_singleton.mp hv).symm)).elim
  · obtain ⟨e, er⟩ := one h
    rcases hT with ⟨hd, rfl⟩ | ⟨hd, rfl⟩
    · exact ⟨_, List.mem_append_right _ (List.mem_singleton.mpr rfl), rfl⟩
    · refine open_or ok.nd xne (by rw [hx]; decide) fun z => ?_
      have := due_iff.mpr ⟨z, .inl er⟩
      rw [hd] at this
      cases this
/-! ### working off -/
def Wt.vmove (W : Wt) (n : Nat) (o z f : Int) (l : List Nat) : Wt := { W with prs := W.prs.set n [o, z], bY := fun k => if k = z then W.bY z ++ [n] else if k = f then l else W.bY k }
def Wt.vdrop (W : Wt) (f : Int) (l : List Nat) : Wt := { W with bY := fun k => if k = f then l else W.bY k }
theorem oth_or (h : f = x ∨ f = y) (hxy : x ≠ y) : othOf x y f ≠ f ∧ ((x = othOf x y f ∧ y = f) ∨ (x = f ∧ y = othOf x y f)) := by
  unfold othOf
  rcases h with rfl | rfl
  · rw [if_pos rfl]
    exact ⟨hxy.symm, .inr ⟨rfl, rfl⟩⟩
  · rw [if_neg hxy]
    exact ⟨hxy, .inl ⟨rfl, rfl⟩⟩
theorem WOk.vdrop (F : WOk known W) {A B : List Nat} (hf : W.bY f = A ++ n :: B) (hg : ¬ W.live n) : WOk known (W.vdrop f (A ++ B)) := by
  have sub : ∀ k m, m ∈ (W.vdrop f (A ++ B)).bY k → m ∈ W.bY k := fun k m h => by
    have h : m ∈ (if k = f then A ++ B else W.bY k) := h
    split at h
    · rename_i e
      rw [e, hf]
      rcases List.mem_append.mp h with h | h
      · exact List.mem_append_left _ h
      · exact List.mem_append_right _ (List.mem_cons_of_mem _ h)
    · exact h
  refine ⟨F.ls, F.lp, F.lg, F.ck, F.pp, F.lk, fun k m h => F.by1 k m (sub k m h), fun k => ?_, fun m p h1 h2 h3 => ?_, F.sh, F.shn⟩
  · show (if k = f then A ++ B else W.bY k).Nodup
    split
    · have := F.bn f
      rw [hf] at this
      exact this.sublist (List.Sublist.append_left (List.sublist_cons_self _ _) _)
    · exact F.bn k
  · obtain ⟨q1, q2⟩ := F.ent m p h1 h2 h3
    refine ⟨fun z k hk => ?_, q2⟩
    show m ∈ (if k = f then A ++ B else W.bY k)
    have q := q1 z k hk
    split
    · rename_i e
      rw [e, hf] at q
      have hne : m ≠ n := fun e => hg (e ▸ h2)
      rcases List.mem_append.mp q with q | q
      · exact List.mem_append_left _ q
      · rcases List.mem_cons.mp q with q | q
        · exact (hne q).elim
        · exact List.mem_append_right _ q
    · exact q
theorem WOk.vmove (F : WOk known W) {A B : List Nat} (hf : W.bY f = A ++ n :: B) (hp : W.prs[n]? = some [x, y]) (ho : othOf x y f = o) (hc : W.cls[n]? = some c) (hz : z ∈ c) (hzo : z ≠ o) (hzf : z ≠ f) : WOk known (W.vmove n o z f (A ++ B)) := by
  have hn : n ∈ W.bY f := by rw [hf]; exact List.mem_append_right _ List.mem_cons_self
  obtain ⟨f1, p', f2, f3, f4⟩ := F.by1 f n hn
  rw [hp] at f2
  cases f2
  obtain ⟨g1, g2, g3⟩ := F.pp n c _ hc hp
  have hxy : x ≠ y := fun e => by
    rw [e] at g1
    simp at g1
  have hfo : f = x ∨ f = y := by simpa using f3
  obtain ⟨o1, o2⟩ := oth_or hfo hxy
  rw [ho] at o1 o2
  have two : ∀ k, k ∈ [x, y] → k = f ∨ k = o := fun k hk => by
    have : k = x ∨ k = y := by simpa using hk
    rcases o2 with ⟨a, b⟩ | ⟨a, b⟩
    · rcases this with h | h
      · exact .inr (h.trans a)
      · exact .inl (h.trans b)
    · rcases this with h | h
      · exact .inl (h.trans a)
      · exact .inr (h.trans b)
  have om : o ∈ [x, y] := by
    rcases o2 with ⟨a, _⟩ | ⟨_, b⟩
    · rw [← a]; exact List.mem_cons_self
    · rw [← b]; exact List.mem_cons_of_mem _ List.mem_cons_self
  have nin : ∀ k, n ∈ W.bY k → k = f ∨ k = o := fun k h => by
    obtain ⟨_, p', e1, e2, _⟩ := F.by1 k n h
    rw [hp] at e1
    cases e1
    exact two k e2
  have ndf : ¬ n ∈ A ++ B := by
    have := F.bn f
    rw [hf] at this
    have h2 := (List.perm_middle.nodup_iff.mp this)
    exact (List.nodup_cons.mp h2).1
  have ndAB : (A ++ B).Nodup := by
    have := F.bn f
    rw [hf] at this
    exact this.sublist (List.Sublist.append_left (List.sublist_cons_self _ _) _)
  have hnl : n < W.prs.length := (List.getElem?_eq_some_iff.mp hp).1
  have gn : (W.prs.set n [o, z])[n]? = some [o, z] := List.getElem?_set_self hnl
  have go : ∀ {m : Nat}, m ≠ n → (W.prs.set n [o, z])[m]? = W.prs[m]? := fun {m} h => List.getElem?_set_ne (fun e => h e.symm)
  have oz : o ≠ z := fun e => hzo e.symm
  refine ⟨F.ls, ?_, F.lg, F.ck, fun m c' p' h h2 => ?_, F.lk, fun k m h => ?_, fun k => ?_, fun m p' h1 h2 h3 => ?_, fun m h => ?_, F.shn⟩
  · show (W.prs.set n [o, z]).length = _
    rw [List.length_set]
    exact F.lp
  · have h' : W.cls[m]? = some c' := h
    have h2' : (W.prs.set n [o, z])[m]? = some p' := h2
    by_cases q : m = n
    · subst q
      rw [gn] at h2'
      cases h2'
      rw [hc] at h'
      cases h'
      refine ⟨by simp [oz], g2, fun k hk => ?_⟩
      have : k = o ∨ k = z := by simpa using hk
      rcases this with rfl | rfl
      · exact g3 _ om
      · exact hz
    · rw [go q] at h2'
      exact F.pp m c' p' h' h2'
  · have hh : m ∈ (if k = z then W.bY z ++ [n] else if k = f then A ++ B else W.bY k) := h
    clear h
    have keep : ∀ {k : Int}, m ∈ W.bY k → m ≠ n → m < W.looked ∧ ∃ p, (W.prs.set n [o, z])[m]? = some p ∧ k ∈ p ∧ p.length = 2 := fun {k} h hne => by
      obtain ⟨a1, p', a2, a3⟩ := F.by1 k m h
      exact ⟨a1, p', (go hne).trans a2, a3⟩
    by_cases e : k = z
    · rw [if_pos e] at hh
      subst e
      by_cases q : m = n
      · subst q
        exact ⟨f1, _, gn, by simp, rfl⟩
      · rcases List.mem_append.mp hh with h | h
        · exact keep h q
        · exact (q (List.mem_singleton.mp h)).elim
    · rw [if_neg e] at hh
      by_cases e2 : k = f
      · rw [if_pos e2] at hh
        subst e2
        refine keep ?_ fun e => ndf (e ▸ hh)
        rw [hf]
        rcases List.mem_append.mp hh with h | h
        · exact List.mem_append_left _ h
        · exact List.mem_append_right _ (List.mem_cons_of_mem _ h)
      · rw [if_neg e2] at hh
        by_cases q : m = n
        · subst q
          rcases nin k hh with e | e
          · exact (e2 e).elim
          · exact ⟨f1, _, gn, by rw [e]; exact List.mem_cons_self, rfl⟩
        · exact keep hh q
  · show (if k = z then W.bY z ++ [n] else if k = f then A ++ B else W.bY k).Nodup
    split
    · refine List.nodup_append.mpr ⟨F.bn z, by simp, fun a ha b hb e => ?_⟩
      rw [List.mem_singleton.mp hb] at e
      subst e
      rcases nin z ha with e | e
      · exact hzf e
      · exact hzo e
    · split
      · exact ndAB
      · exact F.bn k
  · by_cases q : m = n
    · subst q
      have h3' : (W.prs.set m [o, z])[m]? = some p' := h3
      rw [gn] at h3'
      cases h3'
      refine ⟨fun _ k hk => ?_, fun z => absurd z (by simp)⟩
      show m ∈ (if k = z then W.bY z ++ [m] else if k = f then A ++ B else W.bY k)
      have : k = o ∨ k = z := by simpa using hk
      rcases this with rfl | rfl
      · rw [if_neg oz, if_neg o1]
        exact (F.ent m _ f1 h2 hp).1 rfl k om
      · rw [if_pos rfl]
        exact List.mem_append_right _ (List.mem_singleton.mpr rfl)
    · have h3' : (W.prs.set n [o, z])[m]? = some p' := h3
      rw [go q] at h3'
      obtain ⟨q1, q2⟩ := F.ent m p' h1 h2 h3'
      refine ⟨fun l k hk => ?_, q2⟩
      have hm := q1 l k hk
      show m ∈ (if k = z then W.bY z ++ [n] else if k = f then A ++ B else W.bY k)
      split
      · rename_i e
        rw [e] at hm
        exact List.mem_append_left _ hm
      · split
        · rename_i e
          rw [e, hf] at hm
          rcases List.mem_append.mp hm with h | h
          · exact List.mem_append_left _ h
          · rcases List.mem_cons.mp h with h | h
            · exact (q h).elim
            · exact List.mem_append_right _ h
        · exact hm
  · obtain ⟨h1, p', h2, h3⟩ := F.sh m h
    refine ⟨h1, p', ?_, h3⟩
    refine (go fun e => ?_).trans h2
    subst e
    rw [hp] at h2
    cases h2
    simp at h3
theorem Dyn.vmove (ok : T.Ok) (D : Dyn T W d) {l : List Nat} (hp : W.prs[n]? = some [x, y]) (hf : f = x ∨ f = y) (hxy : x ≠ y) (ho : othOf x y f = o) (hnl : n < W.looked) (fne : f ≠ 0) (hF : On T.rows (-f)) (hz : ¬ On T.rows (-z)) : Dyn T (W.vmove n o z f l) d := by
  refine ⟨D.dl, fun m p h1 h2 h3 a b h4 i r h5 h6 h7 => ?_, D.lt, D.nw, D.st, D.rsn⟩
  by_cases q : m = n
  · subst q
    have h3' : (W.prs.set m [o, z])[m]? = some p := h3
    rw [List.getElem?_set_self (List.getElem?_eq_some_iff.mp hp).1] at h3'
    cases h3'
    have hr := List.mem_of_getElem? h6
    have hab : a = z ∨ a = o := by
      rcases h4 with h | h
      · exact .inr (List.cons.inj h).1.symm
      · exact .inl (List.cons.inj (List.cons.inj h).2).1.symm
    rcases hab with e | e
    · subst e
      exact (hz ⟨r, hr, h7⟩).elim
    · subst e
      obtain ⟨_, o2⟩ := oth_or hf hxy
      rw [ho] at o2
      have := D.wk m _ hnl h2 hp a f (by
        rcases o2 with ⟨e1, e2⟩ | ⟨e1, e2⟩
        · exact .inl (by rw [e1, e2])
        · exact .inr (by rw [e1, e2])) i r h5 h6 h7
      exact (on_both ok.nd fne this.on hF).elim
  · have h3' : (W.prs.set n [o, z])[m]? = some p := h3
    rw [List.getElem?_set_ne (fun e => q e.symm)] at h3'
    exact D.wk m p h1 h2 h3' a b h4 i r h5 h6 h7
theorem Dyn.step (ok : T.Ok) (D : Dyn T W d) {r : Row} (hr : T.rows[d]? = some r) (h : ∀ (n : Nat) (p : List Int), n < W.looked → W.live n → W.prs[n]? = some p → ∀ o, (p = [-r.lit, o] ∨ p = [o, -r.lit]) → On T.rows o) : Dyn T W (d + 1) := by
  refine ⟨(List.getElem?_eq_some_iff.mp hr).1, fun n p h1 h2 h3 a b h4 i s h5 h6 h7 => ?_, fun i s h1 h2 => D.lt i s (by omega) h2, D.nw, D.st, D.rsn⟩
  rcases Nat.lt_or_eq_of_le (Nat.le_of_lt_succ h5) with q | q
  · exact D.wk n p h1 h2 h3 a b h4 i s q h6 h7
  · subst q
    rw [hr] at h6
    cases h6
    have e : a = -r.lit := by omega
    rw [e] at h4
    obtain ⟨w, hw, hwe⟩ := h n p h1 h2 h3 b h4
    refine ⟨w, hw, hwe, ?_⟩
    rw [D.lt i r (Nat.le_refl _) hr]
    exact ok.le w hw
end
end TW

set_option Elab.async false
set_option linter.all false
set_option maxRecDepth 100000
set_option maxHeartbeats 1000000
namespace TW
open PySem PySem.Spec PyProof.Rows L2 Evl
section
variable {K : PySem.W.Frag} {mg : Str → Option Value} {vs : List V} {H : Hp} {Q : VK} {E : XK}
theorem q_appX {σ : L2.St} {ta te : TE} {D : Ends} {tz : TS} {l : Addr} {xs : List V} (hl : H l = some (.lst xs)) (ha : Ev ta σ H (.ref l)) (h : ∀ H1, Ex H H1 → te σ H1 fun v H2 => rAppend (.ref l) [v] H2 fun _ H3 => tz D σ H3) :
    tSeq (tDrop (tBM K "list" rAppend ta (tCons te tNil))) tz D σ H := ha H (Ex.refl H) _ fun H1 e1 =>
  ⟨Or.inl ⟨rfl, xs, sq_of (e1 l _ hl)⟩, h H1 e1⟩
theorem spv_knows {L : TL} {T : Tr} {x : Int} (A : TAt (CT K) L T H) : SpV (sp_Trail_knows K) [.ref L.t, .int x] H (.bl (decide ((x.natAbs : Int) ∈ T.known))) := fun H1 e1 Q q E => ⟨L, T, x, rfl, A.ex e1, q⟩
def sp_Watching_put (K : PySem.W.Frag) : Sp := fun vs H Q _ => ∃ (L : TL) (T : Tr) (M : WL) (W : Wt) (a : Addr) (c : List Int) (s : Int), vs = [.ref M.w, .ref a, .int s] ∧ Two K L T M W H ∧ H a = some (.tup (c.map V.int)) ∧ c.length < 64 ∧ (∀ x ∈ c, (x.natAbs : Int) ∈ T.known) ∧
  (W.cls.length ≤ 10000 ∧ W.src.length ≤ 10000 ∧ W.prs.length ≤ 10000 ∧ W.gone.length ≤ 10000) ∧
  ∀ pr H', PairFor T.rows c pr → Two K L T M (W.putC c s pr) H' → Stp (In2 L M) (In2 L M) H H' → Q (.int (W.cls.length : Int)) H'
abbrev N_Watching_put : List Str := ["self", "clause", "source", "literal"]
theorem sc_Watching_put : FnScope N_Watching_put ["self", "clause", "source"] (defScope s_Watching_put) := ⟨rfl, rfl, rfl, by decide +kernel, rfl, by decide +kernel, by decide +kernel⟩
def t_Watching_put (K : PySem.W.Frag) : TS := (tSeq (tFor (iTup K (tVar 1)) (gName 3) (tIfS (tNot (tB (tMeth (He.ga K "Trail") "knows" (sp_Trail_knows K) [] E0 (tFld K (tVar 0) "_trail") (tCons (tVar 3) tNil)))) tNever tNext))
    (tSeq (tDrop (tBM K "list" rAppend (tFld K (tVar 0) "_clauses") (tCons (tVar 1) tNil)))
    (tSeq (tDrop (tBM K "list" rAppend (tFld K (tVar 0) "_sources") (tCons (tVar 2) tNil)))
    (tSeq (tDrop (tBM K "list" rAppend (tFld K (tVar 0) "_pairs") (tCons (tMeth (He.ga K "Watching") "_pair_for" (sp_Watchingpair_for K) [] E0 (tVar 0) (tCons (tVar 1) tNil)) tNil)))
    (tSeq (tDrop (tBM K "list" rAppend (tFld K (tVar 0) "_gone") (tCons (tC (.bl false)) tNil)))
    (tRet (tOp rSubR (tCB (rLenS K) (tCons (tFld K (tVar 0) "_clauses") tNil)) (tC (.int 1)))))))))
set_option maxHeartbeats 4000000 in
theorem der_Watching_put {P : Program} {w : World} {K : PySem.W.Frag} {mg : Str → Option Value} {base : Heap} {f : Addr} {cdv : Value} {A : Around} {outer : List Env} {s : Shared} {H : Hp} {E : XK} (T : Tx K mg) {fd_Trail_knows : FuncData} (F_Trail_knows : FnOk P w K mg base CX0 1 (He.fAd K ("Trail", some "knows")) fd_Trail_knows ps_Trail_knows (sp_Trail_knows K)) (B_Trail_knows : Binds K fd_Trail_knows ps_Trail_knows []) {fd_Watchingpair_for : FuncData} (F_Watchingpair_for : FnOk P w K mg base CX0 5 (He.fAd K ("Watching", some "_pair_for")) fd_Watchingpair_for ps_Watchingpair_for (sp_Watchingpair_for K)) (B_Watchingpair_for : Binds K fd_Watchingpair_for ps_Watchingpair_for []) (hr : Room 5 (A.deeper (envOfC "Watching.put" (defScope s_Watching_put) s.heap.objs.size f cdv))) (hu : (A.deeper (envOfC "Watching.put" (defScope s_Watching_put) s.heap.objs.size f cdv)).units + 1 < cLine) :
    PSs (cxOf CX0 P w K mg base N_Watching_put "Watching.put" (defScope s_Watching_put) f cdv A outer s H E).nox (defBody s_Watching_put) (t_Watching_put K) := by
  exact (pss_cons (ps_for PassesOwn.never rfl (pi_tup (pv 1)) (pg_name (i := 3) sc_Watching_put.nd rfl (Or.inl rfl)) (pss_one (ps_if (pt_not (pt_val (pe_meth (pe_fld (pv 0) rfl) T.cl_Trail T.m_Trail_knows F_Trail_knows (hr.mono (by decide)) B_Trail_knows .nil pass0 (pa_cons (pv 3) pa_nil)))) (pss_one ps_never) pss_nil)))
    (pss_cons (ps_expr (pe_bm PySem.F.plainAttrs_list PySem.F.slot_list_append PySem.F.type_list_append mt_append (pe_fld (pv 0) rfl) (pa_cons (pv 1) pa_nil)))
    (pss_cons (ps_expr (pe_bm PySem.F.plainAttrs_list PySem.F.slot_list_append PySem.F.type_list_append mt_append (pe_fld (pv 0) rfl) (pa_cons (pv 2) pa_nil)))
    (pss_cons (ps_expr (pe_bm PySem.F.plainAttrs_list PySem.F.slot_list_append PySem.F.type_list_append mt_append (pe_fld (pv 0) rfl) (pa_cons (pe_meth (pv 0) T.cl_Watching T.m_Watchingpair_for F_Watchingpair_for (hr.mono (by decide)) B_Watchingpair_for .nil pass0 (pa_cons (pv 1) pa_nil)) pa_nil)))
    (pss_cons (ps_expr (pe_bm PySem.F.plainAttrs_list PySem.F.slot_list_append PySem.F.type_list_append mt_append (pe_fld (pv 0) rfl) (pa_cons pe_bl pa_nil)))
    (pss_one (ps_ret (pe_op op_sub (pe_callB call_len_seq rfl T.f_len bt_len (pa_cons (pe_fld (pv 0) rfl) pa_nil)) pe_int))))))))
theorem len_Watching_put (h : sp_Watching_put K vs H Q E) : vs.length = 3 := by
  obtain ⟨_, _, _, _, _, _, _, rfl, _⟩ := h
  rfl
theorem pure_Watching_put (T : Tx K mg) (h : sp_Watching_put K vs H Q E) : t_Watching_put K { nx := fun _ H' => Q .non H', rt := Q } (start N_Watching_put vs) H := by
  obtain ⟨L, Tr, M, W, a, c, s, rfl, A, hh, hl, hk, ⟨b1, b2, b3, b4⟩, k⟩ := h
  obtain ⟨cv, pv, R, q1, q2, q3⟩ := A.w
  refine q_forT (ev_var rfl) (st_of hh) (fun i σ' H' => (∃ u, σ' = [some (.ref M.w), some (.ref a), some (.int s), u]) ∧ Ex H H') (fun H1 e1 => ⟨⟨none, rfl⟩, e1⟩) (fun i σ' H' _ w => st_of (w.2 _ _ hh)) (fun i v σ' H' hi w => ?_) (fun σ' H' w => ?_)
  · obtain ⟨⟨u, rfl⟩, e⟩ := w
    rw [List.getElem?_map] at hi
    obtain ⟨z, hzi, rfl⟩ := Option.map_eq_some_iff.mp hi
    refine s_when (b := false) (et_is (et_not (et_B (ev_meth (ev_fld (ev_var rfl) (e _ _ R.ob) T.cl_Watching T.no_Watching_trail rfl) (e _ _ A.t.ob) rfl (ea_cons (ev_var rfl) ea_nil) (spv_knows (A.ex e).t)))) ?_) (fun z => nomatch z) (fun _ H3 e3 => ⟨⟨_, rfl⟩, e.trans e3⟩)
    rw [decide_eq_true (hk z (List.mem_of_getElem? hzi))]
    rfl
  · obtain ⟨⟨u, rfl⟩, e⟩ := w
    have lc : cv.length = W.cls.length := q1.1
    have lp : pv.length = W.prs.length := q2.1
    have R0 := R.ex e
    refine q_app R0.cl (ev_fld (ev_var rfl) R0.ob T.cl_Watching T.no_Watching_clauses rfl) (ev_var rfl) (by omega) fun H1 e1 => ?_
    have R1 := (R0.ex e1).setCl (cv ++ [.ref a])
    have s1 : Stp M.In M.In H _ := Stp.pre (e.trans e1) (Stp.upd (o := .lst (cv ++ [.ref a])) (.inr (.inr (.inl (by simp)))) (nt_lst (R0.ex e1).cl))
    generalize upd H1 M.cl (.lst (cv ++ [.ref a])) = G1 at R1 s1
    refine q_app R1.so (ev_fld (ev_var rfl) R1.ob T.cl_Watching T.no_Watching_sources rfl) (ev_var rfl) (by rw [List.length_map]; omega) fun H2 e2 => ?_
    have R2 := (R1.ex e2).setSo (W.src.map V.int ++ [.int s])
    have s2 : Stp M.In M.In H _ := (s1.post e2).trans (Stp.upd (o := .lst (W.src.map V.int ++ [.int s])) (.inr (.inr (.inl (by simp)))) (nt_lst (R1.ex e2).so))
    generalize upd H2 M.so (.lst (W.src.map V.int ++ [.int s])) = G2 at R2 s2
    have c1 : W.src.map V.int ++ [.int s] = (W.src ++ [s]).map V.int := by rw [List.map_append]; rfl
    rw [c1] at R2
    obtain ⟨A2, t2⟩ := A.wr (W' := { W with cls := W.cls ++ [c], src := W.src ++ [s] }) ⟨_, _, R2, TupsK.snoc (q1.move s2.tups) (s2.tups _ _ hh), q2.move s2.tups, q3⟩ s2
    -- self._pairs.append(self._pair_for(clause))
    refine q_appX R2.pr (ev_fld (ev_var rfl) R2.ob T.cl_Watching T.no_Watching_pairs rfl) fun H3 e3 => ?_
    refine ⟨_, rfl, _, _, _, rfl, e3 _ _ R2.ob, rfl, _, rfl, L, Tr, M, _, a, c, rfl, A2.ex e3, e3 _ _ (s2.tups _ _ hh), hl, hk, fun p pr H4 hp4 e4 h4 hpf => ?_⟩
    have R3 := (R2.ex e3).ex e4
    refine ⟨M.pr, _, _, rfl, rfl, R3.pr, sz_lt (by omega), ?_⟩
    have R4 := R3.setPr (pv ++ [.ref p])
    have s4 : Stp M.In M.In H _ := (s2.post (e3.trans e4)).trans (Stp.upd (o := .lst (pv ++ [.ref p])) (.inr (.inr (.inl (by simp)))) (nt_lst R3.pr))
    have h5 : upd H4 M.pr (.lst (pv ++ [.ref p])) p = some (.tup (pr.map V.int)) := by
      rw [upd_ne (ne_of h4 R3.pr (fun z => nomatch z))]
      exact h4
    have q2' : TupsK (upd H4 M.pr (.lst (pv ++ [.ref p]))) (W.prs ++ [pr]) (pv ++ [.ref p]) := TupsK.snoc (q2.move s4.tups) h5
    have q1' : TupsK (upd H4 M.pr (.lst (pv ++ [.ref p]))) (W.cls ++ [c]) (cv ++ [.ref a]) := TupsK.snoc (q1.move s4.tups) (s4.tups _ _ hh)
    generalize upd H4 M.pr (.lst (pv ++ [.ref p])) = G4 at R4 s4 q1' q2'
    refine q_app R4.go (ev_fld (ev_var rfl) R4.ob T.cl_Watching T.no_Watching_gone rfl) ev_c (by rw [List.length_map]; omega) fun H6 e6 => ?_
    have R6 := (R4.ex e6).setGo (W.gone.map V.bl ++ [.bl false])
    have s6 : Stp M.In M.In H _ := (s4.post e6).trans (Stp.upd (o := .lst (W.gone.map V.bl ++ [.bl false])) (.inr (.inr (.inl (by simp)))) (nt_lst (R4.ex e6).go))
    have s46 : Stp M.In M.In G4 (upd H6 M.go (.lst (W.gone.map V.bl ++ [.bl false]))) := Stp.pre e6 (Stp.upd (o := .lst (W.gone.map V.bl ++ [.bl false])) (.inr (.inr (.inl (by simp)))) (nt_lst (R4.ex e6).go))
    generalize upd H6 M.go (.lst (W.gone.map V.bl ++ [.bl false])) = G6 at R6 s6 s46
    have c2 : W.gone.map V.bl ++ [.bl false] = (W.gone ++ [false]).map V.bl := by rw [List.map_append]; rfl
    rw [c2] at R6
    obtain ⟨A6, t6⟩ := A.wr (W' := W.putC c s pr) ⟨_, _, R6, q1'.move s46.tups, q2'.move s46.tups, q3⟩ s6
    refine s_ret (ev_is (ev_sub (ev_lenL (ev_fld (ev_var rfl) R6.ob T.cl_Watching T.no_Watching_clauses rfl) R6.cl) ev_c) ?_) fun H7 e7 => k pr H7 hpf (A6.ex e7) (t6.post e7)
    rw [List.length_append, lc]
    congr 1
    simp
theorem ok_Watching_put {P : Program} {w : World} {K : PySem.W.Frag} {mg : Str → Option Value} {base : Heap} (T : Tx K mg) : FnX P w K mg base 6 (He.fAd K ("Watching", some "put")) ps_Watching_put (sp_Watching_put K) := by
  obtain ⟨_, F_Trail_knows, B_Trail_knows⟩ := ok_Trail_knows (P := P) (w := w) (base := base) T
  obtain ⟨_, F_Watchingpair_for, B_Watchingpair_for⟩ := ok_Watchingpair_for (P := P) (w := w) (base := base) T
  obtain ⟨fd, F⟩ := T.fun_Watching_put
  refine ⟨fd, F.ok sc_Watching_put (fun vs H Q E h => len_Watching_put h) (fun cdv A outer s H vs Q E hr h => ⟨t_Watching_put K, PSs.nox (der_Watching_put T F_Trail_knows B_Trail_knows F_Watchingpair_for B_Watchingpair_for hr (hu_of hr)), pure_Watching_put T h⟩), F.bindsN fun _ _ _ _ _ _ us hl => match us, hl with | [_, _, _], _ => rfl⟩
/-! ### __init__ -/
structure Laid (C t dx : Addr) (H0 : Hp) (fs : List (Str × V)) (ps : List (Addr × HO)) (H : Hp) : Prop where
  ob : H t = some (.ins C dx fs)
  st : Stp (fun b => b = t) (fun b => b = t) H0 H
  at' : ∀ p ∈ ps, H p.1 = some p.2 ∧ p.1 ≠ t ∧ H0 p.1 = none
  nd : (ps.map (·.1)).Nodup
theorem Laid.val {C t dx : Addr} {H0 H1 : Hp} {fs : List (Str × V)} {ps : List (Addr × HO)} {H : Hp} (l : Laid C t dx H0 fs ps H) (e : Ex H H1) (f : Str) (v : V) : Laid C t dx H0 (putF f v fs) ps (upd H1 t (.ins C dx (putF f v fs))) := by
  refine ⟨upd_same, (l.st.post e).trans (Stp.upd rfl (nt_ins (e _ _ l.ob))), fun p hp => ?_, l.nd⟩
  obtain ⟨h1, h2, h3⟩ := l.at' p hp
  exact ⟨by rw [upd_ne h2]; exact e _ _ h1, h2, h3⟩
theorem Laid.new {C t dx : Addr} {H0 H1 : Hp} {fs : List (Str × V)} {ps : List (Addr × HO)} {H : Hp} {p : Addr} {o : HO} (l : Laid C t dx H0 fs ps H) (hp : H p = none) (e : Ex H H1) (h : H1 p = some o) (f : Str) : Laid C t dx H0 (putF f (.ref p) fs) (ps ++ [(p, o)]) (upd H1 t (.ins C dx (putF f (.ref p) fs))) := by
  have l1 := l.val e f (.ref p)
  have nt : p ≠ t := (ne_of_none l.ob hp).symm
  refine ⟨l1.ob, l1.st, fun q hq => ?_, ?_⟩
  · rcases List.mem_append.mp hq with hq | hq
    · exact l1.at' q hq
    · obtain rfl := List.mem_singleton.mp hq
      refine ⟨by rw [upd_ne nt]; exact h, nt, ?_⟩
      cases q : H0 p with
      | none => rfl
      | some u => rw [l.st.keep p u q nt] at hp; cases hp
  · rw [List.map_append]
    refine List.nodup_append.mpr ⟨l.nd, by simp, fun a ha b hb e => ?_⟩
    obtain ⟨q, hq, rfl⟩ := List.mem_map.mp ha
    have : b = p := by simpa using hb
    rw [this] at e
    have := (l.at' q hq).1
    rw [e, hp] at this
    cases this
def Wt.fresh : Wt := ⟨[], [], [], [], fun _ => [], [], 0, 0, 0⟩
def sp_Watching_init (K : PySem.W.Frag) : Sp := fun vs H Q _ => ∃ (t dx a : Addr), vs = [.ref t, .ref a] ∧ H t = some (.ins (CW K) dx []) ∧
  ∀ (M : WL) H', M.w = t → (∀ known, WAt (CW K) M a known Wt.fresh H') → Stp (fun b => b = t) M.In H H' → Q .non H'
abbrev N_Watching_init : List Str := ["self", "trail"]
theorem sc_Watching_init : FnScope N_Watching_init ["self", "trail"] (defScope s_Watching_init) := ⟨rfl, rfl, rfl, by decide +kernel, rfl, by decide +kernel, by decide +kernel⟩
def t_Watching_init (K : PySem.W.Frag) : TS := (tSeq (sFld K (tVar 0) (tVar 1) "_trail")
    (tSeq (sFld K (tVar 0) (tLst tNil) "_clauses")
    (tSeq (sFld K (tVar 0) (tLst tNil) "_sources")
    (tSeq (sFld K (tVar 0) (tLst tNil) "_pairs")
    (tSeq (sFld K (tVar 0) (tLst tNil) "_gone")
    (tSeq (sFld K (tVar 0) tDNewK "_by")
    (tSeq (sFld K (tVar 0) (tLst tNil) "_short")
    (tSeq (sFld K (tVar 0) (tC (.int 0)) "_looked")
    (tSeq (sFld K (tVar 0) (tC (.int 0)) "_done")
    (sFld K (tVar 0) (tC (.int 0)) "_mark"))))))))))
set_option maxHeartbeats 4000000 in
theorem der_Watching_init {P : Program} {w : World} {K : PySem.W.Frag} {mg : Str → Option Value} {base : Heap} {f : Addr} {cdv : Value} {A : Around} {outer : List Env} {s : Shared} {H : Hp} {E : XK} (T : Tx K mg) (hr : Room 0 (A.deeper (envOfC "Watching.__init__" (defScope s_Watching_init) s.heap.objs.size f cdv))) (hu : (A.deeper (envOfC "Watching.__init__" (defScope s_Watching_init) s.heap.objs.size f cdv)).units + 1 < cLine) :
    PSs (cxOf CX0 P w K mg base N_Watching_init "Watching.__init__" (defScope s_Watching_init) f cdv A outer s H E).nox (defBody s_Watching_init) (t_Watching_init K) := by
  exact (pss_cons (ps_fld (pv 0) (pv 1) rfl)
    (pss_cons (ps_fld (pv 0) (pe_lst pa_nil) rfl)
    (pss_cons (ps_fld (pv 0) (pe_lst pa_nil) rfl)
    (pss_cons (ps_fld (pv 0) (pe_lst pa_nil) rfl)
    (pss_cons (ps_fld (pv 0) (pe_lst pa_nil) rfl)
    (pss_cons (ps_fld (pv 0) pe_dnewK rfl)
    (pss_cons (ps_fld (pv 0) (pe_lst pa_nil) rfl)
    (pss_cons (ps_fld (pv 0) pe_int rfl)
    (pss_cons (ps_fld (pv 0) pe_int rfl)
    (pss_one (ps_fld (pv 0) pe_int rfl)))))))))))
theorem len_Watching_init (h : sp_Watching_init K vs H Q E) : vs.length = 2 := by
  obtain ⟨_, _, _, rfl, _⟩ := h
  rfl
theorem pure_Watching_init (T : Tx K mg) (h : sp_Watching_init K vs H Q E) : t_Watching_init K { nx := fun _ H' => Q .non H', rt := Q } (start N_Watching_init vs) H := by
  obtain ⟨t, dx, a, rfl, ht, k⟩ := h
  have l0 : Laid (CW K) t dx H [] [] H := ⟨ht, Stp.refl, fun p hp => (nomatch hp), List.nodup_nil⟩
  refine q_fld (ev_var rfl) (ev_var rfl) ht T.cl_Watching T.no_Watching_trail (by show 0 < 1000; decide) fun H1 e1 => ?_
  have l1 := l0.val e1 "_trail" (.ref a)
  refine q_fldL (xs := []) (el_lst ea_nil (by simp)) (ev_var rfl) l1.ob T.cl_Watching T.no_Watching_clauses (by show 1 < 1000; decide) fun p1 H2 hp2 e2 h2 => ?_
  have l2 := l1.new hp2 e2 h2 "_clauses"
  refine q_fldL (xs := []) (el_lst ea_nil (by simp)) (ev_var rfl) l2.ob T.cl_Watching T.no_Watching_sources (by show 2 < 1000; decide) fun p2 H3 hp3 e3 h3 => ?_
  have l3 := l2.new hp3 e3 h3 "_sources"
  refine q_fldL (xs := []) (el_lst ea_nil (by simp)) (ev_var rfl) l3.ob T.cl_Watching T.no_Watching_pairs (by show 3 < 1000; decide) fun p3 H4 hp4 e4 h4 => ?_
  have l4 := l3.new hp4 e4 h4 "_pairs"
  refine q_fldL (xs := []) (el_lst ea_nil (by simp)) (ev_var rfl) l4.ob T.cl_Watching T.no_Watching_gone (by show 4 < 1000; decide) fun p4 H5 hp5 e5 h5 => ?_
  have l5 := l4.new hp5 e5 h5 "_gone"
  refine q_fldD ed_new (ev_var rfl) l5.ob T.cl_Watching T.no_Watching_by (by show 5 < 1000; decide) fun p5 H6 hp6 e6 h6 => ?_
  have l6 := l5.new hp6 e6 h6 "_by"
  refine q_fldL (xs := []) (el_lst ea_nil (by simp)) (ev_var rfl) l6.ob T.cl_Watching T.no_Watching_short (by show 6 < 1000; decide) fun p6 H7 hp7 e7 h7 => ?_
  have l7 := l6.new hp7 e7 h7 "_short"
  refine q_fld ev_c (ev_var rfl) l7.ob T.cl_Watching T.no_Watching_looked (by show 7 < 1000; decide) fun H8 e8 => ?_
  have l8 := l7.val e8 "_looked" (.int 0)
  refine q_fld ev_c (ev_var rfl) l8.ob T.cl_Watching T.no_Watching_done (by show 8 < 1000; decide) fun H9 e9 => ?_
  have l9 := l8.val e9 "_done" (.int 0)
  refine s_fld ev_c (ev_var rfl) l9.ob T.cl_Watching T.no_Watching_mark (by show 9 < 1000; decide) fun H10 e10 => ?_
  have l10 := l9.val e10 "_mark" (.int 0)
  have nd := l10.nd
  have nd' : [p1, p2, p3, p4, p5, p6].Nodup := nd
  have g := l10.at'
  have g1 := g (p1, .lst []) (by simp)
  have g2 := g (p2, .lst []) (by simp)
  have g3 := g (p3, .lst []) (by simp)
  have g4 := g (p4, .lst []) (by simp)
  have g5 := g (p5, .dK []) (by simp)
  have g6 := g (p6, .lst []) (by simp)
  refine k ⟨t, dx, p1, p2, p3, p4, p5, p6, []⟩ _ rfl (fun known => ⟨[], [], ⟨l10.ob, g1.1, g2.1, g3.1, g4.1, g6.1, g5.1, fun p hp => (nomatch hp), List.nodup_nil, List.nodup_nil, fun _ _ => rfl, ?_, fun p hp => (nomatch hp)⟩, ⟨rfl, fun i xs h => by simp [Wt.fresh] at h⟩, ⟨rfl, fun i xs h => by simp [Wt.fresh] at h⟩, fun p hp => (nomatch hp)⟩) ⟨l10.st.keep, l10.st.tups, fun b f => ?_⟩
  · show [p1, p2, p3, p4, p6].Nodup
    simp only [List.nodup_cons, List.mem_cons, List.not_mem_nil, or_false, not_or] at nd' ⊢
    obtain ⟨⟨a1, a2, a3, _, a5⟩, ⟨b2, b3, _, b5⟩, ⟨c3, _, c5⟩, ⟨_, d5⟩, _, _⟩ := nd'
    exact ⟨⟨a1, a2, a3, a5⟩, ⟨b2, b3, b5⟩, ⟨c3, c5⟩, d5, fun z => (nomatch z), List.nodup_nil⟩
  · rcases f with f | f | f | f
    · exact .inl f
    · exact .inr (f ▸ g5.2.2)
    · simp only [List.mem_cons, List.not_mem_nil, or_false] at f
      rcases f with f | f | f | f | f
      · exact .inr (f ▸ g1.2.2)
      · exact .inr (f ▸ g2.2.2)
      · exact .inr (f ▸ g3.2.2)
      · exact .inr (f ▸ g4.2.2)
      · exact .inr (f ▸ g6.2.2)
    · exact (nomatch f)
theorem ok_Watching_init {P : Program} {w : World} {K : PySem.W.Frag} {mg : Str → Option Value} {base : Heap} (T : Tx K mg) : FnX P w K mg base 1 (He.fAd K ("Watching", some "__init__")) ps_Watching_init (sp_Watching_init K) := by
  obtain ⟨fd, F⟩ := T.fun_Watching_init
  refine ⟨fd, F.ok sc_Watching_init (fun vs H Q E h => len_Watching_init h) (fun cdv A outer s H vs Q E hr h => ⟨t_Watching_init K, PSs.nox (der_Watching_init T hr (hu_of hr)), pure_Watching_init T h⟩), F.bindsN fun _ _ _ _ _ _ us hl => match us, hl with | [_, _], _ => rfl⟩
end
end TW

set_option Elab.async false
set_option linter.all false
set_option maxRecDepth 100000
set_option maxHeartbeats 1000000
namespace TW
open PySem PySem.Spec PyProof.Rows L2 Evl
/-! ### what a walk leaves as it was -/
structure Grow (T T' : Tr) : Prop where
  kn : T'.known = T.known
  dp : T'.depth = T.depth
  rw' : ∃ more, T'.rows = T.rows ++ more ∧ ∀ r ∈ more, r.lev = T.depth ∧ ∃ n, r.rs = some n
structure SameC (W W' : Wt) : Prop where
  cl : W'.cls = W.cls
  so : W'.src = W.src
  go : W'.gone = W.gone
  dn : W'.done = W.done
  mk' : W'.mark = W.mark
structure J0 (T : Tr) (W : Wt) : Prop where
  ok : T.Ok
  wo : WOk T.known W
  dy : Dyn T W W.done
  mm : W.mark ≤ T.made
def SO (T : Tr) (W : Wt) : Prop := ∀ (n : Nat) (c : List Int), W.live n → n < W.looked → W.cls[n]? = some c → c.length < 2 → ∃ x, c = [x] ∧ On T.rows x
def Clash (T : Tr) (W : Wt) (n : Nat) : Prop := W.live n ∧ ∃ c, W.cls[n]? = some c ∧ ∀ x ∈ c, On T.rows (-x)
section
variable {T T' T'' : Tr} {W W' W'' : Wt} {x : Int} {n : Nat} {c : List Int}
theorem Grow.refl : Grow T T := ⟨rfl, rfl, [], by simp, fun r h => (nomatch h)⟩
theorem Grow.trans (a : Grow T T') (b : Grow T' T'') : Grow T T'' := by
  obtain ⟨m1, h1, h2⟩ := a.rw'
  obtain ⟨m2, h3, h4⟩ := b.rw'
  refine ⟨b.kn.trans a.kn, b.dp.trans a.dp, m1 ++ m2, by rw [h3, h1, List.append_assoc], fun r hr => ?_⟩
  rcases List.mem_append.mp hr with hr | hr
  · exact h2 r hr
  · rw [← a.dp]
    exact h4 r hr
theorem Grow.put : Grow T (T.put x (some n)) := ⟨rfl, rfl, [⟨x, T.depth, some n⟩], rfl, fun r hr => by
  obtain rfl := List.mem_singleton.mp hr
  exact ⟨rfl, n, rfl⟩⟩
theorem Grow.on (a : Grow T T') (h : On T.rows x) : On T'.rows x := by
  obtain ⟨m, h1, _⟩ := a.rw'
  rw [h1]
  exact h.app
theorem SameC.refl : SameC W W := ⟨rfl, rfl, rfl, rfl, rfl⟩
theorem SameC.trans (a : SameC W W') (b : SameC W' W'') : SameC W W'' := ⟨b.cl.trans a.cl, b.so.trans a.so, b.go.trans a.go, b.dn.trans a.dn, b.mk'.trans a.mk'⟩
theorem SameC.live (a : SameC W W') : W'.live n ↔ W.live n := by unfold Wt.live; rw [a.go]
theorem J0.put (j : J0 T W) (hx : (x.natAbs : Int) ∈ T.known) (hn : valOf T.rows x = .non) (hl : W.live n) (hc : W.cls[n]? = some c) (hm : x ∈ c) (ho : ∀ y ∈ c, y ≠ x → On T.rows (-y)) : J0 (T.put x (some n)) W :=
  ⟨j.ok.weak.put hx (valOf_none.mp hn), j.wo, j.dy.put hl hc hm ho, Nat.le_succ_of_le j.mm⟩
theorem nodup_lenG {α : Type} [BEq α] [LawfulBEq α] {l m : List α} (h : l.Nodup) (hs : ∀ x ∈ l, x ∈ m) : l.length ≤ m.length := by
  induction l generalizing m with
  | nil => exact Nat.zero_le _
  | cons a r ih =>
    obtain ⟨h1, h2⟩ := List.nodup_cons.mp h
    have ha := hs a List.mem_cons_self
    have := ih (m := m.erase a) h2 fun x hx => by
      refine (List.mem_erase_of_ne ?_).mpr (hs x (List.mem_cons_of_mem _ hx))
      exact fun z => h1 (z ▸ hx)
    rw [List.length_erase_of_mem ha] at this
    have hp := List.length_pos_of_mem ha
    simp only [List.length_cons]
    omega
theorem nodup_lt {l : List Nat} {k : Nat} (h : l.Nodup) (hs : ∀ x ∈ l, x < k) : l.length ≤ k := by
  have := nodup_lenG (m := List.range k) h fun x hx => List.mem_range.mpr (hs x hx)
  rw [List.length_range] at this
  exact this
theorem live_get (h : W.live n) : W.gone[n]? = some false := h
theorem gone_of {known : List Int} (F : WOk known W) (h : n < W.cls.length) : ∃ g, W.gone[n]? = some g ∧ (g = false ↔ W.live n) := by
  have hl : n < W.gone.length := by rw [F.lg]; exact h
  refine ⟨W.gone[n], List.getElem?_eq_getElem hl, ?_⟩
  unfold Wt.live
  rw [List.getElem?_eq_getElem hl]
  exact ⟨fun e => by rw [e], fun e => by injection e⟩
end
section
variable {K : PySem.W.Frag} {mg : Str → Option Value} {vs : List V} {H : Hp} {Q : VK} {E : XK}
theorem s_ifAnd {σ : L2.St} {D : Ends} {t u : TT} {A B : TS} {b : Bool} (h : EvT t σ H b) (h1 : b = true → ∀ H1, Ex H H1 → u σ H1 (fun c H2 => if c = true then A D σ H2 else B D σ H2)) (h2 : b = false → ∀ H1, Ex H H1 → B D σ H1) : tIfS (tAnd t u) A B D σ H := h H (Ex.refl H) _ fun H1 e => by
  cases b with
  | true => exact iteT (h1 rfl H1 e)
  | false => exact iteF (iteF (h2 rfl H1 e))
theorem s_seen {L : TL} {T : Tr} {M : WL} {W : Wt} {σ : L2.St} {D : Ends} (hC : Cls K (CW K)) (hn : NoAttr K (CW K) "_looked") (A : Two K L T M W H) (h0 : σ[0]? = some (some (V.ref M.w))) (q : ∀ H', Two K L T M W.seen H' → Stp (In2 L M) (In2 L M) H H' → D.nx σ H') : sFldAug K (tVar 0) (tC (.int 1)) rAdd "_looked" D σ H := by
  obtain ⟨cv, pv, R, k1, k2, k3⟩ := A.w
  refine s_augI (i := (W.looked : Int)) (j := 1) (ev_var h0) R.ob hC hn rfl ev_c (by show 10 < 1000; decide) fun H1 e1 => ?_
  have R1 := (R.ex e1).setOb ((W.looked : Int) + 1) W.done W.mark
  have s1 : Stp M.In M.In H _ := Stp.pre e1 (Stp.upd (o := .ins (CW K) M.dx (wFs M L.t ((W.looked : Int) + 1) W.done W.mark)) (.inl rfl) (nt_ins (R.ex e1).ob))
  obtain ⟨A2, t2⟩ := A.wr (W' := W.seen) ⟨cv, pv, R1, k1.move s1.tups, k2.move s1.tups, k3⟩ s1
  exact q _ A2 t2
theorem ev_gone {L : TL} {T : Tr} {M : WL} {W : Wt} {σ : L2.St} {i n : Nat} {g : Bool} (hC : Cls K (CW K)) (hn : NoAttr K (CW K) "_gone") (A : Two K L T M W H) (h0 : σ[0]? = some (some (V.ref M.w))) (hi : σ[i]? = some (some (V.int (n : Int)))) (hg : W.gone[n]? = some g) : Ev (tOp (rIxL K) (tFld K (tVar 0) "_gone") (tVar i)) σ H (.bl g) := by
  obtain ⟨cv, pv, R, _⟩ := A.w
  exact ev_ixL (j := n) (ev_fld (ev_var h0) R.ob hC hn rfl) (ev_var hi) R.go (by rw [List.getElem?_map, hg]; rfl)
/-! ### _look_at_new -/
def sp_Watchinglook_at_new (K : PySem.W.Frag) : Sp := fun vs H Q _ => ∃ (L : TL) (T : Tr) (M : WL) (W : Wt), vs = [.ref M.w] ∧ Two K L T M W H ∧ J0 T W ∧ W.cls.length ≤ 1000 ∧
  ∀ T' M' W' H', M'.w = M.w → Two K L T' M' W' H' → Stp (In2 L M) (In2 L M') H H' → Grow T T' → SameC W W' → J0 T' W' →
    (W'.looked = W'.cls.length → SO T' W' → Q .non H') ∧ (∀ n : Nat, Clash T' W' n → Q (.int (n : Int)) H')
abbrev N_Watchinglook_at_new : List Str := ["self", "number"]
theorem sc_Watchinglook_at_new : FnScope N_Watchinglook_at_new ["self"] (defScope s_Watchinglook_at_new) := ⟨rfl, rfl, rfl, by decide +kernel, rfl, by decide +kernel, by decide +kernel⟩
def t_Watchinglook_at_new (K : PySem.W.Frag) : TS := (tSeq (tFor (iList K (tFld K (tVar 0) "_short")) (gName 1) (tIfS (tAnd (tNot (tB (tOp (rIxL K) (tFld K (tVar 0) "_gone") (tVar 1)))) (tNot (tB (tMeth (He.ga K "Watching") "_stands" (sp_Watchingstands K) [] E0 (tVar 0) (tCons (tVar 1) tNil))))) (tRet (tVar 1)) tNext))
    (tSeq (tWhile (tB (tLt (tFld K (tVar 0) "_looked") (tCB (rLenS K) (tCons (tFld K (tVar 0) "_clauses") tNil)))) (tSeq (tAsg (tFld K (tVar 0) "_looked") (gName 1))
    (tSeq (tIfS (tNot (tB (tOp (rIxL K) (tFld K (tVar 0) "_gone") (tVar 1)))) (tSeq (tIfS (tNot (tB (tMeth (He.ga K "Watching") "_stands" (sp_Watchingstands K) [] E0 (tVar 0) (tCons (tVar 1) tNil)))) (tRet (tVar 1)) tNext)
    (tDrop (tMeth (He.ga K "Watching") "_enter" (sp_Watchingenter K) [] E0 (tVar 0) (tCons (tVar 1) tNil)))) tNext)
    (sFldAug K (tVar 0) (tC (.int 1)) rAdd "_looked"))))
    (tRet (tC .non))))
set_option maxHeartbeats 4000000 in
theorem der_Watchinglook_at_new {P : Program} {w : World} {K : PySem.W.Frag} {mg : Str → Option Value} {base : Heap} {f : Addr} {cdv : Value} {A : Around} {outer : List Env} {s : Shared} {H : Hp} {E : XK} (T : Tx K mg) {fd_Watchingstands : FuncData} (F_Watchingstands : FnOk P w K mg base CX0 6 (He.fAd K ("Watching", some "_stands")) fd_Watchingstands ps_Watchingstands (sp_Watchingstands K)) (B_Watchingstands : Binds K fd_Watchingstands ps_Watchingstands []) {fd_Watchingenter : FuncData} (F_Watchingenter : FnOk P w K mg base CX0 1 (He.fAd K ("Watching", some "_enter")) fd_Watchingenter ps_Watchingenter (sp_Watchingenter K)) (B_Watchingenter : Binds K fd_Watchingenter ps_Watchingenter []) (hr : Room 6 (A.deeper (envOfC "Watching._look_at_new" (defScope s_Watchinglook_at_new) s.heap.objs.size f cdv))) (hu : (A.deeper (envOfC "Watching._look_at_new" (defScope s_Watchinglook_at_new) s.heap.objs.size f cdv)).units + 1 < cLine) :
    PSs (cxOf CX0 P w K mg base N_Watchinglook_at_new "Watching._look_at_new" (defScope s_Watchinglook_at_new) f cdv A outer s H E).nox (defBody s_Watchinglook_at_new) (t_Watchinglook_at_new K) := by
  exact (pss_cons (ps_for PassesOwn.never rfl (pi_list (pe_fld (pv 0) rfl)) (pg_name (i := 1) sc_Watchinglook_at_new.nd rfl (Or.inl rfl)) (pss_one (ps_if (PW.pt (pw_and (pt_not (pt_val (pe_ix ix_list (pe_fld (pv 0) rfl) (pv 1) (fun _ _ => rfl)))) (pw_and1 (pt_not (pt_val (pe_meth (pv 0) T.cl_Watching T.m_Watchingstands F_Watchingstands (hr.mono (by decide)) B_Watchingstands .nil pass0 (pa_cons (pv 1) pa_nil))))))) (pss_one (ps_ret (pv 1))) pss_nil)))
    (pss_cons (ps_while PassesOwn.never (pt_cmp (pc_lt (pe_fld (pv 0) rfl) (pe_callB call_len_seq rfl T.f_len bt_len (pa_cons (pe_fld (pv 0) rfl) pa_nil)))) (pss_cons (ps_set (i := 1) sc_Watchinglook_at_new.nd rfl (Or.inl rfl) (pe_fld (pv 0) rfl))
    (pss_cons (ps_if (pt_not (pt_val (pe_ix ix_list (pe_fld (pv 0) rfl) (pv 1) (fun _ _ => rfl)))) (pss_cons (ps_if (pt_not (pt_val (pe_meth (pv 0) T.cl_Watching T.m_Watchingstands F_Watchingstands (hr.mono (by decide)) B_Watchingstands .nil pass0 (pa_cons (pv 1) pa_nil)))) (pss_one (ps_ret (pv 1))) pss_nil)
    (pss_one (ps_expr (pe_meth (pv 0) T.cl_Watching T.m_Watchingenter F_Watchingenter (hr.mono (by decide)) B_Watchingenter .nil pass0 (pa_cons (pv 1) pa_nil))))) pss_nil)
    (pss_one (ps_fldaug (pv 0) pe_int in_add)))))
    (pss_one (ps_ret pe_non))))
theorem len_Watchinglook_at_new (h : sp_Watchinglook_at_new K vs H Q E) : vs.length = 1 := by
  obtain ⟨_, _, _, _, rfl, _⟩ := h
  rfl
theorem one_pair {rows : List Row} {x : Int} {pr : List Int} (h : PairFor rows [x] pr) : pr = [x] := by
  obtain ⟨_, h2, h3⟩ := h.facts (by simp)
  match pr, h2, h3 with
  | [a], _, h3 => rw [List.mem_singleton.mp (h3 a List.mem_cons_self)]
  | [], h2, _ => simp at h2
  | a :: b :: t, h2, _ => simp at h2
theorem pure_Watchinglook_at_new (T : Tx K mg) (h : sp_Watchinglook_at_new K vs H Q E) : t_Watchinglook_at_new K { nx := fun _ H' => Q .non H', rt := Q } (start N_Watchinglook_at_new vs) H := by
  obtain ⟨L, T0, M, W, rfl, A, j, hN, k⟩ := h
  obtain ⟨cv, pv, R, q1, q2, q3⟩ := A.w
  -- for number in self._short
  refine q_forLn (ev_fld (ev_var rfl) R.ob T.cl_Watching T.no_Watching_short rfl) (sq_of R.sh) (fun i σ' H' => (∃ u, σ' = [some (.ref M.w), u]) ∧ ∃ T', Two K L T' M W H' ∧ Stp (In2 L M) (In2 L M) H H' ∧ Grow T0 T' ∧ J0 T' W ∧ ∀ (m n : Nat), m < i → W.short[m]? = some n → W.live n → ∀ c, W.cls[n]? = some c → ∃ x, c = [x] ∧ On T'.rows x)
    (fun H1 e1 => ⟨⟨none, rfl⟩, T0, A.ex e1, Stp.ex e1, Grow.refl, j, fun m n h => absurd h (Nat.not_lt_zero _)⟩) (fun i σ' H' _ w => ?_) (fun i v σ' H' hi w => ?_) (fun σ' H' w => ?_)
  · obtain ⟨_, T', A', _⟩ := w
    obtain ⟨_, _, R', _⟩ := A'.w
    exact sq_of R'.sh
  · obtain ⟨⟨u, rfl⟩, T', A', s', g', j', hs⟩ := w
    unfold natsV at hi
    rw [List.getElem?_map] at hi
    obtain ⟨n, hn, rfl⟩ := Option.map_eq_some_iff.mp hi
    obtain ⟨n1, p, n2, n3⟩ := j'.wo.sh n (List.mem_of_getElem? hn)
    have n4 := Nat.lt_of_lt_of_le n1 j'.wo.lk
    obtain ⟨gg, hg, hgl⟩ := gone_of j'.wo n4
    have next : ∀ {T2 : Tr} {H2 : Hp}, Two K L T2 M W H2 → Stp (In2 L M) (In2 L M) H H2 → Grow T0 T2 → J0 T2 W → Grow T' T2 → (W.live n → ∀ c, W.cls[n]? = some c → ∃ x, c = [x] ∧ On T2.rows x) →
        ∃ T', Two K L T' M W H2 ∧ Stp (In2 L M) (In2 L M) H H2 ∧ Grow T0 T' ∧ J0 T' W ∧ ∀ (m n : Nat), m < i + 1 → W.short[m]? = some n → W.live n → ∀ c, W.cls[n]? = some c → ∃ x, c = [x] ∧ On T'.rows x := fun {T2 H2} A2 s2 g2 j2 g3 hl => by
      refine ⟨T2, A2, s2, g2, j2, fun m n' h1 h2 h3 c h4 => ?_⟩
      rcases Nat.lt_or_eq_of_le (Nat.le_of_lt_succ h1) with q | q
      · obtain ⟨x, e1, e2⟩ := hs m n' q h2 h3 c h4
        exact ⟨x, e1, g3.on e2⟩
      · subst q
        rw [hn] at h2
        cases h2
        exact hl h3 c h4
    refine s_ifAnd (b := !gg) (et_not (et_B (ev_gone (σ := [some (.ref M.w), some (.int (n : Int))]) T.cl_Watching T.no_Watching_gone A' (i := 1) rfl rfl hg))) (fun hb H1 e1 => ?_) (fun hb H1 e1 => ?_)
    · have A1 := A'.ex e1
      have hlive : W.live n := hgl.mp (by cases gg <;> simp_all)
      obtain ⟨c, hc⟩ : ∃ c, W.cls[n]? = some c := ⟨_, List.getElem?_eq_getElem n4⟩
      obtain ⟨c1, c2, c3⟩ := j'.wo.ck n c hc
      have hcl : c.length < 2 := by
        have := (j'.wo.pp n c p hc n2).2.1
        omega
      obtain ⟨x, rfl, hx0⟩ := j'.dy.st n c n1 hlive hc hcl
      have hxk := c1 x List.mem_cons_self
      have p1 : p = [x] := by
        obtain ⟨a1, a2, a3⟩ := j'.wo.pp n _ p hc n2
        match p, a2, a3 with
        | [a], _, h3 => rw [List.mem_singleton.mp (h3 a List.mem_cons_self)]
        | [], h2, _ => simp at h2
        | a :: b :: t, h2, _ => simp at h2
      subst p1
      obtain ⟨_, _, R1, _⟩ := A1.w
      refine ⟨_, rfl, _, _, _, rfl, R1.ob, rfl, _, rfl, L, T', M, W, n, [x], rfl, A1, j'.ok, hc, (List.getElem?_eq_some_iff.mp n2).1, c3, c1, fun pr hpf => ?_⟩
      obtain rfl := one_pair hpf
      refine ⟨fun y hy => hy, fun z => (nomatch z), fun y r e => ?_⟩
      cases e
      rw [setPr_same n2]
      refine ⟨fun hd H2 A2 s2 => ⟨true, rfl, iteF ⟨⟨_, rfl⟩, ?_⟩⟩, fun hd H2 A2 s2 => ⟨_, rfl, ?_⟩⟩
      · have hv := (due_iff.mp hd).1
        refine next A2 ((s'.post e1).trans s2) (g'.trans Grow.put) (j'.put hxk hv hlive hc List.mem_cons_self fun y hy hne => (hne (List.mem_singleton.mp hy)).elim) Grow.put fun _ c h => ?_
        rw [hc] at h
        cases h
        exact ⟨x, rfl, _, List.mem_append_right _ (List.mem_singleton.mpr rfl), rfl⟩
      · cases hf : isFb T'.rows x with
        | true =>
          refine iteT ?_
          refine s_ret (ev_var rfl) fun H3 e3 => ?_
          refine (k T' M W H3 rfl (A2.ex e3) (((s'.post e1).trans s2).post e3) g' SameC.refl j').2 n ⟨hlive, [x], hc, fun y hy => ?_⟩
          rw [List.mem_singleton.mp hy]
          exact (on_fb j'.ok.nd (ok_ne j'.ok hxk)).mp hf
        | false =>
          refine iteF ⟨⟨_, rfl⟩, next A2 ((s'.post e1).trans s2) g' j' Grow.refl fun _ c h => ?_⟩
          rw [hc] at h
          cases h
          refine ⟨x, rfl, open_or j'.ok.nd (ok_ne j'.ok hxk) (by rw [hf]; decide) fun z => ?_⟩
          have := due_iff.mpr ⟨z, .inl rfl⟩
          rw [hd] at this
          cases this
    · refine ⟨⟨_, rfl⟩, next (A'.ex e1) (s'.post e1) g' j' Grow.refl fun z => ?_⟩
      have := hgl.mpr z
      rw [this] at hb
      cases hb
  · -- while self._looked < len(self._clauses)
    obtain ⟨⟨u, rfl⟩, T1, A1, s1, g1, j1, hs⟩ := w
    have so1 : SO T1 W := fun n c h1 h2 h3 h4 => by
      obtain ⟨p, hp⟩ : ∃ p, W.prs[n]? = some p := ⟨_, List.getElem?_eq_getElem (by rw [j1.wo.lp]; exact (List.getElem?_eq_some_iff.mp h3).1)⟩
      have hpl := (j1.wo.pp n c p h3 hp).2.1
      have hm := (j1.wo.ent n p h2 h1 hp).2 (by omega)
      obtain ⟨i, hi, he⟩ := List.mem_iff_getElem.mp hm
      exact hs i n (by rw [natsV_len]; exact hi) (by rw [List.getElem?_eq_getElem hi, he]) h1 c h3
    refine q_while (fun m σ' H' => (∃ u, σ' = [some (.ref M.w), u]) ∧ ∃ T' M' W', M'.w = M.w ∧ m = W'.cls.length - W'.looked ∧ Two K L T' M' W' H' ∧ Stp (In2 L M) (In2 L M') H H' ∧ Grow T0 T' ∧ SameC W W' ∧ J0 T' W' ∧ SO T' W') _ ⟨⟨_, rfl⟩, T1, M, W, rfl, rfl, A1, s1, g1, SameC.refl, j1, so1⟩ fun m σ' H' w => ?_
    obtain ⟨⟨u, rfl⟩, T2, M2, W2, hw, rfl, A2, s2, g2, c2, j2, so2⟩ := w
    obtain ⟨cv2, pv2, R2, r1, r2, r3⟩ := A2.w
    have hw' := hw
    refine ⟨decide (W2.looked < W2.cls.length), et_is (et_B (ev_cmp (ev_fld (ev_var (by show some (some (V.ref M.w)) = _; rw [← hw])) R2.ob T.cl_Watching T.no_Watching_looked rfl) (ev_lenL (ev_fld (ev_var (by show some (some (V.ref M.w)) = _; rw [← hw])) R2.ob T.cl_Watching T.no_Watching_clauses rfl) R2.cl))) ?_, fun hb H3 e3 => ?_, fun hb H3 e3 => ?_⟩
    · rw [r1.1, Bool.eq_iff_iff]
      simp
    · have hlt := of_decide_eq_true hb
      refine ⟨fun σ' H' => (∃ u, σ' = [some (.ref M.w), u]) ∧ ∃ T' M' W', M'.w = M.w ∧ W'.cls.length - W'.looked < W2.cls.length - W2.looked ∧ Two K L T' M' W' H' ∧ Stp (In2 L M) (In2 L M') H H' ∧ Grow T0 T' ∧ SameC W W' ∧ J0 T' W' ∧ SO T' W', fun σ2 H4 w => ?_, ?_⟩
      · obtain ⟨a, T', M', W', b1, b2, b3⟩ := w
        exact ⟨_, b2, a, T', M', W', b1, rfl, b3⟩
      · rw [← hw]
        have A3 := A2.ex e3
        refine q_asg (ev_fld (ev_var rfl) (e3 _ _ R2.ob) T.cl_Watching T.no_Watching_looked rfl) fun H4 e4 => ?_
        have A4 := A3.ex e4
        have s4 := s2.post (e3.trans e4)
        obtain ⟨gg, hg, hgl⟩ := gone_of j2.wo hlt
        obtain ⟨c, hc⟩ : ∃ c, W2.cls[W2.looked]? = some c := ⟨_, List.getElem?_eq_getElem hlt⟩
        obtain ⟨k1, k2, k3⟩ := j2.wo.ck _ c hc
        -- the last line
        have fin : ∀ {T5 : Tr} {M5 : WL} {W5 : Wt} {H5 : Hp} {σ5 : L2.St}, (∃ u, σ5 = [some (.ref M2.w), u]) → M5.w = M2.w → Two K L T5 M5 W5 H5 → Stp (In2 L M) (In2 L M5) H H5 → Grow T0 T5 → SameC W W5 → W5.looked = W2.looked → J0 T5 W5.seen → SO T5 W5.seen →
            sFldAug K (tVar 0) (tC (.int 1)) rAdd "_looked" { nx := fun σ' H' => (∃ u, σ' = [some (.ref M2.w), u]) ∧ ∃ T' M' W', M'.w = M2.w ∧ W'.cls.length - W'.looked < W2.cls.length - W2.looked ∧ Two K L T' M' W' H' ∧ Stp (In2 L M) (In2 L M') H H' ∧ Grow T0 T' ∧ SameC W W' ∧ J0 T' W' ∧ SO T' W', rt := Q } σ5 H5 := fun {T5 M5 W5 H5 σ5} hσ hw5 A5 s5 g5 c5 hlk j5 so5 => by
          obtain ⟨u5, rfl⟩ := hσ
          refine s_seen T.cl_Watching T.no_Watching_looked A5 (by rw [hw5]; rfl) fun H6 A6 t6 => ⟨⟨_, rfl⟩, T5, M5, W5.seen, hw5, ?_, A6, s5.trans t6, g5, ⟨c5.cl, c5.so, c5.go, c5.dn, c5.mk'⟩, j5, so5⟩
          show W5.cls.length - (W5.looked + 1) < _
          rw [c5.cl, ← c2.cl, hlk]
          omega
        refine q_when (b := !gg) (et_not (et_B (ev_gone (σ := [some (.ref M2.w), some (.int (W2.looked : Int))]) T.cl_Watching T.no_Watching_gone A4 (i := 1) rfl rfl hg))) (fun hb H5 e5 => ?_) (fun hb H5 e5 => ?_)
        · have hlive : W2.live W2.looked := hgl.mp (by cases gg <;> simp_all)
          have A5 := A4.ex e5
          have s5 := s4.post e5
          obtain ⟨_, _, R5, _⟩ := A5.w
          have hpl : W2.looked < W2.prs.length := by rw [j2.wo.lp]; exact hlt
          refine ⟨_, rfl, _, _, _, rfl, R5.ob, rfl, _, rfl, L, T2, M2, W2, W2.looked, c, rfl, A5, j2.ok, hc, hpl, k3, k1, fun pr hpf => ?_⟩
          have fc := hpf.facts k2
          have jS : J0 T2 (W2.setPr W2.looked pr) := ⟨j2.ok, j2.wo.setNew hc fc, j2.dy.setNew pr, j2.mm⟩
          have hgp : (W2.setPr W2.looked pr).prs[W2.looked]? = some pr := List.getElem?_set_self hpl
          have soS : SO T2 (W2.setPr W2.looked pr) := so2
          refine ⟨fc.2.2, fun e H6 A6 t6 => ⟨false, rfl, iteT (s_ret (ev_var rfl) fun H7 e7 => ?_)⟩, fun x r e => ?_⟩
          · refine (k T2 M2 _ H7 hw (A6.ex e7) ((s5.trans t6).post e7) g2 ⟨c2.cl, c2.so, c2.go, c2.dn, c2.mk'⟩ jS).2 W2.looked ⟨hlive, c, hc, fun y hy => ?_⟩
            have h0 := fc.2.1
            rw [e] at h0
            have : c = [] := by
              cases c with
              | nil => rfl
              | cons a t => simp at h0; omega
            rw [this] at hy
            cases hy
          · subst e
            have hxk := k1 x (fc.2.2 x List.mem_cons_self)
            have xne := ok_ne j2.ok hxk
            have ent : ∀ {T5 : Tr} {H6 : Hp}, isFb T2.rows x = false → ((dueB T2.rows x r = true ∧ T5 = T2.put x (some W2.looked)) ∨ (dueB T2.rows x r = false ∧ T5 = T2)) → Two K L T5 M2 (W2.setPr W2.looked (x :: r)) H6 → Stp (In2 L M) (In2 L M2) H H6 → Grow T2 T5 → J0 T5 (W2.setPr W2.looked (x :: r)) →
                tDrop (tMeth (He.ga K "Watching") "_enter" (sp_Watchingenter K) [] E0 (tVar 0) (tCons (tVar 1) tNil)) { nx := sFldAug K (tVar 0) (tC (.int 1)) rAdd "_looked" { nx := fun σ' H' => (∃ u, σ' = [some (.ref M2.w), u]) ∧ ∃ T' M' W', M'.w = M2.w ∧ W'.cls.length - W'.looked < W2.cls.length - W2.looked ∧ Two K L T' M' W' H' ∧ Stp (In2 L M) (In2 L M') H H' ∧ Grow T0 T' ∧ SameC W W' ∧ J0 T' W' ∧ SO T' W', rt := Q }, rt := Q } [some (.ref M2.w), some (.int (W2.looked : Int))] H6 := fun {T5 H6} hfx hT A6 s6 g6 j6 => by
              obtain ⟨f1, f2, f3⟩ := j2.dy.stood j2.ok hlive hc k1 k2 hpf hfx hT
              obtain ⟨_, _, R6, _⟩ := A6.w
              have hsl : (W2.setPr W2.looked (x :: r)).short.length ≤ 10000 := by
                have := nodup_lt j2.wo.shn fun n hn => (j2.wo.sh n hn).1
                show W2.short.length ≤ 10000
                have := j2.wo.lk
                rw [c2.cl] at this
                omega
              have hbl : ∀ y, ((W2.setPr W2.looked (x :: r)).bY y).length ≤ 9999 := fun y => by
                have := nodup_lt (j2.wo.bn y) fun n hn => (j2.wo.by1 y n hn).1
                show (W2.bY y).length ≤ 9999
                have := j2.wo.lk
                rw [c2.cl] at this
                omega
              have hkl : T5.known.length ≤ 1000 := Nat.le_trans j6.ok.kl (by decide)
              have hkn : ∀ y ∈ x :: r, (y.natAbs : Int) ∈ T5.known := fun y hy => by rw [g6.kn]; exact k1 y (fc.2.2 y hy)
              have hE : (W2.setPr W2.looked (x :: r)).live (W2.setPr W2.looked (x :: r)).looked → ∀ c' p, (W2.setPr W2.looked (x :: r)).cls[(W2.setPr W2.looked (x :: r)).looked]? = some c' → ((W2.setPr W2.looked (x :: r)).prs[(W2.setPr W2.looked (x :: r)).looked]? = some p → ∀ x y, (p = [x, y] ∨ p = [y, x]) → ∀ (i : Nat) (r : Row), i < W2.done → T5.rows[i]? = some r → r.lit = -x → OnL T5.rows y r.lev) ∧ (c'.length < 2 → ∃ x, c' = [x] ∧ (T5.depth = 0 ∨ OnL T5.rows x 0)) := fun _ c' p h1 => by
                have h1' : W2.cls[W2.looked]? = some c' := h1
                rw [hc] at h1'
                cases h1'
                refine ⟨fun h2 => ?_, fun h2 => ⟨x, (f2 h2).1, .inl (f2 h2).2⟩⟩
                rw [show (W2.setPr W2.looked (x :: r)).looked = W2.looked from rfl, hgp] at h2
                cases h2
                exact f1
              have so6 : ∀ {W6 : Wt}, W6.cls = W2.cls → W6.gone = W2.gone → W6.looked = W2.looked → SO T5 W6.seen := fun {W6} e1 e2 e3 n c' h1 h2 h3 h4 => by
                have h2' : n < W6.looked + 1 := h2
                have h3' : W6.cls[n]? = some c' := h3
                have h1' : W2.live n := by
                  have h1'' : W6.gone[n]? = some false := h1
                  rw [e2] at h1''
                  exact h1''
                rw [e1] at h3'
                rcases Nat.lt_or_eq_of_le (Nat.le_of_lt_succ h2') with q | q
                · obtain ⟨y, y1, y2⟩ := so2 n c' h1' (by rw [← e3]; exact q) h3' h4
                  exact ⟨y, y1, g6.on y2⟩
                · rw [q, e3, hc] at h3'
                  cases h3'
                  exact ⟨x, (f2 h4).1, f3 h4⟩
              refine ⟨_, rfl, _, _, _, rfl, R6.ob, rfl, _, rfl, L, T5, M2, _, W2.looked, x :: r, rfl, A6, hkl, hgp, hsl, hkn, hbl, fun hl2 H7 A7 t7 => ?_, fun a b eab M7 H7 hw7 A7 t7 => ?_, ?_⟩
              · refine fin ⟨_, rfl⟩ rfl A7 (s6.trans t7) (g2.trans g6) ⟨c2.cl, c2.so, c2.go, c2.dn, c2.mk'⟩ rfl ?_ (so6 rfl rfl rfl)
                exact ⟨j6.ok, j6.wo.enterS hlt hgp hl2, j6.dy.next hE hlt rfl rfl rfl rfl, j6.mm⟩
              · have hab : a ≠ b := fun z => by
                  have := fc.1
                  rw [eab, z] at this
                  simp at this
                refine fin ⟨_, rfl⟩ hw7 A7 (s6.trans t7) (g2.trans g6) ⟨c2.cl, c2.so, c2.go, c2.dn, c2.mk'⟩ rfl ?_ (so6 rfl rfl rfl)
                exact ⟨j6.ok, j6.wo.enterP hlt (by rw [← eab]; exact hgp) hab, j6.dy.next hE hlt rfl rfl rfl rfl, j6.mm⟩
              · have := fc.2.1
                omega
            refine ⟨fun hd H6 A6 t6 => ⟨true, rfl, iteF ?_⟩, fun hd H6 A6 t6 => ⟨_, rfl, ?_⟩⟩
            · obtain ⟨hv, hr⟩ := due_iff.mp hd
              have hfx := none_fb hv
              refine ent hfx (.inl ⟨hd, rfl⟩) A6 (s5.trans t6) Grow.put (jS.put hxk hv hlive hc (fc.2.2 x List.mem_cons_self) fun y hy hne => ?_)
              refine (on_fb j2.ok.nd (ok_ne j2.ok (k1 y hy))).mp (hpf.sole ?_ hfx y hy hne)
              rcases hr with rfl | ⟨y', t, rfl, hy'⟩
              · exact .inl rfl
              · have : t = [] := by
                  have := fc.2.1
                  cases t with
                  | nil => rfl
                  | cons => simp at this; omega
                subst this
                exact .inr ⟨y', rfl, hy'⟩
            · cases hf : isFb T2.rows x with
              | true =>
                refine iteT (s_ret (ev_var rfl) fun H7 e7 => ?_)
                refine (k T2 M2 _ H7 hw (A6.ex e7) ((s5.trans t6).post e7) g2 ⟨c2.cl, c2.so, c2.go, c2.dn, c2.mk'⟩ jS).2 W2.looked ⟨hlive, c, hc, fun y hy => ?_⟩
                exact (on_fb j2.ok.nd (ok_ne j2.ok (k1 y hy))).mp (hpf.clash hf y hy)
              | false =>
                refine iteF ?_
                exact ent hf (.inr ⟨hd, rfl⟩) A6 (s5.trans t6) Grow.refl jS
        · have hdead : ¬ W2.live W2.looked := fun z => by
            have := hgl.mpr z
            rw [this] at hb
            cases hb
          refine fin ⟨_, rfl⟩ rfl (A4.ex e5) (s4.post e5) g2 c2 rfl ?_ fun n c' h1 h2 h3 h4 => ?_
          · exact ⟨j2.ok, j2.wo.skip hlt hdead, j2.dy.next (fun z => (hdead z).elim) hlt rfl rfl rfl rfl, j2.mm⟩
          · rcases Nat.lt_or_eq_of_le (Nat.le_of_lt_succ h2) with q | q
            · exact so2 n c' h1 q h3 h4
            · have q : n = W2.looked := q
              subst q
              exact (hdead h1).elim
    · have hge := of_decide_eq_false hb
      refine s_ret ev_c fun H4 e4 => (k T2 M2 W2 H4 hw (A2.ex (e3.trans e4)) (s2.post (e3.trans e4)) g2 c2 j2).1 ?_ so2
      have := j2.wo.lk
      omega
theorem ok_Watchinglook_at_new {P : Program} {w : World} {K : PySem.W.Frag} {mg : Str → Option Value} {base : Heap} (T : Tx K mg) : FnX P w K mg base 7 (He.fAd K ("Watching", some "_look_at_new")) ps_Watchinglook_at_new (sp_Watchinglook_at_new K) := by
  obtain ⟨_, F_Watchingstands, B_Watchingstands⟩ := ok_Watchingstands (P := P) (w := w) (base := base) T
  obtain ⟨_, F_Watchingenter, B_Watchingenter⟩ := ok_Watchingenter (P := P) (w := w) (base := base) T
  obtain ⟨fd, F⟩ := T.fun_Watchinglook_at_new
  refine ⟨fd, F.ok sc_Watchinglook_at_new (fun vs H Q E h => len_Watchinglook_at_new h) (fun cdv A outer s H vs Q E hr h => ⟨t_Watchinglook_at_new K, PSs.nox (der_Watchinglook_at_new T F_Watchingstands B_Watchingstands F_Watchingenter B_Watchingenter hr (hu_of hr)), pure_Watchinglook_at_new T h⟩), F.bindsN fun _ _ _ _ _ _ us hl => match us, hl with | [_], _ => rfl⟩
end
end TW

set_option Elab.async false
set_option linter.all false
set_option maxRecDepth 100000
set_option maxHeartbeats 1000000
namespace TW
open PySem PySem.Spec PyProof.Rows L2 Evl
section
variable {K : PySem.W.Frag} {mg : Str → Option Value} {vs : List V} {H : Hp} {Q : VK} {E : XK}
theorem el_byCopy {L : TL} {T : Tr} {M : WL} {W : Wt} {σ : L2.St} {x : Int} (hC : Cls K (CW K)) (hn : NoAttr K (CW K) "_by") (A : Two K L T M W H) (h0 : σ[0]? = some (some (V.ref M.w))) (h1 : σ[1]? = some (some (V.int x))) :
    EvL (tCB (rListS K) (tCons (tDGet2 (tFld K (tVar 0) "_by") (tUn rNegR (tVar 1)) (tLst tNil)) tNil)) σ H (natsV (W.bY (-x))) := by
  obtain ⟨cv, pv, R, _⟩ := A.w
  intro H1 e Q q
  unfold tCB tCons tDGet2 tNil
  refine (ev_fld (ev_var h0) R.ob hC hn rfl) H1 e _ fun H2 e2 => ⟨M.bY, rfl, .inl ⟨_, .inl ((e.trans e2) _ _ R.bY)⟩, (ev_neg (ev_var h1)) H2 (e.trans e2) _ fun H3 e3 => ⟨Nat.zero_le _, fun p hp => ⟨valV (kvK M.kv) (Sum.inl (-x)), ?_, ?_⟩⟩⟩
  · have e4 : Ex H (upd H3 p (.lst [])) := ((e.trans e2).trans e3).trans (Ex.new hp)
    exact DGet.k (k := Sum.inl (-x)) (e4 _ _ R.bY)
  · have e4 : Ex H (upd H3 p (.lst [])) := ((e.trans e2).trans e3).trans (Ex.new hp)
    have e5 : Ex H1 (upd H3 p (.lst [])) := (e2.trans e3).trans (Ex.new hp)
    rcases kv_get M.kv (-x) with ⟨a, ha, hg⟩ | ⟨hno, hg⟩
    · rw [hg]
      exact ⟨a, _, rfl, .inl (sq_of (e4 _ _ (R.ls _ ha))), fun l hl => q l _ (fresh_back e5 hl) (e5.trans (Ex.new hl)) upd_same⟩
    · rw [hg]
      refine ⟨p, [], rfl, .inl (sq_of upd_same), fun l hl => q l _ (fresh_back e5 hl) (e5.trans (Ex.new hl)) ?_⟩
      rw [R.em _ hno]
      exact upd_same
theorem Stp.loc {F F' : Addr → Prop} {H H' : Hp} {p : Addr} {o : HO} (s : Stp F F' H H') (hp : H p = none) : Stp F F' H (L2.upd H' p o) :=
  ⟨fun a u h nf => by rw [upd_ne (ne_of_none h hp)]; exact s.keep a u h nf, fun a xs h => by rw [upd_ne (ne_of_none h hp)]; exact s.tups a xs h, s.new⟩
theorem vdrop_vdrop (W : Wt) (f : Int) (l l' : List Nat) : (W.vdrop f l).vdrop f l' = W.vdrop f l' := by
  unfold Wt.vdrop
  congr 1
  funext k
  show (if k = f then l' else if k = f then l else W.bY k) = if k = f then l' else W.bY k
  split <;> rfl
/-- where the work stands -/
structure WOff (K : PySem.W.Frag) (L : TL) (T : Tr) (M : WL) (W : Wt) (H : Hp) (p a0 : Addr) (f : Int) (ns : List Nat) (i : Nat) (stay : List Nat) (T' : Tr) (M' : WL) (W' : Wt) (H' : Hp) : Prop where
  hw : M'.w = M.w
  A : Two K L T' M' W' H'
  s : Stp (In2 L M) (In2 L M') H H'
  np : ¬ In2 L M' p
  na : ¬ In2 L M' a0
  nap : a0 ≠ p
  hp0 : H p = none
  hp : H' p = some (.lst (natsV stay))
  ha : H' a0 = some (.lst (natsV ns))
  g : Grow T T'
  sc : SameC W W'
  lk : W'.looked = W.looked
  ok : T'.Ok
  mm : W.mark ≤ T'.made
  dy : Dyn T' W' W.done
  wo : WOk T'.known (W'.vdrop f (stay ++ ns.drop i))
  bf : W'.bY f = ns
  sl : stay.length ≤ i
def Stays (f : Int) (stay : List Nat) (T' : Tr) (W' : Wt) : Prop := ∀ n ∈ stay, ∀ q o, W'.prs[n]? = some q → (q = [f, o] ∨ q = [o, f]) → On T'.rows o
section
variable {L : TL} {T T' T2 : Tr} {M M' M2 : WL} {W W' W2 : Wt} {H' H1 H2 : Hp} {p a0 : Addr} {f : Int} {ns stay : List Nat} {i n : Nat}
theorem drop_at (h : ns[i]? = some n) : ns.drop i = n :: ns.drop (i + 1) := by
  obtain ⟨h1, h2⟩ := List.getElem?_eq_some_iff.mp h
  rw [← h2]
  exact List.drop_eq_getElem_cons h1
theorem WOff.ex (w : WOff K L T M W H p a0 f ns i stay T' M' W' H') (e : Ex H' H1) : WOff K L T M W H p a0 f ns i stay T' M' W' H1 :=
  ⟨w.hw, w.A.ex e, w.s.post e, w.np, w.na, w.nap, w.hp0, e _ _ w.hp, e _ _ w.ha, w.g, w.sc, w.lk, w.ok, w.mm, w.dy, w.wo, w.bf, w.sl⟩
theorem WOff.app (w : WOff K L T M W H p a0 f ns i stay T' M' W' H') (hn : ns[i]? = some n) : WOff K L T M W H p a0 f ns (i + 1) (stay ++ [n]) T' M' W' (upd H' p (.lst (natsV (stay ++ [n])))) := by
  have s1 : Stp (fun a => a = p) (fun a => a = p) H' (upd H' p (.lst (natsV (stay ++ [n])))) := Stp.upd rfl (nt_lst w.hp)
  refine ⟨w.hw, w.A.stp s1 fun a h z => w.np (z ▸ h), w.s.loc w.hp0, w.np, w.na, w.nap, w.hp0, upd_same, by rw [upd_ne w.nap]; exact w.ha, w.g, w.sc, w.lk, w.ok, w.mm, w.dy, ?_, w.bf, by rw [List.length_append]; have := w.sl; simp; omega⟩
  have e : stay ++ [n] ++ ns.drop (i + 1) = stay ++ ns.drop i := by rw [drop_at hn, List.append_assoc]; rfl
  rw [e]
  exact w.wo
theorem WOff.skip (w : WOff K L T M W H p a0 f ns i stay T' M' W' H') (hn : ns[i]? = some n) (hd : ¬ W'.live n) : WOff K L T M W H p a0 f ns (i + 1) stay T' M' W' H' := by
  refine ⟨w.hw, w.A, w.s, w.np, w.na, w.nap, w.hp0, w.hp, w.ha, w.g, w.sc, w.lk, w.ok, w.mm, w.dy, ?_, w.bf, by have := w.sl; omega⟩
  have F := w.wo
  rw [drop_at hn] at F
  have := F.vdrop (n := n) (A := stay) (B := ns.drop (i + 1)) (f := f) (by show (if f = f then _ else _) = _; rw [if_pos rfl]) hd
  rw [vdrop_vdrop] at this
  exact this
/-- the world moves, the two lists of ours stay -/
theorem WOff.keep (w : WOff K L T M W H p a0 f ns i stay T' M' W' H') (s : Stp (In2 L M') (In2 L M2) H' H2) : ¬ In2 L M2 p ∧ ¬ In2 L M2 a0 ∧ H2 p = some (.lst (natsV stay)) ∧ H2 a0 = some (.lst (natsV ns)) := by
  have new : ∀ {b : Addr} {o : HO}, ¬ In2 L M' b → H' b = some o → ¬ In2 L M2 b := fun {b o} h1 h2 z => by
    rcases s.new b z with q | q
    · exact h1 q
    · rw [h2] at q; cases q
  exact ⟨new w.np w.hp, new w.na w.ha, s.keep _ _ w.hp w.np, s.keep _ _ w.ha w.na⟩
theorem WOff.put (w : WOff K L T M W H p a0 f ns i stay T' M' W' H') {o : Int} {c : List Int} (A : Two K L (T'.put o (some n)) M' W' H2) (s : Stp (In2 L M') (In2 L M') H' H2) (hx : (o.natAbs : Int) ∈ T'.known) (hv : valOf T'.rows o = .non) (hl : W'.live n) (hc : W'.cls[n]? = some c) (hm : o ∈ c) (ho : ∀ y ∈ c, y ≠ o → On T'.rows (-y)) :
    WOff K L T M W H p a0 f ns i stay (T'.put o (some n)) M' W' H2 := by
  obtain ⟨k1, k2, k3, k4⟩ := w.keep s
  exact ⟨w.hw, A, w.s.trans s, k1, k2, w.nap, w.hp0, k3, k4, w.g.trans Grow.put, w.sc, w.lk, w.ok.weak.put hx (valOf_none.mp hv), Nat.le_succ_of_le w.mm, w.dy.put hl hc hm ho, w.wo, w.bf, w.sl⟩
theorem WOff.move (w : WOff K L T M W H p a0 f ns i stay T' M' W' H') {x y o z : Int} {c : List Int} (hn : ns[i]? = some n) (hw2 : M2.w = M'.w) (A : Two K L T' M2 (W'.move n o z) H2) (s : Stp (In2 L M') (In2 L M2) H' H2)
    (hp : W'.prs[n]? = some [x, y]) (ho : othOf x y f = o) (hc : W'.cls[n]? = some c) (hz : z ∈ c) (hzo : z ≠ o) (hzf : z ≠ f) (fne : f ≠ 0) (hF : On T'.rows (-f)) (hnz : ¬ On T'.rows (-z)) :
    WOff K L T M W H p a0 f ns (i + 1) stay T' M2 (W'.move n o z) H2 := by
  obtain ⟨k1, k2, k3, k4⟩ := w.keep s
  have F := w.wo
  rw [drop_at hn] at F
  have hbf : (W'.vdrop f (stay ++ n :: ns.drop (i + 1))).bY f = stay ++ n :: ns.drop (i + 1) := by show (if f = f then _ else _) = _; rw [if_pos rfl]
  have hin : n ∈ (W'.vdrop f (stay ++ n :: ns.drop (i + 1))).bY f := by rw [hbf]; exact List.mem_append_right _ List.mem_cons_self
  obtain ⟨b1, q, b2, b3, b4⟩ := F.by1 f n hin
  have b2' : W'.prs[n]? = some q := b2
  rw [hp] at b2'
  cases b2'
  have hxy : x ≠ y := fun e => by
    have := (F.pp n c _ hc hp).1
    rw [e] at this
    simp at this
  have hf : f = x ∨ f = y := by simpa using b3
  have F2 := F.vmove hbf hp ho hc hz hzo hzf
  have D2 := w.dy.vmove (f := f) (z := z) (l := stay ++ ns.drop (i + 1)) w.ok hp hf hxy ho b1 fne hF hnz
  have e : (W'.vdrop f (stay ++ n :: ns.drop (i + 1))).vmove n o z f (stay ++ ns.drop (i + 1)) = (W'.move n o z).vdrop f (stay ++ ns.drop (i + 1)) := by
    unfold Wt.vmove Wt.vdrop Wt.move Wt.setPr Wt.addBy
    congr 1
    funext k
    show (if k = z then (if z = f then _ else W'.bY z) ++ [n] else if k = f then _ else if k = f then _ else W'.bY k) = if k = f then _ else if k = z then W'.bY z ++ [n] else W'.bY k
    rw [if_neg hzf]
    by_cases h1 : k = f
    · rw [if_pos h1, if_pos h1, if_neg (fun z1 => hzf (z1.symm.trans h1))]
    · rw [if_neg h1, if_neg h1, if_neg h1]
  rw [e] at F2
  refine ⟨hw2.trans w.hw, A, w.s.trans s, k1, k2, w.nap, w.hp0, k3, k4, w.g, ⟨w.sc.cl, w.sc.so, w.sc.go, w.sc.dn, w.sc.mk'⟩, w.lk, w.ok, w.mm, D2.same rfl rfl rfl rfl, F2, ?_, by have := w.sl; omega⟩
  show (if f = z then W'.bY z ++ [n] else W'.bY f) = ns
  rw [if_neg (fun e => hzf e.symm)]
  exact w.bf
end
/-- a literal's list is the one laid anew -/
theorem WAt.putStay {C t p : Addr} {M : WL} {known : List Int} {W : Wt} {f : Int} {l : List Nat} {H : Hp} (A : WAt C M t known W H) (hp : H p = some (.lst (natsV l))) (np : ¬ M.In p) (hf : (f.natAbs : Int) ∈ known) :
    ∃ M', M'.w = M.w ∧ WAt C M' t known (W.vdrop f l) (upd H M.bY (.dK (putK (kvK M.kv) (Sum.inl f) (.ref p)))) ∧ ∀ b, M'.In b → M.In b ∨ b = p := by
  obtain ⟨cv, pv, R, k1, k2, k3⟩ := A
  have s : Stp M.In M.In H (upd H M.bY (.dK (putK (kvK M.kv) (Sum.inl f) (.ref p)))) := Stp.upd (.inr (.inl rfl)) (nt_dK R.bY)
  have n1 : ∀ b, M.In b → b ≠ p := fun b hb e => np (e ▸ hb)
  rcases kv_get M.kv f with ⟨a, ha, hg⟩ | ⟨hno, hg⟩
  · refine ⟨{ M with kv := M.kv.map fun q => if q.1 = f then (f, p) else q }, rfl, ⟨cv, pv, R.putLs ha hp n1, k1.move s.tups, k2.move s.tups, fun q hq => ?_⟩, fun b hb => ?_⟩
    · obtain ⟨q0, hq0, rfl⟩ := List.mem_map.mp hq
      split
      · exact hf
      · exact k3 q0 hq0
    · rcases hb with h | h | h | h
      · exact .inl (.inl h)
      · exact .inl (.inr (.inl h))
      · exact .inl (.inr (.inr (.inl h)))
      · obtain ⟨q, hq, rfl⟩ := List.mem_map.mp h
        obtain ⟨q0, hq0, rfl⟩ := List.mem_map.mp hq
        split
        · exact .inr rfl
        · exact .inl (WL.in_kv hq0)
  · rw [putK_new _ hg] at s ⊢
    refine ⟨{ M with kv := M.kv ++ [(f, p)] }, rfl, ⟨cv, pv, R.newLs hno hp n1, k1.move s.tups, k2.move s.tups, fun q hq => ?_⟩, fun b hb => in_new hb⟩
    rcases List.mem_append.mp hq with hq | hq
    · exact k3 q hq
    · obtain rfl := List.mem_singleton.mp hq
      exact hf
/-! ### _work_off -/
def sp_Watchingwork_off (K : PySem.W.Frag) : Sp := fun vs H Q _ => ∃ (L : TL) (T : Tr) (M : WL) (W : Wt) (r : Row), vs = [.ref M.w, .int r.lit] ∧ Two K L T M W H ∧ J0 T W ∧ W.cls.length ≤ 1000 ∧ T.rows[W.done]? = some r ∧
  ∀ T' M' W' H', M'.w = M.w → Two K L T' M' W' H' → Stp (In2 L M) (In2 L M') H H' → Grow T T' → SameC W W' → W'.looked = W.looked → J0 T' W' →
    (Dyn T' W' (W.done + 1) → Q .non H') ∧ (∀ n : Nat, Clash T' W' n → Q (.int (n : Int)) H')
abbrev N_Watchingwork_off : List Str := ["self", "literal", "stay", "clash", "number"]
theorem sc_Watchingwork_off : FnScope N_Watchingwork_off ["self", "literal"] (defScope s_Watchingwork_off) := ⟨rfl, rfl, rfl, by decide +kernel, rfl, by decide +kernel, by decide +kernel⟩
def t_Watchingwork_off (K : PySem.W.Frag) : TS := (tSeq (tAsg (tLst tNil) (gName 2))
    (tSeq (tAsg (tC .non) (gName 3))
    (tSeq (tFor (iList K (tCB (rListS K) (tCons (tDGet2 (tFld K (tVar 0) "_by") (tUn rNegR (tVar 1)) (tLst tNil)) tNil))) (gName 4) (tIfS (tTest (tOp rNotN (tVar 3) (tC .non))) (tDrop (tBM K "list" rAppend (tVar 2) (tCons (tVar 4) tNil))) (tIfS (tAnd (tNot (tB (tOp (rIxL K) (tFld K (tVar 0) "_gone") (tVar 4)))) (tNot (tB (tMeth (He.ga K "Watching") "_moves" (sp_Watchingmoves K) [] E0 (tVar 0) (tCons (tVar 4) (tCons (tUn rNegR (tVar 1)) tNil)))))) (tSeq (tDrop (tBM K "list" rAppend (tVar 2) (tCons (tVar 4) tNil)))
    (tIfS (tNot (tB (tMeth (He.ga K "Watching") "_settles" (sp_Watchingsettles K) [] E0 (tVar 0) (tCons (tVar 4) (tCons (tUn rNegR (tVar 1)) tNil))))) (tAsg (tVar 4) (gName 3)) tNext)) tNext)))
    (tSeq (sDPut (tFld K (tVar 0) "_by") (tUn rNegR (tVar 1)) (tVar 2))
    (tRet (tVar 3))))))
set_option maxHeartbeats 4000000 in
theorem der_Watchingwork_off {P : Program} {w : World} {K : PySem.W.Frag} {mg : Str → Option Value} {base : Heap} {f : Addr} {cdv : Value} {A : Around} {outer : List Env} {s : Shared} {H : Hp} {E : XK} (T : Tx K mg) {fd_Watchingmoves : FuncData} (F_Watchingmoves : FnOk P w K mg base CX0 3 (He.fAd K ("Watching", some "_moves")) fd_Watchingmoves ps_Watchingmoves (sp_Watchingmoves K)) (B_Watchingmoves : Binds K fd_Watchingmoves ps_Watchingmoves []) {fd_Watchingsettles : FuncData} (F_Watchingsettles : FnOk P w K mg base CX0 4 (He.fAd K ("Watching", some "_settles")) fd_Watchingsettles ps_Watchingsettles (sp_Watchingsettles K)) (B_Watchingsettles : Binds K fd_Watchingsettles ps_Watchingsettles []) (hr : Room 4 (A.deeper (envOfC "Watching._work_off" (defScope s_Watchingwork_off) s.heap.objs.size f cdv))) (hu : (A.deeper (envOfC "Watching._work_off" (defScope s_Watchingwork_off) s.heap.objs.size f cdv)).units + 1 < cLine) :
    PSs (cxOf CX0 P w K mg base N_Watchingwork_off "Watching._work_off" (defScope s_Watchingwork_off) f cdv A outer s H E).nox (defBody s_Watchingwork_off) (t_Watchingwork_off K) := by
  exact (pss_cons (ps_set (i := 2) sc_Watchingwork_off.nd rfl (Or.inl rfl) (pe_lst pa_nil))
    (pss_cons (ps_set (i := 3) sc_Watchingwork_off.nd rfl (Or.inl rfl) pe_non)
    (pss_cons (ps_for PassesOwn.never rfl (pi_list (pe_callTy call_list_of rfl T.f_list bt_list (pa_cons (pe_dget2 hu (pe_fld (pv 0) rfl) (pe_un un_neg (pv 1)) (pe_lst pa_nil) ⟨rfl, rfl, rfl, rfl⟩) pa_nil))) (pg_name (i := 4) sc_Watchingwork_off.nd rfl (Or.inl rfl)) (pss_one (ps_if (pt_cmpR op_notN1 (pv 3) pe_non (by rfl)) (pss_one (ps_expr (pe_bm PySem.F.plainAttrs_list PySem.F.slot_list_append PySem.F.type_list_append mt_append (pv 2) (pa_cons (pv 4) pa_nil)))) (pss_one (ps_if (PW.pt (pw_and (pt_not (pt_val (pe_ix ix_list (pe_fld (pv 0) rfl) (pv 4) (fun _ _ => rfl)))) (pw_and1 (pt_not (pt_val (pe_meth (pv 0) T.cl_Watching T.m_Watchingmoves F_Watchingmoves (hr.mono (by decide)) B_Watchingmoves .nil pass0 (pa_cons (pv 4) (pa_cons (pe_un un_neg (pv 1)) pa_nil)))))))) (pss_cons (ps_expr (pe_bm PySem.F.plainAttrs_list PySem.F.slot_list_append PySem.F.type_list_append mt_append (pv 2) (pa_cons (pv 4) pa_nil)))
    (pss_one (ps_if (pt_not (pt_val (pe_meth (pv 0) T.cl_Watching T.m_Watchingsettles F_Watchingsettles (hr.mono (by decide)) B_Watchingsettles .nil pass0 (pa_cons (pv 4) (pa_cons (pe_un un_neg (pv 1)) pa_nil))))) (pss_one (ps_set (i := 3) sc_Watchingwork_off.nd rfl (Or.inl rfl) (pv 4))) pss_nil))) pss_nil)))))
    (pss_cons (ps_dput hu (pe_fld (pv 0) rfl) (pe_un un_neg (pv 1)) (pv 2) rfl)
    (pss_one (ps_ret (pv 3)))))))
theorem len_Watchingwork_off (h : sp_Watchingwork_off K vs H Q E) : vs.length = 2 := by
  obtain ⟨_, _, _, _, _, rfl, _⟩ := h
  rfl
theorem pure_Watchingwork_off (T : Tx K mg) (h : sp_Watchingwork_off K vs H Q E) : t_Watchingwork_off K { nx := fun _ H' => Q .non H', rt := Q } (start N_Watchingwork_off vs) H := by
  obtain ⟨L, T0, M, W, r, rfl, A, j, hN, hr, k⟩ := h
  have hrm := List.mem_of_getElem? hr
  have hfk : ((-r.lit).natAbs : Int) ∈ T0.known := by rw [Int.natAbs_neg]; exact j.ok.mem r hrm
  have fne := ok_ne j.ok hfk
  have hfF : On T0.rows (-(-r.lit)) := ⟨r, hrm, by omega⟩
  have hnsl : (W.bY (-r.lit)).length ≤ 1000 := by
    have := nodup_lt (j.wo.bn (-r.lit)) fun n hn => (j.wo.by1 _ n hn).1
    have := j.wo.lk
    omega
  refine q_asgL (xs := []) (el_lst ea_nil (by simp)) fun p H1 hp1 e1 h1 => ?_
  refine q_asg ev_c fun H2 e2 => ?_
  have e12 := e1.trans e2
  refine q_forNLn (el_byCopy (x := r.lit) T.cl_Watching T.no_Watching_by (A.ex e12) rfl rfl) (fun a0 i σ' H' => ∃ stay cl u T' M' W', σ' = [some (.ref M.w), some (.int r.lit), some (.ref p), some cl, u] ∧ WOff K L T0 M W H p a0 (-r.lit) (W.bY (-r.lit)) i stay T' M' W' H' ∧ ((cl = .non ∧ Stays (-r.lit) stay T' W') ∨ ∃ n : Nat, cl = .int (n : Int) ∧ Clash T' W' n)) (fun a0 H3 ha3 e3 h3 => ?_) (fun a0 i σ' H' _ w => ?_) (fun a0 i v σ' H' hi w => ?_) (fun a0 σ' H' w => ?_)
  · refine ⟨[], .non, none, T0, M, W, rfl, ⟨rfl, A.ex (e12.trans e3), Stp.ex (e12.trans e3), fun z => A.tracked p z hp1, fun z => (A.ex e12).tracked a0 z ha3, (ne_of_none (e2 _ _ h1) ha3).symm, hp1, e3 _ _ (e2 _ _ h1), h3, Grow.refl, SameC.refl, rfl, j.ok, j.mm, j.dy, ?_, rfl, Nat.zero_le _⟩, .inl ⟨rfl, fun n hn => (nomatch hn)⟩⟩
    have e : W.vdrop (-r.lit) ([] ++ (W.bY (-r.lit)).drop 0) = W := by
      have : (fun k => if k = -r.lit then [] ++ (W.bY (-r.lit)).drop 0 else W.bY k) = W.bY := by
        funext k
        split
        · rename_i h
          rw [h]
          rfl
        · rfl
      unfold Wt.vdrop
      rw [this]
    rw [e]
    exact j.wo
  · obtain ⟨_, _, _, _, _, _, _, w, _⟩ := w
    exact sq_of w.ha
  · obtain ⟨stay, cl, u, T1, M1, W1, rfl, w, hcl⟩ := w
    unfold natsV at hi
    rw [List.getElem?_map] at hi
    obtain ⟨n, hn, rfl⟩ := Option.map_eq_some_iff.mp hi
    have hil : i < 1000 := Nat.lt_of_lt_of_le (List.getElem?_eq_some_iff.mp hn).1 hnsl
    have hsl : (natsV stay).length < 100000 := by rw [natsV_len]; have := w.sl; omega
    rcases hcl with ⟨rfl, hst⟩ | ⟨m, rfl, hm⟩
    · refine s_if (b := false) (et_is (et_test (ev_notN (ev_var rfl))) rfl) (fun z => nomatch z) (fun _ H3 e3 => ?_)
      have w3 := w.ex e3
      -- the clause's facts
      have hbf : (W1.vdrop (-r.lit) (stay ++ (W.bY (-r.lit)).drop i)).bY (-r.lit) = stay ++ n :: (W.bY (-r.lit)).drop (i + 1) := by
        show (if -r.lit = -r.lit then _ else _) = _
        rw [if_pos rfl, drop_at hn]
      have hin : n ∈ (W1.vdrop (-r.lit) (stay ++ (W.bY (-r.lit)).drop i)).bY (-r.lit) := by rw [hbf]; exact List.mem_append_right _ List.mem_cons_self
      have hnst : ¬ n ∈ stay := fun z => by
        have := w.wo.bn (-r.lit)
        rw [hbf] at this
        exact (List.nodup_append.mp this).2.2 _ z _ List.mem_cons_self rfl
      obtain ⟨b1, q, b2, b3, b4⟩ := w.wo.by1 _ n hin
      obtain ⟨x, y, rfl⟩ : ∃ x y, q = [x, y] := by
        match q, b4 with
        | [x, y], _ => exact ⟨x, y, rfl⟩
      have b1' : n < W1.looked := b1
      have b2' : W1.prs[n]? = some [x, y] := b2
      have hnl : n < W1.cls.length := Nat.lt_of_lt_of_le b1' w.wo.lk
      obtain ⟨c, hc⟩ : ∃ c, W1.cls[n]? = some c := ⟨_, List.getElem?_eq_getElem hnl⟩
      obtain ⟨c1, c2, c3⟩ := w.wo.ck n c hc
      obtain ⟨p1, p2, p3⟩ := w.wo.pp n c _ hc b2'
      have hxy : x ≠ y := fun e => by
        rw [e] at p1
        simp at p1
      have hf : -r.lit = x ∨ -r.lit = y := by simpa using b3
      obtain ⟨o1, o2⟩ := oth_or hf hxy
      generalize ho : othOf x y (-r.lit) = o at o1 o2
      have om : o ∈ c := by
        refine p3 o ?_
        rcases o2 with ⟨a, _⟩ | ⟨_, b⟩
        · rw [← a]; exact List.mem_cons_self
        · rw [← b]; exact List.mem_cons_of_mem _ List.mem_cons_self
      have hok := c1 o om
      obtain ⟨gg, hg, hgl⟩ := gone_of (W := W1.vdrop (-r.lit) (stay ++ (W.bY (-r.lit)).drop i)) w.wo hnl
      refine s_ifAnd (b := !gg) (et_not (et_B (ev_gone (σ := [some (.ref M.w), some (.int r.lit), some (.ref p), some .non, some (.int (n : Int))]) T.cl_Watching T.no_Watching_gone w3.A (i := 4) (by rw [w3.hw]; rfl) rfl hg))) (fun hb H4 e4 => ?_) (fun hb H4 e4 => ?_)
      · have hlive : W1.live n := hgl.mp (by cases gg <;> simp_all)
        have w4 := w3.ex e4
        obtain ⟨_, _, R4, _⟩ := w4.A.w
        have hfF1 : On T1.rows (-(-r.lit)) := w.g.on hfF
        have hbl : ∀ z ∈ c, (z.natAbs : Int) ∈ T1.known ∧ (W1.bY z).length ≤ 10000 := fun z hz => ⟨c1 z hz, by
          by_cases h : z = -r.lit
          · rw [h, w.bf]
            omega
          · have h1 : (W1.vdrop (-r.lit) (stay ++ (W.bY (-r.lit)).drop i)).bY z = W1.bY z := by
              show (if z = -r.lit then _ else W1.bY z) = _
              rw [if_neg h]
            have := nodup_lt (w.wo.bn z) fun n hn => (w.wo.by1 z n hn).1
            rw [h1] at this
            have h2 := w.wo.lk
            have h2' : W1.looked ≤ W1.cls.length := h2
            rw [w.sc.cl] at h2'
            have h3 : (W1.bY z).length ≤ W1.looked := this
            omega⟩
        refine ⟨_, rfl, _, _, _, rfl, by rw [← w4.hw]; exact R4.ob, rfl, _, rfl, _, rfl, _, rfl, L, T1, M1, W1, n, -r.lit, x, y, c, by rw [w4.hw]; rfl, w4.A, Nat.le_trans w.ok.kl (by decide), b2', hc, hbl, by rw [ho]; exact hok, fun hor H5 e5 => ⟨false, rfl, iteT ?_⟩, fun hno z hz M2 H5 hw5 A5 s5 => ⟨true, rfl, iteF ?_⟩⟩
        · rw [ho] at hor
          have w5 := w4.ex e5
          have hoth : ¬ valOf T1.rows o = .bl true → ∀ z ∈ c, z ≠ o → On T1.rows (-z) := fun hv z hz hne => by
            rcases hor with h | h
            · exact (hv h).elim
            · unfold candOf at h
              have := List.find?_eq_none.mp h z hz
              have hfz : isFb T1.rows z = true := by
                cases hfb : isFb T1.rows z with
                | true => rfl
                | false => exact (this (by rw [hfb]; simpa using hne)).elim
              exact (on_fb w.ok.nd (ok_ne w.ok (c1 z hz))).mp hfz
          -- stay.append(number)
          refine q_app w5.hp (ev_var rfl) (ev_var rfl) hsl fun H6 e6 => ?_
          have w6 := (w5.ex e6).app hn
          rw [natsV_snoc] at w6
          generalize upd H6 p (.lst (natsV stay ++ [V.int (n : Int)])) = G6 at w6
          obtain ⟨_, _, R6, _⟩ := w6.A.w
          have sts : ∀ {T2 : Tr}, Grow T1 T2 → On T2.rows o → Stays (-r.lit) (stay ++ [n]) T2 W1 := fun {T2} g h m hm q o' h1 h2 => by
            rcases List.mem_append.mp hm with hm | hm
            · exact g.on (hst m hm q o' h1 h2)
            · rw [List.mem_singleton.mp hm, b2'] at h1
              cases h1
              have : o' = o := by
                rcases o2 with ⟨a, b⟩ | ⟨a, b⟩ <;> rcases h2 with h2 | h2 <;> injection h2 with h3 h4 <;> injection h4 with h4 _
                · exact (hxy (h3.trans b.symm)).elim
                · rw [← h3, a]
                · rw [← h4, b]
                · exact (hxy (a.trans h4.symm)).elim
              rw [this]
              exact h
          refine ⟨_, rfl, _, _, _, rfl, by rw [← w6.hw]; exact R6.ob, rfl, _, rfl, _, rfl, _, rfl, L, T1, M1, W1, n, -r.lit, x, y, by rw [w6.hw]; rfl, w6.A, w.ok, b2', by rw [ho]; exact hok, fun hv H7 A7 s7 => ⟨true, rfl, iteF ?_⟩, fun hv H7 e7 => ⟨_, rfl, ?_⟩⟩
          · rw [ho] at hv A7
            refine ⟨_, .non, _, _, M1, W1, rfl, w6.put A7 s7 hok hv hlive hc om (hoth (by rw [hv]; exact fun z => nomatch z)), .inl ⟨rfl, sts Grow.put ⟨_, List.mem_append_right _ (List.mem_singleton.mpr rfl), rfl⟩⟩⟩
          · rw [ho] at hv
            have w7 := w6.ex e7
            by_cases ht : valOf T1.rows o = .bl true
            · have e : decide (valOf T1.rows (othOf x y (-r.lit)) = V.bl true) = true := decide_eq_true (by rw [ho]; exact ht)
              rw [e]
              refine iteF ⟨_, .non, _, T1, M1, W1, rfl, w7, .inl ⟨rfl, sts Grow.refl ((on_val w.ok.nd).mp ht)⟩⟩
            · have e : decide (valOf T1.rows (othOf x y (-r.lit)) = V.bl true) = false := decide_eq_false (by rw [ho]; exact ht)
              rw [e]
              refine iteT ?_
              refine s_asg (ev_var rfl) fun H8 e8 => ⟨_, .int (n : Int), _, T1, M1, W1, rfl, w7.ex e8, .inr ⟨n, rfl, hlive, c, hc, fun z hz => ?_⟩⟩
              by_cases hzo : z = o
              · rw [hzo]
                refine (on_fb w.ok.nd (ok_ne w.ok hok)).mp (decide_eq_true ?_)
                rcases valOf_two T1.rows o with q | ⟨b, q⟩
                · exact (hv q).elim
                · cases b with
                  | true => exact (ht q).elim
                  | false => exact q
              · exact hoth ht z hz hzo
        · rw [ho] at hno hz A5
          unfold candOf at hz
          have hzm := List.mem_of_find?_eq_some hz
          have hzp := List.find?_some hz
          have hzp1 : z ≠ o := of_decide_eq_true (Bool.and_eq_true_iff.mp hzp).1
          have hzp2 : isFb T1.rows z = false := by simpa using (Bool.and_eq_true_iff.mp hzp).2
          have hzne := ok_ne w.ok (c1 z hzm)
          have hzf : z ≠ -r.lit := fun e => by
            rw [← e] at hfF1
            rw [(on_fb w.ok.nd hzne).mpr hfF1] at hzp2
            cases hzp2
          have hnz : ¬ On T1.rows (-z) := fun h => by
            rw [(on_fb w.ok.nd hzne).mpr h] at hzp2
            cases hzp2
          refine ⟨stay, .non, _, T1, M2, W1.move n o z, rfl, w4.move hn hw5 A5 s5 b2' ho hc hzm hzp1 hzf fne hfF1 hnz, .inl ⟨rfl, fun m hm q o' h1 h2 => ?_⟩⟩
          have h1' : (W1.prs.set n [o, z])[m]? = some q := h1
          rw [List.getElem?_set_ne (fun e => hnst (by rw [e]; exact hm))] at h1'
          exact hst m hm q o' h1' h2
      · have hdead : ¬ W1.live n := fun z => by
          have := hgl.mpr z
          rw [this] at hb
          cases hb
        exact ⟨stay, .non, _, T1, M1, W1, rfl, (w3.ex e4).skip hn hdead, .inl ⟨rfl, hst⟩⟩
    · refine s_if (b := true) (et_is (et_test (ev_notN (ev_var rfl))) rfl) (fun _ H3 e3 => ?_) (fun z => nomatch z)
      have w3 := w.ex e3
      refine s_app w3.hp (ev_var rfl) (ev_var rfl) hsl fun H4 e4 => ?_
      have w4 := (w3.ex e4).app hn
      rw [natsV_snoc] at w4
      exact ⟨_, .int (m : Int), _, T1, M1, W1, rfl, w4, .inr ⟨m, rfl, hm⟩⟩
  · obtain ⟨stay, cl, u, T1, M1, W1, rfl, w, hcl⟩ := w
    rw [natsV_len] at w
    have F := w.wo
    rw [List.drop_length, List.append_nil] at F
    have hfk1 : ((-r.lit).natAbs : Int) ∈ T1.known := by rw [w.g.kn]; exact hfk
    obtain ⟨_, _, R, r1, r2, r3⟩ := w.A.w
    have hkl : (kvK M1.kv).length < 100000 := by
      have := lits_len R.nk r3
      have := w.ok.kl
      unfold kvK
      rw [List.length_map]
      omega
    refine s_dput (k := Sum.inl (-r.lit)) (D := { nx := tRet (tVar 3) { nx := fun _ H' => Q .non H', rt := Q }, rt := Q }) (ev_var rfl) (ev_fld (ev_var rfl) (by rw [← w.hw]; exact R.ob) T.cl_Watching T.no_Watching_by rfl) (ev_neg (ev_var rfl)) R.bY hkl fun H2 e2 => ?_
    have w2 := w.ex e2
    obtain ⟨M2, hw2, B2, in2⟩ := w2.A.w.putStay (f := -r.lit) w2.hp (fun z => w2.np (.inr z)) hfk1
    have sM : Stp M1.In M1.In H2 (upd H2 M1.bY (.dK (putK (kvK M1.kv) (Sum.inl (-r.lit)) (.ref p)))) := Stp.upd (.inr (.inl rfl)) (nt_dK (e2 _ _ R.bY))
    have s2 : Stp (In2 L M) (In2 L M1) H (upd H2 M1.bY (.dK (putK (kvK M1.kv) (Sum.inl (-r.lit)) (.ref p)))) := w2.s.trans (Stp.upd (.inr (.inr (.inl rfl))) (nt_dK (e2 _ _ R.bY)))
    have s3 : Stp (In2 L M) (In2 L M2) H (upd H2 M1.bY (.dK (putK (kvK M1.kv) (Sum.inl (-r.lit)) (.ref p)))) := ⟨s2.keep, s2.tups, fun b hb => by
      rcases hb with hb | hb
      · exact s2.new b (.inl hb)
      · rcases in2 b hb with h | h
        · exact s2.new b (.inr h)
        · exact .inr (h ▸ w.hp0)⟩
    have A2 : Two K L T1 M2 (W1.vdrop (-r.lit) stay) (upd H2 M1.bY (.dK (putK (kvK M1.kv) (Sum.inl (-r.lit)) (.ref p)))) := ⟨w2.A.t.stp sM fun a h z => w2.A.dj a z h, B2, fun a h z => by
      rcases in2 a h with h | h
      · exact w2.A.dj a h z
      · exact w2.np (.inl (h ▸ z))⟩
    generalize upd H2 M1.bY (.dK (putK (kvK M1.kv) (Sum.inl (-r.lit)) (.ref p))) = G at A2 s3
    have hdy : Dyn T1 (W1.vdrop (-r.lit) stay) W.done := w.dy.same rfl rfl rfl rfl
    have jj : J0 T1 (W1.vdrop (-r.lit) stay) := ⟨w.ok, F, by rw [show (W1.vdrop (-r.lit) stay).done = W.done from w.sc.dn]; exact hdy, by rw [show (W1.vdrop (-r.lit) stay).mark = W.mark from w.sc.mk']; exact w.mm⟩
    have kk := fun H3 (e3 : Ex G H3) => k T1 M2 _ H3 (hw2.trans w.hw) (A2.ex e3) (s3.post e3) w.g ⟨w.sc.cl, w.sc.so, w.sc.go, w.sc.dn, w.sc.mk'⟩ w.lk jj
    rcases hcl with ⟨rfl, hst⟩ | ⟨m, rfl, hm⟩
    · refine s_ret (ev_var rfl) fun H3 e3 => (kk H3 e3).1 (hdy.step w.ok (r := r) ?_ fun n q h1 h2 h3 o h4 => ?_)
      · obtain ⟨more, h5, _⟩ := w.g.rw'
        rw [h5, List.getElem?_append_left (List.getElem?_eq_some_iff.mp hr).1]
        exact hr
      · have hq2 : q.length = 2 := by rcases h4 with h4 | h4 <;> rw [h4] <;> rfl
        have hfm : -r.lit ∈ q := by rcases h4 with h4 | h4 <;> rw [h4] <;> simp
        have hb := (F.ent n q h1 h2 h3).1 hq2 (-r.lit) hfm
        have hb' : n ∈ (if -r.lit = -r.lit then stay else W1.bY (-r.lit)) := hb
        rw [if_pos rfl] at hb'
        exact hst n hb' q o h3 h4
    · refine s_ret (ev_var rfl) fun H3 e3 => (kk H3 e3).2 m hm
theorem ok_Watchingwork_off {P : Program} {w : World} {K : PySem.W.Frag} {mg : Str → Option Value} {base : Heap} (T : Tx K mg) : FnX P w K mg base 5 (He.fAd K ("Watching", some "_work_off")) ps_Watchingwork_off (sp_Watchingwork_off K) := by
  obtain ⟨_, F_Watchingmoves, B_Watchingmoves⟩ := ok_Watchingmoves (P := P) (w := w) (base := base) T
  obtain ⟨_, F_Watchingsettles, B_Watchingsettles⟩ := ok_Watchingsettles (P := P) (w := w) (base := base) T
  obtain ⟨fd, F⟩ := T.fun_Watchingwork_off
  refine ⟨fd, F.ok sc_Watchingwork_off (fun vs H Q E h => len_Watchingwork_off h) (fun cdv A outer s H vs Q E hr h => ⟨t_Watchingwork_off K, PSs.nox (der_Watchingwork_off T F_Watchingmoves B_Watchingmoves F_Watchingsettles B_Watchingsettles hr (hu_of hr)), pure_Watchingwork_off T h⟩), F.bindsN fun _ _ _ _ _ _ us hl => match us, hl with | [_, _], _ => rfl⟩
end
end TW

set_option Elab.async false
set_option linter.all false
set_option maxRecDepth 100000
set_option maxHeartbeats 1000000
namespace TW
open PySem PySem.Spec PyProof.Rows L2 Evl
theorem countP_pre : ∀ {s : List Nat} {m l : Nat}, l ≤ s.length → (∀ (i x : Nat), s[i]? = some x → (i < l ↔ x < m)) → s.countP (fun s => decide (s < m)) = l
  | [], m, l, h, _ => by simp at h; simp [h]
  | a :: r, m, 0, h, k => by
    rw [List.countP_eq_zero]
    intro x hx
    obtain ⟨i, hi, e⟩ := List.mem_iff_getElem.mp hx
    have := k i x (by rw [List.getElem?_eq_getElem hi, e])
    simp
    omega
  | a :: r, m, l + 1, h, k => by
    rw [List.countP_cons, countP_pre (s := r) (m := m) (l := l) (by simpa using h) fun i x hx => by
      have := k (i + 1) x (by simpa using hx)
      omega]
    have := (k 0 a rfl).mp (Nat.succ_pos _)
    simp [this]
section
variable {K : PySem.W.Frag} {mg : Str → Option Value} {vs : List V} {H : Hp} {Q : VK} {E : XK}
theorem ev_min2 {σ : L2.St} {ta tb : TE} {i j : Int} (ha : Ev ta σ H (.int i)) (hb : Ev tb σ H (.int j)) : Ev (tCB rMin2R (tCons ta (tCons tb tNil))) σ H (.int (if j < i then j else i)) := fun H1 e Q q =>
  ha H1 e _ fun H2 e2 => hb H2 (e.trans e2) _ fun H3 e3 => ⟨i, j, rfl, q H3 (e2.trans e3)⟩
theorem spv_before {L : TL} {T : Tr} {m : Nat} (A : TAt (CT K) L T H) (h : T.stamps.Pairwise (· < ·)) : SpV (sp_Trail_length_before K) [.ref L.t, .int (m : Int)] H (.int ((T.stamps.countP fun s => decide (s < m) : Nat) : Int)) := fun H1 e1 Q q E =>
  ⟨L, T, m, rfl, A.ex e1, h, fun H' l e hl hp => by rw [← countP_pre hl hp] at *; exact q H' e⟩
theorem spv_length {L : TL} {T : Tr} (A : TAt (CT K) L T H) : SpV (sp_Trail_length K) [.ref L.t] H (.int (T.rows.length : Int)) := fun H1 e1 Q q E => ⟨L, T, rfl, A.ex e1, q⟩
theorem spv_mark {L : TL} {T : Tr} (A : TAt (CT K) L T H) : SpV (sp_Trail_mark K) [.ref L.t] H (.int (T.made : Int)) := fun H1 e1 Q q E => ⟨L, T, rfl, A.ex e1, q⟩
theorem spv_at {L : TL} {T : Tr} {j : Nat} {r : Row} (A : TAt (CT K) L T H) (h : T.rows[j]? = some r) : SpV (sp_Trail_literal_at K) [.ref L.t, .int (j : Int)] H (.int r.lit) := fun H1 e1 Q q E => ⟨L, T, j, r, rfl, A.ex e1, h, q⟩
theorem Two.setOb {L : TL} {T : Tr} {M : WL} {W : Wt} (A : Two K L T M W H) (lk dn mk : Nat) {H1 : Hp} (e : Ex H H1) : Two K L T M { W with looked := lk, done := dn, mark := mk } (upd H1 M.w (.ins (CW K) M.dx (wFs M L.t lk dn mk))) ∧ Stp (In2 L M) (In2 L M) H (upd H1 M.w (.ins (CW K) M.dx (wFs M L.t lk dn mk))) := by
  obtain ⟨cv, pv, R, k1, k2, k3⟩ := A.w
  have R1 := (R.ex e).setOb lk dn mk
  have s1 : Stp M.In M.In H _ := Stp.pre e (Stp.upd (o := .ins (CW K) M.dx (wFs M L.t lk dn mk)) (.inl rfl) (nt_ins (R.ex e).ob))
  exact A.wr (W' := { W with looked := lk, done := dn, mark := mk }) ⟨cv, pv, R1, k1.move s1.tups, k2.move s1.tups, k3⟩ s1
structure SameD (W W' : Wt) : Prop where
  cl : W'.cls = W.cls
  so : W'.src = W.src
  go : W'.gone = W.gone
def PInv (K : PySem.W.Frag) (L : TL) (T : Tr) (M : WL) (W : Wt) (H : Hp) (m : Nat) (σ' : L2.St) (H' : Hp) : Prop := ∃ cl T' M' W', σ' = [some (.ref M.w), some cl] ∧ M'.w = M.w ∧ Two K L T' M' W' H' ∧ Stp (In2 L M) (In2 L M') H H' ∧ Grow T T' ∧ SameD W W' ∧ J0 T' W' ∧
  ((cl = .non ∧ m = 102 - W'.done ∧ W'.looked = W'.cls.length ∧ SO T' W') ∨ (m = 0 ∧ ∃ n : Nat, cl = .int (n : Int) ∧ Clash T' W' n))
def sp_Watching_propagate (K : PySem.W.Frag) : Sp := fun vs H Q _ => ∃ (L : TL) (T : Tr) (M : WL) (W : Wt), vs = [.ref M.w] ∧ Two K L T M W H ∧ J T W ∧ W.cls.length ≤ 1000 ∧
  ∀ T' M' W' H', M'.w = M.w → Two K L T' M' W' H' → Stp (In2 L M) (In2 L M') H H' → Grow T T' → SameD W W' → J T' W' →
    (Full T' W' → Q .non H') ∧ (∀ n : Nat, Clash T' W' n → Q (.int (n : Int)) H')
abbrev N_Watching_propagate : List Str := ["self", "clash"]
theorem sc_Watching_propagate : FnScope N_Watching_propagate ["self"] (defScope s_Watching_propagate) := ⟨rfl, rfl, rfl, by decide +kernel, rfl, by decide +kernel, by decide +kernel⟩
def t_Watching_propagate (K : PySem.W.Frag) : TS := (tSeq (sFld K (tVar 0) (tCB rMin2R (tCons (tFld K (tVar 0) "_done") (tCons (tMeth (He.ga K "Trail") "length_before" (sp_Trail_length_before K) [] E0 (tFld K (tVar 0) "_trail") (tCons (tFld K (tVar 0) "_mark") tNil)) tNil))) "_done")
    (tSeq (tAsg (tMeth (He.ga K "Watching") "_look_at_new" (sp_Watchinglook_at_new K) [] E0 (tVar 0) tNil) (gName 1))
    (tSeq (tWhile (tAnd (tTest (tOp rIsN (tVar 1) (tC .non))) (tB (tLt (tFld K (tVar 0) "_done") (tMeth (He.ga K "Trail") "length" (sp_Trail_length K) [] E0 (tFld K (tVar 0) "_trail") tNil)))) (tSeq (tAsg (tMeth (He.ga K "Watching") "_work_off" (sp_Watchingwork_off K) [] E0 (tVar 0) (tCons (tMeth (He.ga K "Trail") "literal_at" (sp_Trail_literal_at K) [] E0 (tFld K (tVar 0) "_trail") (tCons (tFld K (tVar 0) "_done") tNil)) tNil)) (gName 1))
    (tIfS (tTest (tOp rIsN (tVar 1) (tC .non))) (sFldAug K (tVar 0) (tC (.int 1)) rAdd "_done") tNext)))
    (tSeq (sFld K (tVar 0) (tMeth (He.ga K "Trail") "mark" (sp_Trail_mark K) [] E0 (tFld K (tVar 0) "_trail") tNil) "_mark")
    (tRet (tVar 1))))))
set_option maxHeartbeats 4000000 in
theorem der_Watching_propagate {P : Program} {w : World} {K : PySem.W.Frag} {mg : Str → Option Value} {base : Heap} {f : Addr} {cdv : Value} {A : Around} {outer : List Env} {s : Shared} {H : Hp} {E : XK} (T : Tx K mg) {fd_Trail_length_before : FuncData} (F_Trail_length_before : FnOk P w K mg base CX0 1 (He.fAd K ("Trail", some "length_before")) fd_Trail_length_before ps_Trail_length_before (sp_Trail_length_before K)) (B_Trail_length_before : Binds K fd_Trail_length_before ps_Trail_length_before []) {fd_Watchinglook_at_new : FuncData} (F_Watchinglook_at_new : FnOk P w K mg base CX0 7 (He.fAd K ("Watching", some "_look_at_new")) fd_Watchinglook_at_new ps_Watchinglook_at_new (sp_Watchinglook_at_new K)) (B_Watchinglook_at_new : Binds K fd_Watchinglook_at_new ps_Watchinglook_at_new []) {fd_Trail_length : FuncData} (F_Trail_length : FnOk P w K mg base CX0 1 (He.fAd K ("Trail", some "length")) fd_Trail_length ps_Trail_length (sp_Trail_length K)) (B_Trail_length : Binds K fd_Trail_length ps_Trail_length []) {fd_Watchingwork_off : FuncData} (F_Watchingwork_off : FnOk P w K mg base CX0 5 (He.fAd K ("Watching", some "_work_off")) fd_Watchingwork_off ps_Watchingwork_off (sp_Watchingwork_off K)) (B_Watchingwork_off : Binds K fd_Watchingwork_off ps_Watchingwork_off []) {fd_Trail_literal_at : FuncData} (F_Trail_literal_at : FnOk P w K mg base CX0 1 (He.fAd K ("Trail", some "literal_at")) fd_Trail_literal_at ps_Trail_literal_at (sp_Trail_literal_at K)) (B_Trail_literal_at : Binds K fd_Trail_literal_at ps_Trail_literal_at []) {fd_Trail_mark : FuncData} (F_Trail_mark : FnOk P w K mg base CX0 1 (He.fAd K ("Trail", some "mark")) fd_Trail_mark ps_Trail_mark (sp_Trail_mark K)) (B_Trail_mark : Binds K fd_Trail_mark ps_Trail_mark []) (hr : Room 7 (A.deeper (envOfC "Watching.propagate" (defScope s_Watching_propagate) s.heap.objs.size f cdv))) (hu : (A.deeper (envOfC "Watching.propagate" (defScope s_Watching_propagate) s.heap.objs.size f cdv)).units + 1 < cLine) :
    PSs (cxOf CX0 P w K mg base N_Watching_propagate "Watching.propagate" (defScope s_Watching_propagate) f cdv A outer s H E).nox (defBody s_Watching_propagate) (t_Watching_propagate K) := by
  exact (pss_cons (ps_fld (pv 0) (pe_callB (call_min2 rfl) rfl T.f_min bt_min (pa_cons (pe_fld (pv 0) rfl) (pa_cons (pe_meth (pe_fld (pv 0) rfl) T.cl_Trail T.m_Trail_length_before F_Trail_length_before (hr.mono (by decide)) B_Trail_length_before .nil pass0 (pa_cons (pe_fld (pv 0) rfl) pa_nil)) pa_nil))) rfl)
    (pss_cons (ps_set (i := 1) sc_Watching_propagate.nd rfl (Or.inl rfl) (pe_meth0 (pv 0) T.cl_Watching T.m_Watchinglook_at_new F_Watchinglook_at_new (hr.mono (by decide)) B_Watchinglook_at_new .nil pass0))
    (pss_cons (ps_while PassesOwn.never (PW.pt (pw_and (pt_cmpR op_isN1 (pv 1) pe_non (by rfl)) (pw_and1 (pt_cmp (pc_lt (pe_fld (pv 0) rfl) (pe_meth0 (pe_fld (pv 0) rfl) T.cl_Trail T.m_Trail_length F_Trail_length (hr.mono (by decide)) B_Trail_length .nil pass0)))))) (pss_cons (ps_set (i := 1) sc_Watching_propagate.nd rfl (Or.inl rfl) (pe_meth (pv 0) T.cl_Watching T.m_Watchingwork_off F_Watchingwork_off (hr.mono (by decide)) B_Watchingwork_off .nil pass0 (pa_cons (pe_meth (pe_fld (pv 0) rfl) T.cl_Trail T.m_Trail_literal_at F_Trail_literal_at (hr.mono (by decide)) B_Trail_literal_at .nil pass0 (pa_cons (pe_fld (pv 0) rfl) pa_nil)) pa_nil)))
    (pss_one (ps_if (pt_cmpR op_isN1 (pv 1) pe_non (by rfl)) (pss_one (ps_fldaug (pv 0) pe_int in_add)) pss_nil))))
    (pss_cons (ps_fld (pv 0) (pe_meth0 (pe_fld (pv 0) rfl) T.cl_Trail T.m_Trail_mark F_Trail_mark (hr.mono (by decide)) B_Trail_mark .nil pass0) rfl)
    (pss_one (ps_ret (pv 1)))))))
theorem len_Watching_propagate (h : sp_Watching_propagate K vs H Q E) : vs.length = 1 := by
  obtain ⟨_, _, _, _, rfl, _⟩ := h
  rfl
theorem pure_Watching_propagate (T : Tx K mg) (h : sp_Watching_propagate K vs H Q E) : t_Watching_propagate K { nx := fun _ H' => Q .non H', rt := Q } (start N_Watching_propagate vs) H := by
  obtain ⟨L, T0, M, W, rfl, A, j, hN, k⟩ := h
  obtain ⟨cv, pv, R, q1, q2, q3⟩ := A.w
  -- self._done = min(self._done, self._trail.length_before(self._mark))
  refine q_fld (v := .int (deff T0 W : Int)) (ev_is (ev_min2 (ev_fld (ev_var rfl) R.ob T.cl_Watching T.no_Watching_done rfl) (ev_meth (ev_fld (ev_var rfl) R.ob T.cl_Watching T.no_Watching_trail rfl) A.t.ob rfl (ea_cons (ev_fld (ev_var rfl) R.ob T.cl_Watching T.no_Watching_mark rfl) ea_nil) (spv_before A.t j.ok.sasc))) ?_) (ev_var rfl) R.ob T.cl_Watching T.no_Watching_done (by show 10 < 1000; decide) fun H1 e1 => ?_
  · unfold deff
    congr 1
    split <;> omega
  obtain ⟨A1, s1⟩ := A.setOb W.looked (deff T0 W) W.mark e1
  show tSeq _ _ _ _ (upd H1 M.w (.ins (CW K) M.dx (wFs M L.t W.looked (deff T0 W) W.mark)))
  generalize upd H1 M.w (.ins (CW K) M.dx (wFs M L.t W.looked (deff T0 W) W.mark)) = G1 at A1 s1
  obtain ⟨_, _, R1, _⟩ := A1.w
  have j1 : J0 T0 { W with looked := W.looked, done := deff T0 W, mark := W.mark } := ⟨j.ok, ⟨j.wo.ls, j.wo.lp, j.wo.lg, j.wo.ck, j.wo.pp, j.wo.lk, j.wo.by1, j.wo.bn, j.wo.ent, j.wo.sh, j.wo.shn⟩, j.dy.same rfl rfl rfl rfl, j.mm⟩
  -- clash = self._look_at_new()
  refine ⟨_, rfl, _, _, _, rfl, R1.ob, rfl, L, T0, M, _, rfl, A1, j1, hN, fun T2 M2 W2 H2 hw2 A2 s2 g2 c2 j2 => ?_⟩
  -- what follows it
  have main : ∀ {cl : V}, ((cl = .non ∧ W2.looked = W2.cls.length ∧ SO T2 W2) ∨ ∃ n : Nat, cl = .int (n : Int) ∧ Clash T2 W2 n) →
      tSeq (tWhile (tAnd (tTest (tOp rIsN (tVar 1) (tC .non))) (tB (tLt (tFld K (tVar 0) "_done") (tMeth (He.ga K "Trail") "length" (sp_Trail_length K) [] E0 (tFld K (tVar 0) "_trail") tNil)))) (tSeq (tAsg (tMeth (He.ga K "Watching") "_work_off" (sp_Watchingwork_off K) [] E0 (tVar 0) (tCons (tMeth (He.ga K "Trail") "literal_at" (sp_Trail_literal_at K) [] E0 (tFld K (tVar 0) "_trail") (tCons (tFld K (tVar 0) "_done") tNil)) tNil)) (gName 1))
        (tIfS (tTest (tOp rIsN (tVar 1) (tC .non))) (sFldAug K (tVar 0) (tC (.int 1)) rAdd "_done") tNext)))
        (tSeq (sFld K (tVar 0) (tMeth (He.ga K "Trail") "mark" (sp_Trail_mark K) [] E0 (tFld K (tVar 0) "_trail") tNil) "_mark") (tRet (tVar 1))) { nx := fun _ H' => Q .non H', rt := Q } [some (.ref M.w), some cl] H2 := fun {cl} hcl => by
    have sd : SameD W W2 := ⟨c2.cl, c2.so, c2.go⟩
    obtain ⟨m0, hm0⟩ : ∃ m0, PInv K L T0 M W H m0 [some (.ref M.w), some cl] H2 := by
      rcases hcl with ⟨h1, h2, h3⟩ | h
      · exact ⟨_, cl, T2, M2, W2, rfl, hw2, A2, s1.trans s2, g2, sd, j2, .inl ⟨h1, rfl, h2, h3⟩⟩
      · exact ⟨_, cl, T2, M2, W2, rfl, hw2, A2, s1.trans s2, g2, sd, j2, .inr ⟨rfl, h⟩⟩
    refine q_while (PInv K L T0 M W H) m0 hm0 fun m σ' H' w => ?_
    obtain ⟨cl, T3, M3, W3, rfl, hw3, A3, s3, g3, d3, j3, hcl3⟩ := w
    obtain ⟨cv3, pv3, R3, r1, r2, r3⟩ := A3.w
    have h0 : ∀ {x : Option V}, ([some (V.ref M.w), x] : L2.St)[0]? = some (some (V.ref M3.w)) := fun {x} => by rw [hw3]; rfl
    -- what ends it
    have ending : ∀ {H5 : Hp}, Ex H' H5 → ((cl = .non ∧ W3.done = T3.rows.length ∧ W3.looked = W3.cls.length ∧ SO T3 W3) ∨ ∃ n : Nat, cl = .int (n : Int) ∧ Clash T3 W3 n) →
        tSeq (sFld K (tVar 0) (tMeth (He.ga K "Trail") "mark" (sp_Trail_mark K) [] E0 (tFld K (tVar 0) "_trail") tNil) "_mark") (tRet (tVar 1)) { nx := fun _ H' => Q .non H', rt := Q } [some (.ref M.w), some cl] H5 := fun {H5} e5 hend => by
      have A5 := A3.ex e5
      obtain ⟨_, _, R5, _⟩ := A5.w
      refine q_fld (v := .int (T3.made : Int)) (ev_meth (ev_fld (ev_var h0) R5.ob T.cl_Watching T.no_Watching_trail rfl) A5.t.ob rfl ea_nil (spv_mark A5.t)) (ev_var h0) R5.ob T.cl_Watching T.no_Watching_mark (by show 10 < 1000; decide) fun H6 e6 => ?_
      obtain ⟨A6, s6⟩ := A5.setOb W3.looked W3.done T3.made e6
      show tRet _ _ _ (upd H6 M3.w (.ins (CW K) M3.dx (wFs M3 L.t W3.looked W3.done T3.made)))
      generalize upd H6 M3.w (.ins (CW K) M3.dx (wFs M3 L.t W3.looked W3.done T3.made)) = G6 at A6 s6
      have hd : deff T3 { W3 with looked := W3.looked, done := W3.done, mark := T3.made } = W3.done := by
        show min W3.done (T3.stamps.countP fun s => decide (s < T3.made)) = W3.done
        have e : T3.stamps.countP (fun s => decide (s < T3.made)) = T3.stamps.length := List.countP_eq_length.mpr fun s hs => decide_eq_true (j3.ok.slt s hs)
        rw [e, j3.ok.slen]
        exact Nat.min_eq_left j3.dy.dl
      have j6 : J T3 { W3 with looked := W3.looked, done := W3.done, mark := T3.made } := ⟨j3.ok, ⟨j3.wo.ls, j3.wo.lp, j3.wo.lg, j3.wo.ck, j3.wo.pp, j3.wo.lk, j3.wo.by1, j3.wo.bn, j3.wo.ent, j3.wo.sh, j3.wo.shn⟩, by rw [hd]; exact j3.dy.same rfl rfl rfl rfl, Nat.le_refl _⟩
      have kk := fun H7 (e7 : Ex G6 H7) => k T3 M3 _ H7 hw3 (A6.ex e7) (((s3.post e5).trans s6).post e7) g3 ⟨d3.cl, d3.so, d3.go⟩ j6
      rcases hend with ⟨rfl, h1, h2, h3⟩ | ⟨n, rfl, hn⟩
      · refine s_ret (ev_var rfl) fun H7 e7 => (kk H7 e7).1 ⟨j6, hd.trans h1, h2, fun n c h4 h5 h6 => ?_⟩
        have h5' : W3.cls[n]? = some c := h5
        have hlt : n < W3.looked := by rw [h2]; exact (List.getElem?_eq_some_iff.mp h5').1
        obtain ⟨x, rfl, r, hr, hre⟩ := h3 n c h4 hlt h5' h6
        obtain ⟨x', ex, hx⟩ := j3.dy.st n _ hlt h4 h5' h6
        cases ex
        refine ⟨x, rfl, ?_⟩
        rcases hx with hx | hx
        · exact ⟨r, hr, hre, by rw [← hx]; exact j3.ok.le r hr⟩
        · exact hx
      · exact s_ret (ev_var rfl) fun H7 e7 => (kk H7 e7).2 n hn
    rcases hcl3 with ⟨rfl, rfl, hlk, hso⟩ | ⟨rfl, n, rfl, hn⟩
    · refine ⟨decide (W3.done < T3.rows.length), ?_, fun hb H4 e4 => ?_, fun hb H4 e4 => ?_⟩
      · refine et_is (et_and (a := true) (b := decide (W3.done < T3.rows.length)) (et_is (et_test (ev_isN (ev_var rfl))) rfl) fun _ => et_is (et_B (ev_cmp (ev_fld (ev_var h0) R3.ob T.cl_Watching T.no_Watching_done rfl) (ev_meth (ev_fld (ev_var h0) R3.ob T.cl_Watching T.no_Watching_trail rfl) A3.t.ob rfl ea_nil (spv_length A3.t)))) ?_) (Bool.true_and _)
        rw [Bool.eq_iff_iff]
        simp
      · have hlt := of_decide_eq_true hb
        have A4 := A3.ex e4
        obtain ⟨_, _, R4, _⟩ := A4.w
        obtain ⟨r, hr⟩ : ∃ r, T3.rows[W3.done]? = some r := ⟨_, List.getElem?_eq_getElem hlt⟩
        have hrl := j3.ok.weak.rl
        refine ⟨fun σ' H' => ∃ m', m' < 102 - W3.done ∧ PInv K L T0 M W H m' σ' H', fun σ2 H5 w => w, ?_⟩
        refine ⟨_, h0, _, _, _, rfl, R4.ob, rfl, ?_⟩
        refine (ev_meth (ev_fld (ev_var h0) R4.ob T.cl_Watching T.no_Watching_trail rfl) A4.t.ob rfl (ea_cons (ev_fld (ev_var h0) R4.ob T.cl_Watching T.no_Watching_done rfl) ea_nil) (spv_at A4.t hr)) H4 (Ex.refl H4) _ fun H5 e5 => ?_
        refine ⟨L, T3, M3, W3, r, rfl, A4.ex e5, j3, by rw [d3.cl]; exact hN, hr, fun T5 M5 W5 H6 hw5 A6 s6 g6 c6 lk6 j6 => ⟨fun hd => ?_, fun n hn => ?_⟩⟩
        · have h5 : ∀ {x : Option V}, ([some (V.ref M.w), x] : L2.St)[0]? = some (some (V.ref M5.w)) := fun {x} => by rw [hw5, hw3]; rfl
          refine s_when (b := true) (et_is (et_test (ev_isN (ev_var rfl))) rfl) (fun _ H7 e7 => ?_) (fun z => nomatch z)
          have A7 := A6.ex e7
          obtain ⟨_, _, R7, _⟩ := A7.w
          refine s_augI (i := (W5.done : Int)) (j := 1) (ev_var h5) R7.ob T.cl_Watching T.no_Watching_done rfl ev_c (by show 10 < 1000; decide) fun H8 e8 => ?_
          obtain ⟨A8, s8⟩ := A7.setOb W5.looked (W5.done + 1) W5.mark e8
          refine ⟨102 - (W5.done + 1), by rw [c6.dn]; omega, .non, T5, M5, _, rfl, hw5.trans hw3, A8, (((s3.post e4).post e5).trans s6).trans (Stp.pre e7 s8), g3.trans g6, ⟨c6.cl.trans d3.cl, c6.so.trans d3.so, c6.go.trans d3.go⟩, ?_, .inl ⟨rfl, rfl, ?_, ?_⟩⟩
          · exact ⟨j6.ok, ⟨j6.wo.ls, j6.wo.lp, j6.wo.lg, j6.wo.ck, j6.wo.pp, j6.wo.lk, j6.wo.by1, j6.wo.bn, j6.wo.ent, j6.wo.sh, j6.wo.shn⟩, by rw [show ({ W5 with looked := W5.looked, done := W5.done + 1, mark := W5.mark } : Wt).done = W3.done + 1 from congrArg (· + 1) c6.dn]; exact hd.same rfl rfl rfl rfl, j6.mm⟩
          · show W5.looked = W5.cls.length
            rw [lk6, c6.cl, hlk]
          · intro n c h1 h2 h3 h4
            have h2' : n < W5.looked := h2
            have h3' : W5.cls[n]? = some c := h3
            rw [lk6] at h2'
            rw [c6.cl] at h3'
            obtain ⟨x, e1, e2⟩ := hso n c (c6.live.mp h1) h2' h3' h4
            exact ⟨x, e1, g6.on e2⟩
        · refine s_when (b := false) (et_is (et_test (ev_isN (ev_var rfl))) rfl) (fun z => nomatch z) (fun _ H7 e7 => ?_)
          exact ⟨0, by omega, .int (n : Int), T5, M5, W5, rfl, hw5.trans hw3, A6.ex e7, (((s3.post e4).post e5).trans s6).post e7, g3.trans g6, ⟨c6.cl.trans d3.cl, c6.so.trans d3.so, c6.go.trans d3.go⟩, j6, .inr ⟨rfl, n, rfl, hn⟩⟩
      · exact ending e4 (.inl ⟨rfl, by have := of_decide_eq_false hb; have := j3.dy.dl; omega, hlk, hso⟩)
    · refine ⟨false, ?_, fun z => (nomatch z), fun hb H4 e4 => ending e4 (.inr ⟨n, rfl, hn⟩)⟩
      exact et_is (et_and (a := false) (b := false) (et_is (et_test (ev_isN (ev_var rfl))) rfl) fun z => nomatch z) rfl
  exact ⟨fun h1 h2 => main (.inl ⟨rfl, h1, h2⟩), fun n hn => main (.inr ⟨n, rfl, hn⟩)⟩
theorem ok_Watching_propagate {P : Program} {w : World} {K : PySem.W.Frag} {mg : Str → Option Value} {base : Heap} (T : Tx K mg) : FnX P w K mg base 8 (He.fAd K ("Watching", some "propagate")) ps_Watching_propagate (sp_Watching_propagate K) := by
  obtain ⟨_, F_Trail_length_before, B_Trail_length_before⟩ := ok_Trail_length_before (P := P) (w := w) (base := base) T
  obtain ⟨_, F_Watchinglook_at_new, B_Watchinglook_at_new⟩ := ok_Watchinglook_at_new (P := P) (w := w) (base := base) T
  obtain ⟨_, F_Trail_length, B_Trail_length⟩ := ok_Trail_length (P := P) (w := w) (base := base) T
  obtain ⟨_, F_Watchingwork_off, B_Watchingwork_off⟩ := ok_Watchingwork_off (P := P) (w := w) (base := base) T
  obtain ⟨_, F_Trail_literal_at, B_Trail_literal_at⟩ := ok_Trail_literal_at (P := P) (w := w) (base := base) T
  obtain ⟨_, F_Trail_mark, B_Trail_mark⟩ := ok_Trail_mark (P := P) (w := w) (base := base) T
  obtain ⟨fd, F⟩ := T.fun_Watching_propagate
  refine ⟨fd, F.ok sc_Watching_propagate (fun vs H Q E h => len_Watching_propagate h) (fun cdv A outer s H vs Q E hr h => ⟨t_Watching_propagate K, PSs.nox (der_Watching_propagate T F_Trail_length_before B_Trail_length_before F_Watchinglook_at_new B_Watchinglook_at_new F_Trail_length B_Trail_length F_Watchingwork_off B_Watchingwork_off F_Trail_literal_at B_Trail_literal_at F_Trail_mark B_Trail_mark hr (hu_of hr)), pure_Watching_propagate T h⟩), F.bindsN fun _ _ _ _ _ _ us hl => match us, hl with | [_], _ => rfl⟩
end
end TW

set_option Elab.async false
set_option linter.all false
set_option maxRecDepth 100000
set_option maxHeartbeats 1000000
namespace TW
open PySem PySem.Spec PyProof.Rows L2 Evl
section
variable {K : PySem.W.Frag} {mg : Str → Option Value} {vs : List V} {H H' : Hp} {Q : VK} {E : XK} {σ : L2.St} {ta tb te : TE} {x y : V} {D : Ends}
theorem kit_ii : kitB "int" "int" = some true := by decide +kernel
theorem kit_ib : kitB "int" "bool" = some false := by decide +kernel
theorem kit_ll : kitB "list" "list" = some true := by decide +kernel
theorem kit_tt : kitB "tuple" "tuple" = some true := by decide +kernel
theorem ev_isi {a b : String} {r : Bool} (h : Ev ta σ H x) (ht : ∀ H', Ex H H' → TyX K H' x (.type a)) (hk : kitB a b = some r) : Ev (tCB (rIsi K) (tCons ta (tCons (tC (.ty b)) tNil))) σ H (.bl r) := fun H1 e Q q =>
  h H1 e _ fun H2 e2 => ⟨x, _, _, _, r, rfl, .ty b, ht H2 (e.trans e2), kit_ty hk, q H2 e2⟩
theorem ty_int {i : Int} : TyX K H (.int i) (.type "int") := .base (.int i)
theorem ty_lst {a : Addr} {xs : List V} (h : H a = some (.lst xs)) : TyX K H (.ref a) (.type "list") := .base (.lst h)
theorem ty_tup {a : Addr} {xs : List V} (h : H a = some (.tup xs)) : TyX K H (.ref a) (.type "tuple") := .base (.tup h)
theorem ev_mul {i j : Int} (ha : Ev ta σ H (.int i)) (hb : Ev tb σ H (.int j)) (hc : CMul i j) : Ev (tOp rMulR ta tb) σ H (.int (i * j)) := ev_op ha hb (rv_I hc)
theorem ev_mod {i j : Int} (ha : Ev ta σ H (.int i)) (hb : Ev tb σ H (.int j)) (hc : 0 < j) : Ev (tOp rModR ta tb) σ H (.int (i % j)) := ev_op ha hb (rv_I hc)
theorem ev_fdiv {i j : Int} (ha : Ev ta σ H (.int i)) (hb : Ev tb σ H (.int j)) (hc : CDiv i j) : Ev (tOp rFdivR ta tb) σ H (.int (i / j)) := ev_op ha hb (rv_I hc)
theorem ev_pow {i j : Int} (ha : Ev ta σ H (.int i)) (hb : Ev tb σ H (.int j)) (hc : CPow i j) : Ev (tOp rPowR ta tb) σ H (.int (i ^ j.toNat)) := ev_op ha hb (rv_I hc)
theorem ev_int1 {i : Int} (ha : Ev ta σ H (.int i)) : Ev (tCB rInt1R (tCons ta tNil)) σ H (.int i) := fun H1 e Q q => ha H1 e _ fun H2 e2 => .inl ⟨i, rfl, q H2 e2⟩
/-! ### pool and take -/
def PoolAt (p : Addr) (H : Hp) : Prop := ∃ (c k : Int) (b : Bool) (s : Int), H p = some (.lst [.int c, .int k, .bl b, .int s])
def IntsAt (a : Addr) (ns : List Int) (H : Hp) : Prop := H a = some (.lst (ns.map V.int))
def sp_law_pool (K : PySem.W.Frag) : Sp := fun vs H Q _ => ∃ (a : Addr) (ns : List Int) (k : Nat), vs = [.ref a, .int (k : Int)] ∧ SqL K H a (ns.map V.int) ∧ ∀ p H', H p = none → Ex H H' → PoolAt p H' → Q (.ref p) H'
abbrev N_law_pool : List Str := ["script", "k", "cell", "spare"]
theorem sc_law_pool : FnScope N_law_pool ["script", "k"] (defScope s_law_pool) := ⟨rfl, rfl, rfl, by decide +kernel, rfl, by decide +kernel, by decide +kernel⟩
def t_law_pool (K : PySem.W.Frag) : TS := (tSeq (tAsg (tOp rAddR (tOp rMulR (tC (.int 17)) (tVar 1)) (tC (.int 5))) (gName 2))
    (tSeq (tAsg (tOp rAddR (tOp rMulR (tC (.int 31)) (tVar 1)) (tC (.int 2))) (gName 3))
    (tSeq (tIfS (tB (tLt (tVar 1) (tCB (rLenS K) (tCons (tVar 0) tNil)))) (tAsg (tOp (rIxL K) (tVar 0) (tVar 1)) (gName 2)) tNext)
    (tSeq (tIfS (tB (tLt (tOp rAddR (tVar 1) (tC (.int 1))) (tCB (rLenS K) (tCons (tVar 0) tNil)))) (tAsg (tOp (rIxL K) (tVar 0) (tOp rAddR (tVar 1) (tC (.int 1)))) (gName 3)) tNext)
    (tRet (tLst (tCons (tVar 2) (tCons (tC (.int 0)) (tCons (tGe (tVar 2) (tOp rPowR (tC (.int 10)) (tC (.int 18)))) (tCons (tVar 3) tNil))))))))))
set_option maxHeartbeats 4000000 in
theorem der_law_pool {P : Program} {w : World} {K : PySem.W.Frag} {mg : Str → Option Value} {base : Heap} {f : Addr} {cdv : Value} {A : Around} {outer : List Env} {s : Shared} {H : Hp} {E : XK} (T : Tx K mg) (hr : Room 0 (A.deeper (envOfC "_law_pool" (defScope s_law_pool) s.heap.objs.size f cdv))) (hu : (A.deeper (envOfC "_law_pool" (defScope s_law_pool) s.heap.objs.size f cdv)).units + 1 < cLine) :
    PSs (cxOf CX0 P w K mg base N_law_pool "_law_pool" (defScope s_law_pool) f cdv A outer s H E).nox (defBody s_law_pool) (t_law_pool K) := by
  exact (pss_cons (ps_set (i := 2) sc_law_pool.nd rfl (Or.inl rfl) (pe_op op_add (pe_op op_mul pe_int (pv 1)) pe_int))
    (pss_cons (ps_set (i := 3) sc_law_pool.nd rfl (Or.inl rfl) (pe_op op_add (pe_op op_mul pe_int (pv 1)) pe_int))
    (pss_cons (ps_if (pt_cmp (pc_lt (pv 1) (pe_callB call_len_seq rfl T.f_len bt_len (pa_cons (pv 0) pa_nil)))) (pss_one (ps_set (i := 2) sc_law_pool.nd rfl (Or.inl rfl) (pe_ix ix_list (pv 0) (pv 1) (fun _ _ => rfl)))) pss_nil)
    (pss_cons (ps_if (pt_cmp (pc_lt (pe_op op_add (pv 1) pe_int) (pe_callB call_len_seq rfl T.f_len bt_len (pa_cons (pv 0) pa_nil)))) (pss_one (ps_set (i := 3) sc_law_pool.nd rfl (Or.inl rfl) (pe_ix ix_list (pv 0) (pe_op op_add (pv 1) pe_int) (fun _ _ => rfl)))) pss_nil)
    (pss_one (ps_ret (pe_lst (pa_cons (pv 2) (pa_cons pe_int (pa_cons (pe_cmp (pc_ge (pv 2) (pe_op op_pow pe_int pe_int))) (pa_cons (pv 3) pa_nil)))))))))))
theorem len_law_pool (h : sp_law_pool K vs H Q E) : vs.length = 2 := by
  obtain ⟨_, _, _, rfl, _⟩ := h
  rfl
theorem pure_law_pool (T : Tx K mg) (h : sp_law_pool K vs H Q E) : t_law_pool K { nx := fun _ H' => Q .non H', rt := Q } (start N_law_pool vs) H := by
  obtain ⟨a, ns, k, rfl, ha, q⟩ := h
  have ix : ∀ {σ : L2.St} {H' : Hp} {ta tb : TE} {j : Nat} {v : V}, Ex H H' → Ev ta σ H' (.ref a) → Ev tb σ H' (.int (j : Int)) → (ns.map V.int)[j]? = some v → Ev (tOp (rIxL K) ta tb) σ H' v := fun {σ H' ta tb j v} e h1 h2 h3 => ev_op h1 h2 (rv_ixL (ex_l e ha) (atI_nat h3))
  refine q_asg (ev_add (ev_mul ev_c (ev_var rfl) (.inl (by decide))) ev_c) fun H1 e1 => ?_
  refine q_asg (ev_add (ev_mul ev_c (ev_var rfl) (.inl (by decide))) ev_c) fun H2 e2 => ?_
  have e12 := e1.trans e2
  have fin : ∀ {c s : Int} {H3 : Hp}, Ex H H3 → tRet (tLst (tCons (tVar 2) (tCons (tC (.int 0)) (tCons (tGe (tVar 2) (tOp rPowR (tC (.int 10)) (tC (.int 18)))) (tCons (tVar 3) tNil))))) { nx := fun _ H' => Q .non H', rt := Q } [some (.ref a), some (.int (k : Int)), some (.int c), some (.int s)] H3 := fun {c s H3} e => by
    refine s_retL (el_lst (ea_cons (ev_var rfl) (ea_cons ev_c (ea_cons (ev_cmp (ev_var rfl) (ev_pow ev_c ev_c ⟨by decide, by decide, by decide⟩)) (ea_cons (ev_var rfl) ea_nil)))) (by simp)) fun p H4 hp e4 h4 => ?_
    exact q p H4 (fresh_back e hp) (e.trans e4) ⟨_, _, _, _, h4⟩
  have snd : ∀ {c : Int} {H3 : Hp}, Ex H H3 → tSeq (tIfS (tB (tLt (tOp rAddR (tVar 1) (tC (.int 1))) (tCB (rLenS K) (tCons (tVar 0) tNil)))) (tAsg (tOp (rIxL K) (tVar 0) (tOp rAddR (tVar 1) (tC (.int 1)))) (gName 3)) tNext)
      (tRet (tLst (tCons (tVar 2) (tCons (tC (.int 0)) (tCons (tGe (tVar 2) (tOp rPowR (tC (.int 10)) (tC (.int 18)))) (tCons (tVar 3) tNil)))))) { nx := fun _ H' => Q .non H', rt := Q } [some (.ref a), some (.int (k : Int)), some (.int c), some (.int (31 * (k : Int) + 2))] H3 := fun {c H3} e => by
    refine q_when (b := decide (k + 1 < ns.length)) (et_is (et_B (ev_cmp (ev_add (ev_var rfl) ev_c) (ev_len (ev_var rfl) (ex_l e ha)))) ?_) (fun hb H4 e4 => ?_) (fun hb H4 e4 => fin (e.trans e4))
    · rw [List.length_map, Bool.eq_iff_iff]
      simp
      omega
    · have hlt := of_decide_eq_true hb
      refine s_asg (ix (j := k + 1) (v := .int ns[k + 1]) (e.trans e4) (ev_var rfl) (ev_is (ev_add (ev_var rfl) ev_c) rfl) (by rw [List.getElem?_map, List.getElem?_eq_getElem hlt]; rfl)) fun H5 e5 => fin ((e.trans e4).trans e5)
  refine q_when (b := decide (k < ns.length)) (et_is (et_B (ev_cmp (ev_var rfl) (ev_len (ev_var rfl) (ex_l e12 ha)))) ?_) (fun hb H4 e4 => ?_) (fun hb H4 e4 => snd (e12.trans e4))
  · rw [List.length_map, Bool.eq_iff_iff]
    simp
  · have hlt := of_decide_eq_true hb
    refine s_asg (ix (j := k) (v := .int ns[k]) (e12.trans e4) (ev_var rfl) (ev_var rfl) (by rw [List.getElem?_map, List.getElem?_eq_getElem hlt]; rfl)) fun H5 e5 => snd ((e12.trans e4).trans e5)
theorem ok_law_pool {P : Program} {w : World} {K : PySem.W.Frag} {mg : Str → Option Value} {base : Heap} (T : Tx K mg) : FnX P w K mg base 1 (He.fAd K ("_law_pool", none)) ps_law_pool (sp_law_pool K) := by
  obtain ⟨fd, F⟩ := T.fun_law_pool
  refine ⟨fd, F.ok sc_law_pool (fun vs H Q E h => len_law_pool h) (fun cdv A outer s H vs Q E hr h => ⟨t_law_pool K, PSs.nox (der_law_pool T hr (hu_of hr)), pure_law_pool T h⟩), F.bindsN fun _ _ _ _ _ _ us hl => match us, hl with | [_, _], _ => rfl⟩
def sp_law_take (K : PySem.W.Frag) : Sp := fun vs H Q _ => ∃ (p : Addr) (z : Nat), vs = [.ref p, .int (z : Int)] ∧ PoolAt p H ∧ 0 < z ∧ z < 1000000 ∧ ∀ (r : Nat) H', r < z → PoolAt p H' → Stp (fun a => a = p) (fun a => a = p) H H' → Q (.int (r : Int)) H'
abbrev N_law_take : List Str := ["pool", "size", "k", "cell", "mixed"]
theorem sc_law_take : FnScope N_law_take ["pool", "size"] (defScope s_law_take) := ⟨rfl, rfl, rfl, by decide +kernel, rfl, by decide +kernel, by decide +kernel⟩
def t_law_take (K : PySem.W.Frag) : TS := (tSeq (tAsg (tOp (rIxL K) (tVar 0) (tC (.int 1))) (gName 2))
    (tSeq (tAsg (tOp rAddR (tVar 2) (tC (.int 1))) (gSub (tVar 0) (tC (.int 1)) rSetL))
    (tSeq (tAsg (tOp (rIxL K) (tVar 0) (tC (.int 0))) (gName 3))
    (tSeq (tIfS (tAnd (tB (tOp (rIxL K) (tVar 0) (tC (.int 2)))) (tB (tGt (tVar 3) (tC (.int 0))))) (tSeq (tAsg (tOp rFdivR (tVar 3) (tVar 1)) (gSub (tVar 0) (tC (.int 0)) rSetL))
    (tRet (tOp rModR (tCB rInt1R (tCons (tVar 3) tNil)) (tVar 1)))) tNext)
    (tSeq (tIfS (tB (tOp (rIxL K) (tVar 0) (tC (.int 2)))) (tAsg (tOp (rIxL K) (tVar 0) (tC (.int 3))) (gName 3)) tNext)
    (tSeq (tAsg (tOp rModR (tCB rInt1R (tCons (tOp rAddR (tOp rAddR (tVar 3) (tOp rMulR (tC (.int 7919)) (tVar 2))) (tC (.int 13))) tNil)) (tC (.int 2147483647))) (gName 4))
    (tSeq (tAsg (tOp rModR (tCB rInt1R (tCons (tOp rMulR (tVar 4) (tOp rAddR (tVar 4) (tC (.int 48271)))) tNil)) (tC (.int 2147483629))) (gName 4))
    (tSeq (tAsg (tOp rModR (tCB rInt1R (tCons (tOp rAddR (tOp rMulR (tVar 4) (tOp rAddR (tVar 4) (tC (.int 69621)))) (tOp rMulR (tC (.int 31)) (tVar 2))) tNil)) (tC (.int 2147483647))) (gName 4))
    (tRet (tOp rModR (tCB rInt1R (tCons (tOp rFdivR (tVar 4) (tC (.int 9))) tNil)) (tVar 1)))))))))))
set_option maxHeartbeats 4000000 in
theorem der_law_take {P : Program} {w : World} {K : PySem.W.Frag} {mg : Str → Option Value} {base : Heap} {f : Addr} {cdv : Value} {A : Around} {outer : List Env} {s : Shared} {H : Hp} {E : XK} (T : Tx K mg) (hr : Room 0 (A.deeper (envOfC "_law_take" (defScope s_law_take) s.heap.objs.size f cdv))) (hu : (A.deeper (envOfC "_law_take" (defScope s_law_take) s.heap.objs.size f cdv)).units + 1 < cLine) :
    PSs (cxOf CX0 P w K mg base N_law_take "_law_take" (defScope s_law_take) f cdv A outer s H E).nox (defBody s_law_take) (t_law_take K) := by
  exact (pss_cons (ps_set (i := 2) sc_law_take.nd rfl (Or.inl rfl) (pe_ix ix_list (pv 0) pe_int (fun _ _ => rfl)))
    (pss_cons (ps_asg (pe_op op_add (pv 2) pe_int) (pg_sub (pv 0) pe_int set_list))
    (pss_cons (ps_set (i := 3) sc_law_take.nd rfl (Or.inl rfl) (pe_ix ix_list (pv 0) pe_int (fun _ _ => rfl)))
    (pss_cons (ps_if (PW.pt (pw_and (pt_val (pe_ix ix_list (pv 0) pe_int (fun _ _ => rfl))) (pw_and1 (pt_cmp (pc_gt (pv 3) pe_int))))) (pss_cons (ps_asg (pe_op op_fdiv (pv 3) (pv 1)) (pg_sub (pv 0) pe_int set_list))
    (pss_one (ps_ret (pe_op op_mod (pe_callTy call_int1 rfl T.f_int bt_int (pa_cons (pv 3) pa_nil)) (pv 1))))) pss_nil)
    (pss_cons (ps_if (pt_val (pe_ix ix_list (pv 0) pe_int (fun _ _ => rfl))) (pss_one (ps_set (i := 3) sc_law_take.nd rfl (Or.inl rfl) (pe_ix ix_list (pv 0) pe_int (fun _ _ => rfl)))) pss_nil)
    (pss_cons (ps_set (i := 4) sc_law_take.nd rfl (Or.inl rfl) (pe_op op_mod (pe_callTy call_int1 rfl T.f_int bt_int (pa_cons (pe_op op_add (pe_op op_add (pv 3) (pe_op op_mul pe_int (pv 2))) pe_int) pa_nil)) pe_int))
    (pss_cons (ps_set (i := 4) sc_law_take.nd rfl (Or.inl rfl) (pe_op op_mod (pe_callTy call_int1 rfl T.f_int bt_int (pa_cons (pe_op op_mul (pv 4) (pe_op op_add (pv 4) pe_int)) pa_nil)) pe_int))
    (pss_cons (ps_set (i := 4) sc_law_take.nd rfl (Or.inl rfl) (pe_op op_mod (pe_callTy call_int1 rfl T.f_int bt_int (pa_cons (pe_op op_add (pe_op op_mul (pv 4) (pe_op op_add (pv 4) pe_int)) (pe_op op_mul pe_int (pv 2))) pa_nil)) pe_int))
    (pss_one (ps_ret (pe_op op_mod (pe_callTy call_int1 rfl T.f_int bt_int (pa_cons (pe_op op_fdiv (pv 4) pe_int) pa_nil)) (pv 1))))))))))))
theorem len_law_take (h : sp_law_take K vs H Q E) : vs.length = 2 := by
  obtain ⟨_, _, rfl, _⟩ := h
  rfl
theorem pure_law_take (T : Tx K mg) (h : sp_law_take K vs H Q E) : t_law_take K { nx := fun _ H' => Q .non H', rt := Q } (start N_law_take vs) H := by
  obtain ⟨p, z, rfl, ⟨c, k, b, s, hp⟩, hz0, hz1, q⟩ := h
  have hzi : (0 : Int) < (z : Int) := by omega
  have fin : ∀ {v : Int} {H1 : Hp}, PoolAt p H1 → Stp (fun a => a = p) (fun a => a = p) H H1 → ∀ H2, Ex H1 H2 → Q (.int (v % (z : Int))) H2 := fun {v H1} hp1 s1 H2 e2 => by
    have h1 := Int.emod_nonneg v (b := (z : Int)) (by omega)
    have h2 := Int.emod_lt_of_pos v hzi
    have h3 : v % (z : Int) = ((v % (z : Int)).toNat : Int) := (Int.toNat_of_nonneg h1).symm
    rw [h3]
    obtain ⟨c', k', b', s', h4⟩ := hp1
    exact q _ H2 (by omega) ⟨c', k', b', s', e2 _ _ h4⟩ (s1.post e2)
  refine q_asg (ev_ixL (j := 1) (ev_var rfl) ev_c hp rfl) fun H1 e1 => ?_
  refine q_setL (j := 1) (e1 _ _ hp) (ev_add (ev_var rfl) ev_c) (ev_var rfl) ev_c (by simp) fun H2 e2 => ?_
  have s2 : Stp (fun a => a = p) (fun a => a = p) H (upd H2 p (.lst [.int c, .int (k + 1), .bl b, .int s])) := Stp.pre (e1.trans e2) (Stp.upd rfl (nt_lst ((e1.trans e2) _ _ hp)))
  have h2 : (upd H2 p (.lst [.int c, .int (k + 1), .bl b, .int s])) p = some (.lst [.int c, .int (k + 1), .bl b, .int s]) := upd_same
  show tSeq _ _ _ _ (upd H2 p (.lst [.int c, .int (k + 1), .bl b, .int s]))
  generalize upd H2 p (.lst [.int c, .int (k + 1), .bl b, .int s]) = G at s2 h2
  refine q_asg (ev_ixL (j := 0) (ev_var rfl) ev_c h2 rfl) fun H3 e3 => ?_
  refine q_when (b := b && decide (c > 0)) (et_and (et_B (ev_ixL (j := 2) (ev_var rfl) ev_c (e3 _ _ h2) rfl)) fun _ => et_B (ev_cmp (ev_var rfl) ev_c)) (fun hb H4 e4 => ?_) (fun hb H4 e4 => ?_)
  · refine q_setL (j := 0) ((e3.trans e4) _ _ h2) (ev_fdiv (ev_var rfl) (ev_var rfl) ⟨hzi, by omega⟩) (ev_var rfl) ev_c (by simp) fun H5 e5 => ?_
    refine s_ret (ev_mod (ev_int1 (ev_var rfl)) (ev_var rfl) hzi) fun H6 e6 => fin (H1 := upd H5 p _) ⟨c / (z : Int), k + 1, b, s, upd_same⟩ ((s2.post ((e3.trans e4).trans e5)).trans (Stp.upd rfl (nt_lst (((e3.trans e4).trans e5) _ _ h2)))) H6 e6
  · have rest : ∀ {v : Int} {H5 : Hp}, Ex G H5 → (tSeq (tAsg (tOp rModR (tCB rInt1R (tCons (tOp rAddR (tOp rAddR (tVar 3) (tOp rMulR (tC (.int 7919)) (tVar 2))) (tC (.int 13))) tNil)) (tC (.int 2147483647))) (gName 4))
        (tSeq (tAsg (tOp rModR (tCB rInt1R (tCons (tOp rMulR (tVar 4) (tOp rAddR (tVar 4) (tC (.int 48271)))) tNil)) (tC (.int 2147483629))) (gName 4))
        (tSeq (tAsg (tOp rModR (tCB rInt1R (tCons (tOp rAddR (tOp rMulR (tVar 4) (tOp rAddR (tVar 4) (tC (.int 69621)))) (tOp rMulR (tC (.int 31)) (tVar 2))) tNil)) (tC (.int 2147483647))) (gName 4))
        (tRet (tOp rModR (tCB rInt1R (tCons (tOp rFdivR (tVar 4) (tC (.int 9))) tNil)) (tVar 1)))))) { nx := fun _ H' => Q .non H', rt := Q } [some (.ref p), some (.int (z : Int)), some (.int k), some (.int v), none] H5 := fun {v H5} e5 => by
      have md : ∀ (u m : Int), 0 < m → m ≤ 2147483647 → -(2 ^ 64) < u % m ∧ u % m < 2 ^ 64 := fun u m h1 h2 => by
        have := Int.emod_nonneg u (b := m) (by omega)
        have := Int.emod_lt_of_pos u h1
        omega
      refine q_asg (ev_mod (ev_int1 (ev_add (ev_add (ev_var rfl) (ev_mul ev_c (ev_var rfl) (.inl (by decide)))) ev_c)) ev_c (by decide)) fun H6 e6 => ?_
      refine q_asg (ev_mod (ev_int1 (ev_mul (ev_var rfl) (ev_add (ev_var rfl) ev_c) (.inl (md _ _ (by decide) (by decide))))) ev_c (by decide)) fun H7 e7 => ?_
      refine q_asg (ev_mod (ev_int1 (ev_add (ev_mul (ev_var rfl) (ev_add (ev_var rfl) ev_c) (.inl (md _ _ (by decide) (by decide)))) (ev_mul ev_c (ev_var rfl) (.inl (by decide))))) ev_c (by decide)) fun H8 e8 => ?_
      refine s_ret (ev_mod (ev_int1 (ev_fdiv (ev_var rfl) ev_c ⟨by decide, by decide⟩)) (ev_var rfl) hzi) fun H9 e9 => fin (H1 := G) ⟨c, k + 1, b, s, h2⟩ s2 H9 ((((e5.trans e6).trans e7).trans e8).trans e9)
    refine q_when (b := b) (et_B (ev_ixL (j := 2) (ev_var rfl) ev_c ((e3.trans e4) _ _ h2) rfl)) (fun hb2 H5 e5 => ?_) (fun hb2 H5 e5 => rest ((e3.trans e4).trans e5))
    exact s_asg (ev_ixL (j := 3) (ev_var rfl) ev_c (((e3.trans e4).trans e5) _ _ h2) rfl) fun H6 e6 => rest (((e3.trans e4).trans e5).trans e6)
theorem ok_law_take {P : Program} {w : World} {K : PySem.W.Frag} {mg : Str → Option Value} {base : Heap} (T : Tx K mg) : FnX P w K mg base 1 (He.fAd K ("_law_take", none)) ps_law_take (sp_law_take K) := by
  obtain ⟨fd, F⟩ := T.fun_law_take
  refine ⟨fd, F.ok sc_law_take (fun vs H Q E h => len_law_take h) (fun cdv A outer s H vs Q E hr h => ⟨t_law_take K, PSs.nox (der_law_take T hr (hu_of hr)), pure_law_take T h⟩), F.bindsN fun _ _ _ _ _ _ us hl => match us, hl with | [_, _], _ => rfl⟩
/-! ### whole, alike, list -/
def sp_law_whole (K : PySem.W.Frag) : Sp := fun vs H Q _ => ∃ (i : Int), vs = [.int i] ∧ ∀ H', Ex H H' → Q (.bl true) H'
abbrev N_law_whole : List Str := ["value"]
theorem sc_law_whole : FnScope N_law_whole ["value"] (defScope s_law_whole) := ⟨rfl, rfl, rfl, by decide +kernel, rfl, by decide +kernel, by decide +kernel⟩
def t_law_whole (K : PySem.W.Frag) : TS := (tRet (tAndV (tCB (rIsi K) (tCons (tVar 0) (tCons (tC (.ty "int")) tNil))) (tNotV (tCB (rIsi K) (tCons (tVar 0) (tCons (tC (.ty "bool")) tNil))))))
set_option maxHeartbeats 4000000 in
theorem der_law_whole {P : Program} {w : World} {K : PySem.W.Frag} {mg : Str → Option Value} {base : Heap} {f : Addr} {cdv : Value} {A : Around} {outer : List Env} {s : Shared} {H : Hp} {E : XK} (T : Tx K mg) (hr : Room 0 (A.deeper (envOfC "_law_whole" (defScope s_law_whole) s.heap.objs.size f cdv))) (hu : (A.deeper (envOfC "_law_whole" (defScope s_law_whole) s.heap.objs.size f cdv)).units + 1 < cLine) :
    PSs (cxOf CX0 P w K mg base N_law_whole "_law_whole" (defScope s_law_whole) f cdv A outer s H E).nox (defBody s_law_whole) (t_law_whole K) := by
  exact (pss_one (ps_ret (pe_and (pe_callB call_isi rfl T.f_isinstance bt_isinstance (pa_cons (pv 0) (pa_cons (pe_bltn (v := .ty "int") rfl T.f_int bt_int rfl) pa_nil))) (pe_one (pe_not (pe_callB call_isi rfl T.f_isinstance bt_isinstance (pa_cons (pv 0) (pa_cons (pe_bltn (v := .ty "bool") rfl T.f_bool bt_bool rfl) pa_nil))))))))
theorem len_law_whole (h : sp_law_whole K vs H Q E) : vs.length = 1 := by
  obtain ⟨_, rfl, _⟩ := h
  rfl
theorem pure_law_whole (T : Tx K mg) (h : sp_law_whole K vs H Q E) : t_law_whole K { nx := fun _ H' => Q .non H', rt := Q } (start N_law_whole vs) H := by
  obtain ⟨i, rfl, q⟩ := h
  exact s_ret (ev_is (ev_andV (a := true) (b := true) (ev_isi (ev_var rfl) (fun _ _ => ty_int) kit_ii) fun _ => ev_is (Evl.ev_notV (ev_isi (ev_var rfl) (fun _ _ => ty_int) kit_ib)) rfl) rfl) q
theorem ok_law_whole {P : Program} {w : World} {K : PySem.W.Frag} {mg : Str → Option Value} {base : Heap} (T : Tx K mg) : FnX P w K mg base 1 (He.fAd K ("_law_whole", none)) ps_law_whole (sp_law_whole K) := by
  obtain ⟨fd, F⟩ := T.fun_law_whole
  refine ⟨fd, F.ok sc_law_whole (fun vs H Q E h => len_law_whole h) (fun cdv A outer s H vs Q E hr h => ⟨t_law_whole K, PSs.nox (der_law_whole T hr (hu_of hr)), pure_law_whole T h⟩), F.bindsN fun _ _ _ _ _ _ us hl => match us, hl with | [_], _ => rfl⟩
theorem spv_whole {i : Int} : SpV (sp_law_whole K) [.int i] H (.bl true) := fun H1 e1 Q q E => ⟨i, rfl, q⟩
def sp_law_alike (K : PySem.W.Frag) : Sp := fun vs H Q _ => ∃ (v : V), vs = [v, v] ∧ (v = .non ∨ ∃ i, v = .int i) ∧ ∀ H', Ex H H' → Q (.bl true) H'
abbrev N_law_alike : List Str := ["actual", "expected"]
theorem sc_law_alike : FnScope N_law_alike ["actual", "expected"] (defScope s_law_alike) := ⟨rfl, rfl, rfl, by decide +kernel, rfl, by decide +kernel, by decide +kernel⟩
def t_law_alike (K : PySem.W.Frag) : TS := (tSeq (tIfS (tTest (tOp rIsN (tVar 1) (tC .non))) (tRet (tOp rIsN (tVar 0) (tC .non))) tNext)
    (tRet (tAndV (tCall (sp_law_whole K) [] E0 (tCons (tVar 0) tNil)) (tOp (rEqD K) (tVar 0) (tVar 1)))))
set_option maxHeartbeats 4000000 in
theorem der_law_alike {P : Program} {w : World} {K : PySem.W.Frag} {mg : Str → Option Value} {base : Heap} {f : Addr} {cdv : Value} {A : Around} {outer : List Env} {s : Shared} {H : Hp} {E : XK} (T : Tx K mg) {fd_law_whole : FuncData} (F_law_whole : FnOk P w K mg base CX0 1 (He.fAd K ("_law_whole", none)) fd_law_whole ps_law_whole (sp_law_whole K)) (B_law_whole : Binds K fd_law_whole ps_law_whole []) (hr : Room 1 (A.deeper (envOfC "_law_alike" (defScope s_law_alike) s.heap.objs.size f cdv))) (hu : (A.deeper (envOfC "_law_alike" (defScope s_law_alike) s.heap.objs.size f cdv)).units + 1 < cLine) :
    PSs (cxOf CX0 P w K mg base N_law_alike "_law_alike" (defScope s_law_alike) f cdv A outer s H E).nox (defBody s_law_alike) (t_law_alike K) := by
  exact (pss_cons (ps_if (pt_cmpR op_isN1 (pv 1) pe_non (by rfl)) (pss_one (ps_ret (pe_cmpR op_isN1 (pv 0) pe_non (by rfl)))) pss_nil)
    (pss_one (ps_ret (pe_and (pe_call F_law_whole (hr.mono (by decide)) rfl T.g_law_whole T.k_law_whole B_law_whole .nil pass0 (pa_cons (pv 0) pa_nil)) (pe_one (pe_cmpR (op_eqD hr.units) (pv 0) (pv 1) (by rfl)))))))
theorem len_law_alike (h : sp_law_alike K vs H Q E) : vs.length = 2 := by
  obtain ⟨_, rfl, _⟩ := h
  rfl
theorem ev_eqI {i : Int} (ha : Ev ta σ H (.int i)) (hb : Ev tb σ H (.int i)) : Ev (tOp (rEqD K) ta tb) σ H (.bl true) := fun H1 e Q q =>
  ha H1 e _ fun H2 e2 => hb H2 (e.trans e2) _ fun H3 e3 => ⟨.int i, .int i, .int i, .int i, rfl, rfl, by
    have : PyData.eqv (.int i) (.int i) = true := by simp [PyData.eqv]
    rw [this]
    exact q H3 (e2.trans e3)⟩
theorem pure_law_alike (T : Tx K mg) (h : sp_law_alike K vs H Q E) : t_law_alike K { nx := fun _ H' => Q .non H', rt := Q } (start N_law_alike vs) H := by
  obtain ⟨v, rfl, hv, q⟩ := h
  rcases hv with rfl | ⟨i, rfl⟩
  · refine q_when (b := true) (et_is (et_test (ev_isN (ev_var rfl))) rfl) (fun _ H1 e1 => ?_) (fun z => nomatch z)
    exact s_ret (ev_is (ev_isN (ev_var rfl)) rfl) fun H2 e2 => q H2 (e1.trans e2)
  · refine q_when (b := false) (et_is (et_test (ev_isN (ev_var rfl))) rfl) (fun z => nomatch z) (fun _ H1 e1 => ?_)
    refine s_ret (ev_is (ev_andV (a := true) (b := true) (ev_call (ea_cons (ev_var rfl) ea_nil) spv_whole) fun _ => ev_eqI (ev_var rfl) (ev_var rfl)) rfl) fun H2 e2 => q H2 (e1.trans e2)
theorem ok_law_alike {P : Program} {w : World} {K : PySem.W.Frag} {mg : Str → Option Value} {base : Heap} (T : Tx K mg) : FnX P w K mg base 2 (He.fAd K ("_law_alike", none)) ps_law_alike (sp_law_alike K) := by
  obtain ⟨_, F_law_whole, B_law_whole⟩ := ok_law_whole (P := P) (w := w) (base := base) T
  obtain ⟨fd, F⟩ := T.fun_law_alike
  refine ⟨fd, F.ok sc_law_alike (fun vs H Q E h => len_law_alike h) (fun cdv A outer s H vs Q E hr h => ⟨t_law_alike K, PSs.nox (der_law_alike T F_law_whole B_law_whole hr (hu_of hr)), pure_law_alike T h⟩), F.bindsN fun _ _ _ _ _ _ us hl => match us, hl with | [_, _], _ => rfl⟩
def sp_law_list (K : PySem.W.Frag) : Sp := fun vs H Q _ => ∃ (a b : Addr) (ns : List Int), vs = [.ref a, .ref b] ∧ IntsAt a ns H ∧ IntsAt b ns H ∧ ns.length ≤ 10000 ∧ ∀ H', Ex H H' → Q (.bl true) H'
abbrev N_law_list : List Str := ["actual", "expected", "k"]
theorem sc_law_list : FnScope N_law_list ["actual", "expected"] (defScope s_law_list) := ⟨rfl, rfl, rfl, by decide +kernel, rfl, by decide +kernel, by decide +kernel⟩
def t_law_list (K : PySem.W.Frag) : TS := (tSeq (tIfS (tOr (tNot (tB (tCB (rIsi K) (tCons (tVar 0) (tCons (tC (.ty "list")) tNil))))) (tB (tNeI (tCB (rLenS K) (tCons (tVar 0) tNil)) (tCB (rLenS K) (tCons (tVar 1) tNil))))) (tRet (tC (.bl false))) tNext)
    (tSeq (tFor (iRng1 (tCons (tCB (rLenS K) (tCons (tVar 1) tNil)) tNil)) (gName 2) (tIfS (tOr (tNot (tB (tCall (sp_law_whole K) [] E0 (tCons (tOp (rIxL K) (tVar 0) (tVar 2)) tNil)))) (tB (tNeI (tOp (rIxL K) (tVar 0) (tVar 2)) (tOp (rIxL K) (tVar 1) (tVar 2))))) (tRet (tC (.bl false))) tNext))
    (tRet (tC (.bl true)))))
set_option maxHeartbeats 4000000 in
theorem der_law_list {P : Program} {w : World} {K : PySem.W.Frag} {mg : Str → Option Value} {base : Heap} {f : Addr} {cdv : Value} {A : Around} {outer : List Env} {s : Shared} {H : Hp} {E : XK} (T : Tx K mg) {fd_law_whole : FuncData} (F_law_whole : FnOk P w K mg base CX0 1 (He.fAd K ("_law_whole", none)) fd_law_whole ps_law_whole (sp_law_whole K)) (B_law_whole : Binds K fd_law_whole ps_law_whole []) (hr : Room 1 (A.deeper (envOfC "_law_list" (defScope s_law_list) s.heap.objs.size f cdv))) (hu : (A.deeper (envOfC "_law_list" (defScope s_law_list) s.heap.objs.size f cdv)).units + 1 < cLine) :
    PSs (cxOf CX0 P w K mg base N_law_list "_law_list" (defScope s_law_list) f cdv A outer s H E).nox (defBody s_law_list) (t_law_list K) := by
  exact (pss_cons (ps_if (PW.pt (pw_or (pt_not (pt_val (pe_callB call_isi rfl T.f_isinstance bt_isinstance (pa_cons (pv 0) (pa_cons (pe_bltn (v := .ty "list") rfl T.f_list bt_list rfl) pa_nil))))) (pw_or1 (pt_cmp (pc_neI (pe_callB call_len_seq rfl T.f_len bt_len (pa_cons (pv 0) pa_nil)) (pe_callB call_len_seq rfl T.f_len bt_len (pa_cons (pv 1) pa_nil))))))) (pss_one (ps_ret pe_bl)) pss_nil)
    (pss_cons (ps_for PassesOwn.never rfl (pi_range1 rfl T.f_range (pa_cons (pe_callB call_len_seq rfl T.f_len bt_len (pa_cons (pv 1) pa_nil)) pa_nil)) (pg_name (i := 2) sc_law_list.nd rfl (Or.inl rfl)) (pss_one (ps_if (PW.pt (pw_or (pt_not (pt_val (pe_call F_law_whole (hr.mono (by decide)) rfl T.g_law_whole T.k_law_whole B_law_whole .nil pass0 (pa_cons (pe_ix ix_list (pv 0) (pv 2) (fun _ _ => rfl)) pa_nil)))) (pw_or1 (pt_cmp (pc_neI (pe_ix ix_list (pv 0) (pv 2) (fun _ _ => rfl)) (pe_ix ix_list (pv 1) (pv 2) (fun _ _ => rfl))))))) (pss_one (ps_ret pe_bl)) pss_nil)))
    (pss_one (ps_ret pe_bl))))
theorem len_law_list (h : sp_law_list K vs H Q E) : vs.length = 2 := by
  obtain ⟨_, _, _, rfl, _⟩ := h
  rfl
theorem pure_law_list (T : Tx K mg) (h : sp_law_list K vs H Q E) : t_law_list K { nx := fun _ H' => Q .non H', rt := Q } (start N_law_list vs) H := by
  obtain ⟨a, b, ns, rfl, ha, hb, hl, q⟩ := h
  have ha0 : H a = some (.lst (ns.map V.int)) := ha
  have hb0 : H b = some (.lst (ns.map V.int)) := hb
  refine q_when (b := false) (et_is (et_or (a := false) (b := false) (et_is (et_not (et_B (ev_isi (ev_var rfl) (fun H1 e1 => ty_lst (e1 _ _ ha0)) kit_ll))) rfl) fun _ => et_is (et_B (ev_cmp (ev_lenL (ev_var rfl) ha0) (ev_lenL (ev_var rfl) hb0))) (by simp)) rfl) (fun z => nomatch z) (fun _ H1 e1 => ?_)
  refine q_forR1 (n := (ns.length : Int)) (ea_cons (ev_is (ev_lenL (ev_var rfl) (e1 _ _ hb0)) (by rw [List.length_map])) ea_nil) ⟨by omega, by omega⟩ (fun i σ' H' => (∃ u, σ' = [some (.ref a), some (.ref b), u]) ∧ Ex H H') (fun H2 e2 => ⟨⟨none, rfl⟩, e1.trans e2⟩) (fun i σ' H' hi w => ?_) (fun σ' H' w => ?_)
  · obtain ⟨⟨u, rfl⟩, e⟩ := w
    have hlt : i < ns.length := by omega
    have get : ∀ {c : Addr} {j : Nat}, H c = some (.lst (ns.map V.int)) → ([some (.ref a), some (.ref b), some (V.int (i : Int))] : L2.St)[j]? = some (some (.ref c)) → Ev (tOp (rIxL K) (tVar j) (tVar 2)) [some (.ref a), some (.ref b), some (V.int (i : Int))] H' (.int ns[i]) := fun {c j} hc hj =>
      ev_ixL (j := i) (ev_var hj) (ev_var rfl) (e _ _ hc) (by rw [List.getElem?_map, List.getElem?_eq_getElem hlt]; rfl)
    refine s_when (b := false) (et_is (et_or (a := false) (b := false) (et_is (et_not (et_B (ev_call (ea_cons (get ha0 rfl) ea_nil) spv_whole))) rfl) fun _ => et_is (et_B (ev_cmp (get ha0 rfl) (get hb0 rfl))) (by simp)) rfl) (fun z => nomatch z) (fun _ H3 e3 => ⟨⟨_, rfl⟩, e.trans e3⟩)
  · obtain ⟨⟨u, rfl⟩, e⟩ := w
    exact s_ret ev_c fun H2 e2 => q H2 (e.trans e2)
theorem ok_law_list {P : Program} {w : World} {K : PySem.W.Frag} {mg : Str → Option Value} {base : Heap} (T : Tx K mg) : FnX P w K mg base 2 (He.fAd K ("_law_list", none)) ps_law_list (sp_law_list K) := by
  obtain ⟨_, F_law_whole, B_law_whole⟩ := ok_law_whole (P := P) (w := w) (base := base) T
  obtain ⟨fd, F⟩ := T.fun_law_list
  refine ⟨fd, F.ok sc_law_list (fun vs H Q E h => len_law_list h) (fun cdv A outer s H vs Q E hr h => ⟨t_law_list K, PSs.nox (der_law_list T F_law_whole B_law_whole hr (hu_of hr)), pure_law_list T h⟩), F.bindsN fun _ _ _ _ _ _ us hl => match us, hl with | [_, _], _ => rfl⟩
end
end TW

set_option Elab.async false
set_option linter.all false
set_option maxRecDepth 100000
set_option maxHeartbeats 1000000
namespace TW
open PySem PySem.Spec PyProof.Rows L2 Evl
/-! ### the seat: the law's own record of the two objects -/
structure SL where
  (s nd cs sr gn rw lk : Addr)
def SL.all (S : SL) : List Addr := [S.s, S.nd, S.cs, S.sr, S.gn, S.rw, S.lk]
def rowV (r : Row) : List V := [.int r.lit, .int (r.lev : Int), rsV r.rs]
structure SAt (S : SL) (t w : Addr) (known : List Int) (rows : List Row) (W : Wt) (fl : Bool) (lk : List Int) (H : Hp) : Prop where
  s : H S.s = some (.lst [.ref t, .ref w, .ref S.nd, .ref S.cs, .ref S.sr, .ref S.gn, .ref S.rw, .bl fl, .ref S.lk])
  nd : H S.nd = some (.lst (known.map V.int))
  cs : ∃ ys : List (List Int × Addr), H S.cs = some (.lst (ys.map fun p => V.ref p.2)) ∧ W.cls = ys.map (·.1) ∧ ∀ p ∈ ys, H p.2 = some (.tup (p.1.map V.int))
  sr : H S.sr = some (.lst (W.src.map V.int))
  gn : H S.gn = some (.lst (W.gone.map V.bl))
  rw' : ∃ xs : List (Row × Addr), H S.rw = some (.lst (xs.map fun p => V.ref p.2)) ∧ rows = xs.map (·.1) ∧ ∀ p ∈ xs, H p.2 = some (.tup (rowV p.1))
  lk' : H S.lk = some (.lst (lk.map V.int))
  nn : S.all.Nodup
def In3 (L : TL) (M : WL) (S : SL) (a : Addr) : Prop := In2 L M a ∨ a ∈ S.all
/-- both objects and the seat, whatever their addresses -/
structure WS3 (K : PySem.W.Frag) (L : TL) (M : WL) (S : SL) (T : Tr) (W : Wt) (fl : Bool) (lk : List Int) (H : Hp) : Prop where
  A : Two K L T M W H
  B : SAt S L.t M.w T.known T.rows W fl lk H
  dj : ∀ a ∈ S.all, ¬ In2 L M a
def WS (K : PySem.W.Frag) (s : Addr) (T : Tr) (W : Wt) (fl : Bool) (lk : List Int) (F : Addr → Prop) (H : Hp) : Prop := ∃ L M S, S.s = s ∧ F = In3 L M S ∧ WS3 K L M S T W fl lk H
section
variable {K : PySem.W.Frag} {L L' : TL} {M M' : WL} {S : SL} {T T' : Tr} {W W' : Wt} {fl : Bool} {lk : List Int} {H H' H1 : Hp} {F F' : Addr → Prop} {s t w : Addr} {known : List Int} {rows : List Row}
theorem SAt.keep (B : SAt S t w known rows W fl lk H) (k : ∀ a o, a ∈ S.all → H a = some o → H' a = some o) (tp : ∀ a xs, H a = some (.tup xs) → H' a = some (.tup xs)) : SAt S t w known rows W fl lk H' := by
  obtain ⟨ys, c1, c2, c3⟩ := B.cs
  obtain ⟨xs, r1, r2, r3⟩ := B.rw'
  exact ⟨k _ _ (by simp [SL.all]) B.s, k _ _ (by simp [SL.all]) B.nd, ⟨ys, k _ _ (by simp [SL.all]) c1, c2, fun p hp => tp _ _ (c3 p hp)⟩, k _ _ (by simp [SL.all]) B.sr, k _ _ (by simp [SL.all]) B.gn, ⟨xs, k _ _ (by simp [SL.all]) r1, r2, fun p hp => tp _ _ (r3 p hp)⟩, k _ _ (by simp [SL.all]) B.lk', B.nn⟩
theorem SAt.ex (B : SAt S t w known rows W fl lk H) (e : Ex H H') : SAt S t w known rows W fl lk H' := B.keep (fun a o _ h => e a o h) fun a xs h => e a _ h
theorem SAt.tracked (B : SAt S t w known rows W fl lk H) : ∀ a ∈ S.all, H a ≠ none := by
  obtain ⟨ys, c1, _⟩ := B.cs
  obtain ⟨xs, r1, _⟩ := B.rw'
  intro a h
  simp only [SL.all, List.mem_cons, List.not_mem_nil, or_false] at h
  rcases h with rfl | rfl | rfl | rfl | rfl | rfl | rfl
  · rw [B.s]; exact fun z => nomatch z
  · rw [B.nd]; exact fun z => nomatch z
  · rw [c1]; exact fun z => nomatch z
  · rw [B.sr]; exact fun z => nomatch z
  · rw [B.gn]; exact fun z => nomatch z
  · rw [r1]; exact fun z => nomatch z
  · rw [B.lk']; exact fun z => nomatch z
theorem WS3.ex (A : WS3 K L M S T W fl lk H) (e : Ex H H') : WS3 K L M S T W fl lk H' := ⟨A.A.ex e, A.B.ex e, A.dj⟩
theorem WS3.tracked (A : WS3 K L M S T W fl lk H) : ∀ a, In3 L M S a → H a ≠ none := fun a h => h.elim (A.A.tracked a) (A.B.tracked a)
theorem WS3.stp (A : WS3 K L M S T W fl lk H) (st : Stp F F' H H') (d : ∀ a, In3 L M S a → ¬ F a) : WS3 K L M S T W fl lk H' :=
  ⟨A.A.stp st fun a h => d a (.inl h), A.B.keep (fun a o i h => st.keep a o h (d a (.inr i))) st.tups, A.dj⟩
theorem WS.ex (A : WS K s T W fl lk F H) (e : Ex H H') : WS K s T W fl lk F H' := let ⟨L, M, S, h1, h2, h3⟩ := A; ⟨L, M, S, h1, h2, h3.ex e⟩
theorem WS.tracked (A : WS K s T W fl lk F H) : ∀ a, F a → H a ≠ none := by
  obtain ⟨L, M, S, h1, rfl, h3⟩ := A
  exact h3.tracked
theorem WS.stp {G G' : Addr → Prop} (A : WS K s T W fl lk F H) (st : Stp G G' H H') (d : ∀ a, F a → ¬ G a) : WS K s T W fl lk F H' := by
  obtain ⟨L, M, S, h1, rfl, h3⟩ := A
  exact ⟨L, M, S, h1, rfl, h3.stp st d⟩
/-- the two objects move, the seat stays -/
theorem WS3.two (A : WS3 K L M S T W fl lk H) (B : Two K L' T' M' W' H') (st : Stp (In2 L M) (In2 L' M') H H') (ht : L'.t = L.t) (hw : M'.w = M.w) :
    Stp (In3 L M S) (In3 L' M' S) H H' ∧ (∀ a ∈ S.all, ¬ In2 L' M' a) ∧ SAt S L'.t M'.w T.known T.rows W fl lk H' := by
  refine ⟨st.wide, st.apart A.dj A.B.tracked, ?_⟩
  rw [ht, hw]
  exact A.B.keep (fun a o i h => st.keep a o h (A.dj a i)) st.tups
theorem ne_all {S : SL} (nn : S.all.Nodup) : (S.s ≠ S.nd ∧ S.s ≠ S.cs ∧ S.s ≠ S.sr ∧ S.s ≠ S.gn ∧ S.s ≠ S.rw ∧ S.s ≠ S.lk) ∧ (S.nd ≠ S.cs ∧ S.nd ≠ S.sr ∧ S.nd ≠ S.gn ∧ S.nd ≠ S.rw ∧ S.nd ≠ S.lk) ∧ (S.cs ≠ S.sr ∧ S.cs ≠ S.gn ∧ S.cs ≠ S.rw ∧ S.cs ≠ S.lk) ∧ (S.sr ≠ S.gn ∧ S.sr ≠ S.rw ∧ S.sr ≠ S.lk) ∧ (S.gn ≠ S.rw ∧ S.gn ≠ S.lk) ∧ S.rw ≠ S.lk := by
  simp only [SL.all, List.nodup_cons, List.mem_cons, List.not_mem_nil, or_false, not_or] at nn
  obtain ⟨⟨a1, a2, a3, a4, a5, a6⟩, ⟨b1, b2, b3, b4, b5⟩, ⟨c1, c2, c3, c4⟩, ⟨d1, d2, d3⟩, ⟨e1, e2⟩, f1, _⟩ := nn
  exact ⟨⟨a1, a2, a3, a4, a5, a6⟩, ⟨b1, b2, b3, b4, b5⟩, ⟨c1, c2, c3, c4⟩, ⟨d1, d2, d3⟩, ⟨e1, e2⟩, f1⟩
/-! ### what evaluates to what -/
variable {σ : L2.St} {tl te : TE} {xs : List (Row × Addr)} {a : Addr} {i j : Nat}
/-- a column of the rows -/
theorem el_col (k : Int) (h : Ev tl σ H (.ref a)) (ha : H a = some (.lst (xs.map fun p => V.ref p.2))) (hx : ∀ p ∈ xs, H p.2 = some (.tup (rowV p.1))) (hl : xs.length ≤ 40000) (hw : ∀ x, wipe ((wipe σ [j]).set j (some x)) [j] = wipe σ [j]) (hj : ∀ x : V, ((wipe σ [j]).set j (some x))[j]? = some (some x))
    (hk : k = (i : Int)) (g : Row → V) (hg : ∀ r, (rowV r)[i]? = some (g r)) : EvL (tLc (iList K tl) (gName j) tYes (tOp (rIxT K) (tVar j) (tC (.int k))) [j]) σ H ((xs.map (·.1)).map g) := by
  subst hk
  refine el_is (el_lcG (fun p : Row × Addr => V.ref p.2) xs (fun _ => true) (fun p => g p.1) h ha hl hw (fun x hx => et_yes) (fun x hxm _ => ev_ixT (j := i) (ev_var (hj _)) ev_c (hx x hxm) (hg x.1))) ?_
  rw [List.filter_eq_self.mpr (fun _ _ => rfl), List.map_map]
  rfl
theorem rows_len (ok : T.Ok) (h : T.rows = xs.map (·.1)) : xs.length ≤ 100 := by
  have := ok.weak.rl
  rw [h, List.length_map] at this
  exact this
end
end TW

set_option Elab.async false
set_option linter.all false
set_option maxRecDepth 100000
set_option maxHeartbeats 1000000
namespace TW
open PySem PySem.Spec PyProof.Rows L2 Evl
theorem inV_int {x : Int} {xs : List Int} : inV (.int x) (xs.map V.int) = decide (x ∈ xs) := by
  unfold inV
  rw [List.any_map, Bool.eq_iff_iff, List.any_eq_true, decide_eq_true_eq]
  constructor
  · rintro ⟨y, h1, h2⟩
    have : y = x := by simpa [eqV] using h2
    exact this ▸ h1
  · intro h
    exact ⟨x, h, by simp [eqV]⟩
theorem flat_int {xs : List Int} : (xs.map V.int).all flatV = true := by
  rw [List.all_map]
  exact List.all_eq_true.mpr fun _ _ => rfl
section
variable {K : PySem.W.Frag} {mg : Str → Option Value} {vs : List V} {H H' : Hp} {Q : VK} {E : XK} {σ : L2.St} {ta tb te tl : TE} {x y v : V} {D : Ends} {tz : TS}
theorem ev_inT {neg : Bool} {i : Int} {a : Addr} {ns : List Int} (hx : Ev ta σ H (.int i)) (hb : Ev tb σ H (.ref a)) (h : H a = some (.tup (ns.map V.int))) : Ev (tOp (rIn K neg) ta tb) σ H (.bl (if neg then !decide (i ∈ ns) else decide (i ∈ ns))) := by
  have := ev_op hx hb (rv_inT (K := K) (neg := neg) (st_of h) rfl flat_int)
  rw [inV_int] at this
  exact this
theorem ev_inL {neg : Bool} {i : Int} {a : Addr} {ns : List Int} (hx : Ev ta σ H (.int i)) (hb : Ev tb σ H (.ref a)) (h : H a = some (.lst (ns.map V.int))) : Ev (tOp (rIn K neg) ta tb) σ H (.bl (if neg then !decide (i ∈ ns) else decide (i ∈ ns))) := by
  have := ev_op hx hb (rv_inL (K := K) (neg := neg) (sq_of h) rfl flat_int)
  rw [inV_int] at this
  exact this
theorem ev_maxL {ns : List Int} {m : Int} (h : EvL tl σ H (ns.map V.int)) (h1 : m ∈ ns) (h2 : ∀ y ∈ ns, y ≤ m) : Ev (tCB (rMax K) (tCons tl tNil)) σ H (.int m) := fun H1 e Q q =>
  h H1 e _ fun p H2 hp e2 hh => ⟨p, ns, rfl, sq_of hh, List.length_pos_of_mem h1, fun m' h3 h4 => by
    have : m' = m := Int.le_antisymm (h2 m' h3) (h4 m h1)
    rw [this]
    exact q H2 e2⟩
/-- a tuple that stands or is laid -/
def EvP (te : TE) (σ : L2.St) (H : Hp) (xs : List V) : Prop := ∀ H1, Ex H H1 → ∀ Q : VK, (∀ p H2, Ex H1 H2 → H2 p = some (.tup xs) → Q (.ref p) H2) → te σ H1 Q
theorem q_asgP {i : Nat} {xs : List V} (h : EvP te σ H xs) (k : ∀ p H1, Ex H H1 → H1 p = some (.tup xs) → tz D (σ.set i (some (.ref p))) H1) : tSeq (tAsg te (gName i)) tz D σ H := h H (Ex.refl H) _ k
/-! ### depth -/
def sp_law_depth (K : PySem.W.Frag) : Sp := fun vs H Q _ => ∃ (S : SL) (t w : Addr) (known : List Int) (rows : List Row) (W : Wt) (fl : Bool) (lk : List Int) (d : Nat), vs = [.ref S.s] ∧ SAt S t w known rows W fl lk H ∧ rows.length ≤ 1000 ∧ (∀ r ∈ rows, r.lev ≤ d) ∧ (d = 0 ∨ ∃ r ∈ rows, r.lev = d) ∧ ∀ H', Ex H H' → Q (.int (d : Int)) H'
abbrev N_law_depth : List Str := ["seat", "row"]
theorem sc_law_depth : FnScope N_law_depth ["seat"] (defScope s_law_depth) := ⟨rfl, rfl, rfl, by decide +kernel, rfl, by decide +kernel, by decide +kernel⟩
def t_law_depth (K : PySem.W.Frag) : TS := (tRet (tCB (rMax K) (tCons (tOp rCat (tLc (iList K (tOp (rIxL K) (tVar 0) (tC (.int 6)))) (gName 1) tYes (tOp (rIxT K) (tVar 1) (tC (.int 1))) [1]) (tLst (tCons (tC (.int 0)) tNil))) tNil)))
set_option maxHeartbeats 4000000 in
theorem der_law_depth {P : Program} {w : World} {K : PySem.W.Frag} {mg : Str → Option Value} {base : Heap} {f : Addr} {cdv : Value} {A : Around} {outer : List Env} {s : Shared} {H : Hp} {E : XK} (T : Tx K mg) (hr : Room 0 (A.deeper (envOfC "_law_depth" (defScope s_law_depth) s.heap.objs.size f cdv))) (hu : (A.deeper (envOfC "_law_depth" (defScope s_law_depth) s.heap.objs.size f cdv)).units + 1 < cLine) :
    PSs (cxOf CX0 P w K mg base N_law_depth "_law_depth" (defScope s_law_depth) f cdv A outer s H E).nox (defBody s_law_depth) (t_law_depth K) := by
  exact (pss_one (ps_ret (pe_callB (cr_max rfl) rfl T.f_max bt_max (pa_cons (pe_op op_cat (pe_lc (own := [("row", 1)]) (g := gName 1) rfl sc_law_depth.nd (pi_list (pe_ix ix_list (pv 0) pe_int (fun _ _ => rfl))) (blkOk_by (N := N_law_depth) (sc := defScope s_law_depth) (by decide +kernel)) (fun _ _ _ _ _ => pg_name (i := 1) sc_law_depth.nd rfl (Or.inl rfl)) (fun _ _ _ _ _ => pts_nil) (fun _ _ _ _ _ => (pe_ix ix_tup (pv 1) pe_int (fun _ _ => rfl)))) (pe_lst (pa_cons pe_int pa_nil))) pa_nil))))
theorem len_law_depth (h : sp_law_depth K vs H Q E) : vs.length = 1 := by
  obtain ⟨_, _, _, _, _, _, _, _, _, rfl, _⟩ := h
  rfl
theorem pure_law_depth (T : Tx K mg) (h : sp_law_depth K vs H Q E) : t_law_depth K { nx := fun _ H' => Q .non H', rt := Q } (start N_law_depth vs) H := by
  obtain ⟨S, t, w, known, rows, W, fl, lk, d, rfl, B, hl, hle, hat, q⟩ := h
  obtain ⟨xs, r1, r2, r3⟩ := B.rw'
  have hl' : xs.length ≤ 1000 := by rw [r2, List.length_map] at hl; exact hl
  have e1 : EvL (tLc (iList K (tOp (rIxL K) (tVar 0) (tC (.int 6)))) (gName 1) tYes (tOp (rIxT K) (tVar 1) (tC (.int 1))) [1]) (start N_law_depth [.ref S.s]) H (rows.map fun r => V.int (r.lev : Int)) := by
    rw [r2]
    exact el_col (i := 1) 1 (ev_ixL (j := 6) (ev_var rfl) ev_c B.s rfl) r1 r3 (by omega) (fun x => rfl) (fun x => rfl) rfl (fun r => .int (r.lev : Int)) fun r => rfl
  refine s_ret (ev_maxL (ns := (rows.map fun r => (r.lev : Int)) ++ [0]) (m := (d : Int)) (el_is (el_catL e1 (el_lst (ea_cons ev_c ea_nil) (by simp)) ?_) ?_) ?_ ?_) q
  · rw [List.length_map]
    simp
    omega
  · rw [List.map_append, List.map_map]
    rfl
  · rcases hat with h0 | ⟨r, hr, hre⟩
    · rw [h0]
      exact List.mem_append_right _ (List.mem_singleton.mpr rfl)
    · exact List.mem_append_left _ (List.mem_map.mpr ⟨r, hr, by rw [hre]⟩)
  · intro y hy
    rcases List.mem_append.mp hy with hy | hy
    · obtain ⟨r, hr, rfl⟩ := List.mem_map.mp hy
      have := hle r hr
      omega
    · have := List.mem_singleton.mp hy
      omega
theorem ok_law_depth {P : Program} {w : World} {K : PySem.W.Frag} {mg : Str → Option Value} {base : Heap} (T : Tx K mg) : FnX P w K mg base 1 (He.fAd K ("_law_depth", none)) ps_law_depth (sp_law_depth K) := by
  obtain ⟨fd, F⟩ := T.fun_law_depth
  refine ⟨fd, F.ok sc_law_depth (fun vs H Q E h => len_law_depth h) (fun cdv A outer s H vs Q E hr h => ⟨t_law_depth K, PSs.nox (der_law_depth T hr (hu_of hr)), pure_law_depth T h⟩), F.bindsN fun _ _ _ _ _ _ us hl => match us, hl with | [_], _ => rfl⟩
theorem Tr.Ok.at {T : Tr} (ok : T.Ok) : T.depth = 0 ∨ ∃ r ∈ T.rows, r.lev = T.depth := by
  rcases Nat.eq_zero_or_pos T.depth with h0 | h0
  · exact .inl h0
  · exact .inr (ok.lv T.depth h0 (Nat.le_refl _))
theorem spv_depth {s : Addr} {T : Tr} {W : Wt} {fl : Bool} {lk : List Int} {F : Addr → Prop} (A : WS K s T W fl lk F H) (ok : T.Ok) : SpV (sp_law_depth K) [.ref s] H (.int (T.depth : Int)) := fun H1 e1 Q q E => by
  obtain ⟨L, M, S, rfl, rfl, A⟩ := A
  have := ok.weak.rl
  exact ⟨S, L.t, M.w, T.known, T.rows, W, fl, lk, T.depth, rfl, A.B.ex e1, by omega, ok.le, ok.at, q⟩
/-! ### watched -/
def PairC (c p : List Int) : Prop := p.Nodup ∧ p.length = min 2 c.length ∧ ∀ x ∈ p, x ∈ c
def sp_law_watched (K : PySem.W.Frag) : Sp := fun vs H Q _ => ∃ (s : Addr) (T : Tr) (W : Wt) (fl : Bool) (lk : List Int) (F : Addr → Prop) (n : Nat) (c p : List Int), vs = [.ref s, .int (n : Int)] ∧ WS K s T W fl lk F H ∧ W.cls[n]? = some c ∧ W.prs[n]? = some p ∧ PairC c p ∧ ∀ H', Ex H H' → Q (.bl true) H'
abbrev N_law_watched : List Str := ["seat", "number", "pair", "clause", "literal"]
theorem sc_law_watched : FnScope N_law_watched ["seat", "number"] (defScope s_law_watched) := ⟨rfl, rfl, rfl, by decide +kernel, rfl, by decide +kernel, by decide +kernel⟩
def t_law_watched (K : PySem.W.Frag) : TS := (tSeq (tAsg (tMeth (He.ga K "Watching") "watched" (sp_Watching_watched K) [] E0 (tOp (rIxL K) (tVar 0) (tC (.int 1))) (tCons (tVar 1) tNil)) (gName 2))
    (tSeq (tAsg (tOp (rIxL K) (tOp (rIxL K) (tVar 0) (tC (.int 3))) (tVar 1)) (gName 3))
    (tSeq (tIfS (tOr (tNot (tB (tCB (rIsi K) (tCons (tVar 2) (tCons (tC (.ty "tuple")) tNil))))) (tB (tNeI (tCB (rLenS K) (tCons (tVar 2) tNil)) (tCB rMin2R (tCons (tC (.int 2)) (tCons (tCB (rLenS K) (tCons (tVar 3) tNil)) tNil)))))) (tRet (tC (.bl false))) tNext)
    (tSeq (tIfS (tB (tGt (tCB (rLenS K) (tCons (tLc (iTup K (tVar 2)) (gName 4) (tOr (tNot (tB (tCall (sp_law_whole K) [] E0 (tCons (tVar 4) tNil)))) (tTest (tOp (rIn K true) (tVar 4) (tVar 3)))) (tVar 4) [4]) tNil)) (tC (.int 0)))) (tRet (tC (.bl false))) tNext)
    (tRet (tOrV (tLt (tCB (rLenS K) (tCons (tVar 2) tNil)) (tC (.int 2))) (tNeI (tOp (rIxT K) (tVar 2) (tC (.int 0))) (tOp (rIxT K) (tVar 2) (tC (.int 1))))))))))
set_option maxHeartbeats 4000000 in
theorem der_law_watched {P : Program} {w : World} {K : PySem.W.Frag} {mg : Str → Option Value} {base : Heap} {f : Addr} {cdv : Value} {A : Around} {outer : List Env} {s : Shared} {H : Hp} {E : XK} (T : Tx K mg) {fd_Watching_watched : FuncData} (F_Watching_watched : FnOk P w K mg base CX0 1 (He.fAd K ("Watching", some "watched")) fd_Watching_watched ps_Watching_watched (sp_Watching_watched K)) (B_Watching_watched : Binds K fd_Watching_watched ps_Watching_watched []) {fd_law_whole : FuncData} (F_law_whole : FnOk P w K mg base CX0 1 (He.fAd K ("_law_whole", none)) fd_law_whole ps_law_whole (sp_law_whole K)) (B_law_whole : Binds K fd_law_whole ps_law_whole []) (hr : Room 1 (A.deeper (envOfC "_law_watched" (defScope s_law_watched) s.heap.objs.size f cdv))) (hu : (A.deeper (envOfC "_law_watched" (defScope s_law_watched) s.heap.objs.size f cdv)).units + 1 < cLine) :
    PSs (cxOf CX0 P w K mg base N_law_watched "_law_watched" (defScope s_law_watched) f cdv A outer s H E).nox (defBody s_law_watched) (t_law_watched K) := by
  exact (pss_cons (ps_set (i := 2) sc_law_watched.nd rfl (Or.inl rfl) (pe_meth (pe_ix ix_list (pv 0) pe_int (fun _ _ => rfl)) T.cl_Watching T.m_Watching_watched F_Watching_watched (hr.mono (by decide)) B_Watching_watched .nil pass0 (pa_cons (pv 1) pa_nil)))
    (pss_cons (ps_set (i := 3) sc_law_watched.nd rfl (Or.inr rfl) (pe_ix ix_list (pe_ix ix_list (pv 0) pe_int (fun _ _ => rfl)) (pv 1) (fun _ _ => rfl)))
    (pss_cons (ps_if (PW.pt (pw_or (pt_not (pt_val (pe_callB call_isi rfl T.f_isinstance bt_isinstance (pa_cons (pv 2) (pa_cons (pe_bltn (v := .ty "tuple") rfl T.f_tuple bt_tuple rfl) pa_nil))))) (pw_or1 (pt_cmp (pc_neI (pe_callB call_len_seq rfl T.f_len bt_len (pa_cons (pv 2) pa_nil)) (pe_callB (call_min2 rfl) rfl T.f_min bt_min (pa_cons pe_int (pa_cons (pe_callB call_len_seq rfl T.f_len bt_len (pa_cons (pv 3) pa_nil)) pa_nil)))))))) (pss_one (ps_ret pe_bl)) pss_nil)
    (pss_cons (ps_if (pt_cmp (pc_gt (pe_callB call_len_seq rfl T.f_len bt_len (pa_cons (pe_lc (own := [("literal", 4)]) (g := gName 4) rfl sc_law_watched.nd (pi_tup (pv 2)) (blkOk_by (N := N_law_watched) (sc := defScope s_law_watched) (by decide +kernel)) (fun _ _ _ _ _ => pg_name (i := 4) sc_law_watched.nd rfl (Or.inl rfl)) (fun _ _ _ _ _ => (pts_one (PW.pt (pw_or (pt_not (pt_val (pe_call F_law_whole (hr.mono (by decide)) rfl T.g_law_whole T.k_law_whole B_law_whole .nil pass0 (pa_cons (pv 4) pa_nil)))) (pw_or1 (pt_cmpR op_notIn_seq (pv 4) (pv 3) (by rfl))))))) (fun _ _ _ _ _ => (pv 4))) pa_nil)) pe_int)) (pss_one (ps_ret pe_bl)) pss_nil)
    (pss_one (ps_ret (pe_or (pe_cmp (pc_lt (pe_callB call_len_seq rfl T.f_len bt_len (pa_cons (pv 2) pa_nil)) pe_int)) (pe_one (pe_cmp (pc_neI (pe_ix ix_tup (pv 2) pe_int (fun _ _ => rfl)) (pe_ix ix_tup (pv 2) pe_int (fun _ _ => rfl))))))))))))
theorem len_law_watched (h : sp_law_watched K vs H Q E) : vs.length = 2 := by
  obtain ⟨_, _, _, _, _, _, _, _, _, rfl, _⟩ := h
  rfl
theorem ep_watched {L : TL} {T : Tr} {M : WL} {W : Wt} {n : Nat} {p : List Int} (A : Two K L T M W H) (hw : Ev ta σ H (.ref M.w)) (hn : Ev tb σ H (.int (n : Int))) (hp : W.prs[n]? = some p) :
    EvP (tMeth (He.ga K "Watching") "watched" (sp_Watching_watched K) [] E0 ta (tCons tb tNil)) σ H (p.map V.int) := fun H1 e Q q =>
  hw H1 e _ fun H2 e2 => hn H2 (e.trans e2) _ |> fun k => by
    have A2 := A.ex (e.trans e2)
    obtain ⟨_, _, R, _⟩ := A2.w
    exact ⟨_, _, _, rfl, R.ob, rfl, k fun H3 e3 => ⟨L, T, M, W, n, p, rfl, A2.ex e3, hp, fun a H4 e4 h4 => q a H4 ((e2.trans e3).trans e4) h4⟩⟩
theorem cls_at {S : SL} {t w : Addr} {known : List Int} {rows : List Row} {W : Wt} {fl : Bool} {lk : List Int} {n : Nat} {c : List Int} (B : SAt S t w known rows W fl lk H) (hc : W.cls[n]? = some c) : ∃ a xs, H S.cs = some (.lst xs) ∧ xs.length = W.cls.length ∧ xs[n]? = some (.ref a) ∧ H a = some (.tup (c.map V.int)) := by
  obtain ⟨ys, h1, h2, h3⟩ := B.cs
  rw [h2, List.getElem?_map] at hc
  obtain ⟨q, hq, rfl⟩ := Option.map_eq_some_iff.mp hc
  exact ⟨q.2, _, h1, by rw [List.length_map, h2, List.length_map], by rw [List.getElem?_map, hq]; rfl, h3 q (List.mem_of_getElem? hq)⟩
theorem pure_law_watched (T : Tx K mg) (h : sp_law_watched K vs H Q E) : t_law_watched K { nx := fun _ H' => Q .non H', rt := Q } (start N_law_watched vs) H := by
  obtain ⟨s, Tr, W, fl, lk, F, n, c, p, rfl, ⟨L, M, S, rfl, rfl, A⟩, hc, hp, ⟨p1, p2, p3⟩, q⟩ := h
  obtain ⟨a, xs, c1, c2, c3, c4⟩ := cls_at A.B hc
  refine q_asgP (ep_watched A.A (ev_ixL (j := 1) (ev_var rfl) ev_c A.B.s rfl) (ev_var rfl) hp) fun b H1 e1 h1 => ?_
  refine q_asg (ev_ixL (j := n) (ev_ixL (j := 3) (ev_var rfl) ev_c (e1 _ _ A.B.s) rfl) (ev_var rfl) (e1 _ _ c1) c3) fun H2 e2 => ?_
  have e12 := e1.trans e2
  have h2 := e2 _ _ h1
  have c5 := e12 _ _ c4
  refine q_when (b := false) (et_is (et_or (a := false) (b := false) (et_is (et_not (et_B (ev_isi (ev_var rfl) (fun H' e' => ty_tup (e' _ _ h2)) kit_tt))) rfl) fun _ => et_is (et_B (ev_cmp (ev_lenT (ev_var rfl) h2) (ev_min2 ev_c (ev_lenT (ev_var rfl) c5)))) ?_) rfl) (fun z => nomatch z) (fun _ H3 e3 => ?_)
  · have e : ((min 2 c.length : Nat) : Int) = if (c.length : Int) < 2 then (c.length : Int) else 2 := by split <;> omega
    rw [List.length_map, List.length_map, p2, e]
    simp
  have h3 := e3 _ _ h2
  have c6 := e3 _ _ c5
  have hpl : p.length ≤ 2 := by rw [p2]; exact Nat.min_le_left _ _
  have eL : EvL (tLc (iTup K (tVar 2)) (gName 4) (tOr (tNot (tB (tCall (sp_law_whole K) [] E0 (tCons (tVar 4) tNil)))) (tTest (tOp (rIn K true) (tVar 4) (tVar 3)))) (tVar 4) [4]) [some (.ref S.s), some (.int (n : Int)), some (.ref b), some (.ref a), none] H3 [] := by
    refine el_is (el_lcGT V.int p (fun _ => false) V.int (ev_var rfl) h3 (by omega) (fun x => rfl) (fun x hx => et_is (et_or (a := false) (b := false) (et_is (et_not (et_B (ev_call (ea_cons (ev_var rfl) ea_nil) spv_whole))) rfl) fun _ => et_test (ev_is (ev_inT (ev_var rfl) (ev_var rfl) c6) ?_)) rfl) (fun x hx z => by cases z)) ?_
    · rw [decide_eq_true (p3 x hx)]
      rfl
    · rw [List.filter_eq_nil_iff.mpr (fun _ _ => by decide)]
      rfl
  refine q_when (b := false) (et_is (et_B (ev_cmp (ev_lenN eL) ev_c)) rfl) (fun z => nomatch z) (fun _ H4 e4 => ?_)
  have h4 := e4 _ _ h3
  refine s_ret (ev_is (ev_orV (a := decide (p.length < 2)) (b := true) (ev_is (ev_cmp (ev_lenT (ev_var rfl) h4) ev_c) ?_) fun hf => ?_) (by rw [Bool.or_true])) fun H5 e5 => q H5 (((e12.trans e3).trans e4).trans e5)
  · rw [List.length_map]
    congr 1
    rw [Bool.eq_iff_iff]
    simp
    omega
  · have hf' := of_decide_eq_false hf
    match p, hpl, hf', p1, h4 with
    | [u, v], _, _, p1, h4 =>
      refine ev_is (ev_cmp (ev_ixT (j := 0) (ev_var rfl) ev_c h4 rfl) (ev_ixT (j := 1) (ev_var rfl) ev_c h4 rfl)) ?_
      have : u ≠ v := by simpa using p1
      simp [this]
    | [], _, hf', _, _ => exact absurd (by simp) hf'
    | [u], _, hf', _, _ => exact absurd (by simp) hf'
theorem ok_law_watched {P : Program} {w : World} {K : PySem.W.Frag} {mg : Str → Option Value} {base : Heap} (T : Tx K mg) : FnX P w K mg base 2 (He.fAd K ("_law_watched", none)) ps_law_watched (sp_law_watched K) := by
  obtain ⟨_, F_Watching_watched, B_Watching_watched⟩ := ok_Watching_watched (P := P) (w := w) (base := base) T
  obtain ⟨_, F_law_whole, B_law_whole⟩ := ok_law_whole (P := P) (w := w) (base := base) T
  obtain ⟨fd, F⟩ := T.fun_law_watched
  refine ⟨fd, F.ok sc_law_watched (fun vs H Q E h => len_law_watched h) (fun cdv A outer s H vs Q E hr h => ⟨t_law_watched K, PSs.nox (der_law_watched T F_Watching_watched B_Watching_watched F_law_whole B_law_whole hr (hu_of hr)), pure_law_watched T h⟩), F.bindsN fun _ _ _ _ _ _ us hl => match us, hl with | [_, _], _ => rfl⟩
theorem spv_watched {s : Addr} {T : Tr} {W : Wt} {fl : Bool} {lk : List Int} {F : Addr → Prop} {n : Nat} {c p : List Int} (A : WS K s T W fl lk F H) (hc : W.cls[n]? = some c) (hp : W.prs[n]? = some p) (h : PairC c p) : SpV (sp_law_watched K) [.ref s, .int (n : Int)] H (.bl true) := fun H1 e1 Q q E => ⟨s, T, W, fl, lk, F, n, c, p, rfl, A.ex e1, hc, hp, h, q⟩
/-! ### stands -/
theorem ev_list2 {ns : List Int} (ha : EvL ta σ H (ns.map V.int)) (hb : EvL tb σ H (ns.map V.int)) (hl : ns.length ≤ 10000) : Ev (tCall (sp_law_list K) [] E0 (tCons ta (tCons tb tNil))) σ H (.bl true) := fun H1 e Q q =>
  ha H1 e _ fun p H2 hp e2 h2 => hb H2 (e.trans e2) _ fun p' H3 hp' e3 h3 => ⟨p, p', ns, rfl, e3 _ _ h2, h3, hl, fun H4 e4 => q H4 ((e2.trans e3).trans e4)⟩
theorem ev_alike (ha : Ev ta σ H v) (hb : Ev tb σ H v) (hv : v = .non ∨ ∃ i, v = .int i) : Ev (tCall (sp_law_alike K) [] E0 (tCons ta (tCons tb tNil))) σ H (.bl true) := ev_call (ea_cons ha (ea_cons hb ea_nil)) fun H1 e1 Q q E => ⟨v, rfl, hv, q⟩
theorem spl_literals {L : TL} {T : Tr} (A : TAt (CT K) L T H) : SpL (sp_Trail_literals K) [.ref L.t] H (T.rows.map fun r => .int r.lit) := fun H1 e1 Q q E => ⟨L, T, rfl, A.ex e1, q⟩
theorem spl_sizes {L : TL} {T : Tr} (A : TAt (CT K) L T H) (h1 : ∀ r ∈ T.rows, r.lev ≤ T.depth) (h2 : T.depth ≤ 1000) : SpL (sp_Trail_sizes K) [.ref L.t] H ((List.range (T.depth + 1)).map fun l => V.int (cntEq T.rows l : Nat)) := fun H1 e1 Q q E => ⟨L, T, rfl, A.ex e1, h1, h2, q⟩
theorem spv_level {L : TL} {T : Tr} {x : Int} (A : TAt (CT K) L T H) (hx : (x.natAbs : Int) ∈ T.known) : SpV (sp_Trail_level_of K) [.ref L.t, .int x] H (levOf T.rows x) := fun H1 e1 Q q E => ⟨L, T, x, rfl, A.ex e1, hx, q⟩
theorem spv_reason {L : TL} {T : Tr} {x : Int} (A : TAt (CT K) L T H) (hx : (x.natAbs : Int) ∈ T.known) : SpV (sp_Trail_reason_of K) [.ref L.t, .int x] H (rsOf T.rows x) := fun H1 e1 Q q E => ⟨L, T, x, rfl, A.ex e1, hx, q⟩
theorem lev_row {T : Tr} (ok : T.Ok) {r : Row} (hr : r ∈ T.rows) : levOf T.rows r.lit = .int (r.lev : Int) ∧ rsOf T.rows r.lit = rsV r.rs := by
  obtain ⟨k, hk⟩ := look_of ok.nd hr rfl
  unfold levOf rsOf
  rw [hk]
  exact ⟨rfl, rfl⟩
theorem Tr.Ok.dle {T : Tr} (ok : T.Ok) : T.depth ≤ T.rows.length := by
  have := nodup_lenG (l := (List.range T.depth).map (· + 1)) (m := T.rows.map Row.lev) ?_ fun x hx => ?_
  · rw [List.length_map, List.length_map, List.length_range] at this
    exact this
  · refine List.Pairwise.map _ (fun a b h => ?_) (List.pairwise_lt_range (n := T.depth))
    omega
  · obtain ⟨i, hi, rfl⟩ := List.mem_map.mp hx
    have := List.mem_range.mp hi
    obtain ⟨r, hr, e⟩ := ok.lv (i + 1) (by omega) (by omega)
    exact List.mem_map.mpr ⟨r, hr, e⟩
theorem tyv_l {p : Addr} {xs : List V} (h : H p = some (.lst xs)) : tyV K "list" (.ref p) H := Or.inl ⟨rfl, xs, sq_of h⟩
def sp_law_stands (K : PySem.W.Frag) : Sp := fun vs H Q _ => ∃ (s : Addr) (T : Tr) (W : Wt) (fl : Bool) (lk : List Int) (F : Addr → Prop), vs = [.ref s] ∧ WS K s T W fl lk F H ∧ T.Ok ∧ ∀ H', Ex H H' → Q (.bl true) H'
abbrev N_law_stands : List Str := ["seat", "trail", "rows", "depth", "levels", "row", "level"]
theorem sc_law_stands : FnScope N_law_stands ["seat"] (defScope s_law_stands) := ⟨rfl, rfl, rfl, by decide +kernel, rfl, by decide +kernel, by decide +kernel⟩
def t_law_stands (K : PySem.W.Frag) : TS := (tSeq (tAsg (tOp (rIxL K) (tVar 0) (tC (.int 0))) (gName 1))
    (tSeq (tAsg (tOp (rIxL K) (tVar 0) (tC (.int 6))) (gName 2))
    (tSeq (tAsg (tCall (sp_law_depth K) [] E0 (tCons (tVar 0) tNil)) (gName 3))
    (tSeq (tAsg (tLc (iList K (tVar 2)) (gName 5) tYes (tOp (rIxT K) (tVar 5) (tC (.int 1))) [5]) (gName 4))
    (tSeq (tIfS (tNot (tB (tCall (sp_law_list K) [] E0 (tCons (tMeth (He.ga K "Trail") "literals" (sp_Trail_literals K) [] E0 (tVar 1) tNil) (tCons (tLc (iList K (tVar 2)) (gName 5) tYes (tOp (rIxT K) (tVar 5) (tC (.int 0))) [5]) tNil))))) (tRet (tC (.bl false))) tNext)
    (tSeq (tIfS (tNot (tB (tCall (sp_law_list K) [] E0 (tCons (tMeth (He.ga K "Trail") "sizes" (sp_Trail_sizes K) [] E0 (tVar 1) tNil) (tCons (tLc (iRng1 (tCons (tOp rAddR (tVar 3) (tC (.int 1))) tNil)) (gName 6) tYes (tBM K "list" (rCntI K) (tVar 4) (tCons (tVar 6) tNil)) [6]) tNil))))) (tRet (tC (.bl false))) tNext)
    (tSeq (tFor (iList K (tVar 2)) (gName 5) (tIfS (tOr (tNot (tB (tCall (sp_law_alike K) [] E0 (tCons (tMeth (He.ga K "Trail") "level_of" (sp_Trail_level_of K) [] E0 (tVar 1) (tCons (tOp (rIxT K) (tVar 5) (tC (.int 0))) tNil)) (tCons (tOp (rIxT K) (tVar 5) (tC (.int 1))) tNil))))) (tNot (tB (tCall (sp_law_alike K) [] E0 (tCons (tMeth (He.ga K "Trail") "reason_of" (sp_Trail_reason_of K) [] E0 (tVar 1) (tCons (tOp (rIxT K) (tVar 5) (tC (.int 0))) tNil)) (tCons (tOp (rIxT K) (tVar 5) (tC (.int 2))) tNil)))))) (tRet (tC (.bl false))) tNext))
    (tRet (tC (.bl true))))))))))
set_option maxHeartbeats 4000000 in
theorem der_law_stands {P : Program} {w : World} {K : PySem.W.Frag} {mg : Str → Option Value} {base : Heap} {f : Addr} {cdv : Value} {A : Around} {outer : List Env} {s : Shared} {H : Hp} {E : XK} (T : Tx K mg) {fd_law_depth : FuncData} (F_law_depth : FnOk P w K mg base CX0 1 (He.fAd K ("_law_depth", none)) fd_law_depth ps_law_depth (sp_law_depth K)) (B_law_depth : Binds K fd_law_depth ps_law_depth []) {fd_law_list : FuncData} (F_law_list : FnOk P w K mg base CX0 2 (He.fAd K ("_law_list", none)) fd_law_list ps_law_list (sp_law_list K)) (B_law_list : Binds K fd_law_list ps_law_list []) {fd_Trail_literals : FuncData} (F_Trail_literals : FnOk P w K mg base CX0 1 (He.fAd K ("Trail", some "literals")) fd_Trail_literals ps_Trail_literals (sp_Trail_literals K)) (B_Trail_literals : Binds K fd_Trail_literals ps_Trail_literals []) {fd_Trail_sizes : FuncData} (F_Trail_sizes : FnOk P w K mg base CX0 1 (He.fAd K ("Trail", some "sizes")) fd_Trail_sizes ps_Trail_sizes (sp_Trail_sizes K)) (B_Trail_sizes : Binds K fd_Trail_sizes ps_Trail_sizes []) {fd_law_alike : FuncData} (F_law_alike : FnOk P w K mg base CX0 2 (He.fAd K ("_law_alike", none)) fd_law_alike ps_law_alike (sp_law_alike K)) (B_law_alike : Binds K fd_law_alike ps_law_alike []) {fd_Trail_level_of : FuncData} (F_Trail_level_of : FnOk P w K mg base CX0 2 (He.fAd K ("Trail", some "level_of")) fd_Trail_level_of ps_Trail_level_of (sp_Trail_level_of K)) (B_Trail_level_of : Binds K fd_Trail_level_of ps_Trail_level_of []) {fd_Trail_reason_of : FuncData} (F_Trail_reason_of : FnOk P w K mg base CX0 2 (He.fAd K ("Trail", some "reason_of")) fd_Trail_reason_of ps_Trail_reason_of (sp_Trail_reason_of K)) (B_Trail_reason_of : Binds K fd_Trail_reason_of ps_Trail_reason_of []) (hr : Room 2 (A.deeper (envOfC "_law_stands" (defScope s_law_stands) s.heap.objs.size f cdv))) (hu : (A.deeper (envOfC "_law_stands" (defScope s_law_stands) s.heap.objs.size f cdv)).units + 1 < cLine) :
    PSs (cxOf CX0 P w K mg base N_law_stands "_law_stands" (defScope s_law_stands) f cdv A outer s H E).nox (defBody s_law_stands) (t_law_stands K) := by
  exact (pss_cons (ps_set (i := 1) sc_law_stands.nd rfl (Or.inl rfl) (pe_ix ix_list (pv 0) pe_int (fun _ _ => rfl)))
    (pss_cons (ps_set (i := 2) sc_law_stands.nd rfl (Or.inl rfl) (pe_ix ix_list (pv 0) pe_int (fun _ _ => rfl)))
    (pss_cons (ps_set (i := 3) sc_law_stands.nd rfl (Or.inl rfl) (pe_call F_law_depth (hr.mono (by decide)) rfl T.g_law_depth T.k_law_depth B_law_depth .nil pass0 (pa_cons (pv 0) pa_nil)))
    (pss_cons (ps_set (i := 4) sc_law_stands.nd rfl (Or.inr rfl) (pe_lc (own := [("row", 5)]) (g := gName 5) rfl sc_law_stands.nd (pi_list (pv 2)) (blkOk_by (N := N_law_stands) (sc := defScope s_law_stands) (by decide +kernel)) (fun _ _ _ _ _ => pg_name (i := 5) sc_law_stands.nd rfl (Or.inl rfl)) (fun _ _ _ _ _ => pts_nil) (fun _ _ _ _ _ => (pe_ix ix_tup (pv 5) pe_int (fun _ _ => rfl)))))
    (pss_cons (ps_if (pt_not (pt_val (pe_call F_law_list (hr.mono (by decide)) rfl T.g_law_list T.k_law_list B_law_list .nil pass0 (pa_cons (pe_meth0 (pv 1) T.cl_Trail T.m_Trail_literals F_Trail_literals (hr.mono (by decide)) B_Trail_literals .nil pass0) (pa_cons (pe_lc (own := [("row", 5)]) (g := gName 5) rfl sc_law_stands.nd (pi_list (pv 2)) (blkOk_by (N := N_law_stands) (sc := defScope s_law_stands) (by decide +kernel)) (fun _ _ _ _ _ => pg_name (i := 5) sc_law_stands.nd rfl (Or.inl rfl)) (fun _ _ _ _ _ => pts_nil) (fun _ _ _ _ _ => (pe_ix ix_tup (pv 5) pe_int (fun _ _ => rfl)))) pa_nil))))) (pss_one (ps_ret pe_bl)) pss_nil)
    (pss_cons (ps_if (pt_not (pt_val (pe_call F_law_list (hr.mono (by decide)) rfl T.g_law_list T.k_law_list B_law_list .nil pass0 (pa_cons (pe_meth0 (pv 1) T.cl_Trail T.m_Trail_sizes F_Trail_sizes (hr.mono (by decide)) B_Trail_sizes .nil pass0) (pa_cons (pe_lc (own := [("level", 6)]) (g := gName 6) rfl sc_law_stands.nd (pi_range1 rfl T.f_range (pa_cons (pe_op op_add (pv 3) pe_int) pa_nil)) (blkOk_by (N := N_law_stands) (sc := defScope s_law_stands) (by decide +kernel)) (fun _ _ _ _ _ => pg_name (i := 6) sc_law_stands.nd rfl (Or.inl rfl)) (fun _ _ _ _ _ => pts_nil) (fun _ _ _ _ _ => (pe_bm PySem.F.plainAttrs_list PySem.F.slot_list_count PySem.F.type_list_count mt_lcount (pv 4) (pa_cons (pv 6) pa_nil)))) pa_nil))))) (pss_one (ps_ret pe_bl)) pss_nil)
    (pss_cons (ps_for PassesOwn.never rfl (pi_list (pv 2)) (pg_name (i := 5) sc_law_stands.nd rfl (Or.inl rfl)) (pss_one (ps_if (PW.pt (pw_or (pt_not (pt_val (pe_call F_law_alike (hr.mono (by decide)) rfl T.g_law_alike T.k_law_alike B_law_alike .nil pass0 (pa_cons (pe_meth (pv 1) T.cl_Trail T.m_Trail_level_of F_Trail_level_of (hr.mono (by decide)) B_Trail_level_of .nil pass0 (pa_cons (pe_ix ix_tup (pv 5) pe_int (fun _ _ => rfl)) pa_nil)) (pa_cons (pe_ix ix_tup (pv 5) pe_int (fun _ _ => rfl)) pa_nil))))) (pw_or1 (pt_not (pt_val (pe_call F_law_alike (hr.mono (by decide)) rfl T.g_law_alike T.k_law_alike B_law_alike .nil pass0 (pa_cons (pe_meth (pv 1) T.cl_Trail T.m_Trail_reason_of F_Trail_reason_of (hr.mono (by decide)) B_Trail_reason_of .nil pass0 (pa_cons (pe_ix ix_tup (pv 5) pe_int (fun _ _ => rfl)) pa_nil)) (pa_cons (pe_ix ix_tup (pv 5) pe_int (fun _ _ => rfl)) pa_nil)))))))) (pss_one (ps_ret pe_bl)) pss_nil)))
    (pss_one (ps_ret pe_bl)))))))))
theorem len_law_stands (h : sp_law_stands K vs H Q E) : vs.length = 1 := by
  obtain ⟨_, _, _, _, _, _, rfl, _⟩ := h
  rfl
theorem count_lev (rows : List Row) (l : Nat) : (rows.map fun r => (r.lev : Int)).count (l : Int) = cntEq rows l := by
  unfold cntEq List.count
  rw [List.countP_map]
  apply List.countP_congr
  intro r _
  simp only [Function.comp, beq_iff_eq, decide_eq_true_eq]
  omega
theorem pure_law_stands (T : Tx K mg) (h : sp_law_stands K vs H Q E) : t_law_stands K { nx := fun _ H' => Q .non H', rt := Q } (start N_law_stands vs) H := by
  obtain ⟨s, Tr, W, fl, lk, F, rfl, A0, ok, q⟩ := h
  obtain ⟨L, M, S, rfl, rfl, A⟩ := id A0
  obtain ⟨xs, r1, r2, r3⟩ := A.B.rw'
  have hl := rows_len ok r2
  have hl2 := ok.weak.rl
  have hd := ok.dle
  refine q_asg (ev_ixL (j := 0) (ev_var rfl) ev_c A.B.s rfl) fun H1 e1 => ?_
  refine q_asg (ev_ixL (j := 6) (ev_var rfl) ev_c (e1 _ _ A.B.s) rfl) fun H2 e2 => ?_
  have e12 := e1.trans e2
  refine q_asg (ev_call (ea_cons (ev_var rfl) ea_nil) (spv_depth (A0.ex e12) ok)) fun H3 e3 => ?_
  have e13 := e12.trans e3
  refine q_asgL (xs := Tr.rows.map fun r => V.int (r.lev : Int)) (by rw [r2]; exact el_col (i := 1) 1 (ev_var rfl) (e13 _ _ r1) (fun p hp => e13 _ _ (r3 p hp)) (by omega) (fun x => rfl) (fun x => rfl) rfl (fun r => .int (r.lev : Int)) fun r => rfl) fun pl H4 hpl e4 h4 => ?_
  have e14 := e13.trans e4
  have A4 := A.ex e14
  have lits : EvL (tLc (iList K (tVar 2)) (gName 5) tYes (tOp (rIxT K) (tVar 5) (tC (.int 0))) [5]) [some (.ref S.s), some (.ref L.t), some (.ref S.rw), some (.int (Tr.depth : Int)), some (.ref pl), none, none] H4 ((Tr.rows.map fun r => r.lit).map V.int) := by
    rw [r2]
    refine el_is (el_col (i := 0) 0 (ev_var rfl) (e14 _ _ r1) (fun p hp => e14 _ _ (r3 p hp)) (by omega) (fun x => rfl) (fun x => rfl) rfl (fun r => .int r.lit) fun r => rfl) ?_
    rw [List.map_map, List.map_map, List.map_map]
    rfl
  refine q_when (b := false) (et_is (et_not (et_B (ev_list2 (el_is (el_meth (ev_var rfl) A4.A.t.ob rfl ea_nil (spl_literals A4.A.t)) (by rw [List.map_map]; rfl)) lits (by rw [List.length_map]; omega)))) rfl) (fun z => nomatch z) (fun _ H5 e5 => ?_)
  have A5 := A4.ex e5
  refine q_when (b := false) (et_is (et_not (et_B (ev_list2 (ns := (List.range (Tr.depth + 1)).map fun l => ((cntEq Tr.rows l : Nat) : Int)) (el_is (el_meth (ev_var rfl) A5.A.t.ob rfl ea_nil (spl_sizes A5.A.t ok.le (by omega))) (by rw [List.map_map]; rfl)) (el_is (el_lcR1 (n := (Tr.depth : Int) + 1) (fun _ => true) (fun l => V.int ((cntEq Tr.rows l : Nat) : Int)) (ea_cons (ev_add (ev_var rfl) ev_c) ea_nil) ⟨by omega, by omega⟩ (fun x => rfl) (fun i H6 e6 _ => et_yes) (fun i H6 e6 _ _ => ?_)) ?_) ?_))) rfl) (fun z => nomatch z) (fun _ H6 e6 => ?_)
  · have h6 := e6 _ _ (e5 _ _ h4)
    intro H7 e7 Q' q'
    have h7 := e7 _ _ h6
    refine ⟨_, rfl, tyv_l h7, _, rfl, pl, Tr.rows.map fun r => (r.lev : Int), (i : Int), rfl, rfl, ?_, ?_⟩
    · rw [List.map_map]
      exact sq_of h7
    · rw [count_lev]
      exact q' H7 (Ex.refl H7)
  · rw [given_all]
    have : ((Tr.depth : Int) + 1).toNat = Tr.depth + 1 := by omega
    rw [this, List.map_map]
    rfl
  · rw [List.length_map, List.length_range]
    omega
  · have e16 := (e14.trans e5).trans e6
    refine q_forLn (ev_var rfl) (sq_of (e16 _ _ r1)) (fun i σ' H' => (∃ u, σ' = [some (.ref S.s), some (.ref L.t), some (.ref S.rw), some (.int (Tr.depth : Int)), some (.ref pl), u, none]) ∧ Ex H H') (fun H7 e7 => ⟨⟨none, rfl⟩, e16.trans e7⟩) (fun i σ' H' _ w => sq_of (w.2 _ _ r1)) (fun i v σ' H' hi w => ?_) (fun σ' H' w => ?_)
    · obtain ⟨⟨u, rfl⟩, e⟩ := w
      rw [List.getElem?_map] at hi
      obtain ⟨p, hp, rfl⟩ := Option.map_eq_some_iff.mp hi
      have hpm := List.mem_of_getElem? hp
      have hrm : p.1 ∈ Tr.rows := by rw [r2]; exact List.mem_map.mpr ⟨p, hpm, rfl⟩
      have hrow := e _ _ (r3 p hpm)
      have A7 := A.ex e
      obtain ⟨l1, l2⟩ := lev_row ok hrm
      have hk : (p.1.lit.natAbs : Int) ∈ Tr.known := ok.mem p.1 hrm
      have c0 : Ev (tOp (rIxT K) (tVar 5) (tC (.int 0))) [some (.ref S.s), some (.ref L.t), some (.ref S.rw), some (.int (Tr.depth : Int)), some (.ref pl), some (.ref p.2), none] H' (.int p.1.lit) := ev_ixT (j := 0) (ev_var rfl) ev_c hrow rfl
      refine s_when (b := false) (et_is (et_or (a := false) (b := false) (et_is (et_not (et_B (ev_alike (v := .int (p.1.lev : Int)) (ev_is (ev_meth (ev_var rfl) A7.A.t.ob rfl (ea_cons c0 ea_nil) (spv_level A7.A.t hk)) l1) (ev_ixT (j := 1) (ev_var rfl) ev_c hrow rfl) (.inr ⟨_, rfl⟩)))) rfl)
        fun _ => et_is (et_not (et_B (ev_alike (v := rsV p.1.rs) (ev_is (ev_meth (ev_var rfl) A7.A.t.ob rfl (ea_cons c0 ea_nil) (spv_reason A7.A.t hk)) l2) (ev_ixT (j := 2) (ev_var rfl) ev_c hrow rfl) ?_))) rfl) rfl) (fun z => nomatch z) (fun _ H8 e8 => ⟨⟨_, rfl⟩, e.trans e8⟩)
      cases p.1.rs with
      | none => exact .inl rfl
      | some n => exact .inr ⟨_, rfl⟩
    · obtain ⟨⟨u, rfl⟩, e⟩ := w
      exact s_ret ev_c fun H7 e7 => q H7 (e.trans e7)
theorem ok_law_stands {P : Program} {w : World} {K : PySem.W.Frag} {mg : Str → Option Value} {base : Heap} (T : Tx K mg) : FnX P w K mg base 3 (He.fAd K ("_law_stands", none)) ps_law_stands (sp_law_stands K) := by
  obtain ⟨_, F_law_depth, B_law_depth⟩ := ok_law_depth (P := P) (w := w) (base := base) T
  obtain ⟨_, F_law_list, B_law_list⟩ := ok_law_list (P := P) (w := w) (base := base) T
  obtain ⟨_, F_Trail_literals, B_Trail_literals⟩ := ok_Trail_literals (P := P) (w := w) (base := base) T
  obtain ⟨_, F_Trail_sizes, B_Trail_sizes⟩ := ok_Trail_sizes (P := P) (w := w) (base := base) T
  obtain ⟨_, F_law_alike, B_law_alike⟩ := ok_law_alike (P := P) (w := w) (base := base) T
  obtain ⟨_, F_Trail_level_of, B_Trail_level_of⟩ := ok_Trail_level_of (P := P) (w := w) (base := base) T
  obtain ⟨_, F_Trail_reason_of, B_Trail_reason_of⟩ := ok_Trail_reason_of (P := P) (w := w) (base := base) T
  obtain ⟨fd, F⟩ := T.fun_law_stands
  refine ⟨fd, F.ok sc_law_stands (fun vs H Q E h => len_law_stands h) (fun cdv A outer s H vs Q E hr h => ⟨t_law_stands K, PSs.nox (der_law_stands T F_law_depth B_law_depth F_law_list B_law_list F_Trail_literals B_Trail_literals F_Trail_sizes B_Trail_sizes F_law_alike B_law_alike F_Trail_level_of B_Trail_level_of F_Trail_reason_of B_Trail_reason_of hr (hu_of hr)), pure_law_stands T h⟩), F.bindsN fun _ _ _ _ _ _ us hl => match us, hl with | [_], _ => rfl⟩
theorem spv_stands {s : Addr} {T : Tr} {W : Wt} {fl : Bool} {lk : List Int} {F : Addr → Prop} (A : WS K s T W fl lk F H) (ok : T.Ok) : SpV (sp_law_stands K) [.ref s] H (.bl true) := fun H1 e1 Q q E => ⟨s, T, W, fl, lk, F, rfl, A.ex e1, ok, q⟩
end
end TW

set_option Elab.async false
set_option linter.all false
set_option maxRecDepth 100000
set_option maxHeartbeats 1000000
namespace TW
open PySem PySem.Spec PyProof.Rows L2 Evl
/-! ### the dict of levels -/
def lvK (rows : List Row) : List (Key × V) := rows.map fun r => (Sum.inl r.lit, V.int (r.lev : Int))
theorem nd_lit {rows : List Row} (nd : (rows.map Row.ab).Nodup) {r s : Row} (hr : r ∈ rows) (hs : s ∈ rows) (e : r.lit = s.lit) : r = s := nd_eq nd hr hs (by show (r.lit.natAbs : Int) = (s.lit.natAbs : Int); rw [e])
theorem lv_some {rows : List Row} (nd : (rows.map Row.ab).Nodup) {r : Row} (hr : r ∈ rows) : valV (lvK rows) (Sum.inl r.lit) = some (.int (r.lev : Int)) := by
  induction rows with
  | nil => cases hr
  | cons a t ih =>
    obtain ⟨h1, h2⟩ := List.nodup_cons.mp (show (a.ab :: t.map Row.ab).Nodup from nd)
    unfold lvK valV at ih ⊢
    rw [List.map_cons, List.find?_cons]
    by_cases h : a.lit = r.lit
    · have e : a = r := nd_lit nd List.mem_cons_self hr h
      subst e
      rw [decide_eq_true rfl]
      rfl
    · have h3 : ¬ (Sum.inl a.lit : Key) = Sum.inl r.lit := fun z => h (Sum.inl.inj z)
      rw [decide_eq_false h3]
      rcases List.mem_cons.mp hr with rfl | hr2
      · exact (h rfl).elim
      · exact ih h2 hr2
theorem lv_none {rows : List Row} {x : Int} (h : ¬ On rows x) : valV (lvK rows) (Sum.inl x) = none := by
  induction rows with
  | nil => rfl
  | cons a t ih =>
    unfold lvK valV at ih ⊢
    rw [List.map_cons, List.find?_cons]
    have h1 : ¬ a.lit = x := fun e => h ⟨a, List.mem_cons_self, e⟩
    have h3 : ¬ (Sum.inl a.lit : Key) = Sum.inl x := fun z => h1 (Sum.inl.inj z)
    rw [decide_eq_false h3]
    exact ih fun ⟨r, hr, e⟩ => h ⟨r, List.mem_cons_of_mem _ hr, e⟩
theorem lv_is {rows : List Row} (nd : (rows.map Row.ab).Nodup) {x : Int} : (valV (lvK rows) (Sum.inl x)).isSome = true ↔ On rows x := by
  constructor
  · intro h
    by_cases q : On rows x
    · exact q
    · rw [lv_none q] at h
      cases h
  · rintro ⟨r, hr, rfl⟩
    rw [lv_some nd hr]
    rfl
def PairOk (rows : List Row) (x y : Int) : Prop := (∀ r ∈ rows, r.lit = -x → OnL rows y r.lev) ∧ ∀ r ∈ rows, r.lit = -y → OnL rows x r.lev
section
variable {K : PySem.W.Frag} {mg : Str → Option Value} {vs : List V} {H H' : Hp} {Q : VK} {E : XK} {σ : L2.St} {ta tb te tl td ty : TE} {x y v : V} {D : Ends} {tz : TS} {tc : TT} {tu tw : TS}
theorem ev_dget {a : Addr} {kvs : List (Key × V)} {k : Key} (hd : Ev td σ H (.ref a)) (hy : Ev ty σ H (kV k)) (ha : H a = some (.dK kvs)) (hv : valV kvs k = some v) : Ev (tDGet td ty) σ H v := fun H1 e Q q =>
  hd H1 e _ fun H2 e2 => hy H2 (e.trans e2) _ fun H3 e3 => ⟨a, v, rfl, by rw [← hv]; exact DGet.k (((e.trans e2).trans e3) a _ ha), q H3 (e2.trans e3)⟩
theorem q_asgD {i : Nat} {kvs : List (Key × V)} (h : EvD te σ H kvs) (k : ∀ p H1, H p = none → Ex H H1 → H1 p = some (.dK kvs) → tz D (σ.set i (some (.ref p))) H1) : tSeq (tAsg te (gName i)) tz D σ H := h H (Ex.refl H) _ k
theorem q_setLL {l : Addr} {xs ys : List V} {j : Nat} (hl : H l = some (.lst xs)) (h : EvL te σ H ys) (ho : Ev ta σ H (.ref l)) (hi : Ev tb σ H (.int (j : Int))) (hj : j < xs.length)
    (k : ∀ p H1, H p = none → Ex H H1 → H1 p = some (.lst ys) → tz D σ (upd H1 l (.lst (xs.set j (.ref p))))) : tSeq (tAsg te (gSub ta tb rSetL)) tz D σ H := h H (Ex.refl H) _ fun p H1 hp e1 h1 => ho H1 e1 _ fun H2 e2 => hi H2 (e1.trans e2) _ fun H3 e3 =>
  ⟨l, xs, (j : Int), j, rfl, rfl, ((e1.trans e2).trans e3) l _ hl, ixN_nat hj, k p H3 hp ((e1.trans e2).trans e3) (e3 p _ (e2 p _ h1))⟩
/-! ### pair -/
def sp_law_pair (K : PySem.W.Frag) : Sp := fun vs H Q _ => ∃ (d a : Addr) (rows : List Row) (x y : Int), vs = [.ref d, .ref a] ∧ H d = some (.dK (lvK rows)) ∧ H a = some (.tup [.int x, .int y]) ∧ (rows.map Row.ab).Nodup ∧ PairOk rows x y ∧ ∀ H', Ex H H' → Q (.bl true) H'
abbrev N_law_pair : List Str := ["levels", "pair", "k"]
theorem sc_law_pair : FnScope N_law_pair ["levels", "pair"] (defScope s_law_pair) := ⟨rfl, rfl, rfl, by decide +kernel, rfl, by decide +kernel, by decide +kernel⟩
def t_law_pair (K : PySem.W.Frag) : TS := (tSeq (tFor (iRng1 (tCons (tC (.int 2)) tNil)) (gName 2) (tIfS (tB (tDIn (tUn rNegR (tOp (rIxT K) (tVar 1) (tVar 2))) (tVar 0))) (tIfS (tOr (tB (tDNotIn (tOp (rIxT K) (tVar 1) (tOp rSubR (tC (.int 1)) (tVar 2))) (tVar 0))) (tB (tGt (tDGet (tVar 0) (tOp (rIxT K) (tVar 1) (tOp rSubR (tC (.int 1)) (tVar 2)))) (tDGet (tVar 0) (tUn rNegR (tOp (rIxT K) (tVar 1) (tVar 2))))))) (tRet (tC (.bl false))) tNext) tNext))
    (tRet (tC (.bl true))))
set_option maxHeartbeats 4000000 in
theorem der_law_pair {P : Program} {w : World} {K : PySem.W.Frag} {mg : Str → Option Value} {base : Heap} {f : Addr} {cdv : Value} {A : Around} {outer : List Env} {s : Shared} {H : Hp} {E : XK} (T : Tx K mg) (hr : Room 0 (A.deeper (envOfC "_law_pair" (defScope s_law_pair) s.heap.objs.size f cdv))) (hu : (A.deeper (envOfC "_law_pair" (defScope s_law_pair) s.heap.objs.size f cdv)).units + 1 < cLine) :
    PSs (cxOf CX0 P w K mg base N_law_pair "_law_pair" (defScope s_law_pair) f cdv A outer s H E).nox (defBody s_law_pair) (t_law_pair K) := by
  exact (pss_cons (ps_for PassesOwn.never rfl (pi_range1 rfl T.f_range (pa_cons pe_int pa_nil)) (pg_name (i := 2) sc_law_pair.nd rfl (Or.inl rfl)) (pss_one (ps_if (pt_cmp (pc_din hu (pe_un un_neg (pe_ix ix_tup (pv 1) (pv 2) (fun _ _ => rfl))) (pv 0))) (pss_one (ps_if (PW.pt (pw_or (pt_cmp (pc_dnotin hu (pe_ix ix_tup (pv 1) (pe_op op_sub pe_int (pv 2)) (fun _ _ => rfl)) (pv 0))) (pw_or1 (pt_cmp (pc_gt (pe_dget hu (pv 0) (pe_ix ix_tup (pv 1) (pe_op op_sub pe_int (pv 2)) (fun _ _ => rfl)) (fun _ _ => rfl)) (pe_dget hu (pv 0) (pe_un un_neg (pe_ix ix_tup (pv 1) (pv 2) (fun _ _ => rfl))) (fun _ _ => rfl))))))) (pss_one (ps_ret pe_bl)) pss_nil)) pss_nil)))
    (pss_one (ps_ret pe_bl)))
theorem len_law_pair (h : sp_law_pair K vs H Q E) : vs.length = 2 := by
  obtain ⟨_, _, _, _, _, rfl, _⟩ := h
  rfl
theorem pure_law_pair (T : Tx K mg) (h : sp_law_pair K vs H Q E) : t_law_pair K { nx := fun _ H' => Q .non H', rt := Q } (start N_law_pair vs) H := by
  obtain ⟨d, a, rows, x, y, rfl, hd, ha, nd, ⟨po1, po2⟩, q⟩ := h
  refine q_forR1 (n := 2) (ea_cons ev_c ea_nil) ⟨by omega, by omega⟩ (fun i σ' H' => (∃ u, σ' = [some (.ref d), some (.ref a), u]) ∧ Ex H H') (fun H1 e1 => ⟨⟨none, rfl⟩, e1⟩) (fun i σ' H' hi w => ?_) (fun σ' H' w => ?_)
  · obtain ⟨⟨u, rfl⟩, e⟩ := w
    have main : ∀ {u v : Int} {i j : Nat}, ([V.int x, V.int y] : List V)[i]? = some (.int u) → ([V.int x, V.int y] : List V)[j]? = some (.int v) → (1 : Int) - (i : Int) = (j : Int) → (∀ r ∈ rows, r.lit = -u → OnL rows v r.lev) →
        tIfS (tB (tDIn (tUn rNegR (tOp (rIxT K) (tVar 1) (tVar 2))) (tVar 0))) (tIfS (tOr (tB (tDNotIn (tOp (rIxT K) (tVar 1) (tOp rSubR (tC (.int 1)) (tVar 2))) (tVar 0))) (tB (tGt (tDGet (tVar 0) (tOp (rIxT K) (tVar 1) (tOp rSubR (tC (.int 1)) (tVar 2)))) (tDGet (tVar 0) (tUn rNegR (tOp (rIxT K) (tVar 1) (tVar 2))))))) (tRet (tC (.bl false))) tNext) tNext
          { nx := fun σ' H' => (∃ u, σ' = [some (.ref d), some (.ref a), u]) ∧ Ex H H', ct := fun σ' H' => (∃ u, σ' = [some (.ref d), some (.ref a), u]) ∧ Ex H H', rt := Q, bk := tRet (tC (.bl true)) { nx := fun _ H' => Q .non H', rt := Q } } [some (.ref d), some (.ref a), some (.int (i : Int))] H' := fun {u v i j} hu hv hij hok => by
      have hd' := e _ _ hd
      have ha' := e _ _ ha
      refine s_when (b := (valV (lvK rows) (Sum.inl (-u))).isSome) (et_B (ev_din (k := Sum.inl (-u)) (ev_neg (ev_ixT (j := i) (ev_var rfl) (ev_var rfl) ha' hu)) (ev_var rfl) hd')) (fun hb H1 e1 => ?_) (fun _ H1 e1 => ⟨⟨_, rfl⟩, e.trans e1⟩)
      obtain ⟨r, hr, hre⟩ := (lv_is nd).mp hb
      obtain ⟨s, hs, hse, hsl⟩ := hok r hr hre
      have vs1 : valV (lvK rows) (Sum.inl v) = some (.int (s.lev : Int)) := by rw [← hse]; exact lv_some nd hs
      have vr1 : valV (lvK rows) (Sum.inl (-u)) = some (.int (r.lev : Int)) := by rw [← hre]; exact lv_some nd hr
      have hd1 := e1 _ _ hd'
      have ha1 := e1 _ _ ha'
      have eo : Ev (tOp (rIxT K) (tVar 1) (tOp rSubR (tC (.int 1)) (tVar 2))) [some (.ref d), some (.ref a), some (.int (i : Int))] H1 (.int v) := ev_ixT (j := j) (ev_var rfl) (ev_is (ev_sub ev_c (ev_var rfl)) (by rw [hij])) ha1 hv
      refine s_when (b := false) (et_is (et_or (a := false) (b := false) (et_is (et_B (ev_dnin (k := Sum.inl v) eo (ev_var rfl) hd1)) (by rw [vs1]; rfl)) fun _ => et_is (et_B (ev_cmp (ev_dget (k := Sum.inl v) (ev_var rfl) eo hd1 vs1) (ev_dget (k := Sum.inl (-u)) (ev_var rfl) (ev_neg (ev_ixT (j := i) (ev_var rfl) (ev_var rfl) ha1 hu)) hd1 vr1))) ?_) rfl) (fun z => nomatch z) (fun _ H2 e2 => ⟨⟨_, rfl⟩, (e.trans e1).trans e2⟩)
      refine decide_eq_false ?_
      omega
    match i, hi with
    | 0, _ => exact main (i := 0) (j := 1) rfl rfl rfl po1
    | 1, _ => exact main (i := 1) (j := 0) rfl rfl rfl po2
    | i + 2, hi => omega
  · obtain ⟨⟨u, rfl⟩, e⟩ := w
    exact s_ret ev_c fun H2 e2 => q H2 (e.trans e2)
theorem ok_law_pair {P : Program} {w : World} {K : PySem.W.Frag} {mg : Str → Option Value} {base : Heap} (T : Tx K mg) : FnX P w K mg base 1 (He.fAd K ("_law_pair", none)) ps_law_pair (sp_law_pair K) := by
  obtain ⟨fd, F⟩ := T.fun_law_pair
  refine ⟨fd, F.ok sc_law_pair (fun vs H Q E h => len_law_pair h) (fun cdv A outer s H vs Q E hr h => ⟨t_law_pair K, PSs.nox (der_law_pair T hr (hu_of hr)), pure_law_pair T h⟩), F.bindsN fun _ _ _ _ _ _ us hl => match us, hl with | [_, _], _ => rfl⟩
/-! ### pairs -/
theorem Full.pairOk {T : Tr} {W : Wt} {n : Nat} {x y : Int} (F : Full T W) (hl : W.live n) (hn : n < W.cls.length) (hp : W.prs[n]? = some [x, y]) : PairOk T.rows x y := by
  have D := F.j.dy
  rw [F.fd] at D
  have hlk : n < W.looked := by rw [F.fl]; exact hn
  refine ⟨fun r hr e => ?_, fun r hr e => ?_⟩
  · obtain ⟨i, hi, rfl⟩ := List.mem_iff_getElem.mp hr
    exact D.wk n _ hlk hl hp x y (.inl rfl) i _ hi (List.getElem?_eq_getElem hi) e
  · obtain ⟨i, hi, rfl⟩ := List.mem_iff_getElem.mp hr
    exact D.wk n _ hlk hl hp y x (.inr rfl) i _ hi (List.getElem?_eq_getElem hi) e
theorem two_of {p : List Int} (h : p.length = 2) : ∃ x y, p = [x, y] := by
  match p, h with
  | [x, y], _ => exact ⟨x, y, rfl⟩
/-- in a full world a clause has a literal that is not false, and a true one if it has but one such -/
theorem Full.left {T : Tr} {W : Wt} {n : Nat} {c : List Int} (F : Full T W) (hl : W.live n) (hc : W.cls[n]? = some c) {f : Int → Bool} (hf : ∀ x, f x = true ↔ ¬ On T.rows (-x)) : c.filter f ≠ [] ∧ ∀ x, c.filter f = [x] → On T.rows x := by
  have wo := F.j.wo
  have hn := (List.getElem?_eq_some_iff.mp hc).1
  have nd := F.j.ok.nd
  by_cases h2 : c.length < 2
  · obtain ⟨x, rfl, h3⟩ := F.fs n c hl hc h2
    have xk := (wo.ck n _ hc).1 x List.mem_cons_self
    have xne := ok_ne F.j.ok xk
    have hx : f x = true := (hf x).mpr fun z => on_both nd xne h3.on z
    rw [List.filter_cons, if_pos hx]
    refine ⟨fun z => (nomatch z), fun y hy => ?_⟩
    have : x = y := (List.cons.inj hy).1
    rw [← this]
    exact h3.on
  · obtain ⟨p, hp⟩ : ∃ p, W.prs[n]? = some p := ⟨_, List.getElem?_eq_getElem (by rw [wo.lp]; exact hn)⟩
    obtain ⟨p1, p2, p3⟩ := wo.pp n c p hc hp
    obtain ⟨x, y, rfl⟩ := two_of (by omega : p.length = 2)
    have po := F.pairOk hl hn hp
    have hxy : x ≠ y := by simpa using p1
    have hxc := p3 x List.mem_cons_self
    have hyc := p3 y (List.mem_cons_of_mem _ List.mem_cons_self)
    have xne := ok_ne F.j.ok ((wo.ck n _ hc).1 x hxc)
    have yne := ok_ne F.j.ok ((wo.ck n _ hc).1 y hyc)
    have key : ∀ {u v : Int}, u ∈ c → v ∈ c → v ≠ 0 → (∀ r ∈ T.rows, r.lit = -u → OnL T.rows v r.lev) → On T.rows (-u) → c.filter f ≠ [] ∧ ∀ x, c.filter f = [x] → On T.rows x := fun {u v} hu hv vne ho hon => by
      obtain ⟨r, hr, hre⟩ := hon
      have hvo := (ho r hr hre).on
      have hvm : v ∈ c.filter f := List.mem_filter.mpr ⟨hv, (hf v).mpr fun z => on_both nd vne hvo z⟩
      refine ⟨fun z => (by rw [z] at hvm; cases hvm), fun x hx => ?_⟩
      rw [hx] at hvm
      rw [← List.mem_singleton.mp hvm]
      exact hvo
    by_cases hx : On T.rows (-x)
    · exact key hxc hyc yne po.1 hx
    · by_cases hy : On T.rows (-y)
      · exact key hyc hxc xne po.2 hy
      · have hxm : x ∈ c.filter f := List.mem_filter.mpr ⟨hxc, (hf x).mpr hx⟩
        have hym : y ∈ c.filter f := List.mem_filter.mpr ⟨hyc, (hf y).mpr hy⟩
        refine ⟨fun z => (by rw [z] at hxm; cases hxm), fun z hz => ?_⟩
        rw [hz] at hxm hym
        exact (hxy ((List.mem_singleton.mp hxm).trans (List.mem_singleton.mp hym).symm)).elim
def sp_law_pairs (K : PySem.W.Frag) : Sp := fun vs H Q _ => ∃ (s : Addr) (T : Tr) (W : Wt) (fl : Bool) (lk : List Int) (F : Addr → Prop), vs = [.ref s] ∧ WS K s T W fl lk F H ∧ Full T W ∧ W.cls.length ≤ 1000 ∧ ∀ H', Ex H H' → Q (.bl true) H'
abbrev N_law_pairs : List Str := ["seat", "levels", "row", "k", "clause", "left", "literal"]
theorem sc_law_pairs : FnScope N_law_pairs ["seat"] (defScope s_law_pairs) := ⟨rfl, rfl, rfl, by decide +kernel, rfl, by decide +kernel, by decide +kernel⟩
def t_law_pairs (K : PySem.W.Frag) : TS := (tSeq (tAsg tDNewK (gName 1))
    (tSeq (tFor (iList K (tOp (rIxL K) (tVar 0) (tC (.int 6)))) (gName 2) (sDPut (tVar 1) (tOp (rIxT K) (tVar 2) (tC (.int 0))) (tOp (rIxT K) (tVar 2) (tC (.int 1)))))
    (tSeq (tFor (iRng1 (tCons (tCB (rLenS K) (tCons (tOp (rIxL K) (tVar 0) (tC (.int 3))) tNil)) tNil)) (gName 3) (tSeq (tAsg (tOp (rIxL K) (tOp (rIxL K) (tVar 0) (tC (.int 3))) (tVar 3)) (gName 4))
    (tSeq (tAsg (tLc (iTup K (tVar 4)) (gName 6) (tB (tDNotIn (tUn rNegR (tVar 6)) (tVar 1))) (tVar 6) [6]) (gName 5))
    (tIfS (tNot (tB (tOp (rIxL K) (tOp (rIxL K) (tVar 0) (tC (.int 5))) (tVar 3)))) (tSeq (tIfS (tNot (tB (tCall (sp_law_watched K) [] E0 (tCons (tVar 0) (tCons (tVar 3) tNil))))) (tRet (tC (.bl false))) tNext)
    (tSeq (tIfS (tAnd (tB (tGt (tCB (rLenS K) (tCons (tVar 4) tNil)) (tC (.int 1)))) (tNot (tB (tCall (sp_law_pair K) [] E0 (tCons (tVar 1) (tCons (tMeth (He.ga K "Watching") "watched" (sp_Watching_watched K) [] E0 (tOp (rIxL K) (tVar 0) (tC (.int 1))) (tCons (tVar 3) tNil)) tNil)))))) (tRet (tC (.bl false))) tNext)
    (tIfS (tOr (tB (tEqI (tCB (rLenS K) (tCons (tVar 5) tNil)) (tC (.int 0)))) (tAnd (tB (tEqI (tCB (rLenS K) (tCons (tVar 5) tNil)) (tC (.int 1)))) (tB (tDNotIn (tOp (rIxL K) (tVar 5) (tC (.int 0))) (tVar 1))))) (tRet (tC (.bl false))) tNext))) tNext))))
    (tRet (tC (.bl true))))))
set_option maxHeartbeats 4000000 in
theorem der_law_pairs {P : Program} {w : World} {K : PySem.W.Frag} {mg : Str → Option Value} {base : Heap} {f : Addr} {cdv : Value} {A : Around} {outer : List Env} {s : Shared} {H : Hp} {E : XK} (T : Tx K mg) {fd_law_watched : FuncData} (F_law_watched : FnOk P w K mg base CX0 2 (He.fAd K ("_law_watched", none)) fd_law_watched ps_law_watched (sp_law_watched K)) (B_law_watched : Binds K fd_law_watched ps_law_watched []) {fd_law_pair : FuncData} (F_law_pair : FnOk P w K mg base CX0 1 (He.fAd K ("_law_pair", none)) fd_law_pair ps_law_pair (sp_law_pair K)) (B_law_pair : Binds K fd_law_pair ps_law_pair []) {fd_Watching_watched : FuncData} (F_Watching_watched : FnOk P w K mg base CX0 1 (He.fAd K ("Watching", some "watched")) fd_Watching_watched ps_Watching_watched (sp_Watching_watched K)) (B_Watching_watched : Binds K fd_Watching_watched ps_Watching_watched []) (hr : Room 2 (A.deeper (envOfC "_law_pairs" (defScope s_law_pairs) s.heap.objs.size f cdv))) (hu : (A.deeper (envOfC "_law_pairs" (defScope s_law_pairs) s.heap.objs.size f cdv)).units + 1 < cLine) :
    PSs (cxOf CX0 P w K mg base N_law_pairs "_law_pairs" (defScope s_law_pairs) f cdv A outer s H E).nox (defBody s_law_pairs) (t_law_pairs K) := by
  exact (pss_cons (ps_set (i := 1) sc_law_pairs.nd rfl (Or.inr rfl) pe_dnewK)
    (pss_cons (ps_for PassesOwn.never rfl (pi_list (pe_ix ix_list (pv 0) pe_int (fun _ _ => rfl))) (pg_name (i := 2) sc_law_pairs.nd rfl (Or.inl rfl)) (pss_one (ps_dput hu (pv 1) (pe_ix ix_tup (pv 2) pe_int (fun _ _ => rfl)) (pe_ix ix_tup (pv 2) pe_int (fun _ _ => rfl)) rfl)))
    (pss_cons (ps_for PassesOwn.never rfl (pi_range1 rfl T.f_range (pa_cons (pe_callB call_len_seq rfl T.f_len bt_len (pa_cons (pe_ix ix_list (pv 0) pe_int (fun _ _ => rfl)) pa_nil)) pa_nil)) (pg_name (i := 3) sc_law_pairs.nd rfl (Or.inl rfl)) (pss_cons (ps_set (i := 4) sc_law_pairs.nd rfl (Or.inl rfl) (pe_ix ix_list (pe_ix ix_list (pv 0) pe_int (fun _ _ => rfl)) (pv 3) (fun _ _ => rfl)))
    (pss_cons (ps_setLc (i := 5) (own := [("literal", 6)]) (g := gName 6) rfl sc_law_pairs.nd rfl rfl (sw_true rfl rfl rfl (by decide +kernel)) (pi_tup (pv 4)) (blkOk_by (N := N_law_pairs) (sc := defScope s_law_pairs) (by decide +kernel)) (fun _ _ _ _ _ => pg_name (i := 6) sc_law_pairs.nd rfl (Or.inl rfl)) (fun _ _ _ _ _ => (pts_one (pt_cmp (pc_dnotin hu (pe_un un_neg (pv 6)) (pv 1))))) (fun _ _ _ _ _ => (pv 6)))
    (pss_one (ps_if (pt_not (pt_val (pe_ix ix_list (pe_ix ix_list (pv 0) pe_int (fun _ _ => rfl)) (pv 3) (fun _ _ => rfl)))) (pss_cons (ps_if (pt_not (pt_val (pe_call F_law_watched (hr.mono (by decide)) rfl T.g_law_watched T.k_law_watched B_law_watched .nil pass0 (pa_cons (pv 0) (pa_cons (pv 3) pa_nil))))) (pss_one (ps_ret pe_bl)) pss_nil)
    (pss_cons (ps_if (PW.pt (pw_and (pt_cmp (pc_gt (pe_callB call_len_seq rfl T.f_len bt_len (pa_cons (pv 4) pa_nil)) pe_int)) (pw_and1 (pt_not (pt_val (pe_call F_law_pair (hr.mono (by decide)) rfl T.g_law_pair T.k_law_pair B_law_pair .nil pass0 (pa_cons (pv 1) (pa_cons (pe_meth (pe_ix ix_list (pv 0) pe_int (fun _ _ => rfl)) T.cl_Watching T.m_Watching_watched F_Watching_watched (hr.mono (by decide)) B_Watching_watched .nil pass0 (pa_cons (pv 3) pa_nil)) pa_nil)))))))) (pss_one (ps_ret pe_bl)) pss_nil)
    (pss_one (ps_if (PW.pt (pw_or (pt_cmp (pc_eqI (pe_callB call_len_seq rfl T.f_len bt_len (pa_cons (pv 5) pa_nil)) pe_int)) (pw_or1 (PW.pt (pw_and (pt_cmp (pc_eqI (pe_callB call_len_seq rfl T.f_len bt_len (pa_cons (pv 5) pa_nil)) pe_int)) (pw_and1 (pt_cmp (pc_dnotin hu (pe_ix ix_list (pv 5) pe_int (fun _ _ => rfl)) (pv 1))))))))) (pss_one (ps_ret pe_bl)) pss_nil)))) pss_nil)))))
    (pss_one (ps_ret pe_bl)))))
theorem len_law_pairs (h : sp_law_pairs K vs H Q E) : vs.length = 1 := by
  obtain ⟨_, _, _, _, _, _, rfl, _⟩ := h
  rfl
theorem pure_law_pairs (T : Tx K mg) (h : sp_law_pairs K vs H Q E) : t_law_pairs K { nx := fun _ H' => Q .non H', rt := Q } (start N_law_pairs vs) H := by
  obtain ⟨s, Tr, W, fl, lk, F, rfl, A0, fu, hN, q⟩ := h
  obtain ⟨L, M, S, rfl, rfl, A⟩ := id A0
  obtain ⟨xs, r1, r2, r3⟩ := A.B.rw'
  obtain ⟨ys, k1, k2, k3⟩ := A.B.cs
  have ok := fu.j.ok
  have hl := rows_len ok r2
  refine q_asgD ed_new fun pd H1 hpd e1 h1 => ?_
  refine q_forLn (ev_ixL (j := 6) (ev_var rfl) ev_c (e1 _ _ A.B.s) rfl) (sq_of (e1 _ _ r1)) (fun i σ' H' => (∃ u, σ' = [some (.ref S.s), some (.ref pd), u, none, none, none, none]) ∧ Ex H H' ∧ H' pd = some (.dK (lvK (Tr.rows.take i)))) (fun H2 e2 => ⟨⟨none, rfl⟩, e1.trans e2, e2 _ _ h1⟩) (fun i σ' H' _ w => sq_of (w.2.1 _ _ r1)) (fun i v σ' H' hi w => ?_) (fun σ' H' w => ?_)
  · obtain ⟨⟨u, rfl⟩, e, hd⟩ := w
    rw [List.getElem?_map] at hi
    obtain ⟨p, hp, rfl⟩ := Option.map_eq_some_iff.mp hi
    have hpm := List.mem_of_getElem? hp
    have hrow := e _ _ (r3 p hpm)
    have hri : Tr.rows[i]? = some p.1 := by rw [r2, List.getElem?_map, hp]; rfl
    have hno : ¬ On (Tr.rows.take i) p.1.lit := fun ⟨r, hr, hre⟩ => by
      obtain ⟨j, hj, hje⟩ := List.mem_iff_getElem.mp hr
      rw [List.getElem_take] at hje
      have hjl : j < Tr.rows.length := by rw [List.length_take] at hj; omega
      have hji : j < i := by rw [List.length_take] at hj; omega
      obtain ⟨hil, hie⟩ := List.getElem?_eq_some_iff.mp hri
      have hnd : Tr.rows.Pairwise fun a b => a.ab ≠ b.ab := List.pairwise_map.mp ok.nd
      have := List.pairwise_iff_getElem.mp hnd j i hjl hil hji
      rw [hje, hie] at this
      exact this (by show (r.lit.natAbs : Int) = _; rw [hre])
    refine s_dput (k := Sum.inl p.1.lit) (ev_ixT (j := 1) (ev_var rfl) ev_c hrow rfl) (ev_var rfl) (ev_ixT (j := 0) (ev_var rfl) ev_c hrow rfl) hd ?_ fun H2 e2 => ⟨⟨_, rfl⟩, (e.trans e2).mut hpd, ?_⟩
    · unfold lvK
      rw [List.length_map, List.length_take]
      have := ok.weak.rl
      omega
    · rw [upd_same, putK_new _ (lv_none hno), List.take_add_one, hri]
      unfold lvK
      rw [List.map_append]
      rfl
  · obtain ⟨⟨u, rfl⟩, e, hd⟩ := w
    have hlen : (xs.map fun p => V.ref p.2).length = Tr.rows.length := by rw [r2, List.length_map, List.length_map]
    rw [hlen, List.take_length] at hd
    have hyl : ys.length = W.cls.length := by rw [k2, List.length_map]
    refine q_forR1 (n := (W.cls.length : Int)) (ea_cons (ev_is (ev_lenL (ev_ixL (j := 3) (ev_var rfl) ev_c (e _ _ A.B.s) rfl) (e _ _ k1)) (by rw [List.length_map, hyl])) ea_nil) ⟨by omega, by omega⟩ (fun i σ' H2 => (∃ u u1 u2 u3, σ' = [some (.ref S.s), some (.ref pd), u, u1, u2, u3, none]) ∧ Ex H' H2) (fun H2 e2 => ⟨⟨_, _, _, _, rfl⟩, e2⟩) (fun i σ' H2 hi w => ?_) (fun σ' H2 w => ?_)
    · obtain ⟨⟨u, u1, u2, u3, rfl⟩, e2⟩ := w
      have hlt : i < W.cls.length := by omega
      obtain ⟨c, hc⟩ : ∃ c, W.cls[i]? = some c := ⟨_, List.getElem?_eq_getElem hlt⟩
      have eH := e.trans e2
      obtain ⟨a, zs, c1, c2, c3, c4⟩ := cls_at A.B hc
      have hd2 := e2 _ _ hd
      obtain ⟨gg, hg, hgl⟩ := gone_of fu.j.wo hlt
      refine q_asg (ev_ixL (j := i) (ev_ixL (j := 3) (ev_var rfl) ev_c (eH _ _ A.B.s) rfl) (ev_var rfl) (eH _ _ c1) c3) fun H3 e3 => ?_
      have e03 := eH.trans e3
      have hcl := (fu.j.wo.ck i c hc).2.2
      refine q_asgL (el_lcGT V.int c (fun x => !(valV (lvK Tr.rows) (Sum.inl (-x))).isSome) V.int (ev_var rfl) (e03 _ _ c4) (by omega) (fun x => rfl) (fun x hx => et_B (ev_dnin (k := Sum.inl (-x)) (ev_neg (ev_var rfl)) (ev_var rfl) (e3 _ _ hd2))) (fun x hx _ => ev_var rfl)) fun pf H4 hpf e4 h4 => ?_
      have e04 := e03.trans e4
      have hfx : ∀ x, (!(valV (lvK Tr.rows) (Sum.inl (-x))).isSome) = true ↔ ¬ On Tr.rows (-x) := fun x => by
        rw [← lv_is ok.nd]
        simp
      refine s_when (b := !gg) (et_not (et_B (ev_ixL (j := i) (ev_ixL (j := 5) (ev_var rfl) ev_c (e04 _ _ A.B.s) rfl) (ev_var rfl) (e04 _ _ A.B.gn) (by rw [List.getElem?_map, hg]; rfl)))) (fun hb H5 e5 => ?_) (fun hb H5 e5 => ⟨⟨_, _, _, _, rfl⟩, ((e2.trans e3).trans e4).trans e5⟩)
      have hlive : W.live i := hgl.mp (by cases gg; rfl; cases hb)
      obtain ⟨p, hp⟩ : ∃ p, W.prs[i]? = some p := ⟨_, List.getElem?_eq_getElem (by rw [fu.j.wo.lp]; exact hlt)⟩
      have pc := fu.j.wo.pp i c p hc hp
      have e05 := e04.trans e5
      refine q_when (b := false) (et_is (et_not (et_B (ev_call (ea_cons (ev_var rfl) (ea_cons (ev_var rfl) ea_nil)) (spv_watched (A0.ex e05) hc hp pc)))) rfl) (fun z => nomatch z) (fun _ H6 e6 => ?_)
      have e06 := e05.trans e6
      have hd6 := e6 _ _ (e5 _ _ (e4 _ _ (e3 _ _ hd2)))
      refine q_when (b := false) (et_is (et_and (a := decide (1 < c.length)) (b := false) (et_is (et_B (ev_cmp (ev_lenT (ev_var rfl) (e06 _ _ c4)) ev_c)) ?_) fun hb2 => ?_) (Bool.and_false _)) (fun z => nomatch z) (fun _ H7 e7 => ?_)
      · rw [List.length_map, Bool.eq_iff_iff]
        simp
        omega
      · have hb2' := of_decide_eq_true hb2
        obtain ⟨x, y, rfl⟩ := two_of (by rw [pc.2.1]; omega : p.length = 2)
        have po := fu.pairOk hlive hlt hp
        have ep := ep_watched (K := K) (σ := [some (.ref S.s), some (.ref pd), u, some (.int (i : Int)), some (.ref a), some (.ref pf), none]) (A.A.ex e06) (ta := tOp (rIxL K) (tVar 0) (tC (.int 1))) (tb := tVar 3) (ev_ixL (j := 1) (ev_var rfl) ev_c (e06 _ _ A.B.s) rfl) (ev_var rfl) hp
        refine et_is (et_not (et_B (b := true) fun H7 e7 Q' q' => ?_)) rfl
        refine ⟨_, rfl, ?_⟩
        exact ep H7 e7 _ fun a2 H8 e8 h8 => ⟨pd, a2, Tr.rows, x, y, rfl, e8 _ _ (e7 _ _ hd6), h8, ok.nd, po, fun H9 e9 => q' H9 (e8.trans e9)⟩
      · obtain ⟨f1, f2⟩ := fu.left hlive hc hfx
        have h7 := e7 _ _ (e6 _ _ (e5 _ _ h4))
        have hd7 := e7 _ _ hd6
        refine s_when (b := false) (et_is (et_or (a := false) (b := false) (et_is (et_B (ev_cmp (p := fun i j => decide (i = j)) (ev_lenL (ev_var rfl) h7) ev_c)) ?_) fun _ => et_is (et_and (a := decide ((c.filter fun x => !(valV (lvK Tr.rows) (Sum.inl (-x))).isSome).length = 1)) (b := false) (et_is (et_B (ev_cmp (p := fun i j => decide (i = j)) (ev_lenL (ev_var rfl) h7) ev_c)) ?_) fun hb3 => ?_) (Bool.and_false _)) rfl) (fun z => nomatch z) (fun _ H8 e8 => ⟨⟨_, _, _, _, rfl⟩, ((((((e2.trans e3).trans e4).trans e5).trans e6).trans e7).trans e8)⟩)
        · rw [List.length_map]
          refine decide_eq_false fun z => f1 ?_
          exact List.length_eq_zero_iff.mp (by omega)
        · rw [List.length_map, Bool.eq_iff_iff]
          simp
          omega
        · have hb3' := of_decide_eq_true hb3
          obtain ⟨z, hz⟩ := List.length_eq_one_iff.mp hb3'
          have hon := f2 z hz
          rw [hz] at h7
          refine et_is (et_B (ev_dnin (k := Sum.inl z) (ev_ixL (j := 0) (ev_var rfl) ev_c h7 rfl) (ev_var rfl) hd7)) ?_
          rw [(lv_is ok.nd).mpr hon]
          rfl
    · obtain ⟨⟨u, u1, u2, u3, rfl⟩, e2⟩ := w
      exact s_ret ev_c fun H3 e3 => q H3 ((e.trans e2).trans e3)
theorem ok_law_pairs {P : Program} {w : World} {K : PySem.W.Frag} {mg : Str → Option Value} {base : Heap} (T : Tx K mg) : FnX P w K mg base 3 (He.fAd K ("_law_pairs", none)) ps_law_pairs (sp_law_pairs K) := by
  obtain ⟨_, F_law_watched, B_law_watched⟩ := ok_law_watched (P := P) (w := w) (base := base) T
  obtain ⟨_, F_law_pair, B_law_pair⟩ := ok_law_pair (P := P) (w := w) (base := base) T
  obtain ⟨_, F_Watching_watched, B_Watching_watched⟩ := ok_Watching_watched (P := P) (w := w) (base := base) T
  obtain ⟨fd, F⟩ := T.fun_law_pairs
  refine ⟨fd, F.ok sc_law_pairs (fun vs H Q E h => len_law_pairs h) (fun cdv A outer s H vs Q E hr h => ⟨t_law_pairs K, PSs.nox (der_law_pairs T F_law_watched B_law_watched F_law_pair B_law_pair F_Watching_watched B_Watching_watched hr (hu_of hr)), pure_law_pairs T h⟩), F.bindsN fun _ _ _ _ _ _ us hl => match us, hl with | [_], _ => rfl⟩
end
end TW

set_option Elab.async false
set_option linter.all false
set_option maxRecDepth 100000
set_option maxHeartbeats 1000000
namespace TW
open PySem PySem.Spec PyProof.Rows L2 Evl
section
variable {K : PySem.W.Frag} {mg : Str → Option Value} {vs : List V} {H H' : Hp} {Q : VK} {E : XK} {σ : L2.St} {ta tb te tl td ty : TE} {x y v : V} {D : Ends} {tz : TS} {tc : TT} {tu tw : TS}
/-! ### writing into the seat -/
theorem WS3.setRw {L : TL} {M : WL} {S : SL} {T : Tr} {W : Wt} {fl : Bool} {lk : List Int} {rows0 : List Row} {p : Addr} {zs : List (Row × Addr)} {H1 : Hp} (A : Two K L T M W H) (B : SAt S L.t M.w T.known rows0 W fl lk H) (dj : ∀ a ∈ S.all, ¬ In2 L M a)
    (hp : H p = none) (e : Ex H H1) (h1 : H1 p = some (.lst (zs.map fun q => V.ref q.2))) (hz : T.rows = zs.map (·.1)) (ht : ∀ q ∈ zs, H1 q.2 = some (.tup (rowV q.1))) :
    WS3 K L M { S with rw := p } T W fl lk (upd H1 S.s (.lst [.ref L.t, .ref M.w, .ref S.nd, .ref S.cs, .ref S.sr, .ref S.gn, .ref p, .bl fl, .ref S.lk])) ∧
    Stp (In3 L M S) (In3 L M { S with rw := p }) H (upd H1 S.s (.lst [.ref L.t, .ref M.w, .ref S.nd, .ref S.cs, .ref S.sr, .ref S.gn, .ref p, .bl fl, .ref S.lk])) := by
  have hs := e _ _ B.s
  have sm : S.s ∈ S.all := by simp [SL.all]
  have hpn : ¬ p ∈ S.all := fun z => B.tracked p z hp
  have hp2 : ¬ In2 L M p := fun z => A.tracked p z hp
  obtain ⟨⟨a1, a2, a3, a4, a5, a6⟩, ⟨b1, b2, b3, b4, b5⟩, ⟨c1, c2, c3, c4⟩, ⟨d1, d2, d3⟩, ⟨f1, f2⟩, g1⟩ := ne_all B.nn
  have s1 : Stp (fun a => a = S.s) (fun a => a = S.s) H (upd H1 S.s (.lst [.ref L.t, .ref M.w, .ref S.nd, .ref S.cs, .ref S.sr, .ref S.gn, .ref p, .bl fl, .ref S.lk])) := Stp.pre e (Stp.upd rfl (nt_lst hs))
  have tu : ∀ {a : Addr} {ys : List V}, H1 a = some (.tup ys) → upd H1 S.s (.lst [.ref L.t, .ref M.w, .ref S.nd, .ref S.cs, .ref S.sr, .ref S.gn, .ref p, .bl fl, .ref S.lk]) a = some (.tup ys) := fun {a ys} h => by rw [upd_ne (ne_of h hs (fun z => nomatch z))]; exact h
  have ls : ∀ {a : Addr} {o : HO}, a ≠ S.s → H a = some o → upd H1 S.s (.lst [.ref L.t, .ref M.w, .ref S.nd, .ref S.cs, .ref S.sr, .ref S.gn, .ref p, .bl fl, .ref S.lk]) a = some o := fun {a o} n h => by rw [upd_ne n]; exact e _ _ h
  have pne : p ≠ S.s := fun z => hpn (z ▸ sm)
  obtain ⟨ys, k1, k2, k3⟩ := B.cs
  have mem : ∀ a, a ∈ ({ S with rw := p } : SL).all → a ∈ S.all ∨ a = p := fun a h => by
    simp only [SL.all, List.mem_cons, List.not_mem_nil, or_false] at h ⊢
    rcases h with h | h | h | h | h | h | h <;> simp [h]
  refine ⟨⟨A.stp s1 fun a h z => dj S.s sm (z ▸ h), ?_, fun a h z => ?_⟩, ⟨fun a o h n => ?_, s1.tups, fun a h => ?_⟩⟩
  · refine ⟨upd_same, ls a1.symm B.nd, ⟨ys, ls a2.symm k1, k2, fun q hq => tu (e _ _ (k3 q hq))⟩, ls a3.symm B.sr, ls a4.symm B.gn, ⟨zs, ?_, hz, fun q hq => tu (ht q hq)⟩, ls a6.symm B.lk', ?_⟩
    · show upd H1 S.s _ p = _
      rw [upd_ne pne]
      exact h1
    · have nn := B.nn
      simp only [SL.all, List.nodup_cons, List.mem_cons, List.not_mem_nil, or_false, not_or] at nn hpn ⊢
      obtain ⟨q1, q2, q3, q4, q5, q6, q7⟩ := hpn
      exact ⟨⟨a1, a2, a3, a4, fun z => q1 z.symm, a6⟩, ⟨b1, b2, b3, fun z => q2 z.symm, b5⟩, ⟨c1, c2, fun z => q3 z.symm, c4⟩, ⟨d1, fun z => q4 z.symm, d3⟩, ⟨fun z => q5 z.symm, f2⟩, q7, fun z => (nomatch z), List.nodup_nil⟩
  · rcases mem a h with h | h
    · exact dj a h z
    · exact hp2 (h ▸ z)
  · exact s1.keep a o h fun z => n (.inr (z ▸ sm))
  · rcases h with h | h
    · exact .inl (.inl h)
    · rcases mem a h with h | h
      · exact .inl (.inr h)
      · exact .inr (h ▸ hp)
theorem WS3.setFl {L : TL} {M : WL} {S : SL} {T : Tr} {W : Wt} {fl : Bool} {lk : List Int} {H1 : Hp} (A : WS3 K L M S T W fl lk H) (e : Ex H H1) (fl' : Bool) :
    WS3 K L M S T W fl' lk (upd H1 S.s (.lst [.ref L.t, .ref M.w, .ref S.nd, .ref S.cs, .ref S.sr, .ref S.gn, .ref S.rw, .bl fl', .ref S.lk])) ∧
    Stp (In3 L M S) (In3 L M S) H (upd H1 S.s (.lst [.ref L.t, .ref M.w, .ref S.nd, .ref S.cs, .ref S.sr, .ref S.gn, .ref S.rw, .bl fl', .ref S.lk])) := by
  have B := A.B
  have hs := e _ _ B.s
  have sm : S.s ∈ S.all := by simp [SL.all]
  obtain ⟨⟨a1, a2, a3, a4, a5, a6⟩, _⟩ := ne_all B.nn
  have s1 : Stp (fun a => a = S.s) (fun a => a = S.s) H (upd H1 S.s (.lst [.ref L.t, .ref M.w, .ref S.nd, .ref S.cs, .ref S.sr, .ref S.gn, .ref S.rw, .bl fl', .ref S.lk])) := Stp.pre e (Stp.upd rfl (nt_lst hs))
  have ls : ∀ {a : Addr} {o : HO}, a ≠ S.s → H a = some o → upd H1 S.s (.lst [.ref L.t, .ref M.w, .ref S.nd, .ref S.cs, .ref S.sr, .ref S.gn, .ref S.rw, .bl fl', .ref S.lk]) a = some o := fun {a o} n h => by rw [upd_ne n]; exact e _ _ h
  obtain ⟨ys, k1, k2, k3⟩ := B.cs
  obtain ⟨xs, r1, r2, r3⟩ := B.rw'
  exact ⟨⟨A.A.stp s1 fun a h z => A.dj S.s sm (z ▸ h), ⟨upd_same, ls a1.symm B.nd, ⟨ys, ls a2.symm k1, k2, fun q hq => s1.tups _ _ (k3 q hq)⟩, ls a3.symm B.sr, ls a4.symm B.gn, ⟨xs, ls a5.symm r1, r2, fun q hq => s1.tups _ _ (r3 q hq)⟩, ls a6.symm B.lk', B.nn⟩, A.dj⟩,
    ⟨fun a o h n => s1.keep a o h fun z => n (.inr (z ▸ sm)), s1.tups, fun a h => .inl h⟩⟩
/-! ### back -/
theorem spv_pairs {s : Addr} {T : Tr} {W : Wt} {fl : Bool} {lk : List Int} {F : Addr → Prop} (A : WS K s T W fl lk F H) (fu : Full T W) (hN : W.cls.length ≤ 1000) : SpV (sp_law_pairs K) [.ref s] H (.bl true) := fun H1 e1 Q q E => ⟨s, T, W, fl, lk, F, rfl, A.ex e1, fu, hN, q⟩
def sp_law_back (K : PySem.W.Frag) : Sp := fun vs H Q _ => ∃ (s : Addr) (T : Tr) (W : Wt) (fl : Bool) (lk : List Int) (F : Addr → Prop) (l : Nat), vs = [.ref s, .int (l : Int)] ∧ WS K s T W fl lk F H ∧ J T W ∧ (fl = true → Full T W) ∧ W.cls.length ≤ 1000 ∧
  ∀ F' H', WS K s (T.back l) W fl lk F' H' → Stp F F' H H' → Q (.bl true) H'
abbrev N_law_back : List Str := ["seat", "level", "row"]
theorem sc_law_back : FnScope N_law_back ["seat", "level"] (defScope s_law_back) := ⟨rfl, rfl, rfl, by decide +kernel, rfl, by decide +kernel, by decide +kernel⟩
def t_law_back (K : PySem.W.Frag) : TS := (tSeq (tIfS (tTest (tOp rNotN (tMeth (He.ga K "Trail") "back" (sp_Trail_back K) [] E0 (tOp (rIxL K) (tVar 0) (tC (.int 0))) (tCons (tVar 1) tNil)) (tC .non))) (tRet (tC (.bl false))) tNext)
    (tSeq (tAsg (tLc (iList K (tOp (rIxL K) (tVar 0) (tC (.int 6)))) (gName 2) (tB (tLe (tOp (rIxT K) (tVar 2) (tC (.int 1))) (tVar 1))) (tVar 2) [2]) (gSub (tVar 0) (tC (.int 6)) rSetL))
    (tRet (tAndV (tCall (sp_law_stands K) [] E0 (tCons (tVar 0) tNil)) (tOrV (tNotV (tOp (rIxL K) (tVar 0) (tC (.int 7)))) (tCall (sp_law_pairs K) [] E0 (tCons (tVar 0) tNil)))))))
set_option maxHeartbeats 4000000 in
theorem der_law_back {P : Program} {w : World} {K : PySem.W.Frag} {mg : Str → Option Value} {base : Heap} {f : Addr} {cdv : Value} {A : Around} {outer : List Env} {s : Shared} {H : Hp} {E : XK} (T : Tx K mg) {fd_Trail_back : FuncData} (F_Trail_back : FnOk P w K mg base CX0 1 (He.fAd K ("Trail", some "back")) fd_Trail_back ps_Trail_back (sp_Trail_back K)) (B_Trail_back : Binds K fd_Trail_back ps_Trail_back []) {fd_law_stands : FuncData} (F_law_stands : FnOk P w K mg base CX0 3 (He.fAd K ("_law_stands", none)) fd_law_stands ps_law_stands (sp_law_stands K)) (B_law_stands : Binds K fd_law_stands ps_law_stands []) {fd_law_pairs : FuncData} (F_law_pairs : FnOk P w K mg base CX0 3 (He.fAd K ("_law_pairs", none)) fd_law_pairs ps_law_pairs (sp_law_pairs K)) (B_law_pairs : Binds K fd_law_pairs ps_law_pairs []) (hr : Room 3 (A.deeper (envOfC "_law_back" (defScope s_law_back) s.heap.objs.size f cdv))) (hu : (A.deeper (envOfC "_law_back" (defScope s_law_back) s.heap.objs.size f cdv)).units + 1 < cLine) :
    PSs (cxOf CX0 P w K mg base N_law_back "_law_back" (defScope s_law_back) f cdv A outer s H E).nox (defBody s_law_back) (t_law_back K) := by
  exact (pss_cons (ps_if (pt_cmpR op_notN1 (pe_meth (pe_ix ix_list (pv 0) pe_int (fun _ _ => rfl)) T.cl_Trail T.m_Trail_back F_Trail_back (hr.mono (by decide)) B_Trail_back .nil pass0 (pa_cons (pv 1) pa_nil)) pe_non (by rfl)) (pss_one (ps_ret pe_bl)) pss_nil)
    (pss_cons (ps_asg (pe_lc (own := [("row", 2)]) (g := gName 2) rfl sc_law_back.nd (pi_list (pe_ix ix_list (pv 0) pe_int (fun _ _ => rfl))) (blkOk_by (N := N_law_back) (sc := defScope s_law_back) (by decide +kernel)) (fun _ _ _ _ _ => pg_name (i := 2) sc_law_back.nd rfl (Or.inl rfl)) (fun _ _ _ _ _ => (pts_one (pt_cmp (pc_le (pe_ix ix_tup (pv 2) pe_int (fun _ _ => rfl)) (pv 1))))) (fun _ _ _ _ _ => (pv 2))) (pg_sub (pv 0) pe_int set_list))
    (pss_one (ps_ret (pe_and (pe_call F_law_stands (hr.mono (by decide)) rfl T.g_law_stands T.k_law_stands B_law_stands .nil pass0 (pa_cons (pv 0) pa_nil)) (pe_one (pe_or (pe_not (pe_ix ix_list (pv 0) pe_int (fun _ _ => rfl))) (pe_one (pe_call F_law_pairs (hr.mono (by decide)) rfl T.g_law_pairs T.k_law_pairs B_law_pairs .nil pass0 (pa_cons (pv 0) pa_nil))))))))))
theorem len_law_back (h : sp_law_back K vs H Q E) : vs.length = 2 := by
  obtain ⟨_, _, _, _, _, _, _, rfl, _⟩ := h
  rfl
theorem pure_law_back (T : Tx K mg) (h : sp_law_back K vs H Q E) : t_law_back K { nx := fun _ H' => Q .non H', rt := Q } (start N_law_back vs) H := by
  obtain ⟨s, Tr, W, fl, lk, F, l, rfl, ⟨L, M, S, rfl, rfl, A⟩, j, hfl, hN, q⟩ := h
  have ok := j.ok
  -- if seat[0].back(level) is not None
  refine (ev_ixL (j := 0) (ev_var rfl) ev_c A.B.s rfl : Ev (tOp (rIxL K) (tVar 0) (tC (.int 0))) (start N_law_back [.ref S.s, .int (l : Int)]) H (.ref L.t)) H (Ex.refl H) _ fun H1 e1 => ?_
  have A1 := A.ex e1
  refine ⟨_, _, _, rfl, A1.A.t.ob, rfl, _, rfl, L, Tr, l, rfl, A1.A.t, ok, fun L' H2 ht B2 s2 => ⟨rfl, false, rfl, iteF ?_⟩⟩
  obtain ⟨A2, t2⟩ := A1.A.tr B2 s2 ht (back_known l)
  obtain ⟨t3, dj3, S3⟩ := A1.two A2 t2 ht rfl
  obtain ⟨xs, r1, r2, r3⟩ := S3.rw'
  have hl := rows_len ok r2
  have hz : (Tr.back l).rows = (xs.filter fun p => decide (p.1.lev ≤ l)).map (·.1) := by
    by_cases hd : l < Tr.depth
    · rw [(back_rows ok.srt hd).2.1, r2, List.filter_map]
      rfl
    · rw [back_none hd, r2]
      congr 1
      refine (List.filter_eq_self.mpr fun p hp => decide_eq_true ?_).symm
      have := ok.le p.1 (by rw [r2]; exact List.mem_map.mpr ⟨p, hp, rfl⟩)
      omega
  show tSeq (tAsg (tLc (iList K (tOp (rIxL K) (tVar 0) (tC (.int 6)))) (gName 2) (tB (tLe (tOp (rIxT K) (tVar 2) (tC (.int 1))) (tVar 1))) (tVar 2) [2]) (gSub (tVar 0) (tC (.int 6)) rSetL))
    (tRet (tAndV (tCall (sp_law_stands K) [] E0 (tCons (tVar 0) tNil)) (tOrV (tNotV (tOp (rIxL K) (tVar 0) (tC (.int 7)))) (tCall (sp_law_pairs K) [] E0 (tCons (tVar 0) tNil))))) { nx := fun _ H' => Q .non H', rt := Q } (start N_law_back [.ref S.s, .int (l : Int)]) H2
  refine q_setLL (j := 6) S3.s (el_lcG (fun p : Row × Addr => V.ref p.2) xs (fun p => decide (p.1.lev ≤ l)) (fun p => V.ref p.2) (ev_ixL (j := 6) (ev_var rfl) ev_c S3.s rfl) r1 (by omega) (fun x => rfl) (fun p hp => et_is (et_B (ev_cmp (ev_ixT (j := 1) (ev_var rfl) ev_c (r3 p hp) rfl) (ev_var rfl))) (by rw [Bool.eq_iff_iff]; simp)) (fun p hp _ => ev_var rfl)) (ev_var rfl) ev_c (by simp) fun pn H3 hp3 e3 h3 => ?_
  have S3' : SAt S L'.t M.w (Tr.back l).known Tr.rows W fl lk H2 := by rw [back_known]; exact S3
  obtain ⟨A4, t4⟩ := WS3.setRw A2 S3' dj3 hp3 e3 h3 hz fun p hp => e3 _ _ (r3 p (List.mem_filter.mp hp).1)
  show tRet _ _ _ (upd H3 S.s (.lst [.ref L'.t, .ref M.w, .ref S.nd, .ref S.cs, .ref S.sr, .ref S.gn, .ref pn, .bl fl, .ref S.lk]))
  generalize upd H3 S.s (.lst [.ref L'.t, .ref M.w, .ref S.nd, .ref S.cs, .ref S.sr, .ref S.gn, .ref pn, .bl fl, .ref S.lk]) = G at A4 t4
  have A5 : WS K S.s (Tr.back l) W fl lk (In3 L' M { S with rw := pn }) G := ⟨L', M, { S with rw := pn }, rfl, rfl, A4⟩
  refine s_ret (ev_is (ev_andV (a := true) (b := true) (ev_call (ea_cons (ev_var rfl) ea_nil) (spv_stands A5 (ok.back l))) fun _ => ev_is (ev_orV (a := !fl) (b := true) (Evl.ev_notV (ev_ixL (j := 7) (ev_var rfl) ev_c A4.B.s rfl)) fun hb => ev_call (ea_cons (ev_var rfl) ea_nil) (spv_pairs A5 ((hfl (by cases fl; cases hb; rfl)).back l) hN)) (by rw [Bool.or_true])) rfl) fun H5 e5 => ?_
  exact q _ H5 (A5.ex e5) (((Stp.pre e1 t3).trans t4).post e5)
theorem ok_law_back {P : Program} {w : World} {K : PySem.W.Frag} {mg : Str → Option Value} {base : Heap} (T : Tx K mg) : FnX P w K mg base 4 (He.fAd K ("_law_back", none)) ps_law_back (sp_law_back K) := by
  obtain ⟨_, F_Trail_back, B_Trail_back⟩ := ok_Trail_back (P := P) (w := w) (base := base) T
  obtain ⟨_, F_law_stands, B_law_stands⟩ := ok_law_stands (P := P) (w := w) (base := base) T
  obtain ⟨_, F_law_pairs, B_law_pairs⟩ := ok_law_pairs (P := P) (w := w) (base := base) T
  obtain ⟨fd, F⟩ := T.fun_law_back
  refine ⟨fd, F.ok sc_law_back (fun vs H Q E h => len_law_back h) (fun cdv A outer s H vs Q E hr h => ⟨t_law_back K, PSs.nox (der_law_back T F_Trail_back B_Trail_back F_law_stands B_law_stands F_law_pairs B_law_pairs hr (hu_of hr)), pure_law_back T h⟩), F.bindsN fun _ _ _ _ _ _ us hl => match us, hl with | [_, _], _ => rfl⟩
/-! ### grown -/
theorem lits_eq (l : List Row) : l.map (fun r => V.int r.lit) = (l.map fun r => r.lit).map V.int := by rw [List.map_map]; rfl
theorem et_chain {i j k : Int} (ha : Ev ta σ H (.int i)) (hb : Ev tb σ H (.int j)) (hc : Ev te σ H (.int k)) : EvT (tTest (tChain rLeR rLtR ta tb te)) σ H (decide (i ≤ j) && decide (j < k)) := fun H1 e Q q =>
  ha H1 e _ fun H2 e2 => hb H2 (e.trans e2) _ fun H3 e3 => ⟨i, j, rfl, rfl, decide (i ≤ j), rfl, by
    by_cases h : i ≤ j
    · rw [decide_eq_true h] at q ⊢
      refine iteT (hc H3 ((e.trans e2).trans e3) _ fun H4 e4 => ⟨j, k, rfl, rfl, decide (j < k), rfl, ?_⟩)
      exact q H4 ((e2.trans e3).trans e4)
    · rw [decide_eq_false h] at q ⊢
      exact iteF ⟨false, rfl, q H3 (e2.trans e3)⟩⟩
def sp_law_grown (K : PySem.W.Frag) : Sp := fun vs H Q _ => ∃ (L : TL) (M : WL) (S : SL) (T : Tr) (W : Wt) (rows0 more : List Row) (fl : Bool) (lk : List Int) (d : Nat), vs = [.ref S.s] ∧ Two K L T M W H ∧ SAt S L.t M.w T.known rows0 W fl lk H ∧ T.Ok ∧ WOk T.known W ∧ Dyn T W d ∧ W.cls.length ≤ 1000 ∧
  T.rows = rows0 ++ more ∧ (∀ r ∈ more, r.lev = T.depth ∧ ∃ n, r.rs = some n) ∧ (T.depth = 0 ∨ ∃ r ∈ rows0, r.lev = T.depth) ∧
  ∀ (p : Addr) (zs : List (Row × Addr)) H', H p = none → Ex H H' → H' p = some (.lst (zs.map fun q => V.ref q.2)) → T.rows = zs.map (·.1) → (∀ q ∈ zs, H' q.2 = some (.tup (rowV q.1))) → Q (.ref p) H'
abbrev N_law_grown : List Str := ["seat", "rows", "depth", "order", "literal", "reason", "before", "row", "other"]
theorem sc_law_grown : FnScope N_law_grown ["seat"] (defScope s_law_grown) := ⟨rfl, rfl, rfl, by decide +kernel, rfl, by decide +kernel, by decide +kernel⟩
def t_law_grown (K : PySem.W.Frag) : TS := (tSeq (tAsg (tCB (rListS K) (tCons (tOp (rIxL K) (tVar 0) (tC (.int 6))) tNil)) (gName 1))
    (tSeq (tAsg (tCall (sp_law_depth K) [] E0 (tCons (tVar 0) tNil)) (gName 2))
    (tSeq (tAsg (tMeth (He.ga K "Trail") "literals" (sp_Trail_literals K) [] E0 (tOp (rIxL K) (tVar 0) (tC (.int 0))) tNil) (gName 3))
    (tSeq (tIfS (tOr (tNot (tB (tCB (rIsi K) (tCons (tVar 3) (tCons (tC (.ty "list")) tNil))))) (tNot (tB (tCall (sp_law_list K) [] E0 (tCons (tSl (rSlL K) (tVar 3) tNoPart (tPart (tCB (rLenS K) (tCons (tVar 1) tNil)))) (tCons (tLc (iList K (tVar 1)) (gName 7) tYes (tOp (rIxT K) (tVar 7) (tC (.int 0))) [7]) tNil)))))) (tRet (tC .non)) tNext)
    (tSeq (tFor (iList K (tSl (rSlL K) (tVar 3) (tPart (tCB (rLenS K) (tCons (tVar 1) tNil))) tNoPart)) (gName 4) (tSeq (tIfS (tOr (tNot (tB (tCall (sp_law_whole K) [] E0 (tCons (tVar 4) tNil)))) (tTest (tOp (rIn K true) (tCB rAbsR (tCons (tVar 4) tNil)) (tOp (rIxL K) (tVar 0) (tC (.int 2)))))) (tRet (tC .non)) tNext)
    (tSeq (tAsg (tMeth (He.ga K "Trail") "reason_of" (sp_Trail_reason_of K) [] E0 (tOp (rIxL K) (tVar 0) (tC (.int 0))) (tCons (tVar 4) tNil)) (gName 5))
    (tSeq (tIfS (tOr (tNot (tB (tCall (sp_law_whole K) [] E0 (tCons (tVar 5) tNil)))) (tOr (tNot (tTest (tChain rLeR rLtR (tC (.int 0)) (tVar 5) (tCB (rLenS K) (tCons (tOp (rIxL K) (tVar 0) (tC (.int 3))) tNil))))) (tB (tOp (rIxL K) (tOp (rIxL K) (tVar 0) (tC (.int 5))) (tVar 5))))) (tRet (tC .non)) tNext)
    (tSeq (tAsg (tLc (iList K (tVar 1)) (gName 7) tYes (tOp (rIxT K) (tVar 7) (tC (.int 0))) [7]) (gName 6))
    (tSeq (tIfS (tOr (tTest (tOp (rIn K true) (tVar 4) (tOp (rIxL K) (tOp (rIxL K) (tVar 0) (tC (.int 3))) (tVar 5)))) (tOr (tTest (tOp (rIn K false) (tVar 4) (tVar 6))) (tTest (tOp (rIn K false) (tUn rNegR (tVar 4)) (tVar 6))))) (tRet (tC .non)) tNext)
    (tSeq (tIfS (tB (tGt (tCB (rLenS K) (tCons (tLc (iTup K (tOp (rIxL K) (tOp (rIxL K) (tVar 0) (tC (.int 3))) (tVar 5))) (gName 8) (tAnd (tB (tNeI (tVar 8) (tVar 4))) (tTest (tOp (rIn K true) (tUn rNegR (tVar 8)) (tVar 6)))) (tVar 8) [8]) tNil)) (tC (.int 0)))) (tRet (tC .non)) tNext)
    (tDrop (tBM K "list" rAppend (tVar 1) (tCons (tTup (tCons (tVar 4) (tCons (tVar 2) (tCons (tVar 5) tNil)))) tNil))))))))))
    (tRet (tVar 1)))))))
set_option maxHeartbeats 4000000 in
theorem der_law_grown {P : Program} {w : World} {K : PySem.W.Frag} {mg : Str → Option Value} {base : Heap} {f : Addr} {cdv : Value} {A : Around} {outer : List Env} {s : Shared} {H : Hp} {E : XK} (T : Tx K mg) {fd_law_depth : FuncData} (F_law_depth : FnOk P w K mg base CX0 1 (He.fAd K ("_law_depth", none)) fd_law_depth ps_law_depth (sp_law_depth K)) (B_law_depth : Binds K fd_law_depth ps_law_depth []) {fd_Trail_literals : FuncData} (F_Trail_literals : FnOk P w K mg base CX0 1 (He.fAd K ("Trail", some "literals")) fd_Trail_literals ps_Trail_literals (sp_Trail_literals K)) (B_Trail_literals : Binds K fd_Trail_literals ps_Trail_literals []) {fd_law_list : FuncData} (F_law_list : FnOk P w K mg base CX0 2 (He.fAd K ("_law_list", none)) fd_law_list ps_law_list (sp_law_list K)) (B_law_list : Binds K fd_law_list ps_law_list []) {fd_law_whole : FuncData} (F_law_whole : FnOk P w K mg base CX0 1 (He.fAd K ("_law_whole", none)) fd_law_whole ps_law_whole (sp_law_whole K)) (B_law_whole : Binds K fd_law_whole ps_law_whole []) {fd_Trail_reason_of : FuncData} (F_Trail_reason_of : FnOk P w K mg base CX0 2 (He.fAd K ("Trail", some "reason_of")) fd_Trail_reason_of ps_Trail_reason_of (sp_Trail_reason_of K)) (B_Trail_reason_of : Binds K fd_Trail_reason_of ps_Trail_reason_of []) (hr : Room 2 (A.deeper (envOfC "_law_grown" (defScope s_law_grown) s.heap.objs.size f cdv))) (hu : (A.deeper (envOfC "_law_grown" (defScope s_law_grown) s.heap.objs.size f cdv)).units + 1 < cLine) :
    PSs (cxOf CX0 P w K mg base N_law_grown "_law_grown" (defScope s_law_grown) f cdv A outer s H E).nox (defBody s_law_grown) (t_law_grown K) := by
  exact (pss_cons (ps_set (i := 1) sc_law_grown.nd rfl (Or.inl rfl) (pe_callTy call_list_of rfl T.f_list bt_list (pa_cons (pe_ix ix_list (pv 0) pe_int (fun _ _ => rfl)) pa_nil)))
    (pss_cons (ps_set (i := 2) sc_law_grown.nd rfl (Or.inl rfl) (pe_call F_law_depth (hr.mono (by decide)) rfl T.g_law_depth T.k_law_depth B_law_depth .nil pass0 (pa_cons (pv 0) pa_nil)))
    (pss_cons (ps_set (i := 3) sc_law_grown.nd rfl (Or.inl rfl) (pe_meth0 (pe_ix ix_list (pv 0) pe_int (fun _ _ => rfl)) T.cl_Trail T.m_Trail_literals F_Trail_literals (hr.mono (by decide)) B_Trail_literals .nil pass0))
    (pss_cons (ps_if (PW.pt (pw_or (pt_not (pt_val (pe_callB call_isi rfl T.f_isinstance bt_isinstance (pa_cons (pv 3) (pa_cons (pe_bltn (v := .ty "list") rfl T.f_list bt_list rfl) pa_nil))))) (pw_or1 (pt_not (pt_val (pe_call F_law_list (hr.mono (by decide)) rfl T.g_law_list T.k_law_list B_law_list .nil pass0 (pa_cons (pe_slice sl_list (pv 3) po_none (po_some (pe_callB call_len_seq rfl T.f_len bt_len (pa_cons (pv 1) pa_nil)))) (pa_cons (pe_lc (own := [("row", 7)]) (g := gName 7) rfl sc_law_grown.nd (pi_list (pv 1)) (blkOk_by (N := N_law_grown) (sc := defScope s_law_grown) (by decide +kernel)) (fun _ _ _ _ _ => pg_name (i := 7) sc_law_grown.nd rfl (Or.inl rfl)) (fun _ _ _ _ _ => pts_nil) (fun _ _ _ _ _ => (pe_ix ix_tup (pv 7) pe_int (fun _ _ => rfl)))) pa_nil)))))))) (pss_one (ps_ret pe_non)) pss_nil)
    (pss_cons (ps_for PassesOwn.never rfl (pi_list (pe_slice sl_list (pv 3) (po_some (pe_callB call_len_seq rfl T.f_len bt_len (pa_cons (pv 1) pa_nil))) po_none)) (pg_name (i := 4) sc_law_grown.nd rfl (Or.inr rfl)) (pss_cons (ps_if (PW.pt (pw_or (pt_not (pt_val (pe_call F_law_whole (hr.mono (by decide)) rfl T.g_law_whole T.k_law_whole B_law_whole .nil pass0 (pa_cons (pv 4) pa_nil)))) (pw_or1 (pt_cmpR op_notIn_seq (pe_callB call_abs rfl T.f_abs bt_abs (pa_cons (pv 4) pa_nil)) (pe_ix ix_list (pv 0) pe_int (fun _ _ => rfl)) (by rfl))))) (pss_one (ps_ret pe_non)) pss_nil)
    (pss_cons (ps_set (i := 5) sc_law_grown.nd rfl (Or.inl rfl) (pe_meth (pe_ix ix_list (pv 0) pe_int (fun _ _ => rfl)) T.cl_Trail T.m_Trail_reason_of F_Trail_reason_of (hr.mono (by decide)) B_Trail_reason_of .nil pass0 (pa_cons (pv 4) pa_nil)))
    (pss_cons (ps_if (PW.pt (pw_or (pt_not (pt_val (pe_call F_law_whole (hr.mono (by decide)) rfl T.g_law_whole T.k_law_whole B_law_whole .nil pass0 (pa_cons (pv 5) pa_nil)))) (pw_or (pt_not (pt_chain op_le op_lt pe_int (pv 5) (pe_callB call_len_seq rfl T.f_len bt_len (pa_cons (pe_ix ix_list (pv 0) pe_int (fun _ _ => rfl)) pa_nil)))) (pw_or1 (pt_val (pe_ix ix_list (pe_ix ix_list (pv 0) pe_int (fun _ _ => rfl)) (pv 5) (fun _ _ => rfl))))))) (pss_one (ps_ret pe_non)) pss_nil)
    (pss_cons (ps_set (i := 6) sc_law_grown.nd rfl (Or.inr rfl) (pe_lc (own := [("row", 7)]) (g := gName 7) rfl sc_law_grown.nd (pi_list (pv 1)) (blkOk_by (N := N_law_grown) (sc := defScope s_law_grown) (by decide +kernel)) (fun _ _ _ _ _ => pg_name (i := 7) sc_law_grown.nd rfl (Or.inl rfl)) (fun _ _ _ _ _ => pts_nil) (fun _ _ _ _ _ => (pe_ix ix_tup (pv 7) pe_int (fun _ _ => rfl)))))
    (pss_cons (ps_if (PW.pt (pw_or (pt_cmpR op_notIn_seq (pv 4) (pe_ix ix_list (pe_ix ix_list (pv 0) pe_int (fun _ _ => rfl)) (pv 5) (fun _ _ => rfl)) (by rfl)) (pw_or (pt_cmpR op_in_seq (pv 4) (pv 6) (by rfl)) (pw_or1 (pt_cmpR op_in_seq (pe_un un_neg (pv 4)) (pv 6) (by rfl)))))) (pss_one (ps_ret pe_non)) pss_nil)
    (pss_cons (ps_if (pt_cmp (pc_gt (pe_callB call_len_seq rfl T.f_len bt_len (pa_cons (pe_lc (own := [("other", 8)]) (g := gName 8) rfl sc_law_grown.nd (pi_tup (pe_ix ix_list (pe_ix ix_list (pv 0) pe_int (fun _ _ => rfl)) (pv 5) (fun _ _ => rfl))) (blkOk_by (N := N_law_grown) (sc := defScope s_law_grown) (by decide +kernel)) (fun _ _ _ _ _ => pg_name (i := 8) sc_law_grown.nd rfl (Or.inl rfl)) (fun _ _ _ _ _ => (pts_one (PW.pt (pw_and (pt_cmp (pc_neI (pv 8) (pv 4))) (pw_and1 (pt_cmpR op_notIn_seq (pe_un un_neg (pv 8)) (pv 6) (by rfl))))))) (fun _ _ _ _ _ => (pv 8))) pa_nil)) pe_int)) (pss_one (ps_ret pe_non)) pss_nil)
    (pss_one (ps_expr (pe_bm PySem.F.plainAttrs_list PySem.F.slot_list_append PySem.F.type_list_append mt_append (pv 1) (pa_cons (pe_tup (pa_cons (pv 4) (pa_cons (pv 2) (pa_cons (pv 5) pa_nil)))) pa_nil)))))))))))
    (pss_one (ps_ret (pv 1))))))))
theorem len_law_grown (h : sp_law_grown K vs H Q E) : vs.length = 1 := by
  obtain ⟨_, _, _, _, _, _, _, _, _, _, rfl, _⟩ := h
  rfl
theorem pure_law_grown (T : Tx K mg) (h : sp_law_grown K vs H Q E) : t_law_grown K { nx := fun _ H' => Q .non H', rt := Q } (start N_law_grown vs) H := by
  obtain ⟨L, M, S, Tr, W, rows0, more, fl, lk, d, rfl, A, B, ok, wo, dy, hN, hrows, hmore, hat, q⟩ := h
  obtain ⟨xs, r1, r2, r3⟩ := B.rw'
  obtain ⟨ys, k1, k2, k3⟩ := B.cs
  have hrl := ok.weak.rl
  have hx0 : xs.length = rows0.length := by rw [r2, List.length_map]
  have hx1 : rows0.length + more.length ≤ 100 := by rw [hrows, List.length_append] at hrl; exact hrl
  refine q_asgL (el_list (ev_ixL (j := 6) (ev_var rfl) ev_c B.s rfl) (sq_of r1)) fun pr H1 hpr e1 h1 => ?_
  refine q_asg (v := .int (Tr.depth : Int)) (ev_call (ea_cons (ev_var rfl) ea_nil) fun Ha ea Q' q' E' => ⟨S, L.t, M.w, Tr.known, rows0, W, fl, lk, Tr.depth, rfl, (B.ex e1).ex ea, by omega, fun r hr => ok.le r (by rw [hrows]; exact List.mem_append_left _ hr), hat, q'⟩) fun H2 e2 => ?_
  have e12 := e1.trans e2
  refine q_asgL (el_meth (ev_ixL (j := 0) (ev_var rfl) ev_c (e12 _ _ B.s) rfl) (A.ex e12).t.ob rfl ea_nil (spl_literals (A.ex e12).t)) fun po H3 hpo e3 h3 => ?_
  have e13 := e12.trans e3
  have h13 := e3 _ _ (e2 _ _ h1)
  have hlits : (Tr.rows.map fun r => V.int r.lit) = (Tr.rows.map fun r => r.lit).map V.int := by rw [List.map_map]; rfl
  refine q_when (b := false) (et_is (et_or (a := false) (b := false) (et_is (et_not (et_B (ev_isi (ev_var rfl) (fun H' e' => ty_lst (e' _ _ h3)) kit_ll))) rfl) fun _ => et_is (et_not (et_B (ev_list2 (ns := rows0.map fun r => r.lit) (el_is (el_sl (ev_var rfl) eo_none (eo_some (ev_is (ev_lenL (ev_var rfl) h13) (by rw [List.length_map]))) (sq_of h3)) ?_) (el_is (el_col (i := 0) 0 (ev_var rfl) h13 (fun p hp => e13 _ _ (r3 p hp)) (by omega) (fun x => rfl) (fun x => rfl) rfl (fun r => .int r.lit) fun r => rfl) ?_) ?_))) rfl) rfl) (fun z => nomatch z) (fun _ H4 e4 => ?_)
  · rw [cut_to, hx0, hrows, List.map_append, List.take_append_of_le_length (by rw [List.length_map]; exact Nat.le_refl _)]
    have : rows0.length = (rows0.map fun r => V.int r.lit).length := (List.length_map _).symm
    rw [this, List.take_length, List.map_map]
    rfl
  · rw [← r2, List.map_map]
    rfl
  · rw [List.length_map]
    omega
  have e14 := e13.trans e4
  have h14 := e4 _ _ h13
  have hcut : EvL (tSl (rSlL K) (tVar 3) (tPart (tCB (rLenS K) (tCons (tVar 1) tNil))) tNoPart) [some (.ref S.s), some (.ref pr), some (.int (Tr.depth : Int)), some (.ref po), none, none, none, none, none] H4 (more.map fun r => V.int r.lit) := by
    refine el_is (el_sl (ev_var rfl) (eo_some (ev_is (ev_lenL (ev_var rfl) h14) (by rw [List.length_map]))) eo_none (sq_of (e4 _ _ h3))) ?_
    rw [cut_drop (by rw [List.length_map, hrows, List.length_append]; omega), hx0, hrows, List.map_append]
    have : rows0.length = (rows0.map fun r => V.int r.lit).length := (List.length_map _).symm
    rw [this, List.drop_left]
  refine q_forNLn hcut (fun a i σ' H' => (∃ u u1 u2, σ' = [some (.ref S.s), some (.ref pr), some (.int (Tr.depth : Int)), some (.ref po), u, u1, u2, none, none]) ∧ Ex H H' ∧ a ≠ pr ∧ H' a = some (.lst (more.map fun r => V.int r.lit)) ∧ ∃ zs : List (Row × Addr), H' pr = some (.lst (zs.map fun q => V.ref q.2)) ∧ zs.map (·.1) = rows0 ++ more.take i ∧ ∀ q ∈ zs, H' q.2 = some (.tup (rowV q.1)))
    (fun a H5 ha5 e5 h5 => ⟨⟨_, _, _, rfl⟩, e14.trans e5, (ne_of_none h14 ha5).symm, h5, xs, e5 _ _ h14, by rw [List.take_zero, List.append_nil, r2], fun p hp => (e14.trans e5) _ _ (r3 p hp)⟩) (fun a i σ' H' _ w => sq_of w.2.2.2.1) (fun a i v σ' H' hi w => ?_) (fun a σ' H' w => ?_)
  · obtain ⟨⟨u, u1, u2, rfl⟩, e, nap, ha, zs, z1, z2, z3⟩ := w
    rw [List.getElem?_map] at hi
    obtain ⟨r, hr, rfl⟩ := Option.map_eq_some_iff.mp hi
    have hil := (List.getElem?_eq_some_iff.mp hr).1
    have hrm : r ∈ Tr.rows := by rw [hrows]; exact List.mem_append_right _ (List.mem_of_getElem? hr)
    obtain ⟨hlev, n, hn⟩ := hmore r (List.mem_of_getElem? hr)
    have hri : Tr.rows[rows0.length + i]? = some r := by rw [hrows, List.getElem?_append_right (Nat.le_add_right _ _)]; rw [Nat.add_sub_cancel_left]; exact hr
    obtain ⟨hlive, c, hc, hlc, hoth⟩ := dy.rsn _ r n hri hn
    have htk : Tr.rows.take (rows0.length + i) = rows0 ++ more.take i := by rw [hrows, List.take_append, Nat.add_sub_cancel_left, List.take_of_length_le (by omega)]
    rw [htk, ← z2] at hoth
    have hnl := (List.getElem?_eq_some_iff.mp hc).1
    obtain ⟨ca, cxs, c1, c2, c3, c4⟩ := cls_at B hc
    have hrk : (r.lit.natAbs : Int) ∈ Tr.known := ok.mem r hrm
    have zl : zs.length = rows0.length + i := by
      have := congrArg List.length z2
      rw [List.length_map, List.length_append, List.length_take] at this
      omega
    have A5 := A.ex e
    have hck := wo.ck n c hc
    -- literal known
    refine q_when (b := false) (et_is (et_or (a := false) (b := false) (et_is (et_not (et_B (ev_call (ea_cons (ev_var rfl) ea_nil) spv_whole))) rfl) fun _ => et_test (ev_is (ev_inL (ev_abs (ev_var rfl)) (ev_ixL (j := 2) (ev_var rfl) ev_c (e _ _ B.s) rfl) (e _ _ B.nd)) (by rw [decide_eq_true hrk]; rfl))) rfl) (fun z => nomatch z) (fun _ H6 e6 => ?_)
    have e06 := e.trans e6
    -- reason
    refine q_asg (v := .int (n : Int)) (ev_is (ev_meth (ev_ixL (j := 0) (ev_var rfl) ev_c (e06 _ _ B.s) rfl) (A.ex e06).t.ob rfl (ea_cons (ev_var rfl) ea_nil) (spv_reason (A.ex e06).t hrk)) (by rw [(lev_row ok hrm).2, hn]; rfl)) fun H7 e7 => ?_
    have e07 := e06.trans e7
    refine q_when (b := false) (et_is (et_or (a := false) (b := false) (et_is (et_not (et_B (ev_call (ea_cons (ev_var rfl) ea_nil) spv_whole))) rfl) fun _ => et_or (a := false) (b := false) (et_is (et_not (et_chain ev_c (ev_var rfl) (ev_lenL (ev_ixL (j := 3) (ev_var rfl) ev_c (e07 _ _ B.s) rfl) (e07 _ _ c1)))) ?_) fun _ => et_B (ev_ixL (j := n) (ev_ixL (j := 5) (ev_var rfl) ev_c (e07 _ _ B.s) rfl) (ev_var rfl) (e07 _ _ B.gn) (by rw [List.getElem?_map, hlive]; rfl))) rfl) (fun z => nomatch z) (fun _ H8 e8 => ?_)
    · rw [c2, decide_eq_true (by omega : (0 : Int) ≤ (n : Int)), decide_eq_true (by omega : (n : Int) < (W.cls.length : Int))]
      rfl
    have e08 := e07.trans e8
    have e68 := (e6.trans e7).trans e8
    -- before
    refine q_asgL (el_col (i := 0) 0 (ev_var rfl) (e68 _ _ z1) (fun p hp => e68 _ _ (z3 p hp)) (by omega) (fun x => rfl) (fun x => rfl) rfl (fun r => .int r.lit) fun r => rfl) fun pb H9 hpb e9 h9 => ?_
    have h9' : H9 pb = some (.lst (((zs.map (·.1)).map fun r => r.lit).map V.int)) := by rw [h9, lits_eq]
    have e09 := e08.trans e9
    have bef : ∀ x, x ∈ ((zs.map (·.1)).map fun r => r.lit) ↔ On (zs.map (·.1)) x := fun x => by
      constructor
      · intro h
        obtain ⟨s, hs, rfl⟩ := List.mem_map.mp h
        exact ⟨s, hs, rfl⟩
      · rintro ⟨s, hs, rfl⟩
        exact List.mem_map.mpr ⟨s, hs, rfl⟩
    have nob : ∀ x, x = r.lit ∨ x = -r.lit → ¬ On (zs.map (·.1)) x := fun x hx ⟨s, hs, hse⟩ => by
      rw [z2, ← htk] at hs
      obtain ⟨j, hj, hje⟩ := List.mem_iff_getElem.mp hs
      rw [List.getElem_take] at hje
      have hjl : j < Tr.rows.length := by rw [List.length_take] at hj; omega
      have hji : j < rows0.length + i := by rw [List.length_take] at hj; omega
      obtain ⟨hil2, hie⟩ := List.getElem?_eq_some_iff.mp hri
      have hnd : Tr.rows.Pairwise fun a b => a.ab ≠ b.ab := List.pairwise_map.mp ok.nd
      have := List.pairwise_iff_getElem.mp hnd j _ hjl hil2 hji
      rw [hje, hie] at this
      exact this (ab_eq (by rw [hse]; exact hx))
    have ecl : ∀ {σ : L2.St} {H' : Hp}, Ex H H' → σ[0]? = some (some (.ref S.s)) → σ[5]? = some (some (.int (n : Int))) → Ev (tOp (rIxL K) (tOp (rIxL K) (tVar 0) (tC (.int 3))) (tVar 5)) σ H' (.ref ca) := fun {σ H'} e' h0 h5 => ev_ixL (j := n) (ev_ixL (j := 3) (ev_var h0) ev_c (e' _ _ B.s) rfl) (ev_var h5) (e' _ _ c1) c3
    refine q_when (b := false) (et_is (et_or (a := false) (b := false) (et_test (ev_is (ev_inT (ev_var rfl) (ecl e09 rfl rfl) (e09 _ _ c4)) (by rw [decide_eq_true hlc]; rfl))) fun _ => et_or (a := false) (b := false) (et_test (ev_is (ev_inL (ev_var rfl) (ev_var rfl) h9') (by rw [decide_eq_false (fun z => nob _ (.inl rfl) ((bef _).mp z))]; rfl))) fun _ => et_test (ev_is (ev_inL (ev_neg (ev_var rfl)) (ev_var rfl) h9') (by rw [decide_eq_false (fun z => nob _ (.inr rfl) ((bef _).mp z))]; rfl))) rfl) (fun z => nomatch z) (fun _ H10 e10 => ?_)
    have e010 := e09.trans e10
    have h10 := e10 _ _ h9'
    have eL : EvL (tLc (iTup K (tOp (rIxL K) (tOp (rIxL K) (tVar 0) (tC (.int 3))) (tVar 5))) (gName 8) (tAnd (tB (tNeI (tVar 8) (tVar 4))) (tTest (tOp (rIn K true) (tUn rNegR (tVar 8)) (tVar 6)))) (tVar 8) [8]) [some (.ref S.s), some (.ref pr), some (.int (Tr.depth : Int)), some (.ref po), some (.int r.lit), some (.int (n : Int)), some (.ref pb), none, none] H10 [] := by
      refine el_is (el_lcGT V.int c (fun x => decide (x ≠ r.lit) && !decide (-x ∈ ((zs.map (·.1)).map fun r => r.lit))) V.int (ecl e010 rfl rfl) (e010 _ _ c4) (by have := hck.2.2; omega) (fun x => rfl) (fun x hx => et_and (et_is (et_B (ev_cmp (ev_var rfl) (ev_var rfl))) (by simp)) fun _ => et_test (ev_inL (ev_neg (ev_var rfl)) (ev_var rfl) h10)) (fun x hx _ => ev_var rfl)) ?_
      rw [List.filter_eq_nil_iff.mpr fun x hx => ?_]
      · rfl
      · by_cases hxr : x = r.lit
        · simp [hxr]
        · rw [decide_eq_true ((bef _).mpr (hoth x hx hxr))]
          simp
    refine q_when (b := false) (et_is (et_B (ev_cmp (ev_lenN eL) ev_c)) rfl) (fun z => nomatch z) (fun _ H11 e11 => ?_)
    have e611 := ((e68.trans e9).trans e10).trans e11
    refine s_appU (e611 _ _ z1) (ev_var rfl) (eu_tup (ea_cons (ev_var rfl) (ea_cons (ev_var rfl) (ea_cons (ev_var rfl) ea_nil))) (by simp)) (by rw [List.length_map]; omega) fun pt H12 hpt e12' h12 => ?_
    have hprH : H pr = none := hpr
    refine ⟨⟨_, _, _, rfl⟩, ((e.trans e611).trans e12').mut hprH, nap, by rw [upd_ne nap]; exact e12' _ _ (e611 _ _ ha), zs ++ [(r, pt)], ?_, ?_, fun p hp => ?_⟩
    · rw [upd_same, List.map_append]
      rfl
    · rw [List.map_append, z2, List.take_add_one, hr, List.append_assoc]
      rfl
    · have z1' := e12' _ _ (e611 _ _ z1)
      rcases List.mem_append.mp hp with hp | hp
      · have z3' := e12' _ _ (e611 _ _ (z3 p hp))
        rw [upd_ne (ne_of z3' z1' (fun z => nomatch z))]
        exact z3'
      · obtain rfl := List.mem_singleton.mp hp
        rw [upd_ne (ne_of h12 z1' (fun z => nomatch z)), h12]
        show some (HO.tup [V.int r.lit, V.int (Tr.depth : Int), V.int (n : Int)]) = some (.tup [V.int r.lit, V.int (r.lev : Int), rsV r.rs])
        rw [hlev, hn]
        rfl
  · obtain ⟨⟨u, u1, u2, rfl⟩, e, nap, ha, zs, z1, z2, z3⟩ := w
    rw [List.length_map, List.take_length] at z2
    exact s_ret (ev_var rfl) fun H6 e6 => q pr zs H6 hpr (e.trans e6) (e6 _ _ z1) (by rw [z2, hrows]) fun p hp => e6 _ _ (z3 p hp)
theorem ok_law_grown {P : Program} {w : World} {K : PySem.W.Frag} {mg : Str → Option Value} {base : Heap} (T : Tx K mg) : FnX P w K mg base 3 (He.fAd K ("_law_grown", none)) ps_law_grown (sp_law_grown K) := by
  obtain ⟨_, F_law_depth, B_law_depth⟩ := ok_law_depth (P := P) (w := w) (base := base) T
  obtain ⟨_, F_Trail_literals, B_Trail_literals⟩ := ok_Trail_literals (P := P) (w := w) (base := base) T
  obtain ⟨_, F_law_list, B_law_list⟩ := ok_law_list (P := P) (w := w) (base := base) T
  obtain ⟨_, F_law_whole, B_law_whole⟩ := ok_law_whole (P := P) (w := w) (base := base) T
  obtain ⟨_, F_Trail_reason_of, B_Trail_reason_of⟩ := ok_Trail_reason_of (P := P) (w := w) (base := base) T
  obtain ⟨fd, F⟩ := T.fun_law_grown
  refine ⟨fd, F.ok sc_law_grown (fun vs H Q E h => len_law_grown h) (fun cdv A outer s H vs Q E hr h => ⟨t_law_grown K, PSs.nox (der_law_grown T F_law_depth B_law_depth F_Trail_literals B_Trail_literals F_law_list B_law_list F_law_whole B_law_whole F_Trail_reason_of B_Trail_reason_of hr (hu_of hr)), pure_law_grown T h⟩), F.bindsN fun _ _ _ _ _ _ us hl => match us, hl with | [_], _ => rfl⟩
end
end TW

set_option Elab.async false
set_option linter.all false
set_option maxRecDepth 100000
set_option maxHeartbeats 1000000
namespace TW
open PySem PySem.Spec PyProof.Rows L2 Evl
def rListDR : List V → Hp → VK → Prop := fun xs H Q => ∃ (a : Addr) (kvs : List (Key × V)), xs = [.ref a] ∧ Rd H a (.dK kvs) ∧ ∀ p, H p = none → Q (.ref p) (upd H p (.lst (kvs.map fun kv => kV kv.1)))
/-! ### what follows from the choices -/
def fK (ks : List Int) : List (Key × V) := ks.map fun x => (Sum.inl x, V.bl true)
theorem fK_has {ks : List Int} {x : Int} : (valV (fK ks) (Sum.inl x)).isSome = decide (x ∈ ks) := by
  induction ks with
  | nil => rfl
  | cons a r ih =>
    unfold fK valV at *
    rw [List.map_cons, List.find?_cons]
    by_cases h : a = x
    · subst h
      simp
    · have h2 : ¬ (Sum.inl a : Key) = Sum.inl x := fun z => h (Sum.inl.inj z)
      rw [decide_eq_false h2]
      simp only [ih, List.mem_cons]
      have h3 : ¬ x = a := fun z => h z.symm
      simp [h3]
theorem fK_put {ks : List Int} {x : Int} : putK (fK ks) (Sum.inl x) (V.bl true) = fK (if x ∈ ks then ks else ks ++ [x]) := by
  by_cases h : x ∈ ks
  · rw [if_pos h]
    unfold putK
    have h1 : ((fK ks).any fun kv => decide (kv.1 = (Sum.inl x : Key))) = true := List.any_eq_true.mpr ⟨(Sum.inl x, V.bl true), List.mem_map.mpr ⟨x, h, rfl⟩, decide_eq_true rfl⟩
    rw [if_pos h1]
    unfold fK
    rw [List.map_map]
    refine List.map_congr_left fun y hy => ?_
    show (if (Sum.inl y : Key) = Sum.inl x then ((Sum.inl y : Key), V.bl true) else (Sum.inl y, V.bl true)) = (Sum.inl y, V.bl true)
    split <;> rfl
  · rw [if_neg h, putK_new]
    · unfold fK
      rw [List.map_append]
      rfl
    · have := fK_has (ks := ks) (x := x)
      rw [decide_eq_false h] at this
      exact Option.not_isSome_iff_eq_none.mp (by rw [this]; decide)
def Chosen (rows : List Row) (P : Int → Prop) : Prop := ∀ r ∈ rows, r.rs = none → P r.lit
/-- closed under what a clause with one literal left says, no clause without any left -/
def Closed (W : Wt) (P : Int → Prop) : Prop := ∀ (n : Nat) (c : List Int), W.live n → W.cls[n]? = some c → (∃ x ∈ c, ¬ P (-x)) ∧ ∀ x ∈ c, (∀ y ∈ c, y ≠ x → P (-y)) → P x
def Fix (W : Wt) (ks : List Int) (n : Nat) : Prop := W.live n → ∀ c, W.cls[n]? = some c → (c.filter fun x => !decide (-x ∈ ks)) ≠ [] ∧ ∀ x, (c.filter fun x => !decide (-x ∈ ks)) = [x] → x ∈ ks
structure Fnd (known : List Int) (rows : List Row) (W : Wt) (ks : List Int) : Prop where
  nd : ks.Nodup
  cs : ∀ x ∈ ks, ¬ -x ∈ ks
  kn : ∀ x ∈ ks, (x.natAbs : Int) ∈ known
  ch : Chosen rows (· ∈ ks)
  dv : ∀ P, Chosen rows P → Closed W P → ∀ x ∈ ks, P x
theorem Fnd.len {known : List Int} {rows : List Row} {W : Wt} {ks : List Int} (h : Fnd known rows W ks) : ks.length ≤ known.length := by
  have := nodup_lenG (l := ks.map fun x => (x.natAbs : Int)) (m := known) ?_ fun y hy => ?_
  · rw [List.length_map] at this
    exact this
  · have h2 : ks.Pairwise fun a b => (a.natAbs : Int) ≠ (b.natAbs : Int) := by
      refine List.Pairwise.imp_of_mem ?_ h.nd
      intro a b ha hb hab e
      have e' : a.natAbs = b.natAbs := by exact_mod_cast e
      have : a = -b := by omega
      exact h.cs b hb (this ▸ ha)
    exact List.pairwise_map.mpr h2
  · obtain ⟨x, hx, rfl⟩ := List.mem_map.mp hy
    exact h.kn x hx
section
variable {K : PySem.W.Frag} {mg : Str → Option Value} {vs : List V} {H H' : Hp} {Q : VK} {E : XK} {σ : L2.St} {ta tb te tl td ty : TE} {x y v : V} {D : Ends} {tz : TS} {tc : TT} {tu tw : TS}
theorem ev_lenD {a : Addr} {kvs : List (Key × V)} (h : Ev ta σ H (.ref a)) (ha : H a = some (.dK kvs)) : Ev (tCB rLenDR (tCons ta tNil)) σ H (.int (kvs.length : Int)) := fun H1 e Q q =>
  h H1 e _ fun H2 e2 => ⟨a, kvs, rfl, e2 _ _ (e _ _ ha), q H2 e2⟩
def sp_law_closure (K : PySem.W.Frag) : Sp := fun vs H Q _ => ∃ (s : Addr) (T : Tr) (W : Wt) (fl : Bool) (lk : List Int) (F : Addr → Prop), vs = [.ref s] ∧ WS K s T W fl lk F H ∧ T.Ok ∧ WOk T.known W ∧ W.cls.length ≤ 1000 ∧
  ((∀ P, Chosen T.rows P → Closed W P → False) → ∀ H', Ex H H' → Q .non H') ∧
  ∀ (p : Addr) (ks : List Int) H', H p = none → Ex H H' → H' p = some (.lst (ks.map V.int)) → ks.Pairwise (· ≤ ·) → Fnd T.known T.rows W ks → (∀ n, n < W.cls.length → Fix W ks n) → Q (.ref p) H'
abbrev N_law_closure : List Str := ["seat", "found", "row", "turn", "size", "k", "left", "literal"]
theorem sc_law_closure : FnScope N_law_closure ["seat"] (defScope s_law_closure) := ⟨rfl, rfl, rfl, by decide +kernel, rfl, by decide +kernel, by decide +kernel⟩
def t_law_closure (K : PySem.W.Frag) : TS := (tSeq (tAsg tDNewK (gName 1))
    (tSeq (tFor (iList K (tOp (rIxL K) (tVar 0) (tC (.int 6)))) (gName 2) (tIfS (tTest (tOp rIsN (tOp (rIxT K) (tVar 2) (tC (.int 2))) (tC .non))) (sDPut (tVar 1) (tOp (rIxT K) (tVar 2) (tC (.int 0))) (tC (.bl true))) tNext))
    (tSeq (tFor (iRng1 (tCons (tOp rAddR (tCB (rLenS K) (tCons (tOp (rIxL K) (tVar 0) (tC (.int 2))) tNil)) (tC (.int 1))) tNil)) (gName 3) (tSeq (tAsg (tCB rLenDR (tCons (tVar 1) tNil)) (gName 4))
    (tSeq (tFor (iRng1 (tCons (tCB (rLenS K) (tCons (tOp (rIxL K) (tVar 0) (tC (.int 3))) tNil)) tNil)) (gName 5) (tSeq (tAsg (tLc (iTup K (tOp (rIxL K) (tOp (rIxL K) (tVar 0) (tC (.int 3))) (tVar 5))) (gName 7) (tB (tDNotIn (tUn rNegR (tVar 7)) (tVar 1))) (tVar 7) [7]) (gName 6))
    (tSeq (tIfS (tAnd (tNot (tB (tOp (rIxL K) (tOp (rIxL K) (tVar 0) (tC (.int 5))) (tVar 5)))) (tB (tEqI (tCB (rLenS K) (tCons (tVar 6) tNil)) (tC (.int 0))))) (tRet (tC .non)) tNext)
    (tIfS (tAnd (tNot (tB (tOp (rIxL K) (tOp (rIxL K) (tVar 0) (tC (.int 5))) (tVar 5)))) (tB (tEqI (tCB (rLenS K) (tCons (tVar 6) tNil)) (tC (.int 1))))) (sDPut (tVar 1) (tOp (rIxL K) (tVar 6) (tC (.int 0))) (tC (.bl true))) tNext))))
    (tIfS (tB (tEqI (tCB rLenDR (tCons (tVar 1) tNil)) (tVar 4))) tBreak tNext))))
    (tRet (tCB (rSortedI K) (tCons (tCB rListDR (tCons (tVar 1) tNil)) tNil))))))
set_option maxHeartbeats 4000000 in
theorem der_law_closure {P : Program} {w : World} {K : PySem.W.Frag} {mg : Str → Option Value} {base : Heap} {f : Addr} {cdv : Value} {A : Around} {outer : List Env} {s : Shared} {H : Hp} {E : XK} (T : Tx K mg) (hr : Room 0 (A.deeper (envOfC "_law_closure" (defScope s_law_closure) s.heap.objs.size f cdv))) (hu : (A.deeper (envOfC "_law_closure" (defScope s_law_closure) s.heap.objs.size f cdv)).units + 1 < cLine) :
    PSs (cxOf CX0 P w K mg base N_law_closure "_law_closure" (defScope s_law_closure) f cdv A outer s H E).nox (defBody s_law_closure) (t_law_closure K) := by
  exact (pss_cons (ps_set (i := 1) sc_law_closure.nd rfl (Or.inr rfl) pe_dnewK)
    (pss_cons (ps_for PassesOwn.never rfl (pi_list (pe_ix ix_list (pv 0) pe_int (fun _ _ => rfl))) (pg_name (i := 2) sc_law_closure.nd rfl (Or.inl rfl)) (pss_one (ps_if (pt_cmpR op_isN1 (pe_ix ix_tup (pv 2) pe_int (fun _ _ => rfl)) pe_non (by rfl)) (pss_one (ps_dput hu (pv 1) (pe_ix ix_tup (pv 2) pe_int (fun _ _ => rfl)) pe_bl rfl)) pss_nil)))
    (pss_cons (ps_for PassesOwn.never rfl (pi_range1 rfl T.f_range (pa_cons (pe_op op_add (pe_callB call_len_seq rfl T.f_len bt_len (pa_cons (pe_ix ix_list (pv 0) pe_int (fun _ _ => rfl)) pa_nil)) pe_int) pa_nil)) (pg_name (i := 3) sc_law_closure.nd rfl (Or.inl rfl)) (pss_cons (ps_set (i := 4) sc_law_closure.nd rfl (Or.inl rfl) (pe_callB call_lenD rfl T.f_len bt_len (pa_cons (pv 1) pa_nil)))
    (pss_cons (ps_for PassesOwn.never rfl (pi_range1 rfl T.f_range (pa_cons (pe_callB call_len_seq rfl T.f_len bt_len (pa_cons (pe_ix ix_list (pv 0) pe_int (fun _ _ => rfl)) pa_nil)) pa_nil)) (pg_name (i := 5) sc_law_closure.nd rfl (Or.inl rfl)) (pss_cons (ps_setLc (i := 6) (own := [("literal", 7)]) (g := gName 7) rfl sc_law_closure.nd rfl rfl (sw_true rfl rfl rfl (by decide +kernel)) (pi_tup (pe_ix ix_list (pe_ix ix_list (pv 0) pe_int (fun _ _ => rfl)) (pv 5) (fun _ _ => rfl))) (blkOk_by (N := N_law_closure) (sc := defScope s_law_closure) (by decide +kernel)) (fun _ _ _ _ _ => pg_name (i := 7) sc_law_closure.nd rfl (Or.inl rfl)) (fun _ _ _ _ _ => (pts_one (pt_cmp (pc_dnotin hu (pe_un un_neg (pv 7)) (pv 1))))) (fun _ _ _ _ _ => (pv 7)))
    (pss_cons (ps_if (PW.pt (pw_and (pt_not (pt_val (pe_ix ix_list (pe_ix ix_list (pv 0) pe_int (fun _ _ => rfl)) (pv 5) (fun _ _ => rfl)))) (pw_and1 (pt_cmp (pc_eqI (pe_callB call_len_seq rfl T.f_len bt_len (pa_cons (pv 6) pa_nil)) pe_int))))) (pss_one (ps_ret pe_non)) pss_nil)
    (pss_one (ps_if (PW.pt (pw_and (pt_not (pt_val (pe_ix ix_list (pe_ix ix_list (pv 0) pe_int (fun _ _ => rfl)) (pv 5) (fun _ _ => rfl)))) (pw_and1 (pt_cmp (pc_eqI (pe_callB call_len_seq rfl T.f_len bt_len (pa_cons (pv 6) pa_nil)) pe_int))))) (pss_one (ps_dput hu (pv 1) (pe_ix ix_list (pv 6) pe_int (fun _ _ => rfl)) pe_bl rfl)) pss_nil)))))
    (pss_one (ps_if (pt_cmp (pc_eqI (pe_callB call_lenD rfl T.f_len bt_len (pa_cons (pv 1) pa_nil)) (pv 4))) (pss_one ps_break) pss_nil)))))
    (pss_one (ps_ret (pe_callB cr_sortedI rfl T.f_sorted bt_sorted (pa_cons (pe_callTy (call_listD rfl) rfl T.f_list bt_list (pa_cons (pv 1) pa_nil)) pa_nil)))))))
theorem len_law_closure (h : sp_law_closure K vs H Q E) : vs.length = 1 := by
  obtain ⟨_, _, _, _, _, _, rfl, _⟩ := h
  rfl
theorem pure_law_closure (T : Tx K mg) (h : sp_law_closure K vs H Q E) : t_law_closure K { nx := fun _ H' => Q .non H', rt := Q } (start N_law_closure vs) H := by
  obtain ⟨s, Tr, W, fl, lk, F, rfl, ⟨L, M, S, rfl, rfl, A⟩, ok, wo, hN, q1, q2⟩ := h
  have B := A.B
  obtain ⟨xs, r1, r2, r3⟩ := B.rw'
  have hl := rows_len ok r2
  refine q_asgD ed_new fun pd H1 hpd e1 h1 => ?_
  -- for row in seat[6]
  refine q_forLn (ev_ixL (j := 6) (ev_var rfl) ev_c (e1 _ _ B.s) rfl) (sq_of (e1 _ _ r1)) (fun i σ' H' => (∃ u, σ' = [some (.ref S.s), some (.ref pd), u, none, none, none, none, none]) ∧ Ex H H' ∧ H' pd = some (.dK (fK (((Tr.rows.take i).filter fun r => decide (r.rs = none)).map fun r => r.lit)))) (fun H2 e2 => ⟨⟨none, rfl⟩, e1.trans e2, e2 _ _ h1⟩) (fun i σ' H' _ w => sq_of (w.2.1 _ _ r1)) (fun i v σ' H' hi w => ?_) (fun σ' H' w => ?_)
  · obtain ⟨⟨u, rfl⟩, e, hd⟩ := w
    rw [List.getElem?_map] at hi
    obtain ⟨p, hp, rfl⟩ := Option.map_eq_some_iff.mp hi
    have hpm := List.mem_of_getElem? hp
    have hrow := e _ _ (r3 p hpm)
    have hri : Tr.rows[i]? = some p.1 := by rw [r2, List.getElem?_map, hp]; rfl
    have htk : Tr.rows.take (i + 1) = Tr.rows.take i ++ [p.1] := by rw [List.take_add_one, hri]; rfl
    refine s_when (b := decide (p.1.rs = none)) (et_is (et_test (ev_isN (ev_ixT (j := 2) (ev_var rfl) ev_c hrow rfl))) ?_) (fun hb H2 e2 => ?_) (fun hb H2 e2 => ⟨⟨_, rfl⟩, e.trans e2, ?_⟩)
    · cases p.1.rs <;> simp [rsV]
    · have hno : ¬ p.1.lit ∈ ((Tr.rows.take i).filter fun r => decide (r.rs = none)).map fun r => r.lit := fun z => by
        obtain ⟨r, hr, hre⟩ := List.mem_map.mp z
        have hr := (List.mem_filter.mp hr).1
        obtain ⟨j, hj, hje⟩ := List.mem_iff_getElem.mp hr
        rw [List.getElem_take] at hje
        have hjl : j < Tr.rows.length := by rw [List.length_take] at hj; omega
        have hji : j < i := by rw [List.length_take] at hj; omega
        obtain ⟨hil, hie⟩ := List.getElem?_eq_some_iff.mp hri
        have hnd : Tr.rows.Pairwise fun a b => a.ab ≠ b.ab := List.pairwise_map.mp ok.nd
        have := List.pairwise_iff_getElem.mp hnd j i hjl hil hji
        rw [hje, hie] at this
        exact this (by show (r.lit.natAbs : Int) = _; rw [hre])
      refine s_dput (k := Sum.inl p.1.lit) ev_c (ev_var rfl) (ev_ixT (j := 0) (ev_var rfl) ev_c (e2 _ _ hrow) rfl) (e2 _ _ hd) ?_ fun H3 e3 => ⟨⟨_, rfl⟩, ((e.trans e2).trans e3).mut hpd, ?_⟩
      · unfold fK
        rw [List.length_map, List.length_map]
        have := List.length_filter_le (fun r : Row => decide (r.rs = none)) (Tr.rows.take i)
        rw [List.length_take] at this
        have := ok.weak.rl
        omega
      · rw [upd_same, fK_put, if_neg hno, htk, List.filter_append, List.filter_cons, if_pos (by simpa using hb), List.map_append]
        rfl
    · rw [htk, List.filter_append, List.filter_cons, if_neg (by simpa using hb), List.filter_nil, List.append_nil]
      exact e2 _ _ hd
  · obtain ⟨⟨u, rfl⟩, e, hd⟩ := w
    have hlen : (xs.map fun p => V.ref p.2).length = Tr.rows.length := by rw [r2, List.length_map, List.length_map]
    rw [hlen, List.take_length] at hd
    obtain ⟨ys, k1, k2, k3⟩ := B.cs
    have hyl : ys.length = W.cls.length := by rw [k2, List.length_map]
    have f0 : Fnd Tr.known Tr.rows W ((Tr.rows.filter fun r => decide (r.rs = none)).map fun r => r.lit) := by
      refine ⟨?_, fun x hx hx' => ?_, fun x hx => ?_, fun r hr hn => List.mem_map.mpr ⟨r, List.mem_filter.mpr ⟨hr, decide_eq_true hn⟩, rfl⟩, fun P h1 h2 x hx => ?_⟩
      · have h1 : Tr.rows.Pairwise fun a b => a.ab ≠ b.ab := List.pairwise_map.mp ok.nd
        refine List.pairwise_map.mpr (List.Pairwise.imp ?_ (h1.sublist List.filter_sublist))
        intro a b hab e
        exact hab (by show (a.lit.natAbs : Int) = _; rw [e])
      · obtain ⟨r, hr, rfl⟩ := List.mem_map.mp hx
        obtain ⟨r', hr', he⟩ := List.mem_map.mp hx'
        have m := (List.mem_filter.mp hr).1
        exact on_both ok.nd (ok_ne ok (ok.mem r m)) ⟨r, m, rfl⟩ ⟨r', (List.mem_filter.mp hr').1, he⟩
      · obtain ⟨r, hr, rfl⟩ := List.mem_map.mp hx
        exact ok.mem r (List.mem_filter.mp hr).1
      · obtain ⟨r, hr, rfl⟩ := List.mem_map.mp hx
        exact h1 r (List.mem_filter.mp hr).1 (of_decide_eq_true (List.mem_filter.mp hr).2)
    have hkl := ok.kl
    -- the end
    have ending : ∀ {ks : List Int} {H2 : Hp} {u u1 u2 u3 u4 : Option V}, Ex H H2 → H2 pd = some (.dK (fK ks)) → Fnd Tr.known Tr.rows W ks → (∀ n, n < W.cls.length → Fix W ks n) →
        tRet (tCB (rSortedI K) (tCons (tCB rListDR (tCons (tVar 1) tNil)) tNil)) { nx := fun _ H' => Q .non H', rt := Q } [some (.ref S.s), some (.ref pd), u, u1, u2, u3, u4, none] H2 := fun {ks H2 u u1 u2 u3 u4} e2 h2 fd fx => by
      refine ⟨_, rfl, pd, fK ks, rfl, .inl h2, fun p hp => ⟨p, ks, rfl, ?_, fun ns' p' hperm hpw hp' => ?_⟩⟩
      · refine sq_of (upd_same.trans ?_)
        congr 2
        unfold fK
        rw [List.map_map]
        rfl
      · have hp0 : H p' = none := fresh_back (e2.trans (Ex.new hp)) hp'
        refine q2 p' ns' _ hp0 ((e2.trans (Ex.new hp)).trans (Ex.new hp')) upd_same hpw ?_ fun n hn hl c hc => ?_
        · refine ⟨hperm.nodup_iff.mpr fd.nd, fun x hx hx' => fd.cs x (hperm.mem_iff.mp hx) (hperm.mem_iff.mp hx'), fun x hx => fd.kn x (hperm.mem_iff.mp hx), fun r hr hn => hperm.mem_iff.mpr (fd.ch r hr hn), fun P h1 h2 x hx => fd.dv P h1 h2 x (hperm.mem_iff.mp hx)⟩
        · have e : (fun x => !decide (-x ∈ ns')) = fun x => !decide (-x ∈ ks) := by
            funext x
            congr 1
            rw [Bool.eq_iff_iff]
            simp only [decide_eq_true_eq]
            exact hperm.mem_iff
          rw [e]
          obtain ⟨f1, f2⟩ := fx n hn hl c hc
          exact ⟨f1, fun x hx => hperm.mem_iff.mpr (f2 x hx)⟩
    -- for turn in range(len(seat[2]) + 1)
    refine q_forR1 (n := (Tr.known.length : Int) + 1) (ea_cons (ev_is (ev_add (ev_lenL (ev_ixL (j := 2) (ev_var rfl) ev_c (e _ _ B.s) rfl) (e _ _ B.nd)) ev_c) (by rw [List.length_map])) ea_nil) ⟨by omega, by omega⟩
      (fun t σ' H2 => (∃ u u1 u2 u3 u4, σ' = [some (.ref S.s), some (.ref pd), u, u1, u2, u3, u4, none]) ∧ ∃ ks, Ex H H2 ∧ H2 pd = some (.dK (fK ks)) ∧ Fnd Tr.known Tr.rows W ks ∧ t ≤ ks.length) (fun H2 e2 => ⟨⟨_, _, _, _, _, rfl⟩, _, e.trans e2, e2 _ _ hd, f0, Nat.zero_le _⟩) (fun t σ' H2 ht w => ?_) (fun σ' H2 w => ?_)
    · obtain ⟨⟨u, u1, u2, u3, u4, rfl⟩, ks, e2, h2, fd, hle⟩ := w
      refine q_asg (v := .int (ks.length : Int)) (ev_is (ev_lenD (ev_var rfl) h2) (by unfold fK; rw [List.length_map])) fun H3 e3 => ?_
      have e03 := e2.trans e3
      refine q_forR1 (n := (W.cls.length : Int)) (ea_cons (ev_is (ev_lenL (ev_ixL (j := 3) (ev_var rfl) ev_c (e03 _ _ B.s) rfl) (e03 _ _ k1)) (by rw [List.length_map, hyl])) ea_nil) ⟨by omega, by omega⟩
        (fun j σ' H4 => (∃ u3 u4, σ' = [some (.ref S.s), some (.ref pd), u, some (.int (t : Int)), some (.int (ks.length : Int)), u3, u4, none]) ∧ ∃ ks', Ex H H4 ∧ H4 pd = some (.dK (fK ks')) ∧ Fnd Tr.known Tr.rows W ks' ∧ ks.length ≤ ks'.length ∧ (ks'.length = ks.length → ∀ n, n < j → Fix W ks' n)) (fun H4 e4 => ⟨⟨_, _, rfl⟩, ks, e03.trans e4, e4 _ _ (e3 _ _ h2), fd, Nat.le_refl _, fun _ n hn => absurd hn (Nat.not_lt_zero _)⟩) (fun j σ' H4 hj w => ?_) (fun σ' H4 w => ?_)
      · obtain ⟨⟨u3, u4, rfl⟩, ks', e4, h4, fd', hle', hfx⟩ := w
        have hlt : j < W.cls.length := by omega
        obtain ⟨c, hc⟩ : ∃ c, W.cls[j]? = some c := ⟨_, List.getElem?_eq_getElem hlt⟩
        obtain ⟨a, zs, c1, c2, c3, c4⟩ := cls_at B hc
        obtain ⟨gg, hg, hgl⟩ := gone_of wo hlt
        obtain ⟨w1, w2, w3⟩ := wo.ck j c hc
        refine q_asgL (el_lcGT V.int c (fun x => !decide (-x ∈ ks')) V.int (ev_ixL (j := j) (ev_ixL (j := 3) (ev_var rfl) ev_c (e4 _ _ B.s) rfl) (ev_var rfl) (e4 _ _ c1) c3) (e4 _ _ c4) (by omega) (fun x => rfl) (fun x hx => et_is (et_B (ev_dnin (k := Sum.inl (-x)) (ev_neg (ev_var rfl)) (ev_var rfl) h4)) (by rw [fK_has])) (fun x hx _ => ev_var rfl)) fun pf H5 hpf e5 h5 => ?_
        have e05 := e4.trans e5
        have eg : ∀ {σ : L2.St} {H' : Hp}, Ex H H' → σ[0]? = some (some (.ref S.s)) → σ[5]? = some (some (.int (j : Int))) → EvT (tNot (tB (tOp (rIxL K) (tOp (rIxL K) (tVar 0) (tC (.int 5))) (tVar 5)))) σ H' (!gg) := fun {σ H'} e' h0 h6 => et_not (et_B (ev_ixL (j := j) (ev_ixL (j := 5) (ev_var h0) ev_c (e' _ _ B.s) rfl) (ev_var h6) (e' _ _ B.gn) (by rw [List.getElem?_map, hg]; rfl)))
        refine q_when (b := !gg && decide ((c.filter fun x => !decide (-x ∈ ks')).length = 0)) (et_and (eg e05 rfl rfl) fun _ => et_is (et_B (ev_cmp (p := fun i j => decide (i = j)) (ev_lenL (ev_var rfl) h5) ev_c)) ?_) (fun hb H6 e6 => ?_) (fun hb H6 e6 => ?_)
        · rw [List.length_map, Bool.eq_iff_iff]
          simp
        · obtain ⟨hb1, hb2⟩ := Bool.and_eq_true_iff.mp hb
          have hlive : W.live j := hgl.mp (by cases gg; rfl; cases hb1)
          have hnil := List.length_eq_zero_iff.mp (of_decide_eq_true hb2)
          refine s_ret ev_c fun H7 e7 => q1 (fun P p1 p2 => ?_) H7 ((e05.trans e6).trans e7)
          obtain ⟨x, hx, hnx⟩ := (p2 j c hlive hc).1
          refine hnx (fd'.dv P p1 p2 (-x) ?_)
          have := List.filter_eq_nil_iff.mp hnil x hx
          simpa using this
        · have e06 := e05.trans e6
          have h6 := e6 _ _ h5
          have hd6 := e6 _ _ (e5 _ _ h4)
          refine s_when (b := !gg && decide ((c.filter fun x => !decide (-x ∈ ks')).length = 1)) (et_and (eg e06 rfl rfl) fun _ => et_is (et_B (ev_cmp (p := fun i j => decide (i = j)) (ev_lenL (ev_var rfl) h6) ev_c)) ?_) (fun hb2 H7 e7 => ?_) (fun hb2 H7 e7 => ?_)
          · rw [List.length_map, Bool.eq_iff_iff]
            simp
            omega
          · obtain ⟨hb3, hb4⟩ := Bool.and_eq_true_iff.mp hb2
            have hlive : W.live j := hgl.mp (by cases gg; rfl; cases hb3)
            obtain ⟨z, hz⟩ := List.length_eq_one_iff.mp (of_decide_eq_true hb4)
            have hzm : z ∈ c.filter fun x => !decide (-x ∈ ks') := by rw [hz]; exact List.mem_singleton.mpr rfl
            have hzc := (List.mem_filter.mp hzm).1
            have hzn : ¬ -z ∈ ks' := by simpa using (List.mem_filter.mp hzm).2
            have zne := ok_ne ok (w1 z hzc)
            rw [hz] at h6
            refine s_dput (k := Sum.inl z) ev_c (ev_var rfl) (ev_ixL (j := 0) (ev_var rfl) ev_c (e7 _ _ h6) rfl) (e7 _ _ hd6) ?_ fun H8 e8 => ⟨⟨_, _, rfl⟩, if z ∈ ks' then ks' else ks' ++ [z], ((e06.trans e7).trans e8).mut hpd, by rw [upd_same, fK_put], ?_⟩
            · unfold fK
              rw [List.length_map]
              have := fd'.len
              omega
            · by_cases hin : z ∈ ks'
              · rw [if_pos hin]
                refine ⟨fd', hle', fun he n hn hl c' hc' => ?_⟩
                rcases Nat.lt_or_eq_of_le (Nat.le_of_lt_succ hn) with q | q
                · exact hfx he n q hl c' hc'
                · rw [q, hc] at hc'
                  cases hc'
                  rw [hz]
                  exact ⟨fun z => (nomatch z), fun x hx => by rw [← (List.cons.inj hx).1]; exact hin⟩
              · rw [if_neg hin]
                refine ⟨⟨?_, fun x hx hx' => ?_, fun x hx => ?_, fun r hr hn => List.mem_append_left _ (fd'.ch r hr hn), fun P p1 p2 x hx => ?_⟩, by rw [List.length_append]; omega, fun he => ?_⟩
                · refine List.nodup_append.mpr ⟨fd'.nd, by simp, fun a ha b hb e => hin ?_⟩
                  rw [← List.mem_singleton.mp hb, ← e]
                  exact ha
                · rcases List.mem_append.mp hx with h | h <;> rcases List.mem_append.mp hx' with h' | h'
                  · exact fd'.cs x h h'
                  · have := List.mem_singleton.mp h'
                    exact hzn (by rw [← this, Int.neg_neg]; exact h)
                  · rw [List.mem_singleton.mp h] at h'
                    exact hzn h'
                  · have h1 := List.mem_singleton.mp h
                    have h2 := List.mem_singleton.mp h'
                    omega
                · rcases List.mem_append.mp hx with h | h
                  · exact fd'.kn x h
                  · rw [List.mem_singleton.mp h]
                    exact w1 z hzc
                · rcases List.mem_append.mp hx with h | h
                  · exact fd'.dv P p1 p2 x h
                  · rw [List.mem_singleton.mp h]
                    refine (p2 j c hlive hc).2 z hzc fun y hy hne => fd'.dv P p1 p2 (-y) ?_
                    by_cases q : -y ∈ ks'
                    · exact q
                    · have : y ∈ c.filter fun x => !decide (-x ∈ ks') := List.mem_filter.mpr ⟨hy, by rw [decide_eq_false q]; rfl⟩
                      rw [hz] at this
                      exact (hne (List.mem_singleton.mp this)).elim
                · rw [List.length_append] at he
                  simp at he
                  omega
          · refine ⟨⟨_, _, rfl⟩, ks', e06.trans e7, e7 _ _ hd6, fd', hle', fun he n hn hl c' hc' => ?_⟩
            rcases Nat.lt_or_eq_of_le (Nat.le_of_lt_succ hn) with q | q
            · exact hfx he n q hl c' hc'
            · rw [q] at hl hc'
              rw [hc] at hc'
              cases hc'
              have hgf : gg = false := hgl.mpr hl
              rw [hgf] at hb hb2
              refine ⟨fun z => ?_, fun x hx => ?_⟩
              · rw [z] at hb
                cases hb
              · rw [hx] at hb2
                cases hb2
      · obtain ⟨⟨u3, u4, rfl⟩, ks', e4, h4, fd', hle', hfx⟩ := w
        refine s_when (b := decide (ks'.length = ks.length)) (et_is (et_B (ev_cmp (p := fun i j => decide (i = j)) (ev_lenD (ev_var rfl) h4) (ev_var rfl))) ?_) (fun hb H5 e5 => ?_) (fun hb H5 e5 => ⟨⟨_, _, _, _, _, rfl⟩, ks', e4.trans e5, e5 _ _ h4, fd', ?_⟩)
        · unfold fK
          rw [List.length_map, Bool.eq_iff_iff]
          simp
          omega
        · have hb' := of_decide_eq_true hb
          exact ending (e4.trans e5) (e5 _ _ h4) fd' fun n hn => hfx hb' n (by omega)
        · have := of_decide_eq_false hb
          omega
    · obtain ⟨⟨u, u1, u2, u3, u4, rfl⟩, ks, e2, h2, fd, hle⟩ := w
      have := fd.len
      omega
theorem ok_law_closure {P : Program} {w : World} {K : PySem.W.Frag} {mg : Str → Option Value} {base : Heap} (T : Tx K mg) : FnX P w K mg base 1 (He.fAd K ("_law_closure", none)) ps_law_closure (sp_law_closure K) := by
  obtain ⟨fd, F⟩ := T.fun_law_closure
  refine ⟨fd, F.ok sc_law_closure (fun vs H Q E h => len_law_closure h) (fun cdv A outer s H vs Q E hr h => ⟨t_law_closure K, PSs.nox (der_law_closure T hr (hu_of hr)), pure_law_closure T h⟩), F.bindsN fun _ _ _ _ _ _ us hl => match us, hl with | [_], _ => rfl⟩
end
end TW

set_option Elab.async false
set_option linter.all false
set_option maxRecDepth 100000
set_option maxHeartbeats 1000000
namespace TW
open PySem PySem.Spec PyProof.Rows L2 Evl
theorem tw_lay : ∀ ns : List Int, PyData.canLayAll0 (ns.map PyData.int) = true
  | [] => rfl
  | _ :: r => by simp [PyData.canLayAll0, PyData.canLay0, tw_lay r]
theorem tw_dep : ∀ ns : List Int, PyData.depthAll (ns.map PyData.int) = 0
  | [] => rfl
  | _ :: r => by simp [PyData.depthAll, PyData.depth, tw_dep r]
theorem tw_shaped (ns : List Int) : SeqAt.shaped (.list (ns.map PyData.int)) = true := by
  simp [SeqAt.shaped, PyData.canLay0, PyData.depth, tw_lay, tw_dep]
/-- all rows follow from the choices -/
theorem rows_in {T : Tr} {W : Wt} {d : Nat} {ks : List Int} (wo : WOk T.known W) (dy : Dyn T W d) (fd : Fnd T.known T.rows W ks) (fx : ∀ n, n < W.cls.length → Fix W ks n) : ∀ (i : Nat) (r : Row), T.rows[i]? = some r → r.lit ∈ ks := by
  intro i
  induction i using Nat.strongRecOn with
  | ind i ih =>
    intro r hr
    cases hrs : r.rs with
    | none => exact fd.ch r (List.mem_of_getElem? hr) hrs
    | some n =>
      obtain ⟨hl, c, hc, hm, ho⟩ := dy.rsn i r n hr hrs
      have hn := (List.getElem?_eq_some_iff.mp hc).1
      obtain ⟨f1, f2⟩ := fx n hn hl c hc
      have hoth : ∀ y ∈ c, y ≠ r.lit → -y ∈ ks := fun y hy hne => by
        obtain ⟨s, hs, hse⟩ := ho y hy hne
        obtain ⟨j, hj, hje⟩ := List.mem_iff_getElem.mp hs
        rw [List.length_take] at hj
        rw [← hse]
        refine ih j (by omega) s ?_
        rw [List.getElem_take] at hje
        rw [List.getElem?_eq_getElem (by omega), hje]
      refine f2 r.lit ?_
      have sub : ∀ y ∈ c.filter fun x => !decide (-x ∈ ks), y = r.lit := fun y hy => by
        obtain ⟨h1, h2⟩ := List.mem_filter.mp hy
        by_cases e : y = r.lit
        · exact e
        · rw [decide_eq_true (hoth y h1 e)] at h2
          cases h2
      have nd : (c.filter fun x => !decide (-x ∈ ks)).Nodup := (wo.ck n c hc).2.1.sublist List.filter_sublist
      revert f1 sub nd
      generalize (c.filter fun x => !decide (-x ∈ ks)) = l
      intro f1 sub nd
      match l, f1, sub, nd with
      | [], f1, _, _ => exact absurd rfl f1
      | [a], _, sub, _ => rw [sub a List.mem_cons_self]
      | a :: b :: t, _, sub, nd =>
        have h1 := sub a List.mem_cons_self
        have h2 := sub b (List.mem_cons_of_mem _ List.mem_cons_self)
        rw [h1, h2] at nd
        simp at nd
theorem full_closed {T : Tr} {W : Wt} (F : Full T W) : Closed W (On T.rows) := fun n c hl hc => by
  obtain ⟨f1, f2⟩ := F.left hl hc (f := fun x => (valV (lvK T.rows) (Sum.inl (-x))).isNone) fun x => by
    rw [← lv_is F.j.ok.nd]
    cases valV (lvK T.rows) (Sum.inl (-x)) <;> simp
  have hf : ∀ x, (valV (lvK T.rows) (Sum.inl (-x))).isNone = true ↔ ¬ On T.rows (-x) := fun x => by
    rw [← lv_is F.j.ok.nd]
    cases valV (lvK T.rows) (Sum.inl (-x)) <;> simp
  refine ⟨?_, fun x hx ho => f2 x ?_⟩
  · cases hc2 : c.filter fun x => (valV (lvK T.rows) (Sum.inl (-x))).isNone with
    | nil => exact (f1 hc2).elim
    | cons a t =>
      have hm : a ∈ c.filter fun x => (valV (lvK T.rows) (Sum.inl (-x))).isNone := by rw [hc2]; exact List.mem_cons_self
      exact ⟨a, (List.mem_filter.mp hm).1, (hf a).mp (List.mem_filter.mp hm).2⟩
  · have nd : (c.filter fun x => (valV (lvK T.rows) (Sum.inl (-x))).isNone).Nodup := (F.j.wo.ck n c hc).2.1.sublist List.filter_sublist
    have sub : ∀ y ∈ c.filter fun x => (valV (lvK T.rows) (Sum.inl (-x))).isNone, y = x := fun y hy => by
      obtain ⟨h1, h2⟩ := List.mem_filter.mp hy
      by_cases e : y = x
      · exact e
      · exact ((hf y).mp h2 (ho y h1 e)).elim
    revert f1 sub nd
    generalize (c.filter fun x => (valV (lvK T.rows) (Sum.inl (-x))).isNone) = l
    intro f1 nd sub
    match l, f1, sub, nd with
    | [], f1, _, _ => exact absurd rfl f1
    | [a], _, sub, _ => rw [sub a List.mem_cons_self]
    | a :: b :: t, _, sub, nd =>
      have h1 := sub a List.mem_cons_self
      have h2 := sub b (List.mem_cons_of_mem _ List.mem_cons_self)
      rw [h1, h2] at nd
      simp at nd
section
variable {K : PySem.W.Frag} {mg : Str → Option Value} {vs : List V} {H H' : Hp} {Q : VK} {E : XK} {σ : L2.St} {ta tb te tl td ty : TE} {x y v : V} {D : Ends} {tz : TS} {tc : TT} {tu tw : TS}
theorem dp_ints {b : Addr} {ns : List Int} (h : H b = some (.lst (ns.map V.int))) : Dp K H (.ref b) (.list (ns.map PyData.int)) := by
  refine .lst (sq_of h) ?_
  clear h
  induction ns with
  | nil => exact .nil
  | cons a r ih => exact .cons (.int a) ih
theorem ev_eqL {ns : List Int} {b : Addr} (ha : EvL ta σ H (ns.map V.int)) (hb : Ev tb σ H (.ref b)) (h : H b = some (.lst (ns.map V.int))) : Ev (tOp (rEqD K) ta tb) σ H (.bl true) := fun H1 e Q q =>
  ha H1 e _ fun p H2 hp e2 h2 => hb H2 (e.trans e2) _ fun H3 e3 => ⟨_, _, dp_ints (e3 _ _ h2), dp_ints (((e.trans e2).trans e3) _ _ h), tw_shaped ns, tw_shaped ns, by
    rw [SeqAt.eqv_refl _ (SeqAt.canLay_of_shaped (tw_shaped ns))]
    exact q H3 (e2.trans e3)⟩
theorem el_sorted {ns ms : List Int} {a : Addr} (ha : Ev ta σ H (.ref a)) (h : H a = some (.lst (ns.map V.int))) (hp : ms.Perm ns) (hs : ms.Pairwise (· ≤ ·)) : EvL (tCB (rSortedI K) (tCons ta tNil)) σ H (ms.map V.int) := fun H1 e Q q =>
  ha H1 e _ fun H2 e2 => ⟨a, ns, rfl, sq_of ((e.trans e2) _ _ h), fun ns' p h1 h2 h3 => by
    have : ns' = ms := List.Perm.eq_of_pairwise (fun a b _ _ h1 h2 => Int.le_antisymm h1 h2) h2 hs (h1.trans hp.symm)
    rw [this]
    exact q p _ (fresh_back e2 h3) (e2.trans (Ex.new h3)) upd_same⟩
theorem SAt.same {S : SL} {t w : Addr} {known known' : List Int} {rows : List Row} {W W' : Wt} {fl : Bool} {lk : List Int} (B : SAt S t w known rows W fl lk H) (d : SameD W W') (hk : known' = known) : SAt S t w known' rows W' fl lk H := by
  subst hk
  exact ⟨B.s, B.nd, by rw [d.cl]; exact B.cs, by rw [d.so]; exact B.sr, by rw [d.go]; exact B.gn, B.rw', B.lk', B.nn⟩
/-! ### propagates -/
def sp_law_propagates (K : PySem.W.Frag) : Sp := fun vs H Q _ => ∃ (s : Addr) (T : Tr) (W : Wt) (fl : Bool) (lk : List Int) (F : Addr → Prop), vs = [.ref s] ∧ WS K s T W fl lk F H ∧ J T W ∧ W.cls.length ≤ 1000 ∧
  ∀ T' W' fl' F' H', WS K s T' W' fl' lk F' H' → Stp F F' H H' → Grow T T' → SameD W W' → J T' W' → (fl' = true → Full T' W') → Q (.bl true) H'
abbrev N_law_propagates : List Str := ["seat", "told", "rows", "due", "known", "row", "literal"]
theorem sc_law_propagates : FnScope N_law_propagates ["seat"] (defScope s_law_propagates) := ⟨rfl, rfl, rfl, by decide +kernel, rfl, by decide +kernel, by decide +kernel⟩
def t_law_propagates (K : PySem.W.Frag) : TS := (tSeq (tAsg (tMeth (He.ga K "Watching") "propagate" (sp_Watching_propagate K) [] E0 (tOp (rIxL K) (tVar 0) (tC (.int 1))) tNil) (gName 1))
    (tSeq (tAsg (tCall (sp_law_grown K) [] E0 (tCons (tVar 0) tNil)) (gName 2))
    (tSeq (tIfS (tTest (tOp rIsN (tVar 2) (tC .non))) (tRet (tC (.bl false))) tNext)
    (tSeq (tAsg (tVar 2) (gSub (tVar 0) (tC (.int 6)) rSetL))
    (tSeq (tAsg (tOp rIsN (tVar 1) (tC .non)) (gSub (tVar 0) (tC (.int 7)) rSetL))
    (tSeq (tAsg (tCall (sp_law_closure K) [] E0 (tCons (tVar 0) tNil)) (gName 3))
    (tSeq (tIfS (tNot (tB (tCall (sp_law_stands K) [] E0 (tCons (tVar 0) tNil)))) (tRet (tC (.bl false))) tNext)
    (tSeq (tAsg (tLc (iList K (tVar 2)) (gName 5) tYes (tOp (rIxT K) (tVar 5) (tC (.int 0))) [5]) (gName 4))
    (tSeq (tIfS (tTest (tOp rNotN (tVar 3) (tC .non))) (tRet (tAndV (tOp rIsN (tVar 1) (tC .non)) (tAndV (tOp (rEqD K) (tCB (rSortedI K) (tCons (tVar 4) tNil)) (tVar 3)) (tCall (sp_law_pairs K) [] E0 (tCons (tVar 0) tNil))))) tNext)
    (tSeq (tIfS (tOr (tNot (tB (tCall (sp_law_whole K) [] E0 (tCons (tVar 1) tNil)))) (tOr (tNot (tTest (tChain rLeR rLtR (tC (.int 0)) (tVar 1) (tCB (rLenS K) (tCons (tOp (rIxL K) (tVar 0) (tC (.int 3))) tNil))))) (tB (tOp (rIxL K) (tOp (rIxL K) (tVar 0) (tC (.int 5))) (tVar 1))))) (tRet (tC (.bl false))) tNext)
    (tRet (tEqI (tCB (rLenS K) (tCons (tLc (iTup K (tOp (rIxL K) (tOp (rIxL K) (tVar 0) (tC (.int 3))) (tVar 1))) (gName 6) (tTest (tOp (rIn K true) (tUn rNegR (tVar 6)) (tVar 4))) (tVar 6) [6]) tNil)) (tC (.int 0))))))))))))))
set_option maxHeartbeats 4000000 in
theorem der_law_propagates {P : Program} {w : World} {K : PySem.W.Frag} {mg : Str → Option Value} {base : Heap} {f : Addr} {cdv : Value} {A : Around} {outer : List Env} {s : Shared} {H : Hp} {E : XK} (T : Tx K mg) {fd_Watching_propagate : FuncData} (F_Watching_propagate : FnOk P w K mg base CX0 8 (He.fAd K ("Watching", some "propagate")) fd_Watching_propagate ps_Watching_propagate (sp_Watching_propagate K)) (B_Watching_propagate : Binds K fd_Watching_propagate ps_Watching_propagate []) {fd_law_grown : FuncData} (F_law_grown : FnOk P w K mg base CX0 3 (He.fAd K ("_law_grown", none)) fd_law_grown ps_law_grown (sp_law_grown K)) (B_law_grown : Binds K fd_law_grown ps_law_grown []) {fd_law_closure : FuncData} (F_law_closure : FnOk P w K mg base CX0 1 (He.fAd K ("_law_closure", none)) fd_law_closure ps_law_closure (sp_law_closure K)) (B_law_closure : Binds K fd_law_closure ps_law_closure []) {fd_law_stands : FuncData} (F_law_stands : FnOk P w K mg base CX0 3 (He.fAd K ("_law_stands", none)) fd_law_stands ps_law_stands (sp_law_stands K)) (B_law_stands : Binds K fd_law_stands ps_law_stands []) {fd_law_pairs : FuncData} (F_law_pairs : FnOk P w K mg base CX0 3 (He.fAd K ("_law_pairs", none)) fd_law_pairs ps_law_pairs (sp_law_pairs K)) (B_law_pairs : Binds K fd_law_pairs ps_law_pairs []) {fd_law_whole : FuncData} (F_law_whole : FnOk P w K mg base CX0 1 (He.fAd K ("_law_whole", none)) fd_law_whole ps_law_whole (sp_law_whole K)) (B_law_whole : Binds K fd_law_whole ps_law_whole []) (hr : Room 8 (A.deeper (envOfC "_law_propagates" (defScope s_law_propagates) s.heap.objs.size f cdv))) (hu : (A.deeper (envOfC "_law_propagates" (defScope s_law_propagates) s.heap.objs.size f cdv)).units + 1 < cLine) :
    PSs (cxOf CX0 P w K mg base N_law_propagates "_law_propagates" (defScope s_law_propagates) f cdv A outer s H E).nox (defBody s_law_propagates) (t_law_propagates K) := by
  exact (pss_cons (ps_set (i := 1) sc_law_propagates.nd rfl (Or.inl rfl) (pe_meth0 (pe_ix ix_list (pv 0) pe_int (fun _ _ => rfl)) T.cl_Watching T.m_Watching_propagate F_Watching_propagate (hr.mono (by decide)) B_Watching_propagate .nil pass0))
    (pss_cons (ps_set (i := 2) sc_law_propagates.nd rfl (Or.inl rfl) (pe_call F_law_grown (hr.mono (by decide)) rfl T.g_law_grown T.k_law_grown B_law_grown .nil pass0 (pa_cons (pv 0) pa_nil)))
    (pss_cons (ps_if (pt_cmpR op_isN1 (pv 2) pe_non (by rfl)) (pss_one (ps_ret pe_bl)) pss_nil)
    (pss_cons (ps_asg (pv 2) (pg_sub (pv 0) pe_int set_list))
    (pss_cons (ps_asg (pe_cmpR op_isN1 (pv 1) pe_non (by rfl)) (pg_sub (pv 0) pe_int set_list))
    (pss_cons (ps_set (i := 3) sc_law_propagates.nd rfl (Or.inl rfl) (pe_call F_law_closure (hr.mono (by decide)) rfl T.g_law_closure T.k_law_closure B_law_closure .nil pass0 (pa_cons (pv 0) pa_nil)))
    (pss_cons (ps_if (pt_not (pt_val (pe_call F_law_stands (hr.mono (by decide)) rfl T.g_law_stands T.k_law_stands B_law_stands .nil pass0 (pa_cons (pv 0) pa_nil)))) (pss_one (ps_ret pe_bl)) pss_nil)
    (pss_cons (ps_set (i := 4) sc_law_propagates.nd rfl (Or.inr rfl) (pe_lc (own := [("row", 5)]) (g := gName 5) rfl sc_law_propagates.nd (pi_list (pv 2)) (blkOk_by (N := N_law_propagates) (sc := defScope s_law_propagates) (by decide +kernel)) (fun _ _ _ _ _ => pg_name (i := 5) sc_law_propagates.nd rfl (Or.inl rfl)) (fun _ _ _ _ _ => pts_nil) (fun _ _ _ _ _ => (pe_ix ix_tup (pv 5) pe_int (fun _ _ => rfl)))))
    (pss_cons (ps_if (pt_cmpR op_notN1 (pv 3) pe_non (by rfl)) (pss_one (ps_ret (pe_and (pe_cmpR op_isN1 (pv 1) pe_non (by rfl)) (pe_and (pe_cmpR (op_eqD hr.units) (pe_callB cr_sortedI rfl T.f_sorted bt_sorted (pa_cons (pv 4) pa_nil)) (pv 3) (by rfl)) (pe_one (pe_call F_law_pairs (hr.mono (by decide)) rfl T.g_law_pairs T.k_law_pairs B_law_pairs .nil pass0 (pa_cons (pv 0) pa_nil))))))) pss_nil)
    (pss_cons (ps_if (PW.pt (pw_or (pt_not (pt_val (pe_call F_law_whole (hr.mono (by decide)) rfl T.g_law_whole T.k_law_whole B_law_whole .nil pass0 (pa_cons (pv 1) pa_nil)))) (pw_or (pt_not (pt_chain op_le op_lt pe_int (pv 1) (pe_callB call_len_seq rfl T.f_len bt_len (pa_cons (pe_ix ix_list (pv 0) pe_int (fun _ _ => rfl)) pa_nil)))) (pw_or1 (pt_val (pe_ix ix_list (pe_ix ix_list (pv 0) pe_int (fun _ _ => rfl)) (pv 1) (fun _ _ => rfl))))))) (pss_one (ps_ret pe_bl)) pss_nil)
    (pss_one (ps_ret (pe_cmp (pc_eqI (pe_callB call_len_seq rfl T.f_len bt_len (pa_cons (pe_lc (own := [("literal", 6)]) (g := gName 6) rfl sc_law_propagates.nd (pi_tup (pe_ix ix_list (pe_ix ix_list (pv 0) pe_int (fun _ _ => rfl)) (pv 1) (fun _ _ => rfl))) (blkOk_by (N := N_law_propagates) (sc := defScope s_law_propagates) (by decide +kernel)) (fun _ _ _ _ _ => pg_name (i := 6) sc_law_propagates.nd rfl (Or.inl rfl)) (fun _ _ _ _ _ => (pts_one (pt_cmpR op_notIn_seq (pe_un un_neg (pv 6)) (pv 4) (by rfl)))) (fun _ _ _ _ _ => (pv 6))) pa_nil)) pe_int))))))))))))))
theorem len_law_propagates (h : sp_law_propagates K vs H Q E) : vs.length = 1 := by
  obtain ⟨_, _, _, _, _, _, rfl, _⟩ := h
  rfl
theorem pure_law_propagates (T : Tx K mg) (h : sp_law_propagates K vs H Q E) : t_law_propagates K { nx := fun _ H' => Q .non H', rt := Q } (start N_law_propagates vs) H := by
  obtain ⟨s, T0, W, fl, lk, F, rfl, ⟨L, M, S, rfl, rfl, A⟩, j, hN, q⟩ := h
  refine (ev_ixL (j := 1) (ev_var rfl) ev_c A.B.s rfl : Ev (tOp (rIxL K) (tVar 0) (tC (.int 1))) (start N_law_propagates [.ref S.s]) H (.ref M.w)) H (Ex.refl H) _ fun H1 e1 => ?_
  have A1 := A.ex e1
  obtain ⟨_, _, R1, _⟩ := A1.A.w
  refine ⟨_, _, _, rfl, R1.ob, rfl, L, T0, M, W, rfl, A1.A, j, hN, fun T2 M2 W2 H2 hw2 A2 s2 g2 d2 j2 => ?_⟩
  obtain ⟨t2, dj2, B2'⟩ := A1.two A2 s2 rfl hw2
  have B2 : SAt S L.t M2.w T2.known T0.rows W2 fl lk H2 := B2'.same d2 g2.kn
  have t02 := Stp.pre e1 t2
  obtain ⟨more, hm1, hm2⟩ := g2.rw'
  have ok2 := j2.ok
  have hN2 : W2.cls.length ≤ 1000 := by rw [d2.cl]; exact hN
  have main : ∀ {tv : V}, ((tv = .non ∧ Full T2 W2) ∨ ∃ n : Nat, tv = .int (n : Int) ∧ Clash T2 W2 n) → (tSeq (tAsg (tCall (sp_law_grown K) [] E0 (tCons (tVar 0) tNil)) (gName 2))
    (tSeq (tIfS (tTest (tOp rIsN (tVar 2) (tC .non))) (tRet (tC (.bl false))) tNext)
    (tSeq (tAsg (tVar 2) (gSub (tVar 0) (tC (.int 6)) rSetL))
    (tSeq (tAsg (tOp rIsN (tVar 1) (tC .non)) (gSub (tVar 0) (tC (.int 7)) rSetL))
    (tSeq (tAsg (tCall (sp_law_closure K) [] E0 (tCons (tVar 0) tNil)) (gName 3))
    (tSeq (tIfS (tNot (tB (tCall (sp_law_stands K) [] E0 (tCons (tVar 0) tNil)))) (tRet (tC (.bl false))) tNext)
    (tSeq (tAsg (tLc (iList K (tVar 2)) (gName 5) tYes (tOp (rIxT K) (tVar 5) (tC (.int 0))) [5]) (gName 4))
    (tSeq (tIfS (tTest (tOp rNotN (tVar 3) (tC .non))) (tRet (tAndV (tOp rIsN (tVar 1) (tC .non)) (tAndV (tOp (rEqD K) (tCB (rSortedI K) (tCons (tVar 4) tNil)) (tVar 3)) (tCall (sp_law_pairs K) [] E0 (tCons (tVar 0) tNil))))) tNext)
    (tSeq (tIfS (tOr (tNot (tB (tCall (sp_law_whole K) [] E0 (tCons (tVar 1) tNil)))) (tOr (tNot (tTest (tChain rLeR rLtR (tC (.int 0)) (tVar 1) (tCB (rLenS K) (tCons (tOp (rIxL K) (tVar 0) (tC (.int 3))) tNil))))) (tB (tOp (rIxL K) (tOp (rIxL K) (tVar 0) (tC (.int 5))) (tVar 1))))) (tRet (tC (.bl false))) tNext)
    (tRet (tEqI (tCB (rLenS K) (tCons (tLc (iTup K (tOp (rIxL K) (tOp (rIxL K) (tVar 0) (tC (.int 3))) (tVar 1))) (gName 6) (tTest (tOp (rIn K true) (tUn rNegR (tVar 6)) (tVar 4))) (tVar 6) [6]) tNil)) (tC (.int 0)))))))))))))
      { nx := fun _ H' => Q .non H', rt := Q } [some (.ref S.s), some tv, none, none, none, none, none] H2 := fun {tv} htv => by
    have hat : T2.depth = 0 ∨ ∃ r ∈ T0.rows, r.lev = T2.depth := by rw [g2.dp]; exact j.ok.at
    refine ⟨_, rfl, L, M2, S, T2, W2, T0.rows, more, fl, lk, _, rfl, A2, B2, ok2, j2.wo, j2.dy, hN2, hm1, by rw [g2.dp]; exact hm2, hat, fun p zs H3 hp3 e3 h3 hz ht => ?_⟩
    refine q_when (b := false) (et_is (et_test (ev_isN (ev_var rfl))) (by simp)) (fun z => nomatch z) (fun _ H4 e4 => ?_)
    have e34 := e3.trans e4
    refine q_setL (j := 6) (e34 _ _ B2.s) (ev_var rfl) (ev_var rfl) ev_c (by simp) fun H5 e5 => ?_
    have e35 := e34.trans e5
    obtain ⟨A5, s5⟩ := WS3.setRw A2 B2 dj2 hp3 e35 (e5 _ _ (e4 _ _ h3)) hz fun q hq => e5 _ _ (e4 _ _ (ht q hq))
    show tSeq _ _ _ _ (upd H5 S.s (.lst [.ref L.t, .ref M2.w, .ref S.nd, .ref S.cs, .ref S.sr, .ref S.gn, .ref p, .bl fl, .ref S.lk]))
    generalize upd H5 S.s (.lst [.ref L.t, .ref M2.w, .ref S.nd, .ref S.cs, .ref S.sr, .ref S.gn, .ref p, .bl fl, .ref S.lk]) = G5 at A5 s5
    refine q_setL (j := 7) A5.B.s (v := .bl (decide (tv = .non))) (ev_isN (ev_var rfl)) (ev_var rfl) ev_c (by simp) fun H6 e6 => ?_
    obtain ⟨A6, s6⟩ := A5.setFl e6 (decide (tv = .non))
    show tSeq _ _ _ _ (upd H6 S.s (.lst [.ref L.t, .ref M2.w, .ref S.nd, .ref S.cs, .ref S.sr, .ref S.gn, .ref p, .bl (decide (tv = .non)), .ref S.lk]))
    change WS3 K L M2 { S with rw := p } T2 W2 (decide (tv = .non)) lk (upd H6 S.s (.lst [.ref L.t, .ref M2.w, .ref S.nd, .ref S.cs, .ref S.sr, .ref S.gn, .ref p, .bl (decide (tv = .non)), .ref S.lk])) at A6
    change Stp _ _ G5 (upd H6 S.s (.lst [.ref L.t, .ref M2.w, .ref S.nd, .ref S.cs, .ref S.sr, .ref S.gn, .ref p, .bl (decide (tv = .non)), .ref S.lk])) at s6
    generalize upd H6 S.s (.lst [.ref L.t, .ref M2.w, .ref S.nd, .ref S.cs, .ref S.sr, .ref S.gn, .ref p, .bl (decide (tv = .non)), .ref S.lk]) = G6 at A6 s6
    have s06 := (t02.trans s5).trans s6
    have W6 : WS K S.s T2 W2 (decide (tv = .non)) lk (In3 L M2 { S with rw := p }) G6 := ⟨L, M2, { S with rw := p }, rfl, rfl, A6⟩
    obtain ⟨ys, k1, k2, k3⟩ := A6.B.cs
    obtain ⟨xs, r1, r2, r3⟩ := A6.B.rw'
    have hl := rows_len ok2 r2
    have r1' : G6 p = some (.lst (xs.map fun q => V.ref q.2)) := r1
    have knownL : ∀ {H7 : Hp} {dv : V}, Ex G6 H7 → EvL (tLc (iList K (tVar 2)) (gName 5) tYes (tOp (rIxT K) (tVar 5) (tC (.int 0))) [5]) [some (.ref S.s), some tv, some (.ref p), some dv, none, none, none] H7 ((T2.rows.map fun r => r.lit).map V.int) := fun {H7 dv} e => by
      rw [r2]
      refine el_is (el_col (i := 0) 0 (ev_var rfl) (e _ _ r1') (fun p hp => e _ _ (r3 p hp)) (by omega) (fun x => rfl) (fun x => rfl) rfl (fun r => .int r.lit) fun r => rfl) ?_
      rw [lits_eq]
    refine ⟨_, rfl, S.s, T2, W2, _, lk, _, rfl, W6, ok2, j2.wo, hN2, fun hno H7 e7 => ?_, fun pd ks H7 hpd e7 h7 hsd fd fx => ?_⟩
    · -- no closure: a clash
      obtain ⟨n, rfl, hlive, c, hc, hcl⟩ : ∃ n : Nat, tv = .int (n : Int) ∧ Clash T2 W2 n := by
        rcases htv with ⟨_, fu⟩ | h
        · exact (hno (On T2.rows) (fun r hr _ => ⟨r, hr, rfl⟩) (full_closed fu)).elim
        · exact h
      have hnl := (List.getElem?_eq_some_iff.mp hc).1
      obtain ⟨ca, czs, c1, c2, c3, c4⟩ := cls_at A6.B hc
      refine q_when (b := false) (et_is (et_not (et_B (ev_call (ea_cons (ev_var rfl) ea_nil) (spv_stands (W6.ex e7) ok2)))) rfl) (fun z => nomatch z) (fun _ H8 e8 => ?_)
      have e68 := e7.trans e8
      refine q_asgL (knownL e68) fun pk H9 hpk e9 h9 => ?_
      have e69 := e68.trans e9
      refine q_when (b := false) (et_is (et_test (ev_notN (ev_var rfl))) rfl) (fun z => nomatch z) (fun _ H10 e10 => ?_)
      have e610 := e69.trans e10
      refine q_when (b := false) (et_is (et_or (a := false) (b := false) (et_is (et_not (et_B (ev_call (ea_cons (ev_var rfl) ea_nil) spv_whole))) rfl) fun _ => et_or (a := false) (b := false) (et_is (et_not (et_chain ev_c (ev_var rfl) (ev_lenL (ev_ixL (j := 3) (ev_var rfl) ev_c (e610 _ _ A6.B.s) rfl) (e610 _ _ c1)))) ?_) fun _ => et_B (ev_ixL (j := n) (ev_ixL (j := 5) (ev_var rfl) ev_c (e610 _ _ A6.B.s) rfl) (ev_var rfl) (e610 _ _ A6.B.gn) (by rw [List.getElem?_map, hlive]; rfl))) rfl) (fun z => nomatch z) (fun _ H11 e11 => ?_)
      · rw [c2, decide_eq_true (by omega : (0 : Int) ≤ (n : Int)), decide_eq_true (by omega : (n : Int) < (W2.cls.length : Int))]
        rfl
      have e611 := e610.trans e11
      have h11 := e11 _ _ (e10 _ _ h9)
      have eL : EvL (tLc (iTup K (tOp (rIxL K) (tOp (rIxL K) (tVar 0) (tC (.int 3))) (tVar 1))) (gName 6) (tTest (tOp (rIn K true) (tUn rNegR (tVar 6)) (tVar 4))) (tVar 6) [6]) [some (.ref S.s), some (.int (n : Int)), some (.ref p), some .non, some (.ref pk), none, none] H11 [] := by
        refine el_is (el_lcGT V.int c (fun x => !decide (-x ∈ T2.rows.map fun r => r.lit)) V.int (ev_ixL (j := n) (ev_ixL (j := 3) (ev_var rfl) ev_c (e611 _ _ A6.B.s) rfl) (ev_var rfl) (e611 _ _ c1) c3) (e611 _ _ c4) (by have := (j2.wo.ck n c hc).2.2; omega) (fun x => rfl) (fun x hx => et_test (ev_inL (ev_neg (ev_var rfl)) (ev_var rfl) h11)) (fun x hx _ => ev_var rfl)) ?_
        rw [List.filter_eq_nil_iff.mpr fun x hx => ?_]
        · rfl
        · obtain ⟨r, hr, hre⟩ := hcl x hx
          rw [decide_eq_true (List.mem_map.mpr ⟨r, hr, hre⟩)]
          decide
      refine s_ret (ev_is (ev_cmp (p := fun i j => decide (i = j)) (ev_lenN eL) ev_c) rfl) fun H12 e12 => ?_
      exact q T2 W2 _ _ H12 (W6.ex (e611.trans e12)) (s06.post (e611.trans e12)) g2 d2 j2 (fun z => by simp at z)
    · -- closed
      have hin := rows_in j2.wo j2.dy fd fx
      obtain ⟨rfl, fu⟩ : tv = .non ∧ Full T2 W2 := by
        rcases htv with h | ⟨n, _, hlive, c, hc, hcl⟩
        · exact h
        · obtain ⟨f1, _⟩ := fx n (List.getElem?_eq_some_iff.mp hc).1 hlive c hc
          refine (f1 (List.filter_eq_nil_iff.mpr fun x hx => ?_)).elim
          obtain ⟨r, hr, hre⟩ := hcl x hx
          obtain ⟨i, hi, he⟩ := List.mem_iff_getElem.mp hr
          rw [decide_eq_true (by rw [← hre]; exact hin i r (by rw [List.getElem?_eq_getElem hi, he]))]
          decide
      have hperm : ks.Perm (T2.rows.map fun r => r.lit) := by
        refine (List.perm_ext_iff_of_nodup fd.nd ?_).mpr fun x => ⟨fun hx => ?_, fun hx => ?_⟩
        · have h1 : T2.rows.Pairwise fun a b => a.ab ≠ b.ab := List.pairwise_map.mp ok2.nd
          refine List.pairwise_map.mpr (List.Pairwise.imp ?_ h1)
          intro a b hab e
          exact hab (by show (a.lit.natAbs : Int) = _; rw [e])
        · obtain ⟨r, hr, hre⟩ := fd.dv (On T2.rows) (fun r hr _ => ⟨r, hr, rfl⟩) (full_closed fu) x hx
          exact List.mem_map.mpr ⟨r, hr, hre⟩
        · obtain ⟨r, hr, rfl⟩ := List.mem_map.mp hx
          obtain ⟨i, hi, he⟩ := List.mem_iff_getElem.mp hr
          exact hin i r (by rw [List.getElem?_eq_getElem hi, he])
      refine q_when (b := false) (et_is (et_not (et_B (ev_call (ea_cons (ev_var rfl) ea_nil) (spv_stands (W6.ex e7) ok2)))) rfl) (fun z => nomatch z) (fun _ H8 e8 => ?_)
      have e68 := e7.trans e8
      refine q_asgL (knownL e68) fun pk H9 hpk e9 h9 => ?_
      have e69 := e68.trans e9
      refine q_when (b := true) (et_is (et_test (ev_notN (ev_var rfl))) (by simp)) (fun _ H10 e10 => ?_) (fun z => nomatch z)
      have e610 := e69.trans e10
      refine s_ret (ev_is (ev_andV (a := true) (b := true) (ev_is (ev_isN (ev_var rfl)) rfl) fun _ => ev_is (ev_andV (a := true) (b := true) (ev_eqL (el_sorted (ev_var rfl) (e10 _ _ h9) hperm hsd) (ev_var rfl) (e10 _ _ (e9 _ _ (e8 _ _ h7)))) fun _ => ev_call (ea_cons (ev_var rfl) ea_nil) (spv_pairs (W6.ex e610) fu hN2)) rfl) rfl) fun H11 e11 => ?_
      exact q T2 W2 _ _ H11 (W6.ex (e610.trans e11)) (s06.post (e610.trans e11)) g2 d2 j2 fun _ => fu
  exact ⟨fun fu => main (.inl ⟨rfl, fu⟩), fun n hn => main (.inr ⟨n, rfl, hn⟩)⟩
theorem ok_law_propagates {P : Program} {w : World} {K : PySem.W.Frag} {mg : Str → Option Value} {base : Heap} (T : Tx K mg) : FnX P w K mg base 9 (He.fAd K ("_law_propagates", none)) ps_law_propagates (sp_law_propagates K) := by
  obtain ⟨_, F_Watching_propagate, B_Watching_propagate⟩ := ok_Watching_propagate (P := P) (w := w) (base := base) T
  obtain ⟨_, F_law_grown, B_law_grown⟩ := ok_law_grown (P := P) (w := w) (base := base) T
  obtain ⟨_, F_law_closure, B_law_closure⟩ := ok_law_closure (P := P) (w := w) (base := base) T
  obtain ⟨_, F_law_stands, B_law_stands⟩ := ok_law_stands (P := P) (w := w) (base := base) T
  obtain ⟨_, F_law_pairs, B_law_pairs⟩ := ok_law_pairs (P := P) (w := w) (base := base) T
  obtain ⟨_, F_law_whole, B_law_whole⟩ := ok_law_whole (P := P) (w := w) (base := base) T
  obtain ⟨fd, F⟩ := T.fun_law_propagates
  refine ⟨fd, F.ok sc_law_propagates (fun vs H Q E h => len_law_propagates h) (fun cdv A outer s H vs Q E hr h => ⟨t_law_propagates K, PSs.nox (der_law_propagates T F_Watching_propagate B_Watching_propagate F_law_grown B_law_grown F_law_closure B_law_closure F_law_stands B_law_stands F_law_pairs B_law_pairs F_law_whole B_law_whole hr (hu_of hr)), pure_law_propagates T h⟩), F.bindsN fun _ _ _ _ _ _ us hl => match us, hl with | [_], _ => rfl⟩
end
end TW

set_option Elab.async false
set_option linter.all false
set_option maxRecDepth 100000
set_option maxHeartbeats 1000000
namespace TW
open PySem PySem.Spec PyProof.Rows L2 Evl
/-! ### the seat's lists one by one -/
def seatL (S : SL) (t w : Addr) (fl : Bool) : List V := [.ref t, .ref w, .ref S.nd, .ref S.cs, .ref S.sr, .ref S.gn, .ref S.rw, .bl fl, .ref S.lk]
section
variable {S : SL} {t w : Addr} {known : List Int} {rows : List Row} {W : Wt} {fl : Bool} {lk : List Int} {H H1 : Hp}
theorem SAt.setRw (B : SAt S t w known rows W fl lk H) {p : Addr} {zs : List (Row × Addr)} (hp : H p = none) (e : Ex H H1) (h1 : H1 p = some (.lst (zs.map fun q => V.ref q.2))) (ht : ∀ q ∈ zs, H1 q.2 = some (.tup (rowV q.1))) :
    SAt { S with rw := p } t w known (zs.map (·.1)) W fl lk (upd H1 S.s (.lst (seatL { S with rw := p } t w fl))) ∧ Stp (fun a => a = S.s) (fun a => a = S.s) H (upd H1 S.s (.lst (seatL { S with rw := p } t w fl))) ∧ ∀ a ∈ ({ S with rw := p } : SL).all, a ∈ S.all ∨ a = p := by
  have hs := e _ _ B.s
  have sm : S.s ∈ S.all := by simp [SL.all]
  have hpn : ¬ p ∈ S.all := fun z => B.tracked p z hp
  obtain ⟨⟨a1, a2, a3, a4, a5, a6⟩, ⟨b1, b2, b3, b4, b5⟩, ⟨c1, c2, c3, c4⟩, ⟨d1, d2, d3⟩, ⟨f1, f2⟩, g1⟩ := ne_all B.nn
  have s1 : Stp (fun a => a = S.s) (fun a => a = S.s) H (upd H1 S.s (.lst (seatL { S with rw := p } t w fl))) := Stp.pre e (Stp.upd rfl (nt_lst hs))
  have ls : ∀ {a : Addr} {o : HO}, a ≠ S.s → H a = some o → upd H1 S.s (.lst (seatL { S with rw := p } t w fl)) a = some o := fun {a o} n h => by rw [upd_ne n]; exact e _ _ h
  have pne : p ≠ S.s := fun z => hpn (z ▸ sm)
  obtain ⟨ys, k1, k2, k3⟩ := B.cs
  refine ⟨⟨upd_same, ls a1.symm B.nd, ⟨ys, ls a2.symm k1, k2, fun q hq => s1.tups _ _ (k3 q hq)⟩, ls a3.symm B.sr, ls a4.symm B.gn, ⟨zs, ?_, rfl, fun q hq => ?_⟩, ls a6.symm B.lk', ?_⟩, s1, fun a h => ?_⟩
  · show upd H1 S.s _ p = _
    rw [upd_ne pne]
    exact h1
  · rw [upd_ne (ne_of (ht q hq) hs (fun z => nomatch z))]
    exact ht q hq
  · have nn := B.nn
    simp only [SL.all, List.nodup_cons, List.mem_cons, List.not_mem_nil, or_false, not_or] at nn hpn ⊢
    obtain ⟨q1, q2, q3, q4, q5, q6, q7⟩ := hpn
    exact ⟨⟨a1, a2, a3, a4, fun z => q1 z.symm, a6⟩, ⟨b1, b2, b3, fun z => q2 z.symm, b5⟩, ⟨c1, c2, fun z => q3 z.symm, c4⟩, ⟨d1, fun z => q4 z.symm, d3⟩, ⟨fun z => q5 z.symm, f2⟩, q7, fun z => (nomatch z), List.nodup_nil⟩
  · simp only [SL.all, List.mem_cons, List.not_mem_nil, or_false] at h ⊢
    rcases h with h | h | h | h | h | h | h <;> simp [h]
theorem SAt.setFl (B : SAt S t w known rows W fl lk H) (e : Ex H H1) (fl' : Bool) :
    SAt S t w known rows W fl' lk (upd H1 S.s (.lst (seatL S t w fl'))) ∧ Stp (fun a => a = S.s) (fun a => a = S.s) H (upd H1 S.s (.lst (seatL S t w fl'))) := by
  have hs := e _ _ B.s
  obtain ⟨⟨a1, a2, a3, a4, a5, a6⟩, _⟩ := ne_all B.nn
  have s1 : Stp (fun a => a = S.s) (fun a => a = S.s) H (upd H1 S.s (.lst (seatL S t w fl'))) := Stp.pre e (Stp.upd rfl (nt_lst hs))
  have ls : ∀ {a : Addr} {o : HO}, a ≠ S.s → H a = some o → upd H1 S.s (.lst (seatL S t w fl')) a = some o := fun {a o} n h => by rw [upd_ne n]; exact e _ _ h
  obtain ⟨ys, k1, k2, k3⟩ := B.cs
  obtain ⟨xs, r1, r2, r3⟩ := B.rw'
  exact ⟨⟨upd_same, ls a1.symm B.nd, ⟨ys, ls a2.symm k1, k2, fun q hq => s1.tups _ _ (k3 q hq)⟩, ls a3.symm B.sr, ls a4.symm B.gn, ⟨xs, ls a5.symm r1, r2, fun q hq => s1.tups _ _ (r3 q hq)⟩, ls a6.symm B.lk', B.nn⟩, s1⟩
theorem SAt.setGn (B : SAt S t w known rows W fl lk H) (e : Ex H H1) (n : Nat) :
    SAt S t w known rows (W.forget n) fl lk (upd H1 S.gn (.lst ((W.gone.map V.bl).set n (.bl true)))) ∧ Stp (fun a => a = S.gn) (fun a => a = S.gn) H (upd H1 S.gn (.lst ((W.gone.map V.bl).set n (.bl true)))) := by
  have hs := e _ _ B.gn
  obtain ⟨⟨a1, a2, a3, a4, a5, a6⟩, ⟨b1, b2, b3, b4, b5⟩, ⟨c1, c2, c3, c4⟩, ⟨d1, d2, d3⟩, ⟨f1, f2⟩, g1⟩ := ne_all B.nn
  have s1 : Stp (fun a => a = S.gn) (fun a => a = S.gn) H (upd H1 S.gn (.lst ((W.gone.map V.bl).set n (.bl true)))) := Stp.pre e (Stp.upd rfl (nt_lst hs))
  have ls : ∀ {a : Addr} {o : HO}, a ≠ S.gn → H a = some o → upd H1 S.gn (.lst ((W.gone.map V.bl).set n (.bl true))) a = some o := fun {a o} n h => by rw [upd_ne n]; exact e _ _ h
  obtain ⟨ys, k1, k2, k3⟩ := B.cs
  obtain ⟨xs, r1, r2, r3⟩ := B.rw'
  exact ⟨⟨ls a4 B.s, ls b3 B.nd, ⟨ys, ls c2 k1, k2, fun q hq => s1.tups _ _ (k3 q hq)⟩, ls d1 B.sr, by rw [upd_same]; unfold Wt.forget; rw [List.map_set], ⟨xs, ls f1.symm r1, r2, fun q hq => s1.tups _ _ (r3 q hq)⟩, ls f2.symm B.lk', B.nn⟩, s1⟩
end
def FP (p : Addr) (F : Addr → Prop) (a : Addr) : Prop := a = p ∨ F a
structure PWS (K : PySem.W.Frag) (p s : Addr) (T : Tr) (W : Wt) (fl : Bool) (lk : List Int) (F : Addr → Prop) (H : Hp) : Prop where
  pool : PoolAt p H
  ws : WS K s T W fl lk F H
  np : ¬ F p
  j : J T W
  fu : fl = true → Full T W
  ne : T.known ≠ [] → ∀ c ∈ W.cls, c ≠ []
section
variable {K : PySem.W.Frag} {mg : Str → Option Value} {vs : List V} {H H' H1 : Hp} {Q : VK} {E : XK} {σ : L2.St} {ta tb te tl td ty : TE} {x y v : V} {D : Ends} {tz : TS} {tc : TT} {tu tw : TS} {p s : Addr} {T : Tr} {W : Wt} {fl : Bool} {lk : List Int} {F F' : Addr → Prop}
theorem PoolAt.ex (h : PoolAt p H) (e : Ex H H') : PoolAt p H' := let ⟨c, k, b, s, h1⟩ := h; ⟨c, k, b, s, e _ _ h1⟩
theorem PoolAt.stp (h : PoolAt p H) (st : Stp F F' H H') (n : ¬ F p) : PoolAt p H' := let ⟨c, k, b, s, h1⟩ := h; ⟨c, k, b, s, st.keep _ _ h1 n⟩
theorem PoolAt.some (h : PoolAt p H) : H p ≠ none := let ⟨c, k, b, s, h1⟩ := h; by rw [h1]; exact fun z => nomatch z
theorem PWS.ex (A : PWS K p s T W fl lk F H) (e : Ex H H') : PWS K p s T W fl lk F H' := ⟨A.pool.ex e, A.ws.ex e, A.np, A.j, A.fu, A.ne⟩
/-- the pool moves -/
theorem PWS.take (A : PWS K p s T W fl lk F H) (hp : PoolAt p H') (st : Stp (fun a => a = p) (fun a => a = p) H H') : PWS K p s T W fl lk F H' := ⟨hp, A.ws.stp st fun a h z => A.np (z ▸ h), A.np, A.j, A.fu, A.ne⟩
theorem stp_pool (st : Stp (fun a => a = p) (fun a => a = p) H H') : Stp (FP p F) (FP p F) H H' := st.wider (fun a h => .inl h) fun a h => .inr h
theorem stp_ws (st : Stp F F' H H') : Stp (FP p F) (FP p F') H H' := st.wider (fun a h => .inr h) fun a h => h.elim (fun z => .inr (.inl z)) .inl
/-- the seat moves -/
theorem PWS.move {T' : Tr} {W' : Wt} {fl' : Bool} (A : PWS K p s T W fl lk F H) (B : WS K s T' W' fl' lk F' H') (st : Stp F F' H H') (j : J T' W') (fu : fl' = true → Full T' W') (ne : T'.known ≠ [] → ∀ c ∈ W'.cls, c ≠ []) : PWS K p s T' W' fl' lk F' H' :=
  ⟨A.pool.stp st A.np, B, fun z => (st.new p z).elim A.np A.pool.some, j, fu, ne⟩
theorem t_take {i : Nat} {z : Nat} (h0 : σ[i]? = some (some (V.ref p))) (hz : Ev te σ H (.int (z : Int))) (hp : PoolAt p H) (h1 : 0 < z) (h2 : z < 1000000) (k : ∀ (r : Nat) H', r < z → PoolAt p H' → Stp (fun a => a = p) (fun a => a = p) H H' → Q (.int (r : Int)) H') :
    tCall (sp_law_take K) [] E0 (tCons (tVar i) (tCons te tNil)) σ H Q := ⟨_, h0, hz H (Ex.refl H) _ fun H1 e1 => ⟨p, z, rfl, hp.ex e1, h1, h2, fun r H' hr hp' st => k r H' hr hp' (Stp.pre e1 st)⟩⟩
theorem t_sign {i : Nat} {n : Int} (h0 : σ[i]? = some (some (V.ref p))) (ha : ∀ H', Stp (fun a => a = p) (fun a => a = p) H H' → Ev ta σ H' (.int n)) (hp : PoolAt p H) (k : ∀ (x : Int) H', (x = n ∨ x = -n) → PoolAt p H' → Stp (fun a => a = p) (fun a => a = p) H H' → Q (.int x) H') :
    tOp rSubR ta (tOp rMulR (tOp rMulR (tC (.int 2)) ta) (tCall (sp_law_take K) [] E0 (tCons (tVar i) (tCons (tC (.int 2)) tNil)))) σ H Q :=
  (ha H Stp.refl) H (Ex.refl H) _ fun H1 e1 => (ev_mul (i := 2) (j := n) ev_c (ha H1 (Stp.ex e1)) (.inl (by decide))) H1 (Ex.refl H1) _ fun H2 e2 => t_take h0 (z := 2) ev_c (hp.ex (e1.trans e2)) (by decide) (by decide) fun r H3 hr hp3 st =>
    ⟨2 * n, (r : Int), rfl, rfl, .inr ⟨by omega, by omega⟩, n, 2 * n * (r : Int), rfl, rfl, k _ H3 (by
      match r, hr with
      | 0, _ => left; simp
      | 1, _ => right; simp; omega) hp3 (Stp.pre (e1.trans e2) st)⟩
theorem t_lst1 (h : te σ H fun x H1 => [x].length ≤ sizeLine ∧ ∀ p, H1 p = none → Q (.ref p) (upd H1 p (.lst [x]))) : tLst (tCons te tNil) σ H Q := h
/-! ### open -/
def sp_law_open (K : PySem.W.Frag) : Sp := fun vs H Q _ => ∃ (p s : Addr) (T : Tr) (W : Wt) (fl : Bool) (lk : List Int) (F : Addr → Prop), vs = [.ref p, .ref s] ∧ PoolAt p H ∧ WS K s T W fl lk F H ∧ ¬ F p ∧ T.Ok ∧
  ∀ (x : Int) H', PoolAt p H' → Stp (fun a => a = p) (fun a => a = p) H H' → (x = 0 ∨ ((x.natAbs : Int) ∈ T.known ∧ look T.rows x = none)) → Q (.int x) H'
abbrev N_law_open : List Str := ["pool", "seat", "on", "free", "node", "row"]
theorem sc_law_open : FnScope N_law_open ["pool", "seat"] (defScope s_law_open) := ⟨rfl, rfl, rfl, by decide +kernel, rfl, by decide +kernel, by decide +kernel⟩
def t_law_open (K : PySem.W.Frag) : TS := (tSeq (tAsg (tLc (iList K (tOp (rIxL K) (tVar 1) (tC (.int 6)))) (gName 5) tYes (tCB rAbsR (tCons (tOp (rIxT K) (tVar 5) (tC (.int 0))) tNil)) [5]) (gName 2))
    (tSeq (tAsg (tLc (iList K (tOp (rIxL K) (tVar 1) (tC (.int 2)))) (gName 4) (tTest (tOp (rIn K true) (tVar 4) (tVar 2))) (tVar 4) [4]) (gName 3))
    (tSeq (tIfS (tB (tEqI (tCB (rLenS K) (tCons (tVar 3) tNil)) (tC (.int 0)))) (tRet (tC (.int 0))) tNext)
    (tSeq (tAsg (tOp (rIxL K) (tVar 3) (tCall (sp_law_take K) [] E0 (tCons (tVar 0) (tCons (tCB (rLenS K) (tCons (tVar 3) tNil)) tNil)))) (gName 4))
    (tRet (tOp rSubR (tVar 4) (tOp rMulR (tOp rMulR (tC (.int 2)) (tVar 4)) (tCall (sp_law_take K) [] E0 (tCons (tVar 0) (tCons (tC (.int 2)) tNil))))))))))
set_option maxHeartbeats 4000000 in
theorem der_law_open {P : Program} {w : World} {K : PySem.W.Frag} {mg : Str → Option Value} {base : Heap} {f : Addr} {cdv : Value} {A : Around} {outer : List Env} {s : Shared} {H : Hp} {E : XK} (T : Tx K mg) {fd_law_take : FuncData} (F_law_take : FnOk P w K mg base CX0 1 (He.fAd K ("_law_take", none)) fd_law_take ps_law_take (sp_law_take K)) (B_law_take : Binds K fd_law_take ps_law_take []) (hr : Room 1 (A.deeper (envOfC "_law_open" (defScope s_law_open) s.heap.objs.size f cdv))) (hu : (A.deeper (envOfC "_law_open" (defScope s_law_open) s.heap.objs.size f cdv)).units + 1 < cLine) :
    PSs (cxOf CX0 P w K mg base N_law_open "_law_open" (defScope s_law_open) f cdv A outer s H E).nox (defBody s_law_open) (t_law_open K) := by
  exact (pss_cons (ps_set (i := 2) sc_law_open.nd rfl (Or.inr rfl) (pe_lc (own := [("row", 5)]) (g := gName 5) rfl sc_law_open.nd (pi_list (pe_ix ix_list (pv 1) pe_int (fun _ _ => rfl))) (blkOk_by (N := N_law_open) (sc := defScope s_law_open) (by decide +kernel)) (fun _ _ _ _ _ => pg_name (i := 5) sc_law_open.nd rfl (Or.inl rfl)) (fun _ _ _ _ _ => pts_nil) (fun _ _ _ _ _ => (pe_callB call_abs rfl T.f_abs bt_abs (pa_cons (pe_ix ix_tup (pv 5) pe_int (fun _ _ => rfl)) pa_nil)))))
    (pss_cons (ps_setLc (i := 3) (own := [("node", 4)]) (g := gName 4) rfl sc_law_open.nd rfl rfl (sw_true rfl rfl rfl (by decide +kernel)) (pi_list (pe_ix ix_list (pv 1) pe_int (fun _ _ => rfl))) (blkOk_by (N := N_law_open) (sc := defScope s_law_open) (by decide +kernel)) (fun _ _ _ _ _ => pg_name (i := 4) sc_law_open.nd rfl (Or.inl rfl)) (fun _ _ _ _ _ => (pts_one (pt_cmpR op_notIn_seq (pv 4) (pv 2) (by rfl)))) (fun _ _ _ _ _ => (pv 4)))
    (pss_cons (ps_if (pt_cmp (pc_eqI (pe_callB call_len_seq rfl T.f_len bt_len (pa_cons (pv 3) pa_nil)) pe_int)) (pss_one (ps_ret pe_int)) pss_nil)
    (pss_cons (ps_set (i := 4) sc_law_open.nd rfl (Or.inl rfl) (pe_ix ix_list (pv 3) (pe_call F_law_take (hr.mono (by decide)) rfl T.g_law_take T.k_law_take B_law_take .nil pass0 (pa_cons (pv 0) (pa_cons (pe_callB call_len_seq rfl T.f_len bt_len (pa_cons (pv 3) pa_nil)) pa_nil))) (fun _ _ => rfl)))
    (pss_one (ps_ret (pe_op op_sub (pv 4) (pe_op op_mul (pe_op op_mul pe_int (pv 4)) (pe_call F_law_take (hr.mono (by decide)) rfl T.g_law_take T.k_law_take B_law_take .nil pass0 (pa_cons (pv 0) (pa_cons pe_int pa_nil)))))))))))
theorem len_law_open (h : sp_law_open K vs H Q E) : vs.length = 2 := by
  obtain ⟨_, _, _, _, _, _, _, rfl, _⟩ := h
  rfl
theorem pure_law_open (T : Tx K mg) (h : sp_law_open K vs H Q E) : t_law_open K { nx := fun _ H' => Q .non H', rt := Q } (start N_law_open vs) H := by
  obtain ⟨p, s, Tr, W, fl, lk, F, rfl, hp, ⟨L, M, S, rfl, rfl, A⟩, np, ok, q⟩ := h
  have B := A.B
  obtain ⟨xs, r1, r2, r3⟩ := B.rw'
  have hl := rows_len ok r2
  have hkl := ok.kl
  refine q_asgL (el_lcG (fun p : Row × Addr => V.ref p.2) xs (fun _ => true) (fun p => V.int p.1.ab) (ev_ixL (j := 6) (ev_var rfl) ev_c B.s rfl) r1 (by omega) (fun x => rfl) (fun x hx => et_yes) (fun x hx _ => ev_abs (ev_ixT (j := 0) (ev_var rfl) ev_c (r3 x hx) rfl))) fun po H1 hpo e1 h1 => ?_
  have h1' : H1 po = some (.lst ((xs.map fun q => q.1.ab).map V.int)) := by
    rw [h1, List.filter_eq_self.mpr (fun _ _ => rfl), List.map_map]
    rfl
  refine q_asgL (el_lcG V.int Tr.known (fun n => !decide (n ∈ xs.map fun q => q.1.ab)) V.int (ev_ixL (j := 2) (ev_var rfl) ev_c (e1 _ _ B.s) rfl) (e1 _ _ B.nd) (by omega) (fun x => rfl) (fun x hx => et_test (ev_inL (ev_var rfl) (ev_var rfl) h1')) (fun x hx _ => ev_var rfl)) fun pf H2 hpf e2 h2 => ?_
  have e12 := e1.trans e2
  have hfl : (Tr.known.filter fun n => !decide (n ∈ xs.map fun q => q.1.ab)).length ≤ 100 := Nat.le_trans (List.length_filter_le _ _) hkl
  refine q_when (b := decide ((Tr.known.filter fun n => !decide (n ∈ xs.map fun q => q.1.ab)).length = 0)) (et_is (et_B (ev_cmp (p := fun i j => decide (i = j)) (ev_lenL (ev_var rfl) h2) ev_c)) ?_) (fun hb H3 e3 => ?_) (fun hb H3 e3 => ?_)
  · rw [List.length_map, Bool.eq_iff_iff]
    simp
  · exact s_ret ev_c fun H4 e4 => q 0 H4 (hp.ex ((e12.trans e3).trans e4)) (Stp.ex ((e12.trans e3).trans e4)) (.inl rfl)
  · have hb' := of_decide_eq_false hb
    have h3 := e3 _ _ h2
    have e13 := e12.trans e3
    refine ⟨_, rfl, t_take rfl (z := (Tr.known.filter fun n => !decide (n ∈ xs.map fun q => q.1.ab)).length) (ev_is (ev_lenL (ev_var rfl) h3) (by rw [List.length_map])) (hp.ex e13) (by omega) (by omega) fun r H4 hr hp4 s4 => ?_⟩
    have npf : pf ≠ p := fun z => hp.some (by rw [← z]; exact fresh_back e1 hpf)
    have h4 := s4.keep _ _ h3 npf
    obtain ⟨n, hn⟩ : ∃ n, (Tr.known.filter fun n => !decide (n ∈ xs.map fun q => q.1.ab))[r]? = some n := ⟨_, List.getElem?_eq_getElem hr⟩
    have hnm := List.mem_filter.mp (List.mem_of_getElem? hn)
    refine ⟨pf, _, (r : Int), .int n, rfl, rfl, sq_of h4, ?_, ?_⟩
    · exact atI_nat (by rw [List.getElem?_map, hn]; rfl)
    · refine t_sign (n := n) rfl (fun H' _ => ev_var rfl) hp4 fun x H5 hx hp5 s5 => q x H5 hp5 ((Stp.pre e13 s4).trans s5) (.inr ?_)
      have hnp := ok.kpos n hnm.1
      have hxa : (x.natAbs : Int) = n := by omega
      rw [hxa]
      refine ⟨hnm.1, look_none.mpr fun r' hr' e => ?_⟩
      rw [hxa] at e
      have : n ∈ xs.map fun q => q.1.ab := by
        rw [r2] at hr'
        obtain ⟨q', hq', rfl⟩ := List.mem_map.mp hr'
        exact List.mem_map.mpr ⟨q', hq', e⟩
      rw [decide_eq_true this] at hnm
      cases hnm.2
theorem ok_law_open {P : Program} {w : World} {K : PySem.W.Frag} {mg : Str → Option Value} {base : Heap} (T : Tx K mg) : FnX P w K mg base 2 (He.fAd K ("_law_open", none)) ps_law_open (sp_law_open K) := by
  obtain ⟨_, F_law_take, B_law_take⟩ := ok_law_take (P := P) (w := w) (base := base) T
  obtain ⟨fd, F⟩ := T.fun_law_open
  refine ⟨fd, F.ok sc_law_open (fun vs H Q E h => len_law_open h) (fun cdv A outer s H vs Q E hr h => ⟨t_law_open K, PSs.nox (der_law_open T F_law_take B_law_take hr (hu_of hr)), pure_law_open T h⟩), F.bindsN fun _ _ _ _ _ _ us hl => match us, hl with | [_, _], _ => rfl⟩
/-! ### chooses -/
theorem q_setLX {P : Addr → Hp → Prop} {l : Addr} {xs : List V} {j : Nat} (hl : H l = some (.lst xs)) (h : ∀ Q : VK, (∀ p H1, H p = none → Ex H H1 → P p H1 → Q (.ref p) H1) → te σ H Q) (hm : ∀ p H1 H2, P p H1 → Ex H1 H2 → P p H2) (ho : Ev ta σ H (.ref l)) (hi : Ev tb σ H (.int (j : Int))) (hj : j < xs.length)
    (k : ∀ p H1, H p = none → Ex H H1 → P p H1 → tz D σ (upd H1 l (.lst (xs.set j (.ref p))))) : tSeq (tAsg te (gSub ta tb rSetL)) tz D σ H := h _ fun p H1 hp e1 h1 => ho H1 e1 _ fun H2 e2 => hi H2 (e1.trans e2) _ fun H3 e3 =>
  ⟨l, xs, (j : Int), j, rfl, rfl, ((e1.trans e2).trans e3) l _ hl, ixN_nat hj, k p H3 hp ((e1.trans e2).trans e3) (hm _ _ _ (hm _ _ _ h1 e2) e3)⟩
def sp_law_chooses (K : PySem.W.Frag) : Sp := fun vs H Q _ => ∃ (s : Addr) (T : Tr) (W : Wt) (fl : Bool) (lk : List Int) (F : Addr → Prop) (x : Int), vs = [.ref s, .int x] ∧ WS K s T W fl lk F H ∧ T.Ok ∧ (x.natAbs : Int) ∈ T.known ∧ look T.rows x = none ∧
  ∀ F' H', WS K s (T.deeper.put x none) W false lk F' H' → Stp F F' H H' → Q (.bl true) H'
abbrev N_law_chooses : List Str := ["seat", "literal"]
theorem sc_law_chooses : FnScope N_law_chooses ["seat", "literal"] (defScope s_law_chooses) := ⟨rfl, rfl, rfl, by decide +kernel, rfl, by decide +kernel, by decide +kernel⟩
def t_law_chooses (K : PySem.W.Frag) : TS := (tSeq (tAsg (tOp rCat (tOp (rIxL K) (tVar 0) (tC (.int 6))) (tLst (tCons (tTup (tCons (tVar 1) (tCons (tOp rAddR (tCall (sp_law_depth K) [] E0 (tCons (tVar 0) tNil)) (tC (.int 1))) (tCons (tC .non) tNil)))) tNil))) (gSub (tVar 0) (tC (.int 6)) rSetL))
    (tSeq (tAsg (tC (.bl false)) (gSub (tVar 0) (tC (.int 7)) rSetL))
    (tRet (tOp rIsN (tMeth (He.ga K "Trail") "choose" (sp_Trail_choose K) [] E0 (tOp (rIxL K) (tVar 0) (tC (.int 0))) (tCons (tVar 1) tNil)) (tC .non)))))
set_option maxHeartbeats 4000000 in
theorem der_law_chooses {P : Program} {w : World} {K : PySem.W.Frag} {mg : Str → Option Value} {base : Heap} {f : Addr} {cdv : Value} {A : Around} {outer : List Env} {s : Shared} {H : Hp} {E : XK} (T : Tx K mg) {fd_law_depth : FuncData} (F_law_depth : FnOk P w K mg base CX0 1 (He.fAd K ("_law_depth", none)) fd_law_depth ps_law_depth (sp_law_depth K)) (B_law_depth : Binds K fd_law_depth ps_law_depth []) {fd_Trail_choose : FuncData} (F_Trail_choose : FnOk P w K mg base CX0 3 (He.fAd K ("Trail", some "choose")) fd_Trail_choose ps_Trail_choose (sp_Trail_choose K)) (B_Trail_choose : Binds K fd_Trail_choose ps_Trail_choose []) (hr : Room 3 (A.deeper (envOfC "_law_chooses" (defScope s_law_chooses) s.heap.objs.size f cdv))) (hu : (A.deeper (envOfC "_law_chooses" (defScope s_law_chooses) s.heap.objs.size f cdv)).units + 1 < cLine) :
    PSs (cxOf CX0 P w K mg base N_law_chooses "_law_chooses" (defScope s_law_chooses) f cdv A outer s H E).nox (defBody s_law_chooses) (t_law_chooses K) := by
  exact (pss_cons (ps_asg (pe_op op_cat (pe_ix ix_list (pv 0) pe_int (fun _ _ => rfl)) (pe_lst (pa_cons (pe_tup (pa_cons (pv 1) (pa_cons (pe_op op_add (pe_call F_law_depth (hr.mono (by decide)) rfl T.g_law_depth T.k_law_depth B_law_depth .nil pass0 (pa_cons (pv 0) pa_nil)) pe_int) (pa_cons pe_non pa_nil)))) pa_nil))) (pg_sub (pv 0) pe_int set_list))
    (pss_cons (ps_asg pe_bl (pg_sub (pv 0) pe_int set_list))
    (pss_one (ps_ret (pe_cmpR op_isN1 (pe_meth (pe_ix ix_list (pv 0) pe_int (fun _ _ => rfl)) T.cl_Trail T.m_Trail_choose F_Trail_choose (hr.mono (by decide)) B_Trail_choose .nil pass0 (pa_cons (pv 1) pa_nil)) pe_non (by rfl))))))
theorem len_law_chooses (h : sp_law_chooses K vs H Q E) : vs.length = 2 := by
  obtain ⟨_, _, _, _, _, _, _, rfl, _⟩ := h
  rfl
theorem pure_law_chooses (T : Tx K mg) (h : sp_law_chooses K vs H Q E) : t_law_chooses K { nx := fun _ H' => Q .non H', rt := Q } (start N_law_chooses vs) H := by
  obtain ⟨s, Tr, W, fl, lk, F, x, rfl, A0, ok, hxk, hxo, q⟩ := h
  obtain ⟨L, M, S, rfl, rfl, A⟩ := id A0
  have B := A.B
  obtain ⟨xs, r1, r2, r3⟩ := B.rw'
  have hl := rows_len ok r2
  have sm : S.s ∈ S.all := by simp [SL.all]
  refine q_setLX (P := fun p H1 => ∃ pt, H1 p = some (.lst ((xs.map fun q => V.ref q.2) ++ [.ref pt])) ∧ H1 pt = some (.tup [.int x, .int ((Tr.depth : Int) + 1), .non])) (j := 6) B.s (fun Q' k => ?_) (fun p H1 H2 ⟨pt, a1, a2⟩ e => ⟨pt, e _ _ a1, e _ _ a2⟩) (ev_var rfl) ev_c (by simp) fun pn H1 hpn e1 ⟨pt, g1, g2⟩ => ?_
  · refine (ev_ixL (j := 6) (ev_var rfl) ev_c B.s rfl : Ev (tOp (rIxL K) (tVar 0) (tC (.int 6))) (start N_law_chooses [.ref S.s, .int x]) H (.ref S.rw)) H (Ex.refl H) _ fun H1 e1 => ?_
    refine t_lst1 ?_
    refine (eu_tup (ea_cons (ev_var rfl) (ea_cons (ev_add (ev_call (ea_cons (ev_var rfl) ea_nil) (spv_depth A0 ok)) ev_c) (ea_cons ev_c ea_nil))) (by simp) : EvU (tTup (tCons (tVar 1) (tCons (tOp rAddR (tCall (sp_law_depth K) [] E0 (tCons (tVar 0) tNil)) (tC (.int 1))) (tCons (tC .non) tNil)))) (start N_law_chooses [.ref S.s, .int x]) H _) H1 e1 _ fun pt H2 hpt e2 h2 => ⟨sz_of (by simp), fun pl hpl => ?_⟩
    have e12 := (e1.trans e2).trans (Ex.new hpl (o := .lst [.ref pt]))
    refine ⟨S.rw, pl, _, _, rfl, rfl, e12 _ _ r1, upd_same, sz_of (by simp; omega), fun pn hpn => ?_⟩
    refine k pn _ (fresh_back e12 hpn) (e12.trans (Ex.new hpn)) ⟨pt, upd_same, ?_⟩
    have h2' := Ex.new hpl (o := .lst [.ref pt]) _ _ h2
    exact Ex.new hpn _ _ h2'
  · have hz : ∀ q ∈ xs ++ [((⟨x, Tr.depth + 1, none⟩ : Row), pt)], H1 q.2 = some (.tup (rowV q.1)) := fun q hq => by
      rcases List.mem_append.mp hq with hq | hq
      · exact e1 _ _ (r3 q hq)
      · obtain rfl := List.mem_singleton.mp hq
        exact g2
    obtain ⟨B1, s1, m1⟩ := B.setRw (zs := xs ++ [((⟨x, Tr.depth + 1, none⟩ : Row), pt)]) hpn e1 (by rw [g1, List.map_append]; rfl) hz
    have hrows : (xs ++ [((⟨x, Tr.depth + 1, none⟩ : Row), pt)]).map (·.1) = (Tr.deeper.put x none).rows := by
      rw [List.map_append, ← r2]
      rfl
    rw [hrows] at B1
    have nS : ∀ a, In2 L M a → ¬ a = S.s := fun a h z => A.dj S.s sm (z ▸ h)
    have A1 := A.A.stp s1 nS
    show tSeq _ _ _ _ (upd H1 S.s (.lst (seatL { S with rw := pn } L.t M.w fl)))
    generalize upd H1 S.s (.lst (seatL { S with rw := pn } L.t M.w fl)) = G1 at B1 s1 A1
    refine q_setL (j := 7) B1.s ev_c (ev_var rfl) ev_c (by simp) fun H2 e2 => ?_
    obtain ⟨B2, s2⟩ := B1.setFl e2 false
    have A2 := A1.stp s2 nS
    show tRet _ _ _ (upd H2 S.s (.lst (seatL { S with rw := pn } L.t M.w false)))
    change SAt _ _ _ _ _ _ _ _ (upd H2 S.s (.lst (seatL { S with rw := pn } L.t M.w false))) at B2
    change Stp _ _ G1 (upd H2 S.s (.lst (seatL { S with rw := pn } L.t M.w false))) at s2
    change Two K L Tr M W (upd H2 S.s (.lst (seatL { S with rw := pn } L.t M.w false))) at A2
    generalize upd H2 S.s (.lst (seatL { S with rw := pn } L.t M.w false)) = G2 at B2 s2 A2
    have s02 := s1.trans s2
    have djn : ∀ a ∈ ({ S with rw := pn } : SL).all, ¬ In2 L M a := fun a h z => by
      rcases m1 a h with h | h
      · exact A.dj a h z
      · exact A.A.tracked a z (h ▸ hpn)
    have t02 : Stp (In3 L M S) (In3 L M { S with rw := pn }) H G2 := ⟨fun a o h n => s02.keep a o h fun z => n (.inr (z ▸ sm)), s02.tups, fun a h => by
      rcases h with h | h
      · exact .inl (.inl h)
      · rcases m1 a h with h | h
        · exact .inl (.inr h)
        · exact .inr (h ▸ hpn)⟩
    -- trail.choose
    refine (ev_ixL (j := 0) (ev_var rfl) ev_c B2.s rfl : Ev (tOp (rIxL K) (tVar 0) (tC (.int 0))) (start N_law_chooses [.ref S.s, .int x]) G2 (.ref L.t)) G2 (Ex.refl G2) _ fun H3 e3 => ?_
    have A3 := A2.ex e3
    have hd := ok.dle
    have hrl := ok.weak.rl
    refine ⟨_, _, _, rfl, A3.t.ob, rfl, _, rfl, L, Tr, x, rfl, A3.t, ok, by omega, hxk, hxo, fun H4 C4 s4 => ?_⟩
    obtain ⟨A4, t4⟩ := A3.tr C4 s4 rfl rfl
    have B4 : SAt { S with rw := pn } L.t M.w (Tr.deeper.put x none).known (Tr.deeper.put x none).rows W false lk H4 := (B2.ex e3).keep (fun a o i h => t4.keep a o h (djn a i)) t4.tups
    have t4' : Stp (In3 L M { S with rw := pn }) (In3 L M { S with rw := pn }) H3 H4 := t4.wide
    exact ⟨rfl, q _ H4 ⟨L, M, { S with rw := pn }, rfl, rfl, A4, B4, djn⟩ (((t02.post e3)).trans t4')⟩
theorem ok_law_chooses {P : Program} {w : World} {K : PySem.W.Frag} {mg : Str → Option Value} {base : Heap} (T : Tx K mg) : FnX P w K mg base 4 (He.fAd K ("_law_chooses", none)) ps_law_chooses (sp_law_chooses K) := by
  obtain ⟨_, F_law_depth, B_law_depth⟩ := ok_law_depth (P := P) (w := w) (base := base) T
  obtain ⟨_, F_Trail_choose, B_Trail_choose⟩ := ok_Trail_choose (P := P) (w := w) (base := base) T
  obtain ⟨fd, F⟩ := T.fun_law_chooses
  refine ⟨fd, F.ok sc_law_chooses (fun vs H Q E h => len_law_chooses h) (fun cdv A outer s H vs Q E hr h => ⟨t_law_chooses K, PSs.nox (der_law_chooses T F_law_depth B_law_depth F_Trail_choose B_Trail_choose hr (hu_of hr)), pure_law_chooses T h⟩), F.bindsN fun _ _ _ _ _ _ us hl => match us, hl with | [_, _], _ => rfl⟩
end
end TW

set_option Elab.async false
set_option linter.all false
set_option maxRecDepth 100000
set_option maxHeartbeats 1000000
namespace TW
open PySem PySem.Spec PyProof.Rows L2 Evl
section
variable {S : SL} {t w : Addr} {known : List Int} {rows : List Row} {W : Wt} {fl : Bool} {lk : List Int} {H H1 : Hp}
theorem SAt.addCs (B : SAt S t w known rows W fl lk H) (e : Ex H H1) {L : List V} (hL : H S.cs = some (.lst L)) {a : Addr} {c : List Int} (ha : H1 a = some (.tup (c.map V.int))) :
    SAt S t w known rows { W with cls := W.cls ++ [c] } fl lk (upd H1 S.cs (.lst (L ++ [.ref a]))) ∧ Stp (fun a => a = S.cs) (fun a => a = S.cs) H (upd H1 S.cs (.lst (L ++ [.ref a]))) := by
  have hs := e _ _ hL
  obtain ⟨⟨a1, a2, a3, a4, a5, a6⟩, ⟨b1, b2, b3, b4, b5⟩, ⟨c1, c2, c3, c4⟩, ⟨d1, d2, d3⟩, ⟨f1, f2⟩, g1⟩ := ne_all B.nn
  have s1 : Stp (fun a => a = S.cs) (fun a => a = S.cs) H (upd H1 S.cs (.lst (L ++ [.ref a]))) := Stp.pre e (Stp.upd rfl (nt_lst hs))
  have ls : ∀ {b : Addr} {o : HO}, b ≠ S.cs → H b = some o → upd H1 S.cs (.lst (L ++ [.ref a])) b = some o := fun {b o} n h => by rw [upd_ne n]; exact e _ _ h
  obtain ⟨ys, k1, k2, k3⟩ := B.cs
  obtain ⟨xs, r1, r2, r3⟩ := B.rw'
  rw [hL] at k1
  cases k1
  refine ⟨⟨ls a2 B.s, ls b1 B.nd, ⟨ys ++ [(c, a)], by rw [upd_same, List.map_append]; rfl, by rw [List.map_append, ← k2]; rfl, fun q hq => ?_⟩, ls c1.symm B.sr, ls c2.symm B.gn, ⟨xs, ls c3.symm r1, r2, fun q hq => s1.tups _ _ (r3 q hq)⟩, ls c4.symm B.lk', B.nn⟩, s1⟩
  rcases List.mem_append.mp hq with hq | hq
  · exact s1.tups _ _ (k3 q hq)
  · obtain rfl := List.mem_singleton.mp hq
    rw [upd_ne (ne_of ha hs (fun z => nomatch z))]
    exact ha
theorem SAt.addSr (B : SAt S t w known rows W fl lk H) (e : Ex H H1) (x : Int) :
    SAt S t w known rows { W with src := W.src ++ [x] } fl lk (upd H1 S.sr (.lst (W.src.map V.int ++ [.int x]))) ∧ Stp (fun a => a = S.sr) (fun a => a = S.sr) H (upd H1 S.sr (.lst (W.src.map V.int ++ [.int x]))) := by
  have hs := e _ _ B.sr
  obtain ⟨⟨a1, a2, a3, a4, a5, a6⟩, ⟨b1, b2, b3, b4, b5⟩, ⟨c1, c2, c3, c4⟩, ⟨d1, d2, d3⟩, ⟨f1, f2⟩, g1⟩ := ne_all B.nn
  have s1 : Stp (fun a => a = S.sr) (fun a => a = S.sr) H (upd H1 S.sr (.lst (W.src.map V.int ++ [.int x]))) := Stp.pre e (Stp.upd rfl (nt_lst hs))
  have ls : ∀ {b : Addr} {o : HO}, b ≠ S.sr → H b = some o → upd H1 S.sr (.lst (W.src.map V.int ++ [.int x])) b = some o := fun {b o} n h => by rw [upd_ne n]; exact e _ _ h
  obtain ⟨ys, k1, k2, k3⟩ := B.cs
  obtain ⟨xs, r1, r2, r3⟩ := B.rw'
  exact ⟨⟨ls a3 B.s, ls b2 B.nd, ⟨ys, ls c1 k1, k2, fun q hq => s1.tups _ _ (k3 q hq)⟩, by rw [upd_same]; show _ = some (HO.lst ((W.src ++ [x]).map V.int)); rw [List.map_append]; rfl, ls d1.symm B.gn, ⟨xs, ls d2.symm r1, r2, fun q hq => s1.tups _ _ (r3 q hq)⟩, ls d3.symm B.lk', B.nn⟩, s1⟩
theorem SAt.addGn (B : SAt S t w known rows W fl lk H) (e : Ex H H1) :
    SAt S t w known rows { W with gone := W.gone ++ [false] } fl lk (upd H1 S.gn (.lst (W.gone.map V.bl ++ [.bl false]))) ∧ Stp (fun a => a = S.gn) (fun a => a = S.gn) H (upd H1 S.gn (.lst (W.gone.map V.bl ++ [.bl false]))) := by
  have hs := e _ _ B.gn
  obtain ⟨⟨a1, a2, a3, a4, a5, a6⟩, ⟨b1, b2, b3, b4, b5⟩, ⟨c1, c2, c3, c4⟩, ⟨d1, d2, d3⟩, ⟨f1, f2⟩, g1⟩ := ne_all B.nn
  have s1 : Stp (fun a => a = S.gn) (fun a => a = S.gn) H (upd H1 S.gn (.lst (W.gone.map V.bl ++ [.bl false]))) := Stp.pre e (Stp.upd rfl (nt_lst hs))
  have ls : ∀ {b : Addr} {o : HO}, b ≠ S.gn → H b = some o → upd H1 S.gn (.lst (W.gone.map V.bl ++ [.bl false])) b = some o := fun {b o} n h => by rw [upd_ne n]; exact e _ _ h
  obtain ⟨ys, k1, k2, k3⟩ := B.cs
  obtain ⟨xs, r1, r2, r3⟩ := B.rw'
  exact ⟨⟨ls a4 B.s, ls b3 B.nd, ⟨ys, ls c2 k1, k2, fun q hq => s1.tups _ _ (k3 q hq)⟩, ls d1 B.sr, by rw [upd_same]; show _ = some (HO.lst ((W.gone ++ [false]).map V.bl)); rw [List.map_append]; rfl, ⟨xs, ls f1.symm r1, r2, fun q hq => s1.tups _ _ (r3 q hq)⟩, ls f2.symm B.lk', B.nn⟩, s1⟩
end
def DoneK (K : PySem.W.Frag) (Q : VK) (p s : Addr) (T : Tr) (W : Wt) (lk : List Int) (F : Addr → Prop) (H : Hp) (k : Nat) : Prop := ∀ T' W' fl' F' H', PWS K p s T' W' fl' lk F' H' → Stp (FP p F) (FP p F') H H' → T'.known = T.known → W'.cls.length ≤ W.cls.length + k → Q (.bl true) H'
def NwC (T : Tr) (c : List Int) : Prop := T.depth = 0 ∨ ∃ x ∈ c, ∃ y ∈ c, x ≠ y ∧ Hi T x ∧ Hi T y
def CK (known c : List Int) : Prop := (∀ x ∈ c, (x.natAbs : Int) ∈ known) ∧ c.Nodup ∧ c.length < 64
section
variable {K : PySem.W.Frag} {mg : Str → Option Value} {vs : List V} {H H' H1 : Hp} {Q : VK} {E : XK} {σ : L2.St} {ta tb te tl td ty : TE} {x y v : V} {D : Ends} {tz : TS} {tc : TT} {tu tw : TS}
/-! ### forget -/
def sp_law_forget (K : PySem.W.Frag) : Sp := fun vs H Q _ => ∃ (p s : Addr) (T : Tr) (W : Wt) (fl : Bool) (lk : List Int) (F : Addr → Prop), vs = [.ref p, .ref s] ∧ PWS K p s T W fl lk F H ∧ W.cls.length ≤ 1000 ∧ DoneK K Q p s T W lk F H 0
abbrev N_law_forget : List Str := ["pool", "seat", "reasons", "free", "number", "row", "k"]
theorem sc_law_forget : FnScope N_law_forget ["pool", "seat"] (defScope s_law_forget) := ⟨rfl, rfl, rfl, by decide +kernel, rfl, by decide +kernel, by decide +kernel⟩
def t_law_forget (K : PySem.W.Frag) : TS := (tSeq (tAsg (tLc (iList K (tOp (rIxL K) (tVar 1) (tC (.int 6)))) (gName 5) tYes (tOp (rIxT K) (tVar 5) (tC (.int 2))) [5]) (gName 2))
    (tSeq (tAsg (tLc (iRng1 (tCons (tCB (rLenS K) (tCons (tOp (rIxL K) (tVar 1) (tC (.int 3))) tNil)) tNil)) (gName 6) (tAnd (tNot (tB (tOp (rIxL K) (tOp (rIxL K) (tVar 1) (tC (.int 5))) (tVar 6)))) (tTest (tOp (rIn K true) (tVar 6) (tVar 2)))) (tVar 6) [6]) (gName 3))
    (tSeq (tIfS (tB (tEqI (tCB (rLenS K) (tCons (tVar 3) tNil)) (tC (.int 0)))) (tRet (tC (.bl true))) tNext)
    (tSeq (tAsg (tOp (rIxL K) (tVar 3) (tCall (sp_law_take K) [] E0 (tCons (tVar 0) (tCons (tCB (rLenS K) (tCons (tVar 3) tNil)) tNil)))) (gName 4))
    (tSeq (tAsg (tC (.bl true)) (gSub (tOp (rIxL K) (tVar 1) (tC (.int 5))) (tVar 4) rSetL))
    (tRet (tOp rIsN (tMeth (He.ga K "Watching") "forget" (sp_Watching_forget K) [] E0 (tOp (rIxL K) (tVar 1) (tC (.int 1))) (tCons (tVar 4) tNil)) (tC .non))))))))
set_option maxHeartbeats 4000000 in
theorem der_law_forget {P : Program} {w : World} {K : PySem.W.Frag} {mg : Str → Option Value} {base : Heap} {f : Addr} {cdv : Value} {A : Around} {outer : List Env} {s : Shared} {H : Hp} {E : XK} (T : Tx K mg) {fd_law_take : FuncData} (F_law_take : FnOk P w K mg base CX0 1 (He.fAd K ("_law_take", none)) fd_law_take ps_law_take (sp_law_take K)) (B_law_take : Binds K fd_law_take ps_law_take []) {fd_Watching_forget : FuncData} (F_Watching_forget : FnOk P w K mg base CX0 1 (He.fAd K ("Watching", some "forget")) fd_Watching_forget ps_Watching_forget (sp_Watching_forget K)) (B_Watching_forget : Binds K fd_Watching_forget ps_Watching_forget []) (hr : Room 1 (A.deeper (envOfC "_law_forget" (defScope s_law_forget) s.heap.objs.size f cdv))) (hu : (A.deeper (envOfC "_law_forget" (defScope s_law_forget) s.heap.objs.size f cdv)).units + 1 < cLine) :
    PSs (cxOf CX0 P w K mg base N_law_forget "_law_forget" (defScope s_law_forget) f cdv A outer s H E).nox (defBody s_law_forget) (t_law_forget K) := by
  exact (pss_cons (ps_set (i := 2) sc_law_forget.nd rfl (Or.inr rfl) (pe_lc (own := [("row", 5)]) (g := gName 5) rfl sc_law_forget.nd (pi_list (pe_ix ix_list (pv 1) pe_int (fun _ _ => rfl))) (blkOk_by (N := N_law_forget) (sc := defScope s_law_forget) (by decide +kernel)) (fun _ _ _ _ _ => pg_name (i := 5) sc_law_forget.nd rfl (Or.inl rfl)) (fun _ _ _ _ _ => pts_nil) (fun _ _ _ _ _ => (pe_ix ix_tup (pv 5) pe_int (fun _ _ => rfl)))))
    (pss_cons (ps_setLc (i := 3) (own := [("k", 6)]) (g := gName 6) rfl sc_law_forget.nd rfl rfl (sw_true rfl rfl rfl (by decide +kernel)) (pi_range1 rfl T.f_range (pa_cons (pe_callB call_len_seq rfl T.f_len bt_len (pa_cons (pe_ix ix_list (pv 1) pe_int (fun _ _ => rfl)) pa_nil)) pa_nil)) (blkOk_by (N := N_law_forget) (sc := defScope s_law_forget) (by decide +kernel)) (fun _ _ _ _ _ => pg_name (i := 6) sc_law_forget.nd rfl (Or.inl rfl)) (fun _ _ _ _ _ => (pts_one (PW.pt (pw_and (pt_not (pt_val (pe_ix ix_list (pe_ix ix_list (pv 1) pe_int (fun _ _ => rfl)) (pv 6) (fun _ _ => rfl)))) (pw_and1 (pt_cmpR op_notIn_seq (pv 6) (pv 2) (by rfl))))))) (fun _ _ _ _ _ => (pv 6)))
    (pss_cons (ps_if (pt_cmp (pc_eqI (pe_callB call_len_seq rfl T.f_len bt_len (pa_cons (pv 3) pa_nil)) pe_int)) (pss_one (ps_ret pe_bl)) pss_nil)
    (pss_cons (ps_set (i := 4) sc_law_forget.nd rfl (Or.inl rfl) (pe_ix ix_list (pv 3) (pe_call F_law_take (hr.mono (by decide)) rfl T.g_law_take T.k_law_take B_law_take .nil pass0 (pa_cons (pv 0) (pa_cons (pe_callB call_len_seq rfl T.f_len bt_len (pa_cons (pv 3) pa_nil)) pa_nil))) (fun _ _ => rfl)))
    (pss_cons (ps_asg pe_bl (pg_sub (pe_ix ix_list (pv 1) pe_int (fun _ _ => rfl)) (pv 4) set_list))
    (pss_one (ps_ret (pe_cmpR op_isN1 (pe_meth (pe_ix ix_list (pv 1) pe_int (fun _ _ => rfl)) T.cl_Watching T.m_Watching_forget F_Watching_forget (hr.mono (by decide)) B_Watching_forget .nil pass0 (pa_cons (pv 4) pa_nil)) pe_non (by rfl)))))))))
theorem len_law_forget (h : sp_law_forget K vs H Q E) : vs.length = 2 := by
  obtain ⟨_, _, _, _, _, _, _, rfl, _⟩ := h
  rfl
theorem pure_law_forget (T : Tx K mg) (h : sp_law_forget K vs H Q E) : t_law_forget K { nx := fun _ H' => Q .non H', rt := Q } (start N_law_forget vs) H := by
  obtain ⟨p, s, Tr, W, fl, lk, F, rfl, P, hN, q⟩ := h
  obtain ⟨L, M, S, rfl, rfl, A⟩ := id P.ws
  have B := A.B
  have wo := P.j.wo
  obtain ⟨xs, r1, r2, r3⟩ := B.rw'
  obtain ⟨ys, k1, k2, k3⟩ := B.cs
  have hyl : ys.length = W.cls.length := by rw [k2, List.length_map]
  have hl := rows_len P.j.ok r2
  refine q_asgL (el_lcG (fun p : Row × Addr => V.ref p.2) xs (fun _ => true) (fun p => rsV p.1.rs) (ev_ixL (j := 6) (ev_var rfl) ev_c B.s rfl) r1 (by omega) (fun x => rfl) (fun x hx => et_yes) (fun x hx _ => ev_ixT (j := 2) (ev_var rfl) ev_c (r3 x hx) rfl)) fun po H1 hpo e1 h1 => ?_
  rw [List.filter_eq_self.mpr (fun _ _ => rfl)] at h1
  have hflat : (xs.map fun p => rsV p.1.rs).all flatV = true := by
    rw [List.all_map]
    refine List.all_eq_true.mpr fun q _ => ?_
    show flatV (rsV q.1.rs) = true
    cases q.1.rs <;> rfl
  refine q_asgL (el_lcR1 (n := (W.cls.length : Int)) (fun i => !(W.gone.getD i true) && !inV (.int (i : Int)) (xs.map fun p => rsV p.1.rs)) (fun i => V.int (i : Int)) (ea_cons (ev_is (ev_lenL (ev_ixL (j := 3) (ev_var rfl) ev_c (e1 _ _ B.s) rfl) (e1 _ _ k1)) (by rw [List.length_map, hyl])) ea_nil) ⟨by omega, by omega⟩ (fun x => rfl) (fun i H2 e2 hi => ?_) (fun i H2 e2 _ _ => ev_var rfl)) fun pf H2 hpf e2 h2 => ?_
  · refine et_and (et_not (et_B (ev_ixL (j := i) (ev_ixL (j := 5) (ev_var rfl) ev_c ((e1.trans e2) _ _ B.s) rfl) (ev_var rfl) ((e1.trans e2) _ _ B.gn) ?_))) fun _ => et_test (ev_op (ev_var rfl) (ev_var rfl) (rv_niL (sq_of (e2 _ _ h1)) rfl hflat))
    have hlt : i < W.gone.length := by rw [wo.lg]; omega
    rw [List.getElem?_map, List.getD_eq_getElem?_getD, List.getElem?_eq_getElem hlt]
    rfl
  have e12 := e1.trans e2
  have hlen := given_len (W.cls.length : Int).toNat (fun i => !(W.gone.getD i true) && !inV (.int (i : Int)) (xs.map fun p => rsV p.1.rs)) (fun i => V.int (i : Int))
  have fin : ∀ {H5 : Hp}, Ex H H5 → Q (.bl true) H5 := fun {H5} e => q Tr W fl _ H5 (P.ex e) (Stp.ex e) rfl (Nat.le_refl _)
  refine q_when (b := decide ((given (W.cls.length : Int).toNat (fun i => !(W.gone.getD i true) && !inV (.int (i : Int)) (xs.map fun p => rsV p.1.rs)) (fun i => V.int (i : Int))).length = 0)) (et_is (et_B (ev_cmp (p := fun i j => decide (i = j)) (ev_lenL (ev_var rfl) h2) ev_c)) ?_) (fun hb H3 e3 => ?_) (fun hb H3 e3 => ?_)
  · rw [Bool.eq_iff_iff]
    simp
  · exact s_ret ev_c fun H4 e4 => fin ((e12.trans e3).trans e4)
  · have hb' := of_decide_eq_false hb
    have h3 := e3 _ _ h2
    have e13 := e12.trans e3
    have npf : pf ≠ p := fun z => P.pool.some (by rw [← z]; exact fresh_back e1 hpf)
    refine ⟨_, rfl, t_take rfl (ev_lenL (ev_var rfl) h3) (P.pool.ex e13) (by omega) (by omega) fun r H4 hr hp4 s4 => ?_⟩
    have P4 := (P.ex e13).take hp4 s4
    have h4 := s4.keep _ _ h3 npf
    obtain ⟨m, hm⟩ : ∃ m, (given (W.cls.length : Int).toNat (fun i => !(W.gone.getD i true) && !inV (.int (i : Int)) (xs.map fun p => rsV p.1.rs)) (fun i => V.int (i : Int)))[r]? = some (V.int (m : Nat)) ∧ m < W.cls.length ∧ (!(W.gone.getD m true) && !inV (.int (m : Int)) (xs.map fun p => rsV p.1.rs)) = true := by
      unfold given at hr ⊢
      rw [List.length_map] at hr
      refine ⟨_, by rw [List.getElem?_map, List.getElem?_eq_getElem hr]; rfl, ?_⟩
      have := List.getElem_mem hr
      obtain ⟨g1, g2⟩ := List.mem_filter.mp this
      have := List.mem_range.mp g1
      exact ⟨by omega, g2⟩
    obtain ⟨hm1, hm2, hm3⟩ := hm
    obtain ⟨hg1, hg2⟩ := Bool.and_eq_true_iff.mp hm3
    have hnr : ∀ r ∈ Tr.rows, r.rs ≠ some m := fun r' hr' e => by
      rw [r2] at hr'
      obtain ⟨q', hq', rfl⟩ := List.mem_map.mp hr'
      have : inV (.int (m : Int)) (xs.map fun p => rsV p.1.rs) = true := by
        unfold inV
        refine List.any_eq_true.mpr ⟨rsV q'.1.rs, List.mem_map.mpr ⟨q', hq', rfl⟩, ?_⟩
        rw [e]
        simp [rsV, eqV]
      rw [this] at hg2
      cases hg2
    refine ⟨pf, _, (r : Int), .int (m : Int), rfl, rfl, sq_of h4, atI_nat hm1, ?_⟩
    obtain ⟨L4, M4, S4, hS4, hF4, A4⟩ := P4.ws
    have B4 := A4.B
    have hs4 : H4 S.s = some (.lst (seatL S4 L4.t M4.w fl)) := by rw [← hS4]; exact B4.s
    show tSeq (tAsg (tC (.bl true)) (gSub (tOp (rIxL K) (tVar 1) (tC (.int 5))) (tVar 4) rSetL)) (tRet (tOp rIsN (tMeth (He.ga K "Watching") "forget" (sp_Watching_forget K) [] E0 (tOp (rIxL K) (tVar 1) (tC (.int 1))) (tCons (tVar 4) tNil)) (tC .non))) { nx := fun _ H' => Q .non H', rt := Q } [some (.ref p), some (.ref S.s), some (.ref po), some (.ref pf), some (.int (m : Int)), none, none] H4
    refine q_setL (j := m) B4.gn ev_c (ev_ixL (j := 5) (ev_var rfl) ev_c hs4 rfl) (ev_var rfl) (by rw [List.length_map, wo.lg]; exact hm2) fun H5 e5 => ?_
    obtain ⟨B5, s5⟩ := B4.setGn e5 m
    have gm : S4.gn ∈ S4.all := by simp [SL.all]
    have nG : ∀ a, In2 L4 M4 a → ¬ a = S4.gn := fun a h z => A4.dj S4.gn gm (z ▸ h)
    have A5 := A4.A.stp s5 nG
    show tRet _ _ _ (upd H5 S4.gn (.lst ((W.gone.map V.bl).set m (.bl true))))
    generalize upd H5 S4.gn (.lst ((W.gone.map V.bl).set m (.bl true))) = G5 at B5 s5 A5
    have hs5 : G5 S.s = some (.lst (seatL S4 L4.t M4.w fl)) := by rw [← hS4]; exact B5.s
    refine (ev_ixL (j := 1) (ev_var rfl) ev_c hs5 rfl : Ev (tOp (rIxL K) (tVar 1) (tC (.int 1))) [some (.ref p), some (.ref S.s), some (.ref po), some (.ref pf), some (.int (m : Int)), none, none] G5 (.ref M4.w)) G5 (Ex.refl G5) _ fun H6 e6 => ?_
    have A6 := A5.ex e6
    obtain ⟨_, _, R6, _⟩ := A6.w
    refine ⟨_, _, _, rfl, R6.ob, rfl, _, rfl, L4, Tr, M4, W, m, rfl, A6, by rw [wo.lg]; exact hm2, fun H7 A7 s7 => ⟨rfl, ?_⟩⟩
    have B7 := (B5.ex e6).keep (fun a o i h => s7.keep a o h (A4.dj a i)) s7.tups
    have t57 : Stp (In3 L4 M4 S4) (In3 L4 M4 S4) H4 H7 := (((s5.wider (F2 := In3 L4 M4 S4) (F2' := In3 L4 M4 S4) (fun a h => .inr (h ▸ gm)) (fun a h => .inr h)).post e6)).trans s7.wide
    have W7 : WS K S.s Tr (W.forget m) fl lk (In3 L4 M4 S4) H7 := ⟨L4, M4, S4, hS4, rfl, A7, B7, A4.dj⟩
    rw [← hF4] at W7 t57
    exact q Tr (W.forget m) fl _ H7 (P4.move W7 t57 (P.j.forget hnr) (fun hf => (P.fu hf).forget hnr) P.ne) ((Stp.pre e13 (stp_pool s4)).trans (stp_ws t57)) rfl (Nat.le_refl _)
theorem ok_law_forget {P : Program} {w : World} {K : PySem.W.Frag} {mg : Str → Option Value} {base : Heap} (T : Tx K mg) : FnX P w K mg base 2 (He.fAd K ("_law_forget", none)) ps_law_forget (sp_law_forget K) := by
  obtain ⟨_, F_law_take, B_law_take⟩ := ok_law_take (P := P) (w := w) (base := base) T
  obtain ⟨_, F_Watching_forget, B_Watching_forget⟩ := ok_Watching_forget (P := P) (w := w) (base := base) T
  obtain ⟨fd, F⟩ := T.fun_law_forget
  refine ⟨fd, F.ok sc_law_forget (fun vs H Q E h => len_law_forget h) (fun cdv A outer s H vs Q E hr h => ⟨t_law_forget K, PSs.nox (der_law_forget T F_law_take B_law_take F_Watching_forget B_Watching_forget hr (hu_of hr)), pure_law_forget T h⟩), F.bindsN fun _ _ _ _ _ _ us hl => match us, hl with | [_, _], _ => rfl⟩
/-! ### put -/
def sp_law_put (K : PySem.W.Frag) : Sp := fun vs H Q _ => ∃ (p s a : Addr) (T : Tr) (W : Wt) (fl : Bool) (lk : List Int) (F : Addr → Prop) (c : List Int), vs = [.ref p, .ref s, .ref a] ∧ PWS K p s T W fl lk F H ∧ H a = some (.tup (c.map V.int)) ∧ CK T.known c ∧ (T.known ≠ [] → c ≠ []) ∧ NwC T c ∧ W.cls.length ≤ 1000 ∧ DoneK K Q p s T W lk F H 1
abbrev N_law_put : List Str := ["pool", "seat", "clause", "number", "source"]
theorem sc_law_put : FnScope N_law_put ["pool", "seat", "clause"] (defScope s_law_put) := ⟨rfl, rfl, rfl, by decide +kernel, rfl, by decide +kernel, by decide +kernel⟩
def t_law_put (K : PySem.W.Frag) : TS := (tSeq (tAsg (tCB (rLenS K) (tCons (tOp (rIxL K) (tVar 1) (tC (.int 3))) tNil)) (gName 3))
    (tSeq (tAsg (tOp rSubR (tCall (sp_law_take K) [] E0 (tCons (tVar 0) (tCons (tC (.int 2001)) tNil))) (tC (.int 1000))) (gName 4))
    (tSeq (tIfS (tNot (tB (tCall (sp_law_alike K) [] E0 (tCons (tMeth (He.ga K "Watching") "put" (sp_Watching_put K) [] E0 (tOp (rIxL K) (tVar 1) (tC (.int 1))) (tCons (tVar 2) (tCons (tVar 4) tNil))) (tCons (tVar 3) tNil))))) (tRet (tC (.bl false))) tNext)
    (tSeq (tDrop (tBM K "list" rAppend (tOp (rIxL K) (tVar 1) (tC (.int 3))) (tCons (tVar 2) tNil)))
    (tSeq (tDrop (tBM K "list" rAppend (tOp (rIxL K) (tVar 1) (tC (.int 4))) (tCons (tVar 4) tNil)))
    (tSeq (tDrop (tBM K "list" rAppend (tOp (rIxL K) (tVar 1) (tC (.int 5))) (tCons (tC (.bl false)) tNil)))
    (tSeq (tAsg (tC (.bl false)) (gSub (tVar 1) (tC (.int 7)) rSetL))
    (tRet (tCall (sp_law_watched K) [] E0 (tCons (tVar 1) (tCons (tVar 3) tNil)))))))))))
set_option maxHeartbeats 4000000 in
theorem der_law_put {P : Program} {w : World} {K : PySem.W.Frag} {mg : Str → Option Value} {base : Heap} {f : Addr} {cdv : Value} {A : Around} {outer : List Env} {s : Shared} {H : Hp} {E : XK} (T : Tx K mg) {fd_law_take : FuncData} (F_law_take : FnOk P w K mg base CX0 1 (He.fAd K ("_law_take", none)) fd_law_take ps_law_take (sp_law_take K)) (B_law_take : Binds K fd_law_take ps_law_take []) {fd_law_alike : FuncData} (F_law_alike : FnOk P w K mg base CX0 2 (He.fAd K ("_law_alike", none)) fd_law_alike ps_law_alike (sp_law_alike K)) (B_law_alike : Binds K fd_law_alike ps_law_alike []) {fd_Watching_put : FuncData} (F_Watching_put : FnOk P w K mg base CX0 6 (He.fAd K ("Watching", some "put")) fd_Watching_put ps_Watching_put (sp_Watching_put K)) (B_Watching_put : Binds K fd_Watching_put ps_Watching_put []) {fd_law_watched : FuncData} (F_law_watched : FnOk P w K mg base CX0 2 (He.fAd K ("_law_watched", none)) fd_law_watched ps_law_watched (sp_law_watched K)) (B_law_watched : Binds K fd_law_watched ps_law_watched []) (hr : Room 6 (A.deeper (envOfC "_law_put" (defScope s_law_put) s.heap.objs.size f cdv))) (hu : (A.deeper (envOfC "_law_put" (defScope s_law_put) s.heap.objs.size f cdv)).units + 1 < cLine) :
    PSs (cxOf CX0 P w K mg base N_law_put "_law_put" (defScope s_law_put) f cdv A outer s H E).nox (defBody s_law_put) (t_law_put K) := by
  exact (pss_cons (ps_set (i := 3) sc_law_put.nd rfl (Or.inl rfl) (pe_callB call_len_seq rfl T.f_len bt_len (pa_cons (pe_ix ix_list (pv 1) pe_int (fun _ _ => rfl)) pa_nil)))
    (pss_cons (ps_set (i := 4) sc_law_put.nd rfl (Or.inl rfl) (pe_op op_sub (pe_call F_law_take (hr.mono (by decide)) rfl T.g_law_take T.k_law_take B_law_take .nil pass0 (pa_cons (pv 0) (pa_cons pe_int pa_nil))) pe_int))
    (pss_cons (ps_if (pt_not (pt_val (pe_call F_law_alike (hr.mono (by decide)) rfl T.g_law_alike T.k_law_alike B_law_alike .nil pass0 (pa_cons (pe_meth (pe_ix ix_list (pv 1) pe_int (fun _ _ => rfl)) T.cl_Watching T.m_Watching_put F_Watching_put (hr.mono (by decide)) B_Watching_put .nil pass0 (pa_cons (pv 2) (pa_cons (pv 4) pa_nil))) (pa_cons (pv 3) pa_nil))))) (pss_one (ps_ret pe_bl)) pss_nil)
    (pss_cons (ps_expr (pe_bm PySem.F.plainAttrs_list PySem.F.slot_list_append PySem.F.type_list_append mt_append (pe_ix ix_list (pv 1) pe_int (fun _ _ => rfl)) (pa_cons (pv 2) pa_nil)))
    (pss_cons (ps_expr (pe_bm PySem.F.plainAttrs_list PySem.F.slot_list_append PySem.F.type_list_append mt_append (pe_ix ix_list (pv 1) pe_int (fun _ _ => rfl)) (pa_cons (pv 4) pa_nil)))
    (pss_cons (ps_expr (pe_bm PySem.F.plainAttrs_list PySem.F.slot_list_append PySem.F.type_list_append mt_append (pe_ix ix_list (pv 1) pe_int (fun _ _ => rfl)) (pa_cons pe_bl pa_nil)))
    (pss_cons (ps_asg pe_bl (pg_sub (pv 1) pe_int set_list))
    (pss_one (ps_ret (pe_call F_law_watched (hr.mono (by decide)) rfl T.g_law_watched T.k_law_watched B_law_watched .nil pass0 (pa_cons (pv 1) (pa_cons (pv 3) pa_nil))))))))))))
theorem len_law_put (h : sp_law_put K vs H Q E) : vs.length = 3 := by
  obtain ⟨_, _, _, _, _, _, _, _, _, rfl, _⟩ := h
  rfl
theorem pure_law_put (T : Tx K mg) (h : sp_law_put K vs H Q E) : t_law_put K { nx := fun _ H' => Q .non H', rt := Q } (start N_law_put vs) H := by
  obtain ⟨p, s, a, Tr, W, fl, lk, F, c, rfl, P, ha, hck, hcne, hnw, hN, q⟩ := h
  obtain ⟨L, M, S, rfl, rfl, A⟩ := id P.ws
  have wo := P.j.wo
  obtain ⟨ys, k1, k2, k3⟩ := A.B.cs
  have hyl : ys.length = W.cls.length := by rw [k2, List.length_map]
  refine q_asg (v := .int (W.cls.length : Int)) (ev_is (ev_lenL (ev_ixL (j := 3) (ev_var rfl) ev_c A.B.s rfl) k1) (by rw [List.length_map, hyl])) fun H1 e1 => ?_
  refine t_take rfl (z := 2001) ev_c (P.pool.ex e1) (by decide) (by decide) fun r H2 hr hp2 s2 => ⟨(r : Int), 1000, rfl, rfl, ?_⟩
  have P2 := (P.ex e1).take hp2 s2
  obtain ⟨L, M, S', hS, hF, A2⟩ := P2.ws
  have B2 := A2.B
  have ha2 := s2.tups _ _ (e1 _ _ ha)
  have hs2 : H2 S.s = some (.lst (seatL S' L.t M.w fl)) := by rw [← hS]; exact B2.s
  -- seat[1].put(clause, source)
  show tSeq (tIfS (tNot (tB (tCall (sp_law_alike K) [] E0 (tCons (tMeth (He.ga K "Watching") "put" (sp_Watching_put K) [] E0 (tOp (rIxL K) (tVar 1) (tC (.int 1))) (tCons (tVar 2) (tCons (tVar 4) tNil))) (tCons (tVar 3) tNil))))) (tRet (tC (.bl false))) tNext)
    (tSeq (tDrop (tBM K "list" rAppend (tOp (rIxL K) (tVar 1) (tC (.int 3))) (tCons (tVar 2) tNil)))
    (tSeq (tDrop (tBM K "list" rAppend (tOp (rIxL K) (tVar 1) (tC (.int 4))) (tCons (tVar 4) tNil)))
    (tSeq (tDrop (tBM K "list" rAppend (tOp (rIxL K) (tVar 1) (tC (.int 5))) (tCons (tC (.bl false)) tNil)))
    (tSeq (tAsg (tC (.bl false)) (gSub (tVar 1) (tC (.int 7)) rSetL))
    (tRet (tCall (sp_law_watched K) [] E0 (tCons (tVar 1) (tCons (tVar 3) tNil)))))))) { nx := fun _ H' => Q .non H', rt := Q } [some (.ref p), some (.ref S.s), some (.ref a), some (.int (W.cls.length : Int)), some (.int ((r : Int) - 1000))] H2
  generalize (r : Int) - 1000 = sv
  refine (ev_ixL (j := 1) (ev_var rfl) ev_c hs2 rfl : Ev (tOp (rIxL K) (tVar 1) (tC (.int 1))) [some (.ref p), some (.ref S.s), some (.ref a), some (.int (W.cls.length : Int)), some (.int sv)] H2 (.ref M.w)) H2 (Ex.refl H2) _ fun H3 e3 => ?_
  have A3 := A2.ex e3
  obtain ⟨_, _, R3, _⟩ := A3.A.w
  refine ⟨_, _, _, rfl, R3.ob, rfl, _, rfl, _, rfl, L, Tr, M, W, a, c, sv, rfl, A3.A, e3 _ _ ha2, hck.2.2, hck.1, ⟨by omega, by rw [wo.ls]; omega, by rw [wo.lp]; omega, by rw [wo.lg]; omega⟩, fun pr H4 hpf A4 s4 => ?_⟩
  obtain ⟨t4, dj4, B4⟩ := A3.two A4 s4 rfl rfl
  have hs4 : H4 S.s = some (.lst (seatL S' L.t M.w fl)) := by rw [← hS]; exact B4.s
  have ha4 := s4.tups _ _ (e3 _ _ ha2)
  refine ⟨_, rfl, .int (W.cls.length : Int), rfl, .inr ⟨_, rfl⟩, fun H5 e5 => ⟨true, rfl, iteF ?_⟩⟩
  have A5 := A4.ex e5
  have B5 := B4.ex e5
  have hs5 := e5 _ _ hs4
  have ha5 := e5 _ _ ha4
  obtain ⟨ys5, k15, k25, k35⟩ := B5.cs
  have hyl5 : ys5.length = W.cls.length := by rw [k25, List.length_map]
  have mcs : S'.cs ∈ S'.all := by simp [SL.all]
  have msr : S'.sr ∈ S'.all := by simp [SL.all]
  have mgn : S'.gn ∈ S'.all := by simp [SL.all]
  have ms : S'.s ∈ S'.all := by simp [SL.all]
  have nA : ∀ {b : Addr}, b ∈ S'.all → ∀ z, In2 L M z → ¬ z = b := fun {b} hb z h e => dj4 b hb (e ▸ h)
  show tSeq (tDrop (tBM K "list" rAppend (tOp (rIxL K) (tVar 1) (tC (.int 3))) (tCons (tVar 2) tNil)))
    (tSeq (tDrop (tBM K "list" rAppend (tOp (rIxL K) (tVar 1) (tC (.int 4))) (tCons (tVar 4) tNil)))
    (tSeq (tDrop (tBM K "list" rAppend (tOp (rIxL K) (tVar 1) (tC (.int 5))) (tCons (tC (.bl false)) tNil)))
    (tSeq (tAsg (tC (.bl false)) (gSub (tVar 1) (tC (.int 7)) rSetL))
    (tRet (tCall (sp_law_watched K) [] E0 (tCons (tVar 1) (tCons (tVar 3) tNil))))))) { nx := fun _ H' => Q .non H', rt := Q } [some (.ref p), some (.ref S.s), some (.ref a), some (.int (W.cls.length : Int)), some (.int sv)] H5
  refine q_app k15 (ev_ixL (j := 3) (ev_var rfl) ev_c hs5 rfl) (ev_var rfl) (by rw [List.length_map]; omega) fun H6 e6 => ?_
  obtain ⟨B6, s6⟩ := B5.addCs e6 k15 (e6 _ _ ha5)
  have A6 := A5.stp s6 (nA mcs)
  generalize upd H6 S'.cs (.lst ((ys5.map fun p => V.ref p.2) ++ [.ref a])) = G6 at B6 s6 A6
  have hs6 : G6 S.s = some (.lst (seatL S' L.t M.w fl)) := by rw [← hS]; exact B6.s
  refine q_app B6.sr (ev_ixL (j := 4) (ev_var rfl) ev_c hs6 rfl) (ev_var rfl) (by rw [List.length_map]; show W.src.length < 100000; rw [wo.ls]; omega) fun H7 e7 => ?_
  obtain ⟨B7, s7⟩ := B6.addSr e7 sv
  have A7 := A6.stp s7 (nA msr)
  show tSeq _ _ _ _ (upd H7 S'.sr (.lst (W.src.map V.int ++ [.int sv])))
  change SAt _ _ _ _ _ _ _ _ (upd H7 S'.sr (.lst (W.src.map V.int ++ [.int sv]))) at B7
  change Stp _ _ G6 (upd H7 S'.sr (.lst (W.src.map V.int ++ [.int sv]))) at s7
  change Two _ _ _ _ _ (upd H7 S'.sr (.lst (W.src.map V.int ++ [.int sv]))) at A7
  generalize upd H7 S'.sr (.lst (W.src.map V.int ++ [.int sv])) = G7 at B7 s7 A7
  have hs7 : G7 S.s = some (.lst (seatL S' L.t M.w fl)) := by rw [← hS]; exact B7.s
  refine q_app B7.gn (ev_ixL (j := 5) (ev_var rfl) ev_c hs7 rfl) ev_c (by rw [List.length_map]; show W.gone.length < 100000; rw [wo.lg]; omega) fun H8 e8 => ?_
  obtain ⟨B8, s8⟩ := B7.addGn e8
  have A8 := A7.stp s8 (nA mgn)
  show tSeq _ _ _ _ (upd H8 S'.gn (.lst (W.gone.map V.bl ++ [.bl false])))
  change SAt _ _ _ _ _ _ _ _ (upd H8 S'.gn (.lst (W.gone.map V.bl ++ [.bl false]))) at B8
  change Stp _ _ G7 (upd H8 S'.gn (.lst (W.gone.map V.bl ++ [.bl false]))) at s8
  change Two _ _ _ _ _ (upd H8 S'.gn (.lst (W.gone.map V.bl ++ [.bl false]))) at A8
  generalize upd H8 S'.gn (.lst (W.gone.map V.bl ++ [.bl false])) = G8 at B8 s8 A8
  have hs8 : G8 S.s = some (.lst (seatL S' L.t M.w fl)) := by rw [← hS]; exact B8.s
  refine q_setL (j := 7) hs8 ev_c (ev_var rfl) ev_c (by simp [seatL]) fun H9 e9 => ?_
  obtain ⟨B9, s9⟩ := B8.setFl e9 false
  have A9 := A8.stp s9 (nA ms)
  show tRet _ _ _ (upd H9 S.s (.lst (seatL S' L.t M.w false)))
  rw [hS] at B9 s9 A9
  generalize upd H9 S.s (.lst (seatL S' L.t M.w false)) = G9 at B9 s9 A9
  have B9' : SAt S' L.t M.w Tr.known Tr.rows (W.putC c sv pr) false lk G9 := B9.same ⟨rfl, rfl, rfl⟩ rfl
  have W9 : WS K S.s Tr (W.putC c sv pr) false lk (In3 L M S') G9 := ⟨L, M, S', hS, rfl, A9, B9', dj4⟩
  have wd : ∀ {b : Addr} {G G' : Hp}, b ∈ S'.all → Stp (fun a => a = b) (fun a => a = b) G G' → Stp (In3 L M S') (In3 L M S') G G' := fun {b G G'} hb st => st.wider (fun z h => .inr (h ▸ hb)) fun z h => .inr h
  have tt : Stp (In3 L M S') (In3 L M S') H2 G9 := ((((Stp.pre e3 t4).post e5).trans (wd mcs s6)).trans (wd msr s7)).trans (wd mgn s8) |>.trans (wd ms (hS ▸ s9))
  have j9 := P.j.putC (s := sv) hck hpf hnw
  have hcl : (W.putC c sv pr).cls[W.cls.length]? = some c := by
    show (W.cls ++ [c])[W.cls.length]? = _
    rw [List.getElem?_append_right (Nat.le_refl _), Nat.sub_self]
    rfl
  have hpr : (W.putC c sv pr).prs[W.cls.length]? = some pr := by
    show (W.prs ++ [pr])[W.cls.length]? = _
    rw [← wo.lp, List.getElem?_append_right (Nat.le_refl _), Nat.sub_self]
    rfl
  rw [hF] at q P2
  refine s_ret (ev_call (ea_cons (ev_var rfl) (ea_cons (ev_var rfl) ea_nil)) (spv_watched W9 hcl hpr (hpf.facts hck.2.1))) fun H10 e10 => ?_
  refine q Tr (W.putC c sv pr) false _ H10 (P2.move (W9.ex e10) (tt.post e10) j9 (fun z => nomatch z) fun hk c' hc' => by
    rcases List.mem_append.mp (show c' ∈ W.cls ++ [c] from hc') with h | h
    · exact P.ne hk c' h
    · rw [List.mem_singleton.mp h]
      exact hcne hk) ?_ rfl (by show (W.cls ++ [c]).length ≤ _; rw [List.length_append]; exact Nat.le_refl _)
  exact (Stp.pre e1 (stp_pool s2)).trans (stp_ws (tt.post e10))
theorem ok_law_put {P : Program} {w : World} {K : PySem.W.Frag} {mg : Str → Option Value} {base : Heap} (T : Tx K mg) : FnX P w K mg base 7 (He.fAd K ("_law_put", none)) ps_law_put (sp_law_put K) := by
  obtain ⟨_, F_law_take, B_law_take⟩ := ok_law_take (P := P) (w := w) (base := base) T
  obtain ⟨_, F_law_alike, B_law_alike⟩ := ok_law_alike (P := P) (w := w) (base := base) T
  obtain ⟨_, F_Watching_put, B_Watching_put⟩ := ok_Watching_put (P := P) (w := w) (base := base) T
  obtain ⟨_, F_law_watched, B_law_watched⟩ := ok_law_watched (P := P) (w := w) (base := base) T
  obtain ⟨fd, F⟩ := T.fun_law_put
  refine ⟨fd, F.ok sc_law_put (fun vs H Q E h => len_law_put h) (fun cdv A outer s H vs Q E hr h => ⟨t_law_put K, PSs.nox (der_law_put T F_law_take B_law_take F_law_alike B_law_alike F_Watching_put B_Watching_put F_law_watched B_law_watched hr (hu_of hr)), pure_law_put T h⟩), F.bindsN fun _ _ _ _ _ _ us hl => match us, hl with | [_, _, _], _ => rfl⟩
end
end TW

set_option Elab.async false
set_option linter.all false
set_option maxRecDepth 100000
set_option maxHeartbeats 1000000
namespace TW
open PySem PySem.Spec PyProof.Rows L2 Evl
def LinkOk (known lk : List Int) : Prop := lk = [] ∨ (lk.length = known.length ∧ ∀ (i : Nat) (x : Int), lk[i]? = some x → ∃ n, known[i]? = some n ∧ (x = n ∨ x = -n))
theorem CK.perm {known c c' : List Int} (h : CK known c) (p : c'.Perm c) : CK known c' := ⟨fun x hx => h.1 x (p.mem_iff.mp hx), p.nodup_iff.mpr h.2.1, by rw [p.length_eq]; exact h.2.2⟩
/-- literals of different nodes -/
theorem nd_abs {l : List Int} (h : (l.map fun x => (x.natAbs : Int)).Nodup) : l.Nodup := by
  refine List.Pairwise.imp ?_ (List.pairwise_map.mp h)
  intro a b hab e
  exact hab (by rw [e])
section
variable {K : PySem.W.Frag} {mg : Str → Option Value} {vs : List V} {H H' H1 : Hp} {Q : VK} {E : XK} {σ : L2.St} {ta tb te tl td ty : TE} {x y v : V} {D : Ends} {tz : TS} {tc tk : TT} {tu tw : TS}
theorem ea_ints : ∀ cs : List Int, EvA (cs.foldr (fun c t => tCons (tC (.int c)) t) tNil) σ H (cs.map V.int)
  | [] => ea_nil
  | a :: r => ea_cons ev_c (ea_ints r)
theorem q_opRaw {r : R2} {g : TG} (h : ta σ H fun x H1 => tb σ H1 fun y H2 => r x y H2 fun z H3 => g z σ H3 (tz D)) : tSeq (tAsg (tOp r ta tb) g) tz D σ H := h
theorem ev_max2R {i j : Int} (ha : Ev ta σ H (.int i)) (hb : Ev tb σ H (.int j)) : Ev (tCB rMax2R (tCons ta (tCons tb tNil))) σ H (.int (if j > i then j else i)) := fun H1 e Q q =>
  ha H1 e _ fun H2 e2 => hb H2 (e.trans e2) _ fun H3 e3 => ⟨i, j, rfl, q H3 (e2.trans e3)⟩
theorem s_tupSorted {ns : List Int} (h : ∀ Q : VK, (∀ a H1, Ex H H1 → H1 a = some (.lst (ns.map V.int)) → Q (.ref a) H1) → te σ H Q) (hl : ns.length < 64) (k : ∀ (ns' : List Int) (l : Addr) (H' : Hp), ns'.Perm ns → Ex H H' → H' l = some (.tup (ns'.map V.int)) → D.rt (.ref l) H') :
    tRet (tCB (rTupS K) (tCons (tSrtAbs K te) tNil)) D σ H := h _ fun a H1 e1 h1 => ⟨a, ns, rfl, sq_of h1, hl, fun ns' pl H2 hp _ _ e2 h2 => ⟨pl, _, rfl, .inl ⟨sq_of h2, fun l hl => k ns' l _ hp ((e1.trans e2).trans (Ex.new hl)) upd_same⟩⟩⟩
theorem q_ifAnd {b : Bool} (h : EvT tc σ H b) (h1 : b = true → ∀ H1, Ex H H1 → tk σ H1 (fun c H2 => if c = true then tu { D with nx := tz D } σ H2 else tw { D with nx := tz D } σ H2)) (h2 : b = false → ∀ H1, Ex H H1 → tw { D with nx := tz D } σ H1) : tSeq (tIfS (tAnd tc tk) tu tw) tz D σ H := s_ifAnd (D := { D with nx := tz D }) h h1 h2
/-! ### clause -/
def sp_law_clause (K : PySem.W.Frag) : Sp := fun vs H Q _ => ∃ (p s : Addr) (T : Tr) (W : Wt) (fl : Bool) (lk : List Int) (F : Addr → Prop), vs = [.ref p, .ref s] ∧ PWS K p s T W fl lk F H ∧ LinkOk T.known lk ∧ T.known.length ≤ 16 ∧ W.cls.length ≤ 1000 ∧
  ∀ (a : Addr) (c : List Int) H', PoolAt p H' → Stp (fun a => a = p) (fun a => a = p) H H' → H' a = some (.tup (c.map V.int)) → CK T.known c → (T.known ≠ [] → c ≠ []) → Q (.ref a) H'
abbrev N_law_clause : List Str := ["pool", "seat", "many", "links", "count", "left", "line", "k", "at"]
theorem sc_law_clause : FnScope N_law_clause ["pool", "seat"] (defScope s_law_clause) := ⟨rfl, rfl, rfl, by decide +kernel, rfl, by decide +kernel, by decide +kernel⟩
def t_law_clause (K : PySem.W.Frag) : TS := (tSeq (tAsg (tCB (rLenS K) (tCons (tOp (rIxL K) (tVar 1) (tC (.int 3))) tNil)) (gName 2))
    (tSeq (tAsg (tOp (rIxL K) (tVar 1) (tC (.int 8))) (gName 3))
    (tSeq (tIfS (tB (tLt (tOp rAddR (tVar 2) (tC (.int 1))) (tCB (rLenS K) (tCons (tVar 3) tNil)))) (tRet (tCB (rTupS K) (tCons (tSrtAbs K (tLst (tCons (tUn rNegR (tOp (rIxL K) (tVar 3) (tVar 2))) (tCons (tOp (rIxL K) (tVar 3) (tOp rAddR (tVar 2) (tC (.int 1)))) tNil)))) tNil))) tNext)
    (tSeq (tIfS (tAnd (tB (tGt (tVar 2) (tC (.int 0)))) (tB (tEqI (tCall (sp_law_take K) [] E0 (tCons (tVar 0) (tCons (tC (.int 9)) tNil))) (tC (.int 0))))) (tRet (tOp (rIxL K) (tOp (rIxL K) (tVar 1) (tC (.int 3))) (tCall (sp_law_take K) [] E0 (tCons (tVar 0) (tCons (tVar 2) tNil))))) tNext)
    (tSeq (tAsg (tOp (rIxT K) (tTup (tCons (tC (.int 2)) (tCons (tC (.int 3)) (tCons (tC (.int 4)) (tCons (tC (.int 3)) (tCons (tC (.int 2)) (tCons (tC (.int 5)) (tCons (tC (.int 3)) (tCons (tC (.int 2)) (tCons (tC (.int 4)) (tCons (tC (.int 1)) (tCons (tC (.int 3)) (tCons (tC (.int 2)) (tCons (tC (.int 4)) (tCons (tC (.int 3)) (tCons (tC (.int 7)) (tCons (tC (.int 3)) tNil))))))))))))))))) (tCall (sp_law_take K) [] E0 (tCons (tVar 0) (tCons (tC (.int 16)) tNil)))) (gName 4))
    (tSeq (tIfS (tB (tGt (tCB (rLenS K) (tCons (tOp (rIxL K) (tVar 1) (tC (.int 2))) tNil)) (tC (.int 7)))) (tAsg (tCB rMax2R (tCons (tOp rMulR (tC (.int 2)) (tVar 4)) (tCons (tOp rSubR (tC (.int 12)) (tOp rMulR (tC (.int 12)) (tVar 2))) tNil))) (gName 4)) tNext)
    (tSeq (tAsg (tCB (rListS K) (tCons (tOp (rIxL K) (tVar 1) (tC (.int 2))) tNil)) (gName 5))
    (tSeq (tAsg (tLst tNil) (gName 6))
    (tSeq (tFor (iRng1 (tCons (tCB rMin2R (tCons (tVar 4) (tCons (tCB (rLenS K) (tCons (tVar 5) tNil)) tNil))) tNil)) (gName 7) (tSeq (tAsg (tCall (sp_law_take K) [] E0 (tCons (tVar 0) (tCons (tCB (rLenS K) (tCons (tVar 5) tNil)) tNil))) (gName 8))
    (tSeq (tDrop (tBM K "list" rAppend (tVar 6) (tCons (tOp rSubR (tOp (rIxL K) (tVar 5) (tVar 8)) (tOp rMulR (tOp rMulR (tC (.int 2)) (tOp (rIxL K) (tVar 5) (tVar 8))) (tCall (sp_law_take K) [] E0 (tCons (tVar 0) (tCons (tC (.int 2)) tNil))))) tNil)))
    (tAsg (tOp rCat (tSl (rSlL K) (tVar 5) tNoPart (tPart (tVar 8))) (tSl (rSlL K) (tVar 5) (tPart (tOp rAddR (tVar 8) (tC (.int 1)))) tNoPart)) (gName 5)))))
    (tRet (tCB (rTupS K) (tCons (tSrtAbs K (tVar 6)) tNil))))))))))))
set_option maxHeartbeats 4000000 in
theorem der_law_clause {P : Program} {w : World} {K : PySem.W.Frag} {mg : Str → Option Value} {base : Heap} {f : Addr} {cdv : Value} {A : Around} {outer : List Env} {s : Shared} {H : Hp} {E : XK} (T : Tx K mg) {fd_law_take : FuncData} (F_law_take : FnOk P w K mg base CX0 1 (He.fAd K ("_law_take", none)) fd_law_take ps_law_take (sp_law_take K)) (B_law_take : Binds K fd_law_take ps_law_take []) (hr : Room 1 (A.deeper (envOfC "_law_clause" (defScope s_law_clause) s.heap.objs.size f cdv))) (hu : (A.deeper (envOfC "_law_clause" (defScope s_law_clause) s.heap.objs.size f cdv)).units + 1 < cLine) :
    PSs (cxOf CX0 P w K mg base N_law_clause "_law_clause" (defScope s_law_clause) f cdv A outer s H E).nox (defBody s_law_clause) (t_law_clause K) := by
  exact (pss_cons (ps_set (i := 2) sc_law_clause.nd rfl (Or.inl rfl) (pe_callB call_len_seq rfl T.f_len bt_len (pa_cons (pe_ix ix_list (pv 1) pe_int (fun _ _ => rfl)) pa_nil)))
    (pss_cons (ps_set (i := 3) sc_law_clause.nd rfl (Or.inl rfl) (pe_ix ix_list (pv 1) pe_int (fun _ _ => rfl)))
    (pss_cons (ps_if (pt_cmp (pc_lt (pe_op op_add (pv 2) pe_int) (pe_callB call_len_seq rfl T.f_len bt_len (pa_cons (pv 3) pa_nil)))) (pss_one (ps_ret (pe_callTy call_tuple_of rfl T.f_tuple bt_tuple (pa_cons (pe_sortAbs rfl T.f_sorted rfl T.f_abs (pa_cons (pe_lst (pa_cons (pe_un un_neg (pe_ix ix_list (pv 3) (pv 2) (fun _ _ => rfl))) (pa_cons (pe_ix ix_list (pv 3) (pe_op op_add (pv 2) pe_int) (fun _ _ => rfl)) pa_nil))) pa_nil)) pa_nil)))) pss_nil)
    (pss_cons (ps_if (PW.pt (pw_and (pt_cmp (pc_gt (pv 2) pe_int)) (pw_and1 (pt_cmp (pc_eqI (pe_call F_law_take (hr.mono (by decide)) rfl T.g_law_take T.k_law_take B_law_take .nil pass0 (pa_cons (pv 0) (pa_cons pe_int pa_nil))) pe_int))))) (pss_one (ps_ret (pe_ix ix_list (pe_ix ix_list (pv 1) pe_int (fun _ _ => rfl)) (pe_call F_law_take (hr.mono (by decide)) rfl T.g_law_take T.k_law_take B_law_take .nil pass0 (pa_cons (pv 0) (pa_cons (pv 2) pa_nil))) (fun _ _ => rfl)))) pss_nil)
    (pss_cons (ps_set (i := 4) sc_law_clause.nd rfl (Or.inl rfl) (pe_ix ix_tup (pe_tup (pa_cons pe_int (pa_cons pe_int (pa_cons pe_int (pa_cons pe_int (pa_cons pe_int (pa_cons pe_int (pa_cons pe_int (pa_cons pe_int (pa_cons pe_int (pa_cons pe_int (pa_cons pe_int (pa_cons pe_int (pa_cons pe_int (pa_cons pe_int (pa_cons pe_int (pa_cons pe_int pa_nil))))))))))))))))) (pe_call F_law_take (hr.mono (by decide)) rfl T.g_law_take T.k_law_take B_law_take .nil pass0 (pa_cons (pv 0) (pa_cons pe_int pa_nil))) (fun _ _ => rfl)))
    (pss_cons (ps_if (pt_cmp (pc_gt (pe_callB call_len_seq rfl T.f_len bt_len (pa_cons (pe_ix ix_list (pv 1) pe_int (fun _ _ => rfl)) pa_nil)) pe_int)) (pss_one (ps_set (i := 4) sc_law_clause.nd rfl (Or.inl rfl) (pe_callB (call_max2 rfl) rfl T.f_max bt_max (pa_cons (pe_op op_mul pe_int (pv 4)) (pa_cons (pe_op op_sub pe_int (pe_op op_mul pe_int (pv 2))) pa_nil))))) pss_nil)
    (pss_cons (ps_set (i := 5) sc_law_clause.nd rfl (Or.inl rfl) (pe_callTy call_list_of rfl T.f_list bt_list (pa_cons (pe_ix ix_list (pv 1) pe_int (fun _ _ => rfl)) pa_nil)))
    (pss_cons (ps_set (i := 6) sc_law_clause.nd rfl (Or.inl rfl) (pe_lst pa_nil))
    (pss_cons (ps_for PassesOwn.never rfl (pi_range1 rfl T.f_range (pa_cons (pe_callB (call_min2 rfl) rfl T.f_min bt_min (pa_cons (pv 4) (pa_cons (pe_callB call_len_seq rfl T.f_len bt_len (pa_cons (pv 5) pa_nil)) pa_nil))) pa_nil)) (pg_name (i := 7) sc_law_clause.nd rfl (Or.inl rfl)) (pss_cons (ps_set (i := 8) sc_law_clause.nd rfl (Or.inl rfl) (pe_call F_law_take (hr.mono (by decide)) rfl T.g_law_take T.k_law_take B_law_take .nil pass0 (pa_cons (pv 0) (pa_cons (pe_callB call_len_seq rfl T.f_len bt_len (pa_cons (pv 5) pa_nil)) pa_nil))))
    (pss_cons (ps_expr (pe_bm PySem.F.plainAttrs_list PySem.F.slot_list_append PySem.F.type_list_append mt_append (pv 6) (pa_cons (pe_op op_sub (pe_ix ix_list (pv 5) (pv 8) (fun _ _ => rfl)) (pe_op op_mul (pe_op op_mul pe_int (pe_ix ix_list (pv 5) (pv 8) (fun _ _ => rfl))) (pe_call F_law_take (hr.mono (by decide)) rfl T.g_law_take T.k_law_take B_law_take .nil pass0 (pa_cons (pv 0) (pa_cons pe_int pa_nil))))) pa_nil)))
    (pss_one (ps_set (i := 5) sc_law_clause.nd rfl (Or.inl rfl) (pe_op op_cat (pe_slice sl_list (pv 5) po_none (po_some (pv 8))) (pe_slice sl_list (pv 5) (po_some (pe_op op_add (pv 8) pe_int)) po_none)))))))
    (pss_one (ps_ret (pe_callTy call_tuple_of rfl T.f_tuple bt_tuple (pa_cons (pe_sortAbs rfl T.f_sorted rfl T.f_abs (pa_cons (pv 6) pa_nil)) pa_nil)))))))))))))
theorem len_law_clause (h : sp_law_clause K vs H Q E) : vs.length = 2 := by
  obtain ⟨_, _, _, _, _, _, _, rfl, _⟩ := h
  rfl
theorem pure_law_clause (T : Tx K mg) (h : sp_law_clause K vs H Q E) : t_law_clause K { nx := fun _ H' => Q .non H', rt := Q } (start N_law_clause vs) H := by
  obtain ⟨p, s, Tr, W, fl, lk, F, rfl, P, hlk, hk16, hN, q⟩ := h
  obtain ⟨L, M, S, rfl, rfl, A⟩ := id P.ws
  have np := P.np
  have ok := P.j.ok
  have nP : ∀ a, In3 L M S a → ¬ a = p := fun a h z => np (z ▸ h)
  obtain ⟨ys, k1, k2, k3⟩ := A.B.cs
  have hyl : ys.length = W.cls.length := by rw [k2, List.length_map]
  refine q_asg (v := .int (W.cls.length : Int)) (ev_is (ev_lenL (ev_ixL (j := 3) (ev_var rfl) ev_c A.B.s rfl) k1) (by rw [List.length_map, hyl])) fun H1 e1 => ?_
  refine q_asg (ev_ixL (j := 8) (ev_var rfl) ev_c (e1 _ _ A.B.s) rfl) fun H2 e2 => ?_
  have e12 := e1.trans e2
  have A2 := A.ex e12
  have hp2 := P.pool.ex e12
  refine q_when (b := decide (W.cls.length + 1 < lk.length)) (et_is (et_B (ev_cmp (ev_add (ev_var rfl) ev_c) (ev_lenL (ev_var rfl) A2.B.lk'))) ?_) (fun hb H3 e3 => ?_) (fun hb H3 e3 => ?_)
  · rw [List.length_map, Bool.eq_iff_iff]
    simp
    omega
  · have hlt := of_decide_eq_true hb
    obtain ⟨x, hx⟩ : ∃ x, lk[W.cls.length]? = some x := ⟨_, List.getElem?_eq_getElem (by omega)⟩
    obtain ⟨y, hy⟩ : ∃ y, lk[W.cls.length + 1]? = some y := ⟨_, List.getElem?_eq_getElem hlt⟩
    have A3 := A2.ex e3
    refine s_tupSorted (ns := [-x, y]) (fun Q' k => el_lst (ea_cons (ev_neg (ev_ixL (j := W.cls.length) (v := .int x) (ev_var rfl) (ev_var rfl) A3.B.lk' (by rw [List.getElem?_map, hx]; rfl))) (ea_cons (ev_ixL (j := W.cls.length + 1) (v := .int y) (ev_var rfl) (ev_is (ev_add (ev_var rfl) ev_c) rfl) A3.B.lk' (by rw [List.getElem?_map, hy]; rfl)) ea_nil)) (by simp) H3 (Ex.refl H3) _ fun a H4 _ e4 h4 => k a H4 e4 h4) (by simp) fun ns' l H4 hperm e4 h4 => ?_
    refine q l ns' H4 ((hp2.ex e3).ex e4) (Stp.ex ((e12.trans e3).trans e4)) h4 (CK.perm (c := [-x, y]) ?_ hperm) fun _ z => (by have := hperm.length_eq; rw [z] at this; simp at this)
    rcases hlk with e | ⟨h1, h2⟩
    · rw [e] at hlt
      simp at hlt
    · obtain ⟨n, hn, hxn⟩ := h2 _ x hx
      obtain ⟨m, hm, hym⟩ := h2 _ y hy
      have hnm := List.mem_of_getElem? hn
      have hmm := List.mem_of_getElem? hm
      have pn := ok.kpos n hnm
      have pm := ok.kpos m hmm
      have nem : n ≠ m := fun e => by
        obtain ⟨l1, g1⟩ := List.getElem?_eq_some_iff.mp hn
        obtain ⟨l2, g2⟩ := List.getElem?_eq_some_iff.mp hm
        have := List.pairwise_iff_getElem.mp ok.knd _ _ l1 l2 (Nat.lt_succ_self _)
        rw [g1, g2] at this
        exact this e
      refine ⟨fun z hz => ?_, ?_, by simp⟩
      · have : z = -x ∨ z = y := by simpa using hz
        rcases this with rfl | rfl
        · have : ((-x).natAbs : Int) = n := by omega
          rw [this]
          exact hnm
        · have : (z.natAbs : Int) = m := by omega
          rw [this]
          exact hmm
      · have : -x ≠ y := by omega
        simpa using this
  · have e13 := e12.trans e3
    have A3 := A.ex e13
    have hp3 := P.pool.ex e13
    -- the rest, from any heap in which the pool alone has moved
    have rest : ∀ {H4 : Hp}, PoolAt p H4 → Stp (fun a => a = p) (fun a => a = p) H H4 → (tSeq (tAsg (tOp (rIxT K) (tTup (tCons (tC (.int 2)) (tCons (tC (.int 3)) (tCons (tC (.int 4)) (tCons (tC (.int 3)) (tCons (tC (.int 2)) (tCons (tC (.int 5)) (tCons (tC (.int 3)) (tCons (tC (.int 2)) (tCons (tC (.int 4)) (tCons (tC (.int 1)) (tCons (tC (.int 3)) (tCons (tC (.int 2)) (tCons (tC (.int 4)) (tCons (tC (.int 3)) (tCons (tC (.int 7)) (tCons (tC (.int 3)) tNil))))))))))))))))) (tCall (sp_law_take K) [] E0 (tCons (tVar 0) (tCons (tC (.int 16)) tNil)))) (gName 4))
    (tSeq (tIfS (tB (tGt (tCB (rLenS K) (tCons (tOp (rIxL K) (tVar 1) (tC (.int 2))) tNil)) (tC (.int 7)))) (tAsg (tCB rMax2R (tCons (tOp rMulR (tC (.int 2)) (tVar 4)) (tCons (tOp rSubR (tC (.int 12)) (tOp rMulR (tC (.int 12)) (tVar 2))) tNil))) (gName 4)) tNext)
    (tSeq (tAsg (tCB (rListS K) (tCons (tOp (rIxL K) (tVar 1) (tC (.int 2))) tNil)) (gName 5))
    (tSeq (tAsg (tLst tNil) (gName 6))
    (tSeq (tFor (iRng1 (tCons (tCB rMin2R (tCons (tVar 4) (tCons (tCB (rLenS K) (tCons (tVar 5) tNil)) tNil))) tNil)) (gName 7) (tSeq (tAsg (tCall (sp_law_take K) [] E0 (tCons (tVar 0) (tCons (tCB (rLenS K) (tCons (tVar 5) tNil)) tNil))) (gName 8))
    (tSeq (tDrop (tBM K "list" rAppend (tVar 6) (tCons (tOp rSubR (tOp (rIxL K) (tVar 5) (tVar 8)) (tOp rMulR (tOp rMulR (tC (.int 2)) (tOp (rIxL K) (tVar 5) (tVar 8))) (tCall (sp_law_take K) [] E0 (tCons (tVar 0) (tCons (tC (.int 2)) tNil))))) tNil)))
    (tAsg (tOp rCat (tSl (rSlL K) (tVar 5) tNoPart (tPart (tVar 8))) (tSl (rSlL K) (tVar 5) (tPart (tOp rAddR (tVar 8) (tC (.int 1)))) tNoPart)) (gName 5)))))
    (tRet (tCB (rTupS K) (tCons (tSrtAbs K (tVar 6)) tNil)))))))) { nx := fun _ H' => Q .non H', rt := Q } [some (.ref p), some (.ref S.s), some (.int (W.cls.length : Int)), some (.ref S.lk), none, none, none, none, none] H4 := fun {H4} hp4 s4 => by
      refine q_opRaw ?_
      refine (eu_tup (ea_ints [2, 3, 4, 3, 2, 5, 3, 2, 4, 1, 3, 2, 4, 3, 7, 3]) (by simp) : EvU (tTup (tCons (tC (.int 2)) (tCons (tC (.int 3)) (tCons (tC (.int 4)) (tCons (tC (.int 3)) (tCons (tC (.int 2)) (tCons (tC (.int 5)) (tCons (tC (.int 3)) (tCons (tC (.int 2)) (tCons (tC (.int 4)) (tCons (tC (.int 1)) (tCons (tC (.int 3)) (tCons (tC (.int 2)) (tCons (tC (.int 4)) (tCons (tC (.int 3)) (tCons (tC (.int 7)) (tCons (tC (.int 3)) tNil))))))))))))))))) [some (.ref p), some (.ref S.s), some (.int (W.cls.length : Int)), some (.ref S.lk), none, none, none, none, none] H4 _) H4 (Ex.refl H4) _ fun pt H5 hpt e5 h5 => ?_
      refine t_take rfl (z := 16) ev_c (hp4.ex e5) (by decide) (by decide) fun r H6 hr hp6 s6 => ?_
      have h6 := s6.tups _ _ h5
      obtain ⟨cnt, hcnt, hc1⟩ : ∃ cnt : Int, ([2, 3, 4, 3, 2, 5, 3, 2, 4, 1, 3, 2, 4, 3, 7, 3] : List Int)[r]? = some cnt ∧ 1 ≤ cnt := by
        refine ⟨_, List.getElem?_eq_getElem (by simpa using hr), ?_⟩
        have : ∀ v ∈ ([2, 3, 4, 3, 2, 5, 3, 2, 4, 1, 3, 2, 4, 3, 7, 3] : List Int), 1 ≤ v := by decide
        exact this _ (List.getElem_mem _)
      have s06 := (s4.post e5).trans s6
      have A6 := A.stp s06 nP
      refine ⟨pt, _, (r : Int), .int cnt, rfl, rfl, st_of h6, atI_nat (by rw [List.getElem?_map, hcnt]; rfl), ?_⟩
      -- the loop and what follows
      have tail : ∀ {cn : Int} {H7 : Hp}, 1 ≤ cn → Ex H6 H7 → (tSeq (tAsg (tCB (rListS K) (tCons (tOp (rIxL K) (tVar 1) (tC (.int 2))) tNil)) (gName 5))
    (tSeq (tAsg (tLst tNil) (gName 6))
    (tSeq (tFor (iRng1 (tCons (tCB rMin2R (tCons (tVar 4) (tCons (tCB (rLenS K) (tCons (tVar 5) tNil)) tNil))) tNil)) (gName 7) (tSeq (tAsg (tCall (sp_law_take K) [] E0 (tCons (tVar 0) (tCons (tCB (rLenS K) (tCons (tVar 5) tNil)) tNil))) (gName 8))
    (tSeq (tDrop (tBM K "list" rAppend (tVar 6) (tCons (tOp rSubR (tOp (rIxL K) (tVar 5) (tVar 8)) (tOp rMulR (tOp rMulR (tC (.int 2)) (tOp (rIxL K) (tVar 5) (tVar 8))) (tCall (sp_law_take K) [] E0 (tCons (tVar 0) (tCons (tC (.int 2)) tNil))))) tNil)))
    (tAsg (tOp rCat (tSl (rSlL K) (tVar 5) tNoPart (tPart (tVar 8))) (tSl (rSlL K) (tVar 5) (tPart (tOp rAddR (tVar 8) (tC (.int 1)))) tNoPart)) (gName 5)))))
    (tRet (tCB (rTupS K) (tCons (tSrtAbs K (tVar 6)) tNil)))))) { nx := fun _ H' => Q .non H', rt := Q } [some (.ref p), some (.ref S.s), some (.int (W.cls.length : Int)), some (.ref S.lk), some (.int cn), none, none, none, none] H7 := fun {cn H7} hcn e7 => by
        have A7 := A6.ex e7
        refine q_asgL (el_list (ev_ixL (j := 2) (ev_var rfl) ev_c A7.B.s rfl) (sq_of A7.B.nd)) fun pl H8 hpl e8 h8 => ?_
        refine q_asgL (xs := []) (el_lst ea_nil (by simp)) fun pn H9 hpn e9 h9 => ?_
        have e79 := (e7.trans e8).trans e9
        have hp9 := hp6.ex e79
        have s09 := s06.post e79
        have hpl9 := e9 _ _ h8
        have hpn0 : H pn = none := by
          cases hh : H pn with
          | none => rfl
          | some o =>
            have h1 := (s06.post (e7.trans e8))
            by_cases e : pn = p
            · rw [e] at hpn
              exact ((hp6.ex (e7.trans e8)).some hpn).elim
            · rw [h1.keep _ _ hh e] at hpn
              cases hpn
        have npn : pn ≠ p := fun e => (hp6.ex (e7.trans e8)).some (e ▸ hpn)
        have npl : pl ≠ p := fun e => (hp6.ex e7).some (e ▸ hpl)
        have nlt : (if (Tr.known.length : Int) < cn then (Tr.known.length : Int) else cn) = ((min Tr.known.length cn.toNat : Nat) : Int) := by split <;> omega
        refine q_forR1 (n := ((min Tr.known.length cn.toNat : Nat) : Int)) (ea_cons (ev_is (ev_min2 (ev_var rfl) (ev_lenL (ev_var rfl) hpl9)) (by rw [List.length_map, nlt])) ea_nil) ⟨by omega, by omega⟩
          (fun i σ' H' => ∃ (pl : Addr) (ls ln : List Int) (u u1 : Option V), σ' = [some (.ref p), some (.ref S.s), some (.int (W.cls.length : Int)), some (.ref S.lk), some (.int cn), some (.ref pl), some (.ref pn), u, u1] ∧ PoolAt p H' ∧ Stp (fun a => a = p) (fun a => a = p) H H' ∧ H' pl = some (.lst (ls.map V.int)) ∧ H' pn = some (.lst (ln.map V.int)) ∧ pl ≠ p ∧ pl ≠ pn ∧ ls.Nodup ∧ (∀ z ∈ ls, z ∈ Tr.known) ∧ ls.length + i = Tr.known.length ∧ ln.length = i ∧ (∀ z ∈ ln, (z.natAbs : Int) ∈ Tr.known ∧ ¬ (z.natAbs : Int) ∈ ls) ∧ (ln.map fun z => (z.natAbs : Int)).Nodup)
          (fun H10 e10 => ⟨pl, Tr.known, [], _, _, rfl, hp9.ex e10, s09.post e10, e10 _ _ hpl9, e10 _ _ h9, npl, (ne_of_none h8 hpn), ok.knd, fun z h => h, rfl, rfl, fun z h => (nomatch h), List.nodup_nil⟩) (fun i σ' H' hi w => ?_) (fun σ' H' w => ?_)
        · obtain ⟨pl, ls, ln, u, u1, rfl, hp, st, hl, hn, n1, n2, lnd, lsub, hlen, hll, hln, hnd⟩ := w
          have hlpos : 0 < ls.length := by omega
          refine t_take rfl (z := ls.length) (ev_is (ev_lenL (ev_var rfl) hl) (by rw [List.length_map])) hp hlpos (by omega) fun r H10 hr hp10 s10 => ?_
          have hl10 := s10.keep _ _ hl n1
          have hn10 := s10.keep _ _ hn npn
          obtain ⟨m, hm⟩ : ∃ m, ls[r]? = some m := ⟨_, List.getElem?_eq_getElem hr⟩
          have hmm := List.mem_of_getElem? hm
          have hmk := lsub m hmm
          have pm := ok.kpos m hmk
          refine q_appX hn10 (ev_var rfl) fun H11 e11 => ?_
          refine t_sign (n := m) rfl (fun H' st' => ev_ixL (j := r) (ev_var rfl) (ev_var rfl) (st'.keep _ _ (e11 _ _ hl10) n1) (by rw [List.getElem?_map, hm]; rfl)) (hp10.ex e11) fun z H12 hz hp12 s12 => ?_
          have hl12 := s12.keep _ _ (e11 _ _ hl10) n1
          have hn12 := s12.keep _ _ (e11 _ _ hn10) npn
          have hza : (z.natAbs : Int) = m := by omega
          refine ⟨pn, _, .int z, rfl, rfl, hn12, sz_lt (by rw [List.length_map]; omega), ?_⟩
          have st12 : Stp (fun a => a = p) (fun a => a = p) H (upd H12 pn (.lst (ln.map V.int ++ [.int z]))) := (((st.trans s10).post e11).trans s12).loc hpn0
          have hpo : PoolAt p (upd H12 pn (.lst (ln.map V.int ++ [.int z]))) := by
            obtain ⟨c', k', b', z', hh⟩ := hp12
            exact ⟨c', k', b', z', by rw [upd_ne npn.symm]; exact hh⟩
          have hlo : upd H12 pn (.lst (ln.map V.int ++ [.int z])) pl = some (.lst (ls.map V.int)) := by rw [upd_ne n2]; exact hl12
          have hno : upd H12 pn (.lst (ln.map V.int ++ [.int z])) pn = some (.lst ((ln ++ [z]).map V.int)) := by rw [upd_same, List.map_append]; rfl
          generalize upd H12 pn (.lst (ln.map V.int ++ [.int z])) = G at st12 hpo hlo hno
          refine s_asgL (xs := ((ls.take r ++ ls.drop (r + 1)).map V.int)) (el_is (el_catL (el_sl (ev_var rfl) eo_none (eo_some (ev_var rfl)) (sq_of hlo)) (el_sl (ev_var rfl) (eo_some (ev_is (ev_add (ev_var rfl) ev_c) (show V.int ((r : Int) + 1) = V.int ((r + 1 : Nat) : Int) from rfl))) eo_none (sq_of hlo)) ?_) ?_) fun pl2 H13 hpl2 e13' h13 => ?_
          · rw [cut_to, cut_drop (by rw [List.length_map]; omega), List.length_take, List.length_drop, List.length_map]
            omega
          · rw [cut_to, cut_drop (by rw [List.length_map]; omega), List.map_append, List.map_take, List.map_drop]
          · have hmem : ∀ z', z' ∈ ls.take r ++ ls.drop (r + 1) → z' ∈ ls ∧ z' ≠ m := fun z' hz' => by
              obtain ⟨hrl, hre⟩ := List.getElem?_eq_some_iff.mp hm
              have hpw := List.pairwise_iff_getElem.mp lnd
              rcases List.mem_append.mp hz' with h | h
              · obtain ⟨j, hj, hje⟩ := List.mem_iff_getElem.mp h
                rw [List.length_take] at hj
                rw [List.getElem_take] at hje
                refine ⟨List.mem_of_mem_take h, fun e => ?_⟩
                have := hpw j r (by omega) hrl (by omega)
                rw [hje, hre] at this
                exact this e
              · obtain ⟨j, hj, hje⟩ := List.mem_iff_getElem.mp h
                rw [List.length_drop] at hj
                rw [List.getElem_drop] at hje
                refine ⟨List.mem_of_mem_drop h, fun e => ?_⟩
                have := hpw r (r + 1 + j) hrl (by omega) (by omega)
                rw [hje, hre] at this
                exact this e.symm
            refine ⟨pl2, _, _, _, _, rfl, hpo.ex e13', st12.post e13', h13, e13' _ _ hno, fun e => hpo.some (e ▸ hpl2), (ne_of_none hno hpl2).symm, ?_, fun z' hz' => lsub z' (hmem z' hz').1, ?_, by rw [List.length_append, hll]; rfl, fun z' hz' => ?_, ?_⟩
            · have : (ls.take r ++ ls.drop (r + 1)).Sublist ls := by
                have := List.take_append_drop r ls
                conv => rhs; rw [← this]
                exact List.Sublist.append_left (by rw [← List.drop_drop]; exact List.drop_sublist _ _) _
              exact lnd.sublist this
            · rw [List.length_append, List.length_take, List.length_drop]
              omega
            · rcases List.mem_append.mp hz' with h | h
              · exact ⟨(hln z' h).1, fun h2 => (hln z' h).2 (hmem _ h2).1⟩
              · rw [List.mem_singleton.mp h, hza]
                exact ⟨hmk, fun h2 => (hmem _ h2).2 rfl⟩
            · rw [List.map_append]
              refine List.nodup_append.mpr ⟨hnd, by simp, fun a ha b hb e => ?_⟩
              obtain ⟨z', hz', rfl⟩ := List.mem_map.mp ha
              have : b = m := by rw [← hza]; simpa using hb
              rw [this] at e
              exact (hln z' hz').2 (e ▸ hmm)
        · obtain ⟨pl, ls, ln, u, u1, rfl, hp, st, hl, hn, n1, n2, lnd, lsub, hlen, hll, hln, hnd⟩ := w
          have : ln.length ≤ 16 := by omega
          refine s_tupSorted (ns := ln) (fun Q' k => ⟨_, rfl, k pn H' (Ex.refl H') hn⟩) (by omega) fun ns' l H10 hperm e10 h10 => ?_
          exact q l ns' H10 (hp.ex e10) (st.post e10) h10 (CK.perm (c := ln) ⟨fun z hz => (hln z hz).1, nd_abs hnd, by omega⟩ hperm) fun hk z => (by
            have h1 := hperm.length_eq
            rw [z] at h1
            have h2 := List.length_pos_iff.mpr hk
            simp at h1
            omega)
      refine q_when (b := decide (7 < Tr.known.length)) (et_is (et_B (ev_cmp (ev_lenL (ev_ixL (j := 2) (ev_var rfl) ev_c A6.B.s rfl) A6.B.nd) ev_c)) ?_) (fun hb7 H7 e7 => ?_) (fun hb7 H7 e7 => tail hc1 e7)
      · rw [List.length_map, Bool.eq_iff_iff]
        simp
        omega
      · refine s_asg (ev_max2R (ev_mul ev_c (ev_var rfl) (.inl (by decide))) (ev_sub ev_c (ev_mul ev_c (ev_var rfl) (.inl (by decide))))) fun H8 e8 => tail ?_ (e7.trans e8)
        split <;> omega
    refine q_ifAnd (b := decide (0 < W.cls.length)) (et_is (et_B (ev_cmp (ev_var rfl) ev_c)) ?_) (fun hb2 H4 e4 => ?_) (fun hb2 H4 e4 => rest (hp3.ex e4) (Stp.ex (e13.trans e4)))
    · rw [Bool.eq_iff_iff]
      simp
    · have hpos := of_decide_eq_true hb2
      refine t_take rfl (z := 9) ev_c (hp3.ex e4) (by decide) (by decide) fun r H5 hr hp5 s5 => ⟨(r : Int), 0, rfl, rfl, decide ((r : Int) = 0), rfl, ?_⟩
      have s05 := Stp.pre (e13.trans e4) s5
      by_cases hr0 : (r : Int) = 0
      · rw [decide_eq_true hr0]
        refine iteT ?_
        have A5 := A.stp s05 nP
        refine (ev_ixL (j := 3) (ev_var rfl) ev_c A5.B.s rfl : Ev (tOp (rIxL K) (tVar 1) (tC (.int 3))) [some (.ref p), some (.ref S.s), some (.int (W.cls.length : Int)), some (.ref S.lk), none, none, none, none, none] H5 (.ref S.cs)) H5 (Ex.refl H5) _ fun H6 e6 => ?_
        refine t_take rfl (z := W.cls.length) (ev_var rfl) (hp5.ex e6) hpos (by omega) fun r2 H7 hr2 hp7 s7 => ?_
        have s07 := (s05.post e6).trans s7
        have A7 := A.stp s07 nP
        obtain ⟨c, hc⟩ : ∃ c, W.cls[r2]? = some c := ⟨_, List.getElem?_eq_getElem hr2⟩
        obtain ⟨ca, zs, c1, c2, c3, c4⟩ := cls_at A7.B hc
        exact ⟨S.cs, zs, (r2 : Int), .ref ca, rfl, rfl, sq_of c1, atI_nat c3, q ca c H7 hp7 s07 c4 (P.j.wo.ck r2 c hc) fun hk => P.ne hk c (List.mem_of_getElem? hc)⟩
      · rw [decide_eq_false hr0]
        exact iteF (rest hp5 s05)
theorem ok_law_clause {P : Program} {w : World} {K : PySem.W.Frag} {mg : Str → Option Value} {base : Heap} (T : Tx K mg) : FnX P w K mg base 2 (He.fAd K ("_law_clause", none)) ps_law_clause (sp_law_clause K) := by
  obtain ⟨_, F_law_take, B_law_take⟩ := ok_law_take (P := P) (w := w) (base := base) T
  obtain ⟨fd, F⟩ := T.fun_law_clause
  refine ⟨fd, F.ok sc_law_clause (fun vs H Q E h => len_law_clause h) (fun cdv A outer s H vs Q E hr h => ⟨t_law_clause K, PSs.nox (der_law_clause T F_law_take B_law_take hr (hu_of hr)), pure_law_clause T h⟩), F.bindsN fun _ _ _ _ _ _ us hl => match us, hl with | [_, _], _ => rfl⟩
end
end TW

set_option Elab.async false
set_option linter.all false
set_option maxRecDepth 100000
set_option maxHeartbeats 1000000
namespace TW
open PySem PySem.Spec PyProof.Rows L2 Evl
section
variable {K : PySem.W.Frag} {mg : Str → Option Value} {vs : List V} {H H' H1 : Hp} {Q : VK} {E : XK} {σ : L2.St} {ta tb te tl td ty : TE} {x y v : V} {D : Ends} {tz : TS} {tc tk : TT} {tu tw : TS}
theorem q_forX {tA : TA} {j : Nat} {P : Nat → Hp → Prop} (h : ∀ R : List V → Hp → Prop, (∀ (n : Nat) H1, n ≤ 100000 → P n H1 → R [.int (n : Int)] H1) → tA σ H R) (Pv : Nat → Nat → L2.St → Hp → Prop) (h0 : ∀ n H1, P n H1 → Pv n 0 σ H1)
    (hs : ∀ (n i : Nat) σ' H', i < n → Pv n i σ' H' → tu { D with nx := Pv n (i + 1), ct := Pv n (i + 1), bk := tz D } (σ'.set j (some (.int (i : Int)))) H') (hd : ∀ n σ' H', Pv n n σ' H' → tz D σ' H') : tSeq (tFor (iRng1 tA) (gName j) tu) tz D σ H :=
  h _ fun n H1 hn hp => ⟨(n : Int), rfl, by omega, by omega, for_range (lo := 0) (n := n) (D := { D with nx := tz D }) (Pv n) (h0 n H1 hp) (fun i σ' H' hi p => by
    have e0 : (0 : Int) + (i : Int) = (i : Int) := Int.zero_add _
    show tu { D with nx := Pv n (i + 1), ct := Pv n (i + 1), bk := tz D } (σ'.set j (some (.int ((0 : Int) + (i : Int))))) H'
    rw [e0]
    exact hs n i σ' H' hi p) (hd n)⟩
/-! ### put_one -/
def sp_law_put_one (K : PySem.W.Frag) : Sp := fun vs H Q _ => ∃ (p s : Addr) (T : Tr) (W : Wt) (fl : Bool) (lk : List Int) (F : Addr → Prop), vs = [.ref p, .ref s] ∧ PWS K p s T W fl lk F H ∧ LinkOk T.known lk ∧ T.known.length ≤ 16 ∧ W.cls.length ≤ 1000 ∧ DoneK K Q p s T W lk F H 1
abbrev N_law_put_one : List Str := ["pool", "seat", "clause", "on", "row", "literal"]
theorem sc_law_put_one : FnScope N_law_put_one ["pool", "seat"] (defScope s_law_put_one) := ⟨rfl, rfl, rfl, by decide +kernel, rfl, by decide +kernel, by decide +kernel⟩
def t_law_put_one (K : PySem.W.Frag) : TS := (tSeq (tAsg (tCall (sp_law_clause K) [] E0 (tCons (tVar 0) (tCons (tVar 1) tNil))) (gName 2))
    (tSeq (tAsg (tLc (iList K (tOp (rIxL K) (tVar 1) (tC (.int 6)))) (gName 4) tYes (tOp (rIxT K) (tVar 4) (tC (.int 0))) [4]) (gName 3))
    (tSeq (tIfS (tAnd (tB (tGt (tCall (sp_law_depth K) [] E0 (tCons (tVar 1) tNil)) (tC (.int 0)))) (tB (tLt (tCB (rLenS K) (tCons (tLc (iTup K (tVar 2)) (gName 5) (tTest (tOp (rIn K true) (tUn rNegR (tVar 5)) (tVar 3))) (tVar 5) [5]) tNil)) (tC (.int 2))))) (tRet (tC (.bl true))) tNext)
    (tRet (tCall (sp_law_put K) [] E0 (tCons (tVar 0) (tCons (tVar 1) (tCons (tVar 2) tNil))))))))
set_option maxHeartbeats 4000000 in
theorem der_law_put_one {P : Program} {w : World} {K : PySem.W.Frag} {mg : Str → Option Value} {base : Heap} {f : Addr} {cdv : Value} {A : Around} {outer : List Env} {s : Shared} {H : Hp} {E : XK} (T : Tx K mg) {fd_law_clause : FuncData} (F_law_clause : FnOk P w K mg base CX0 2 (He.fAd K ("_law_clause", none)) fd_law_clause ps_law_clause (sp_law_clause K)) (B_law_clause : Binds K fd_law_clause ps_law_clause []) {fd_law_depth : FuncData} (F_law_depth : FnOk P w K mg base CX0 1 (He.fAd K ("_law_depth", none)) fd_law_depth ps_law_depth (sp_law_depth K)) (B_law_depth : Binds K fd_law_depth ps_law_depth []) {fd_law_put : FuncData} (F_law_put : FnOk P w K mg base CX0 7 (He.fAd K ("_law_put", none)) fd_law_put ps_law_put (sp_law_put K)) (B_law_put : Binds K fd_law_put ps_law_put []) (hr : Room 7 (A.deeper (envOfC "_law_put_one" (defScope s_law_put_one) s.heap.objs.size f cdv))) (hu : (A.deeper (envOfC "_law_put_one" (defScope s_law_put_one) s.heap.objs.size f cdv)).units + 1 < cLine) :
    PSs (cxOf CX0 P w K mg base N_law_put_one "_law_put_one" (defScope s_law_put_one) f cdv A outer s H E).nox (defBody s_law_put_one) (t_law_put_one K) := by
  exact (pss_cons (ps_set (i := 2) sc_law_put_one.nd rfl (Or.inl rfl) (pe_call F_law_clause (hr.mono (by decide)) rfl T.g_law_clause T.k_law_clause B_law_clause .nil pass0 (pa_cons (pv 0) (pa_cons (pv 1) pa_nil))))
    (pss_cons (ps_set (i := 3) sc_law_put_one.nd rfl (Or.inr rfl) (pe_lc (own := [("row", 4)]) (g := gName 4) rfl sc_law_put_one.nd (pi_list (pe_ix ix_list (pv 1) pe_int (fun _ _ => rfl))) (blkOk_by (N := N_law_put_one) (sc := defScope s_law_put_one) (by decide +kernel)) (fun _ _ _ _ _ => pg_name (i := 4) sc_law_put_one.nd rfl (Or.inl rfl)) (fun _ _ _ _ _ => pts_nil) (fun _ _ _ _ _ => (pe_ix ix_tup (pv 4) pe_int (fun _ _ => rfl)))))
    (pss_cons (ps_if (PW.pt (pw_and (pt_cmp (pc_gt (pe_call F_law_depth (hr.mono (by decide)) rfl T.g_law_depth T.k_law_depth B_law_depth .nil pass0 (pa_cons (pv 1) pa_nil)) pe_int)) (pw_and1 (pt_cmp (pc_lt (pe_callB call_len_seq rfl T.f_len bt_len (pa_cons (pe_lc (own := [("literal", 5)]) (g := gName 5) rfl sc_law_put_one.nd (pi_tup (pv 2)) (blkOk_by (N := N_law_put_one) (sc := defScope s_law_put_one) (by decide +kernel)) (fun _ _ _ _ _ => pg_name (i := 5) sc_law_put_one.nd rfl (Or.inl rfl)) (fun _ _ _ _ _ => (pts_one (pt_cmpR op_notIn_seq (pe_un un_neg (pv 5)) (pv 3) (by rfl)))) (fun _ _ _ _ _ => (pv 5))) pa_nil)) pe_int))))) (pss_one (ps_ret pe_bl)) pss_nil)
    (pss_one (ps_ret (pe_call F_law_put (hr.mono (by decide)) rfl T.g_law_put T.k_law_put B_law_put .nil pass0 (pa_cons (pv 0) (pa_cons (pv 1) (pa_cons (pv 2) pa_nil)))))))))
theorem len_law_put_one (h : sp_law_put_one K vs H Q E) : vs.length = 2 := by
  obtain ⟨_, _, _, _, _, _, _, rfl, _⟩ := h
  rfl
theorem pure_law_put_one (T : Tx K mg) (h : sp_law_put_one K vs H Q E) : t_law_put_one K { nx := fun _ H' => Q .non H', rt := Q } (start N_law_put_one vs) H := by
  obtain ⟨p, s, Tr, W, fl, lk, F, rfl, P, hlk, hk16, hN, q⟩ := h
  refine ⟨_, rfl, _, rfl, p, s, Tr, W, fl, lk, F, rfl, P, hlk, hk16, hN, fun a c H1 hp1 s1 ha hck hcne => ?_⟩
  have P1 := P.take hp1 s1
  have ok := P.j.ok
  obtain ⟨L, M, S, rfl, rfl, A⟩ := id P1.ws
  obtain ⟨xs, r1, r2, r3⟩ := A.B.rw'
  have hl := rows_len ok r2
  have lits : EvL (tLc (iList K (tOp (rIxL K) (tVar 1) (tC (.int 6)))) (gName 4) tYes (tOp (rIxT K) (tVar 4) (tC (.int 0))) [4]) [some (.ref p), some (.ref S.s), some (.ref a), none, none, none] H1 ((Tr.rows.map fun r => r.lit).map V.int) := by
    rw [r2]
    refine el_is (el_col (i := 0) 0 (ev_ixL (j := 6) (ev_var rfl) ev_c A.B.s rfl) r1 r3 (by omega) (fun x => rfl) (fun x => rfl) rfl (fun r => .int r.lit) fun r => rfl) ?_
    rw [lits_eq]
  refine q_asgL lits fun po H2 hpo e2 h2 => ?_
  have ha2 := e2 _ _ ha
  refine q_when (b := decide (0 < Tr.depth) && decide ((c.filter fun x => !decide (-x ∈ Tr.rows.map fun r => r.lit)).length < 2)) (et_and (et_is (et_B (ev_cmp (ev_call (ea_cons (ev_var rfl) ea_nil) (spv_depth (P1.ws.ex e2) ok)) ev_c)) ?_) fun _ => et_is (et_B (ev_cmp (ev_lenN (el_lcGT V.int c (fun x => !decide (-x ∈ Tr.rows.map fun r => r.lit)) V.int (ev_var rfl) ha2 (by have := hck.2.2; omega) (fun x => rfl) (fun x hx => et_test (ev_inL (ev_neg (ev_var rfl)) (ev_var rfl) h2)) (fun x hx _ => ev_var rfl))) ev_c)) ?_) (fun hb H3 e3 => ?_) (fun hb H3 e3 => ?_)
  · rw [Bool.eq_iff_iff]
    simp
    try omega
  · rw [List.length_map, Bool.eq_iff_iff]
    simp
    try omega
  · exact s_ret ev_c fun H4 e4 => q Tr W fl _ H4 (P1.ex ((e2.trans e3).trans e4)) ((stp_pool s1).post ((e2.trans e3).trans e4)) rfl (Nat.le_succ _)
  · have e23 := e2.trans e3
    refine ⟨_, rfl, _, rfl, _, rfl, p, S.s, a, Tr, W, fl, lk, _, c, rfl, P1.ex e23, e23 _ _ ha, hck, hcne, ?_, hN, fun T' W' fl' F' H4 hP hst hk hle => q T' W' fl' F' H4 hP (((stp_pool s1).post e23).trans hst) hk hle⟩
    by_cases hd : Tr.depth = 0
    · exact .inl hd
    · right
      have h1 : decide (0 < Tr.depth) = true := decide_eq_true (by omega)
      rw [h1, Bool.true_and] at hb
      have hlen := of_decide_eq_false hb
      have nd : (c.filter fun x => !decide (-x ∈ Tr.rows.map fun r => r.lit)).Nodup := hck.2.1.sublist List.filter_sublist
      have hm : ∀ x ∈ c.filter (fun x => !decide (-x ∈ Tr.rows.map fun r => r.lit)), x ∈ c ∧ Hi Tr x := fun x hx => by
        obtain ⟨g1, g2⟩ := List.mem_filter.mp hx
        refine ⟨g1, fun r hr e => ?_⟩
        have : -x ∈ Tr.rows.map fun r => r.lit := List.mem_map.mpr ⟨r, hr, e⟩
        rw [decide_eq_true this] at g2
        cases g2
      revert hlen nd hm
      generalize (c.filter fun x => !decide (-x ∈ Tr.rows.map fun r => r.lit)) = l
      intro hlen nd hm
      match l, hlen, nd, hm with
      | [], hlen, _, _ => exact absurd (by simp) hlen
      | [a], hlen, _, _ => exact absurd (by simp) hlen
      | x :: y :: t, _, nd, hm =>
        have hx := hm x List.mem_cons_self
        have hy := hm y (List.mem_cons_of_mem _ List.mem_cons_self)
        refine ⟨x, hx.1, y, hy.1, fun e => ?_, hx.2, hy.2⟩
        rw [e] at nd
        simp at nd
theorem ok_law_put_one {P : Program} {w : World} {K : PySem.W.Frag} {mg : Str → Option Value} {base : Heap} (T : Tx K mg) : FnX P w K mg base 8 (He.fAd K ("_law_put_one", none)) ps_law_put_one (sp_law_put_one K) := by
  obtain ⟨_, F_law_clause, B_law_clause⟩ := ok_law_clause (P := P) (w := w) (base := base) T
  obtain ⟨_, F_law_depth, B_law_depth⟩ := ok_law_depth (P := P) (w := w) (base := base) T
  obtain ⟨_, F_law_put, B_law_put⟩ := ok_law_put (P := P) (w := w) (base := base) T
  obtain ⟨fd, F⟩ := T.fun_law_put_one
  refine ⟨fd, F.ok sc_law_put_one (fun vs H Q E h => len_law_put_one h) (fun cdv A outer s H vs Q E hr h => ⟨t_law_put_one K, PSs.nox (der_law_put_one T F_law_clause B_law_clause F_law_depth B_law_depth F_law_put B_law_put hr (hu_of hr)), pure_law_put_one T h⟩), F.bindsN fun _ _ _ _ _ _ us hl => match us, hl with | [_, _], _ => rfl⟩
/-! ### like_learned -/
def sp_law_like_learned (K : PySem.W.Frag) : Sp := fun vs H Q _ => ∃ (p s : Addr) (T : Tr) (W : Wt) (fl : Bool) (lk : List Int) (F : Addr → Prop), vs = [.ref p, .ref s] ∧ PWS K p s T W fl lk F H ∧
  ∀ (a : Addr) (c : List Int) H', PoolAt p H' → Stp (fun a => a = p) (fun a => a = p) H H' → H' a = some (.tup (c.map V.int)) → (c = [] ∨ (CK T.known c ∧ c ≠ [] ∧ NwC T c)) → Q (.ref a) H'
abbrev N_law_like_learned : List Str := ["pool", "seat", "depth", "literal", "high", "line", "k", "other", "row"]
theorem sc_law_like_learned : FnScope N_law_like_learned ["pool", "seat"] (defScope s_law_like_learned) := ⟨rfl, rfl, rfl, by decide +kernel, rfl, by decide +kernel, by decide +kernel⟩
def t_law_like_learned (K : PySem.W.Frag) : TS := (tSeq (tAsg (tCall (sp_law_depth K) [] E0 (tCons (tVar 1) tNil)) (gName 2))
    (tSeq (tAsg (tCall (sp_law_open K) [] E0 (tCons (tVar 0) (tCons (tVar 1) tNil))) (gName 3))
    (tSeq (tIfS (tOr (tB (tEqI (tVar 3) (tC (.int 0)))) (tB (tEqI (tVar 2) (tC (.int 0))))) (tRet (tTup tNil)) tNext)
    (tSeq (tAsg (tLc (iList K (tOp (rIxL K) (tVar 1) (tC (.int 6)))) (gName 8) (tB (tEqI (tOp (rIxT K) (tVar 8) (tC (.int 1))) (tVar 2))) (tOp (rIxT K) (tVar 8) (tC (.int 0))) [8]) (gName 4))
    (tSeq (tAsg (tLst (tCons (tVar 3) (tCons (tUn rNegR (tOp (rIxL K) (tVar 4) (tCall (sp_law_take K) [] E0 (tCons (tVar 0) (tCons (tCB (rLenS K) (tCons (tVar 4) tNil)) tNil))))) tNil))) (gName 5))
    (tSeq (tFor (iRng1 (tCons (tCall (sp_law_take K) [] E0 (tCons (tVar 0) (tCons (tC (.int 4)) tNil))) tNil)) (gName 6) (tSeq (tAsg (tUn rNegR (tOp (rIxT K) (tOp (rIxL K) (tOp (rIxL K) (tVar 1) (tC (.int 6))) (tCall (sp_law_take K) [] E0 (tCons (tVar 0) (tCons (tCB (rLenS K) (tCons (tOp (rIxL K) (tVar 1) (tC (.int 6))) tNil)) tNil)))) (tC (.int 0)))) (gName 7))
    (tIfS (tTest (tOp (rIn K true) (tVar 7) (tVar 5))) (tDrop (tBM K "list" rAppend (tVar 5) (tCons (tVar 7) tNil))) tNext)))
    (tRet (tCB (rTupS K) (tCons (tSrtAbs K (tVar 5)) tNil)))))))))
set_option maxHeartbeats 4000000 in
theorem der_law_like_learned {P : Program} {w : World} {K : PySem.W.Frag} {mg : Str → Option Value} {base : Heap} {f : Addr} {cdv : Value} {A : Around} {outer : List Env} {s : Shared} {H : Hp} {E : XK} (T : Tx K mg) {fd_law_depth : FuncData} (F_law_depth : FnOk P w K mg base CX0 1 (He.fAd K ("_law_depth", none)) fd_law_depth ps_law_depth (sp_law_depth K)) (B_law_depth : Binds K fd_law_depth ps_law_depth []) {fd_law_open : FuncData} (F_law_open : FnOk P w K mg base CX0 2 (He.fAd K ("_law_open", none)) fd_law_open ps_law_open (sp_law_open K)) (B_law_open : Binds K fd_law_open ps_law_open []) {fd_law_take : FuncData} (F_law_take : FnOk P w K mg base CX0 1 (He.fAd K ("_law_take", none)) fd_law_take ps_law_take (sp_law_take K)) (B_law_take : Binds K fd_law_take ps_law_take []) (hr : Room 2 (A.deeper (envOfC "_law_like_learned" (defScope s_law_like_learned) s.heap.objs.size f cdv))) (hu : (A.deeper (envOfC "_law_like_learned" (defScope s_law_like_learned) s.heap.objs.size f cdv)).units + 1 < cLine) :
    PSs (cxOf CX0 P w K mg base N_law_like_learned "_law_like_learned" (defScope s_law_like_learned) f cdv A outer s H E).nox (defBody s_law_like_learned) (t_law_like_learned K) := by
  exact (pss_cons (ps_set (i := 2) sc_law_like_learned.nd rfl (Or.inr rfl) (pe_call F_law_depth (hr.mono (by decide)) rfl T.g_law_depth T.k_law_depth B_law_depth .nil pass0 (pa_cons (pv 1) pa_nil)))
    (pss_cons (ps_set (i := 3) sc_law_like_learned.nd rfl (Or.inl rfl) (pe_call F_law_open (hr.mono (by decide)) rfl T.g_law_open T.k_law_open B_law_open .nil pass0 (pa_cons (pv 0) (pa_cons (pv 1) pa_nil))))
    (pss_cons (ps_if (PW.pt (pw_or (pt_cmp (pc_eqI (pv 3) pe_int)) (pw_or1 (pt_cmp (pc_eqI (pv 2) pe_int))))) (pss_one (ps_ret (pe_tup pa_nil))) pss_nil)
    (pss_cons (ps_setLc (i := 4) (own := [("row", 8)]) (g := gName 8) rfl sc_law_like_learned.nd rfl rfl (sw_true rfl rfl rfl (by decide +kernel)) (pi_list (pe_ix ix_list (pv 1) pe_int (fun _ _ => rfl))) (blkOk_by (N := N_law_like_learned) (sc := defScope s_law_like_learned) (by decide +kernel)) (fun _ _ _ _ _ => pg_name (i := 8) sc_law_like_learned.nd rfl (Or.inl rfl)) (fun _ _ _ _ _ => (pts_one (pt_cmp (pc_eqI (pe_ix ix_tup (pv 8) pe_int (fun _ _ => rfl)) (pv 2))))) (fun _ _ _ _ _ => (pe_ix ix_tup (pv 8) pe_int (fun _ _ => rfl))))
    (pss_cons (ps_set (i := 5) sc_law_like_learned.nd rfl (Or.inl rfl) (pe_lst (pa_cons (pv 3) (pa_cons (pe_un un_neg (pe_ix ix_list (pv 4) (pe_call F_law_take (hr.mono (by decide)) rfl T.g_law_take T.k_law_take B_law_take .nil pass0 (pa_cons (pv 0) (pa_cons (pe_callB call_len_seq rfl T.f_len bt_len (pa_cons (pv 4) pa_nil)) pa_nil))) (fun _ _ => rfl))) pa_nil))))
    (pss_cons (ps_for PassesOwn.never rfl (pi_range1 rfl T.f_range (pa_cons (pe_call F_law_take (hr.mono (by decide)) rfl T.g_law_take T.k_law_take B_law_take .nil pass0 (pa_cons (pv 0) (pa_cons pe_int pa_nil))) pa_nil)) (pg_name (i := 6) sc_law_like_learned.nd rfl (Or.inl rfl)) (pss_cons (ps_set (i := 7) sc_law_like_learned.nd rfl (Or.inl rfl) (pe_un un_neg (pe_ix ix_tup (pe_ix ix_list (pe_ix ix_list (pv 1) pe_int (fun _ _ => rfl)) (pe_call F_law_take (hr.mono (by decide)) rfl T.g_law_take T.k_law_take B_law_take .nil pass0 (pa_cons (pv 0) (pa_cons (pe_callB call_len_seq rfl T.f_len bt_len (pa_cons (pe_ix ix_list (pv 1) pe_int (fun _ _ => rfl)) pa_nil)) pa_nil))) (fun _ _ => rfl)) pe_int (fun _ _ => rfl))))
    (pss_one (ps_if (pt_cmpR op_notIn_seq (pv 7) (pv 5) (by rfl)) (pss_one (ps_expr (pe_bm PySem.F.plainAttrs_list PySem.F.slot_list_append PySem.F.type_list_append mt_append (pv 5) (pa_cons (pv 7) pa_nil)))) pss_nil))))
    (pss_one (ps_ret (pe_callTy call_tuple_of rfl T.f_tuple bt_tuple (pa_cons (pe_sortAbs rfl T.f_sorted rfl T.f_abs (pa_cons (pv 5) pa_nil)) pa_nil))))))))))
theorem len_law_like_learned (h : sp_law_like_learned K vs H Q E) : vs.length = 2 := by
  obtain ⟨_, _, _, _, _, _, _, rfl, _⟩ := h
  rfl
theorem pure_law_like_learned (T : Tx K mg) (h : sp_law_like_learned K vs H Q E) : t_law_like_learned K { nx := fun _ H' => Q .non H', rt := Q } (start N_law_like_learned vs) H := by
  obtain ⟨p, s, Tr, W, fl, lk, F, rfl, P, q⟩ := h
  have ok := P.j.ok
  obtain ⟨L, M, S, rfl, rfl, A⟩ := id P.ws
  have np := P.np
  have nP : ∀ a, In3 L M S a → ¬ a = p := fun a h z => np (z ▸ h)
  refine q_asg (ev_call (ea_cons (ev_var rfl) ea_nil) (spv_depth P.ws ok)) fun H1 e1 => ?_
  refine ⟨_, rfl, _, rfl, p, S.s, Tr, W, fl, lk, _, rfl, P.pool.ex e1, P.ws.ex e1, np, ok, fun lit H2 hp2 s2 hlit => ?_⟩
  have s02 := Stp.pre e1 s2
  refine q_when (b := decide (lit = 0) || decide (Tr.depth = 0)) (et_or (et_B (ev_cmp (p := fun i j => decide (i = j)) (ev_var rfl) ev_c)) fun _ => et_is (et_B (ev_cmp (p := fun i j => decide (i = j)) (ev_var rfl) ev_c)) ?_) (fun hb H3 e3 => ?_) (fun hb H3 e3 => ?_)
  · rw [Bool.eq_iff_iff]
    simp
    try omega
  · exact s_retU (eu_tup ea_nil (by simp)) fun pt H4 hpt e4 h4 => q pt [] H4 (hp2.ex (e3.trans e4)) (s02.post (e3.trans e4)) h4 (.inl rfl)
  · have hb1 : lit ≠ 0 ∧ Tr.depth ≠ 0 := by
      have := Bool.or_eq_false_iff.mp hb
      exact ⟨of_decide_eq_false this.1, of_decide_eq_false this.2⟩
    obtain ⟨hlk, hlo⟩ : (lit.natAbs : Int) ∈ Tr.known ∧ look Tr.rows lit = none := hlit.resolve_left hb1.1
    have s03 := s02.post e3
    have A3 := A.stp s03 nP
    obtain ⟨xs, r1, r2, r3⟩ := A3.B.rw'
    have hl := rows_len ok r2
    have hp3 := hp2.ex e3
    refine q_asgL (el_lcG (fun p : Row × Addr => V.ref p.2) xs (fun p => decide ((p.1.lev : Int) = (Tr.depth : Int))) (fun p => V.int p.1.lit) (ev_ixL (j := 6) (ev_var rfl) ev_c A3.B.s rfl) r1 (by omega) (fun x => rfl) (fun x hx => et_B (ev_cmp (p := fun i j => decide (i = j)) (ev_ixT (j := 1) (ev_var rfl) ev_c (r3 x hx) rfl) (ev_var rfl))) (fun x hx _ => ev_ixT (j := 0) (ev_var rfl) ev_c (r3 x hx) rfl)) fun ph H4 hph e4 h4 => ?_
    have hhl : 0 < (xs.filter fun p => decide ((p.1.lev : Int) = (Tr.depth : Int))).length := by
      obtain ⟨r, hr, hre⟩ := ok.lv Tr.depth (by omega) (Nat.le_refl _)
      rw [r2] at hr
      obtain ⟨z, hz, rfl⟩ := List.mem_map.mp hr
      exact List.length_pos_of_mem (List.mem_filter.mpr ⟨hz, decide_eq_true (by omega)⟩)
    have hhl2 : (xs.filter fun p => decide ((p.1.lev : Int) = (Tr.depth : Int))).length ≤ 100 := Nat.le_trans (List.length_filter_le _ _) hl
    have nph : ph ≠ p := fun z => hp3.some (z ▸ hph)
    have s04 := s03.post e4
    -- line
    refine ⟨_, rfl, _, rfl, t_take rfl (z := (xs.filter fun p => decide ((p.1.lev : Int) = (Tr.depth : Int))).length) (ev_is (ev_lenL (ev_var rfl) h4) (by rw [List.length_map])) (hp3.ex e4) hhl (by omega) fun r H5 hr hp5 s5 => ?_⟩
    have h5 := s5.keep _ _ h4 nph
    obtain ⟨hrow, hhr⟩ : ∃ z, (xs.filter fun p => decide ((p.1.lev : Int) = (Tr.depth : Int)))[r]? = some z := ⟨_, List.getElem?_eq_getElem hr⟩
    obtain ⟨hrm, hrl⟩ := List.mem_filter.mp (List.mem_of_getElem? hhr)
    have hrl' : hrow.1.lev = Tr.depth := by have := of_decide_eq_true hrl; omega
    have hrT : hrow.1 ∈ Tr.rows := by rw [r2]; exact List.mem_map.mpr ⟨hrow, hrm, rfl⟩
    have s05 := s04.trans s5
    refine ⟨ph, _, (r : Int), .int hrow.1.lit, rfl, rfl, sq_of h5, atI_nat (by rw [List.getElem?_map, hhr]; rfl), hrow.1.lit, rfl, sz_of (by simp), fun pl hpl => ?_⟩
    have s06 := s05.post (Ex.new hpl (o := .lst [.int lit, .int (-hrow.1.lit)]))
    have hp6 := hp5.ex (Ex.new hpl (o := .lst [.int lit, .int (-hrow.1.lit)]))
    have npl : pl ≠ p := fun z => hp5.some (z ▸ hpl)
    have hpl0 : H pl = none := by
      cases hh : H pl with
      | none => rfl
      | some o => rw [s05.keep _ _ hh npl] at hpl; cases hpl
    have hlk1 : ¬ hrow.1.ab = (lit.natAbs : Int) := look_none.mp hlo _ hrT
    have hne : lit ≠ -hrow.1.lit := fun e => hlk1 (ab_eq (.inr (by omega)))
    have h6 : upd H5 pl (.lst [.int lit, .int (-hrow.1.lit)]) pl = some (.lst (([lit, -hrow.1.lit] : List Int).map V.int)) := upd_same
    show tSeq (tFor (iRng1 (tCons (tCall (sp_law_take K) [] E0 (tCons (tVar 0) (tCons (tC (.int 4)) tNil))) tNil)) (gName 6) (tSeq (tAsg (tUn rNegR (tOp (rIxT K) (tOp (rIxL K) (tOp (rIxL K) (tVar 1) (tC (.int 6))) (tCall (sp_law_take K) [] E0 (tCons (tVar 0) (tCons (tCB (rLenS K) (tCons (tOp (rIxL K) (tVar 1) (tC (.int 6))) tNil)) tNil)))) (tC (.int 0)))) (gName 7))
      (tIfS (tTest (tOp (rIn K true) (tVar 7) (tVar 5))) (tDrop (tBM K "list" rAppend (tVar 5) (tCons (tVar 7) tNil))) tNext)))
      (tRet (tCB (rTupS K) (tCons (tSrtAbs K (tVar 5)) tNil))) { nx := fun _ H' => Q .non H', rt := Q } [some (.ref p), some (.ref S.s), some (.int (Tr.depth : Int)), some (.int lit), some (.ref ph), some (.ref pl), none, none, none] (upd H5 pl (.lst [.int lit, .int (-hrow.1.lit)]))
    generalize upd H5 pl (.lst [.int lit, .int (-hrow.1.lit)]) = G at s06 hp6 h6
    refine q_forX (P := fun n H' => n < 4 ∧ PoolAt p H' ∧ Stp (fun a => a = p) (fun a => a = p) G H') (fun R k => t_take rfl (z := 4) ev_c hp6 (by decide) (by decide) fun r H7 hr hp7 s7 => k r H7 (by omega) ⟨hr, hp7, s7⟩)
      (fun n i σ' H' => ∃ (ln : List Int) (u u1 : Option V), σ' = [some (.ref p), some (.ref S.s), some (.int (Tr.depth : Int)), some (.int lit), some (.ref ph), some (.ref pl), u, u1, none] ∧ PoolAt p H' ∧ Stp (fun a => a = p) (fun a => a = p) H H' ∧ H' pl = some (.lst (ln.map V.int)) ∧ n < 4 ∧ ln.Nodup ∧ (∀ z ∈ ln, (z.natAbs : Int) ∈ Tr.known) ∧ lit ∈ ln ∧ -hrow.1.lit ∈ ln ∧ ln.length ≤ 2 + i)
      (fun n H7 ⟨hn, hp7, s7⟩ => ⟨[lit, -hrow.1.lit], _, _, rfl, hp7, s06.trans s7, s7.keep _ _ h6 npl, hn, by simp [hne], fun z hz => ?_, by simp, by simp, by simp⟩) (fun n i σ' H' hi w => ?_) (fun n σ' H' w => ?_)
    · have : z = lit ∨ z = -hrow.1.lit := by simpa using hz
      rcases this with rfl | rfl
      · exact hlk
      · rw [Int.natAbs_neg]
        exact ok.mem _ hrT
    · obtain ⟨ln, u, u1, rfl, hp, st, hln, hn4, lnd, lk1, lm1, lm2, lle⟩ := w
      have A7 := A.stp st nP
      obtain ⟨zs, z1, z2, z3⟩ := A7.B.rw'
      have hzl := rows_len ok z2
      have hzpos : 0 < zs.length := by
        have := List.length_pos_of_mem hrT
        rw [z2, List.length_map] at this
        exact this
      refine (ev_ixL (j := 6) (ev_var rfl) ev_c A7.B.s rfl : Ev (tOp (rIxL K) (tVar 1) (tC (.int 6))) [some (.ref p), some (.ref S.s), some (.int (Tr.depth : Int)), some (.int lit), some (.ref ph), some (.ref pl), some (.int (i : Int)), u1, none] H' (.ref S.rw)) H' (Ex.refl H') _ fun H8 e8 => ?_
      have A8 := A7.ex e8
      refine t_take rfl (z := zs.length) (ev_is (ev_lenL (ev_ixL (j := 6) (ev_var rfl) ev_c A8.B.s rfl) (e8 _ _ z1)) (by rw [List.length_map])) (hp.ex e8) hzpos (by omega) fun r2 H9 hr2 hp9 s9 => ?_
      have st9 := (st.post e8).trans s9
      have nrw : S.rw ≠ p := nP _ (.inr (by simp [SL.all]))
      have z9 := s9.keep _ _ (e8 _ _ z1) nrw
      obtain ⟨zr, hzr⟩ : ∃ z, zs[r2]? = some z := ⟨_, List.getElem?_eq_getElem hr2⟩
      have hzm := List.mem_of_getElem? hzr
      have hzt := s9.tups _ _ (e8 _ _ (z3 zr hzm))
      have hzT : zr.1 ∈ Tr.rows := by rw [z2]; exact List.mem_map.mpr ⟨zr, hzm, rfl⟩
      refine ⟨S.rw, _, (r2 : Int), .ref zr.2, rfl, rfl, sq_of z9, atI_nat (by rw [List.getElem?_map, hzr]; rfl), zr.2, _, 0, .int zr.1.lit, rfl, rfl, st_of hzt, rfl, zr.1.lit, rfl, ?_⟩
      have hln9 := s9.keep _ _ (e8 _ _ hln) npl
      show tIfS (tTest (tOp (rIn K true) (tVar 7) (tVar 5))) (tDrop (tBM K "list" rAppend (tVar 5) (tCons (tVar 7) tNil))) tNext _ [some (.ref p), some (.ref S.s), some (.int (Tr.depth : Int)), some (.int lit), some (.ref ph), some (.ref pl), some (.int (i : Int)), some (.int (-zr.1.lit)), none] H9
      refine s_when (b := !decide (-zr.1.lit ∈ ln)) (et_test (ev_inL (ev_var rfl) (ev_var rfl) hln9)) (fun hb2 H10 e10 => ?_) (fun hb2 H10 e10 => ⟨ln, _, _, rfl, hp9.ex e10, st9.post e10, e10 _ _ hln9, hn4, lnd, lk1, lm1, lm2, by omega⟩)
      have hnin : ¬ -zr.1.lit ∈ ln := by simpa using hb2
      refine s_app (e10 _ _ hln9) (ev_var rfl) (ev_var rfl) (by rw [List.length_map]; omega) fun H11 e11 => ⟨ln ++ [-zr.1.lit], _, _, rfl, ?_, (st9.post (e10.trans e11)).loc hpl0, by rw [upd_same, List.map_append]; rfl, hn4, ?_, fun z hz => ?_, List.mem_append_left _ lm1, List.mem_append_left _ lm2, by rw [List.length_append]; simp; omega⟩
      · obtain ⟨c', k', b', z', hh⟩ := hp9.ex (e10.trans e11)
        exact ⟨c', k', b', z', by rw [upd_ne npl.symm]; exact hh⟩
      · refine List.nodup_append.mpr ⟨lnd, by simp, fun a ha b hb e => hnin ?_⟩
        rw [← List.mem_singleton.mp hb, ← e]
        exact ha
      · rcases List.mem_append.mp hz with h | h
        · exact lk1 z h
        · rw [List.mem_singleton.mp h, Int.natAbs_neg]
          exact ok.mem _ hzT
    · obtain ⟨ln, u, u1, rfl, hp, st, hln, hn4, lnd, lk1, lm1, lm2, lle⟩ := w
      refine s_tupSorted (ns := ln) (fun Q' k => ⟨_, rfl, k pl H' (Ex.refl H') hln⟩) (by omega) fun ns' l H10 hperm e10 h10 => ?_
      refine q l ns' H10 (hp.ex e10) (st.post e10) h10 (.inr ⟨CK.perm (c := ln) ⟨lk1, lnd, by omega⟩ hperm, fun z => ?_, .inr ⟨lit, hperm.mem_iff.mpr lm1, -hrow.1.lit, hperm.mem_iff.mpr lm2, hne, fun r hr e => ?_, fun r hr e => ?_⟩⟩)
      · have := hperm.mem_iff.mpr lm1
        rw [z] at this
        cases this
      · exact (look_none.mp hlo r hr (ab_eq (.inr e))).elim
      · have : r = hrow.1 := nd_lit ok.nd hr hrT (by omega)
        rw [this, hrl']
theorem ok_law_like_learned {P : Program} {w : World} {K : PySem.W.Frag} {mg : Str → Option Value} {base : Heap} (T : Tx K mg) : FnX P w K mg base 3 (He.fAd K ("_law_like_learned", none)) ps_law_like_learned (sp_law_like_learned K) := by
  obtain ⟨_, F_law_depth, B_law_depth⟩ := ok_law_depth (P := P) (w := w) (base := base) T
  obtain ⟨_, F_law_open, B_law_open⟩ := ok_law_open (P := P) (w := w) (base := base) T
  obtain ⟨_, F_law_take, B_law_take⟩ := ok_law_take (P := P) (w := w) (base := base) T
  obtain ⟨fd, F⟩ := T.fun_law_like_learned
  refine ⟨fd, F.ok sc_law_like_learned (fun vs H Q E h => len_law_like_learned h) (fun cdv A outer s H vs Q E hr h => ⟨t_law_like_learned K, PSs.nox (der_law_like_learned T F_law_depth B_law_depth F_law_open B_law_open F_law_take B_law_take hr (hu_of hr)), pure_law_like_learned T h⟩), F.bindsN fun _ _ _ _ _ _ us hl => match us, hl with | [_, _], _ => rfl⟩
end
end TW

set_option Elab.async false
set_option linter.all false
set_option maxRecDepth 100000
set_option maxHeartbeats 1000000
namespace TW
open PySem PySem.Spec PyProof.Rows L2 Evl
section
variable {K : PySem.W.Frag} {mg : Str → Option Value} {vs : List V} {H H' H1 : Hp} {Q : VK} {E : XK} {σ : L2.St} {ta tb te tl td ty : TE} {x y v : V} {D : Ends} {tz : TS} {tc tk : TT} {tu tw : TS} {g : TG}
theorem ep_sl {t1 t2 : TO} {a : Addr} {xs : List V} {lo hi : Option Int} (h : Ev te σ H (.ref a)) (h1 : EvO t1 σ H lo) (h2 : EvO t2 σ H hi) (ha : H a = some (.tup xs)) : EvP (tSl (rSlA K) te t1 t2) σ H (cutV xs lo hi) := fun H1 e Q q =>
  h H1 e _ fun H2 e2 => h1 H2 (e.trans e2) _ fun H3 e3 => h2 H3 ((e.trans e2).trans e3) _ fun H4 e4 => ⟨a, xs, rfl, st_of ((((e.trans e2).trans e3).trans e4) _ _ ha), fun hf => by
    have ec : cutV xs lo hi = xs := by
      unfold cutV
      rw [hf.1, hf.2]
      simp
    exact q a H4 ((e2.trans e3).trans e4) (by rw [ec]; exact (((e.trans e2).trans e3).trans e4) _ _ ha), fun _ p hp => q p _ (((e2.trans e3).trans e4).trans (Ex.new hp)) upd_same⟩
theorem ep_cat {xs ys : List V} (ha : EvP ta σ H xs) (hb : EvP tb σ H ys) (hl : xs.length + ys.length ≤ 100000) : EvP (tOp (rCatA K) ta tb) σ H (xs ++ ys) := fun H1 e Q q =>
  ha H1 e _ fun p H2 e2 h2 => hb H2 (e.trans e2) _ fun p' H3 e3 h3 => ⟨p, p', xs, ys, rfl, rfl, st_of (e3 _ _ h2), st_of h3, sz_of hl, fun h => q p' H3 (e2.trans e3) (by rw [h]; exact h3), fun _ h => q p H3 (e2.trans e3) (by rw [h, List.append_nil]; exact e3 _ _ h2), fun _ _ pn hpn => q pn _ ((e2.trans e3).trans (Ex.new hpn)) upd_same⟩
theorem q_forTP {xs : List V} (h : EvP tl σ H xs) (Pv : Addr → Nat → L2.St → Hp → Prop) (h0 : ∀ p H1, Ex H H1 → H1 p = some (.tup xs) → Pv p 0 σ H1) (hl : ∀ p i σ' H', i ≤ xs.length → Pv p i σ' H' → SqT K H' p xs)
    (hs : ∀ p i x σ' H', xs[i]? = some x → Pv p i σ' H' → g x σ' H' fun σ2 H2 => tu { D with nx := Pv p (i + 1), ct := Pv p (i + 1), bk := tz D } σ2 H2) (hd : ∀ p σ' H', Pv p xs.length σ' H' → tz D σ' H') : tSeq (tFor (iTup K tl) g tu) tz D σ H :=
  h H (Ex.refl H) _ fun p H1 e h1 => ⟨p, rfl, ⟨xs, st_of h1⟩, for_tup (D := { D with nx := tz D }) (Pv p) (h0 p H1 e h1) (hl p) (hs p) (hd p)⟩
/-! ### down -/
theorem chosen_pws {p s : Addr} {T : Tr} {W : Wt} {lk : List Int} {F F' : Addr → Prop} {x : Int} (P : PWS K p s T W true lk F H) (B : WS K s (T.deeper.put x none) W false lk F' H') (st : Stp F F' H H') (hx : (x.natAbs : Int) ∈ T.known) (hn : look T.rows x = none) : PWS K p s (T.deeper.put x none) W false lk F' H' :=
  P.move B st ((P.fu rfl).choose hx hn) (fun z => nomatch z) P.ne
def sp_law_down (K : PySem.W.Frag) : Sp := fun vs H Q _ => ∃ (p s : Addr) (T : Tr) (W : Wt) (fl : Bool) (lk : List Int) (F : Addr → Prop), vs = [.ref p, .ref s] ∧ PWS K p s T W fl lk F H ∧ T.known ≠ [] ∧ 0 < W.cls.length ∧ W.cls.length ≤ 1000 ∧ DoneK K Q p s T W lk F H 0
abbrev N_law_down : List Str := ["pool", "seat", "clause", "cut", "literal", "on", "row"]
theorem sc_law_down : FnScope N_law_down ["pool", "seat"] (defScope s_law_down) := ⟨rfl, rfl, rfl, by decide +kernel, rfl, by decide +kernel, by decide +kernel⟩
def t_law_down (K : PySem.W.Frag) : TS := (tSeq (tAsg (tOp (rIxL K) (tOp (rIxL K) (tVar 1) (tC (.int 3))) (tC (.int 0))) (gName 2))
    (tSeq (tAsg (tCall (sp_law_take K) [] E0 (tCons (tVar 0) (tCons (tCB (rLenS K) (tCons (tVar 2) tNil)) tNil))) (gName 3))
    (tSeq (tFor (iTup K (tOp (rCatA K) (tSl (rSlA K) (tVar 2) (tPart (tVar 3)) tNoPart) (tSl (rSlA K) (tVar 2) tNoPart (tPart (tVar 3))))) (gName 4) (tSeq (tAsg (tLc (iList K (tOp (rIxL K) (tVar 1) (tC (.int 6)))) (gName 6) tYes (tCB rAbsR (tCons (tOp (rIxT K) (tVar 6) (tC (.int 0))) tNil)) [6]) (gName 5))
    (tIfS (tAnd (tB (tOp (rIxL K) (tVar 1) (tC (.int 7)))) (tTest (tOp (rIn K true) (tCB rAbsR (tCons (tVar 4) tNil)) (tVar 5)))) (tIfS (tOr (tNot (tB (tCall (sp_law_chooses K) [] E0 (tCons (tVar 1) (tCons (tUn rNegR (tVar 4)) tNil))))) (tNot (tB (tCall (sp_law_propagates K) [] E0 (tCons (tVar 1) tNil))))) (tRet (tC (.bl false))) tNext) tNext)))
    (tRet (tC (.bl true))))))
set_option maxHeartbeats 4000000 in
theorem der_law_down {P : Program} {w : World} {K : PySem.W.Frag} {mg : Str → Option Value} {base : Heap} {f : Addr} {cdv : Value} {A : Around} {outer : List Env} {s : Shared} {H : Hp} {E : XK} (T : Tx K mg) {fd_law_take : FuncData} (F_law_take : FnOk P w K mg base CX0 1 (He.fAd K ("_law_take", none)) fd_law_take ps_law_take (sp_law_take K)) (B_law_take : Binds K fd_law_take ps_law_take []) {fd_law_chooses : FuncData} (F_law_chooses : FnOk P w K mg base CX0 4 (He.fAd K ("_law_chooses", none)) fd_law_chooses ps_law_chooses (sp_law_chooses K)) (B_law_chooses : Binds K fd_law_chooses ps_law_chooses []) {fd_law_propagates : FuncData} (F_law_propagates : FnOk P w K mg base CX0 9 (He.fAd K ("_law_propagates", none)) fd_law_propagates ps_law_propagates (sp_law_propagates K)) (B_law_propagates : Binds K fd_law_propagates ps_law_propagates []) (hr : Room 9 (A.deeper (envOfC "_law_down" (defScope s_law_down) s.heap.objs.size f cdv))) (hu : (A.deeper (envOfC "_law_down" (defScope s_law_down) s.heap.objs.size f cdv)).units + 1 < cLine) :
    PSs (cxOf CX0 P w K mg base N_law_down "_law_down" (defScope s_law_down) f cdv A outer s H E).nox (defBody s_law_down) (t_law_down K) := by
  exact (pss_cons (ps_set (i := 2) sc_law_down.nd rfl (Or.inl rfl) (pe_ix ix_list (pe_ix ix_list (pv 1) pe_int (fun _ _ => rfl)) pe_int (fun _ _ => rfl)))
    (pss_cons (ps_set (i := 3) sc_law_down.nd rfl (Or.inl rfl) (pe_call F_law_take (hr.mono (by decide)) rfl T.g_law_take T.k_law_take B_law_take .nil pass0 (pa_cons (pv 0) (pa_cons (pe_callB call_len_seq rfl T.f_len bt_len (pa_cons (pv 2) pa_nil)) pa_nil))))
    (pss_cons (ps_for PassesOwn.never rfl (pi_tup (pe_op op_catA (pe_slice sl_tupA (pv 2) (po_some (pv 3)) po_none) (pe_slice sl_tupA (pv 2) po_none (po_some (pv 3))))) (pg_name (i := 4) sc_law_down.nd rfl (Or.inl rfl)) (pss_cons (ps_setLc (i := 5) (own := [("row", 6)]) (g := gName 6) rfl sc_law_down.nd rfl rfl (sw_true rfl rfl rfl (by decide +kernel)) (pi_list (pe_ix ix_list (pv 1) pe_int (fun _ _ => rfl))) (blkOk_by (N := N_law_down) (sc := defScope s_law_down) (by decide +kernel)) (fun _ _ _ _ _ => pg_name (i := 6) sc_law_down.nd rfl (Or.inl rfl)) (fun _ _ _ _ _ => pts_nil) (fun _ _ _ _ _ => (pe_callB call_abs rfl T.f_abs bt_abs (pa_cons (pe_ix ix_tup (pv 6) pe_int (fun _ _ => rfl)) pa_nil))))
    (pss_one (ps_if (PW.pt (pw_and (pt_val (pe_ix ix_list (pv 1) pe_int (fun _ _ => rfl))) (pw_and1 (pt_cmpR op_notIn_seq (pe_callB call_abs rfl T.f_abs bt_abs (pa_cons (pv 4) pa_nil)) (pv 5) (by rfl))))) (pss_one (ps_if (PW.pt (pw_or (pt_not (pt_val (pe_call F_law_chooses (hr.mono (by decide)) rfl T.g_law_chooses T.k_law_chooses B_law_chooses .nil pass0 (pa_cons (pv 1) (pa_cons (pe_un un_neg (pv 4)) pa_nil))))) (pw_or1 (pt_not (pt_val (pe_call F_law_propagates (hr.mono (by decide)) rfl T.g_law_propagates T.k_law_propagates B_law_propagates .nil pass0 (pa_cons (pv 1) pa_nil))))))) (pss_one (ps_ret pe_bl)) pss_nil)) pss_nil))))
    (pss_one (ps_ret pe_bl)))))
theorem len_law_down (h : sp_law_down K vs H Q E) : vs.length = 2 := by
  obtain ⟨_, _, _, _, _, _, _, rfl, _⟩ := h
  rfl
theorem pure_law_down (T : Tx K mg) (h : sp_law_down K vs H Q E) : t_law_down K { nx := fun _ H' => Q .non H', rt := Q } (start N_law_down vs) H := by
  obtain ⟨p, s, Tr, W, fl, lk, F, rfl, P, hkn, hpos, hN, q⟩ := h
  obtain ⟨L, M, S, hS, hF, A⟩ := id P.ws
  obtain ⟨c, hc⟩ : ∃ c, W.cls[0]? = some c := ⟨_, List.getElem?_eq_getElem hpos⟩
  obtain ⟨ca, zs, c1, c2, c3, c4⟩ := cls_at A.B hc
  have hck := P.j.wo.ck 0 c hc
  have hcne := P.ne hkn c (List.mem_of_getElem? hc)
  have hcl := List.length_pos_iff.mpr hcne
  have hs0 : H s = some (.lst (seatL S L.t M.w fl)) := by rw [← hS]; exact A.B.s
  refine q_asg (ev_ixL (j := 0) (ev_ixL (j := 3) (ev_var rfl) ev_c hs0 rfl) ev_c c1 c3) fun H1 e1 => ?_
  refine t_take rfl (z := c.length) (ev_is (ev_lenT (ev_var rfl) (e1 _ _ c4)) (by rw [List.length_map])) (P.pool.ex e1) hcl (by omega) fun r H2 hr hp2 s2 => ?_
  have P2 := (P.ex e1).take hp2 s2
  have hc2 := s2.tups _ _ (e1 _ _ c4)
  have t02 : Stp (FP p F) (FP p F) H H2 := Stp.pre e1 (stp_pool s2)
  have ep : EvP (tOp (rCatA K) (tSl (rSlA K) (tVar 2) (tPart (tVar 3)) tNoPart) (tSl (rSlA K) (tVar 2) tNoPart (tPart (tVar 3)))) [some (.ref p), some (.ref s), some (.ref ca), some (.int (r : Int)), none, none, none] H2 ((c.drop r ++ c.take r).map V.int) := by
    have h1 := ep_cat (K := K) (ep_sl (K := K) (σ := [some (.ref p), some (.ref s), some (.ref ca), some (.int (r : Int)), none, none, none]) (te := tVar 2) (t1 := tPart (tVar 3)) (t2 := tNoPart) (ev_var rfl) (eo_some (ev_var rfl)) eo_none hc2) (ep_sl (K := K) (te := tVar 2) (t1 := tNoPart) (t2 := tPart (tVar 3)) (ev_var rfl) eo_none (eo_some (ev_var rfl)) hc2) (by
      rw [cut_to, cut_drop (by rw [List.length_map]; omega), List.length_take, List.length_drop, List.length_map]
      have := hck.2.2
      omega)
    rw [cut_to, cut_drop (by rw [List.length_map]; omega), ← List.map_take, ← List.map_drop, ← List.map_append] at h1
    exact h1
  show tSeq (tFor (iTup K (tOp (rCatA K) (tSl (rSlA K) (tVar 2) (tPart (tVar 3)) tNoPart) (tSl (rSlA K) (tVar 2) tNoPart (tPart (tVar 3))))) (gName 4) (tSeq (tAsg (tLc (iList K (tOp (rIxL K) (tVar 1) (tC (.int 6)))) (gName 6) tYes (tCB rAbsR (tCons (tOp (rIxT K) (tVar 6) (tC (.int 0))) tNil)) [6]) (gName 5))
    (tIfS (tAnd (tB (tOp (rIxL K) (tVar 1) (tC (.int 7)))) (tTest (tOp (rIn K true) (tCB rAbsR (tCons (tVar 4) tNil)) (tVar 5)))) (tIfS (tOr (tNot (tB (tCall (sp_law_chooses K) [] E0 (tCons (tVar 1) (tCons (tUn rNegR (tVar 4)) tNil))))) (tNot (tB (tCall (sp_law_propagates K) [] E0 (tCons (tVar 1) tNil))))) (tRet (tC (.bl false))) tNext) tNext)))
    (tRet (tC (.bl true))) { nx := fun _ H' => Q .non H', rt := Q } [some (.ref p), some (.ref s), some (.ref ca), some (.int (r : Int)), none, none, none] H2
  refine q_forTP ep (fun a i σ' H' => (∃ u u1, σ' = [some (.ref p), some (.ref s), some (.ref ca), some (.int (r : Int)), u, u1, none]) ∧ H' a = some (.tup ((c.drop r ++ c.take r).map V.int)) ∧ ∃ T' W' fl' F', PWS K p s T' W' fl' lk F' H' ∧ Stp (FP p F) (FP p F') H H' ∧ T'.known = Tr.known ∧ W'.cls = W.cls) (fun a H3 e3 h3 => ⟨⟨_, _, rfl⟩, h3, Tr, W, fl, F, P2.ex e3, t02.post e3, rfl, rfl⟩) (fun a i σ' H' _ w => st_of w.2.1) (fun a i v σ' H' hi w => ?_) (fun a σ' H' w => ?_)
  · obtain ⟨⟨u, u1, rfl⟩, ha, T', W', fl', F', P', st, hk, hcw⟩ := w
    rw [List.getElem?_map] at hi
    obtain ⟨z, hz, rfl⟩ := Option.map_eq_some_iff.mp hi
    have hzc : z ∈ c := by
      rcases List.mem_append.mp (List.mem_of_getElem? hz) with h | h
      · exact List.mem_of_mem_drop h
      · exact List.mem_of_mem_take h
    have hzk : (z.natAbs : Int) ∈ T'.known := by rw [hk]; exact hck.1 z hzc
    obtain ⟨L', M', S', hS', hF', A'⟩ := id P'.ws
    have hs' : H' s = some (.lst (seatL S' L'.t M'.w fl')) := by rw [← hS']; exact A'.B.s
    obtain ⟨xs, r1, r2, r3⟩ := A'.B.rw'
    have hl := rows_len P'.j.ok r2
    have onE : EvL (tLc (iList K (tOp (rIxL K) (tVar 1) (tC (.int 6)))) (gName 6) tYes (tCB rAbsR (tCons (tOp (rIxT K) (tVar 6) (tC (.int 0))) tNil)) [6]) [some (.ref p), some (.ref s), some (.ref ca), some (.int (r : Int)), some (.int z), u1, none] H' ((xs.map fun q => q.1.ab).map V.int) := by
      refine el_is (el_lcG (fun p : Row × Addr => V.ref p.2) xs (fun _ => true) (fun p => V.int p.1.ab) (ev_ixL (j := 6) (ev_var rfl) ev_c hs' rfl) r1 (by omega) (fun x => rfl) (fun x hx => et_yes) (fun x hx _ => ev_abs (ev_ixT (j := 0) (ev_var rfl) ev_c (r3 x hx) rfl))) ?_
      rw [List.filter_eq_self.mpr (fun _ _ => rfl), List.map_map]
      rfl
    show tSeq (tAsg (tLc (iList K (tOp (rIxL K) (tVar 1) (tC (.int 6)))) (gName 6) tYes (tCB rAbsR (tCons (tOp (rIxT K) (tVar 6) (tC (.int 0))) tNil)) [6]) (gName 5))
      (tIfS (tAnd (tB (tOp (rIxL K) (tVar 1) (tC (.int 7)))) (tTest (tOp (rIn K true) (tCB rAbsR (tCons (tVar 4) tNil)) (tVar 5)))) (tIfS (tOr (tNot (tB (tCall (sp_law_chooses K) [] E0 (tCons (tVar 1) (tCons (tUn rNegR (tVar 4)) tNil))))) (tNot (tB (tCall (sp_law_propagates K) [] E0 (tCons (tVar 1) tNil))))) (tRet (tC (.bl false))) tNext) tNext) _ [some (.ref p), some (.ref s), some (.ref ca), some (.int (r : Int)), some (.int z), u1, none] H'
    refine q_asgL onE fun po H3 hpo e3 h3 => ?_
    refine s_when (b := fl' && !decide ((z.natAbs : Int) ∈ xs.map fun q => q.1.ab)) (et_and (et_B (ev_ixL (j := 7) (ev_var rfl) ev_c (e3 _ _ hs') rfl)) fun _ => et_test (ev_inL (ev_abs (ev_var rfl)) (ev_var rfl) h3)) (fun hb H4 e4 => ?_) (fun hb H4 e4 => ⟨⟨_, _, rfl⟩, (e3.trans e4) _ _ ha, T', W', fl', F', P'.ex (e3.trans e4), st.post (e3.trans e4), hk, hcw⟩)
    obtain ⟨hb1, hb2⟩ := Bool.and_eq_true_iff.mp hb
    subst hb1
    have e34 := e3.trans e4
    have P4 := P'.ex e34
    have hopen : look T'.rows (-z) = none := look_none.mpr fun r' hr' e => by
      rw [Int.natAbs_neg] at e
      rw [r2] at hr'
      obtain ⟨q', hq', rfl⟩ := List.mem_map.mp hr'
      have : (z.natAbs : Int) ∈ xs.map fun q => q.1.ab := List.mem_map.mpr ⟨q', hq', e⟩
      rw [decide_eq_true this] at hb2
      cases hb2
    have hzk2 : ((-z).natAbs : Int) ∈ T'.known := by rw [Int.natAbs_neg]; exact hzk
    refine ⟨_, rfl, _, rfl, z, rfl, s, T', W', true, lk, F', -z, rfl, P4.ws, P4.j.ok, hzk2, hopen, fun F5 H5 W5 s5 => ⟨true, rfl, iteF ?_⟩⟩
    have P5 := chosen_pws P4 W5 s5 hzk2 hopen
    refine ⟨_, rfl, s, _, W', false, lk, F5, rfl, P5.ws, P5.j, by rw [hcw]; exact hN, fun T6 W6 fl6 F6 H6 W6s s6 g6 d6 j6 f6 => ⟨true, rfl, iteF ?_⟩⟩
    have ne6 : T6.known ≠ [] → ∀ c ∈ W6.cls, c ≠ [] := by
      rw [g6.kn, d6.cl]
      exact P5.ne
    have st6 := ((st.post e34).trans (stp_ws (p := p) s5)).trans (stp_ws (p := p) s6)
    exact ⟨⟨_, _, rfl⟩, (stp_ws (p := p) s6).tups _ _ ((stp_ws (p := p) s5).tups _ _ (e34 _ _ ha)), T6, W6, fl6, F6, P5.move W6s s6 j6 f6 ne6, st6, g6.kn.trans hk, d6.cl.trans hcw⟩
  · obtain ⟨⟨u, u1, rfl⟩, ha, T', W', fl', F', P', st, hk, hcw⟩ := w
    exact s_ret ev_c fun H3 e3 => q T' W' fl' F' H3 (P'.ex e3) (st.post e3) hk (by rw [hcw]; exact Nat.le_refl _)
theorem ok_law_down {P : Program} {w : World} {K : PySem.W.Frag} {mg : Str → Option Value} {base : Heap} (T : Tx K mg) : FnX P w K mg base 10 (He.fAd K ("_law_down", none)) ps_law_down (sp_law_down K) := by
  obtain ⟨_, F_law_take, B_law_take⟩ := ok_law_take (P := P) (w := w) (base := base) T
  obtain ⟨_, F_law_chooses, B_law_chooses⟩ := ok_law_chooses (P := P) (w := w) (base := base) T
  obtain ⟨_, F_law_propagates, B_law_propagates⟩ := ok_law_propagates (P := P) (w := w) (base := base) T
  obtain ⟨fd, F⟩ := T.fun_law_down
  refine ⟨fd, F.ok sc_law_down (fun vs H Q E h => len_law_down h) (fun cdv A outer s H vs Q E hr h => ⟨t_law_down K, PSs.nox (der_law_down T F_law_take B_law_take F_law_chooses B_law_chooses F_law_propagates B_law_propagates hr (hu_of hr)), pure_law_down T h⟩), F.bindsN fun _ _ _ _ _ _ us hl => match us, hl with | [_, _], _ => rfl⟩
end
end TW

set_option Elab.async false
set_option linter.all false
set_option maxRecDepth 100000
set_option maxHeartbeats 1000000
namespace TW
open PySem PySem.Spec PyProof.Rows L2 Evl
section
variable {K : PySem.W.Frag} {mg : Str → Option Value} {vs : List V} {H H' H1 : Hp} {Q : VK} {E : XK} {σ : L2.St} {ta tb te tl td ty : TE} {x y v : V} {D : Ends} {tz : TS} {tc tk : TT} {tu tw : TS} {g : TG}
def sp_law_deed (K : PySem.W.Frag) : Sp := fun vs H Q _ => ∃ (p s : Addr) (T : Tr) (W : Wt) (fl : Bool) (lk : List Int) (F : Addr → Prop), vs = [.ref p, .ref s] ∧ PWS K p s T W fl lk F H ∧ LinkOk T.known lk ∧ T.known.length ≤ 16 ∧ W.cls.length ≤ 900 ∧ DoneK K Q p s T W lk F H 2
abbrev N_law_deed : List Str := ["pool", "seat", "pick", "depth", "low", "level", "clause", "literal"]
theorem sc_law_deed : FnScope N_law_deed ["pool", "seat"] (defScope s_law_deed) := ⟨rfl, rfl, rfl, by decide +kernel, rfl, by decide +kernel, by decide +kernel⟩
def t_law_deed (K : PySem.W.Frag) : TS := (tSeq (tAsg (tCall (sp_law_take K) [] E0 (tCons (tVar 0) (tCons (tC (.int 9)) tNil))) (gName 2))
    (tSeq (tAsg (tCall (sp_law_depth K) [] E0 (tCons (tVar 1) tNil)) (gName 3))
    (tSeq (tIfS (tB (tEqI (tVar 2) (tC (.int 0)))) (tRet (tAndV (tCall (sp_law_put_one K) [] E0 (tCons (tVar 0) (tCons (tVar 1) tNil))) (tCall (sp_law_put_one K) [] E0 (tCons (tVar 0) (tCons (tVar 1) tNil))))) tNext)
    (tSeq (tIfS (tB (tEqI (tVar 2) (tC (.int 1)))) (tRet (tCall (sp_law_forget K) [] E0 (tCons (tVar 0) (tCons (tVar 1) tNil)))) tNext)
    (tSeq (tAsg (tVar 3) (gName 4))
    (tSeq (tIfS (tOr (tB (tLt (tVar 2) (tC (.int 4)))) (tB (tGt (tVar 2) (tC (.int 6))))) (tAsg (tCall (sp_law_take K) [] E0 (tCons (tVar 0) (tCons (tOp rAddR (tVar 3) (tC (.int 1))) tNil))) (gName 4)) tNext)
    (tSeq (tFor (iRng3 (tCons (tVar 3) (tCons (tOp rSubR (tVar 4) (tC (.int 1))) (tCons (tUn rNegR (tC (.int 1))) tNil)))) (gName 5) (tIfS (tNot (tB (tCall (sp_law_back K) [] E0 (tCons (tVar 1) (tCons (tVar 5) tNil))))) (tRet (tC (.bl false))) tNext))
    (tSeq (tIfS (tB (tEqI (tVar 2) (tC (.int 2)))) (tSeq (tAsg (tCall (sp_law_like_learned K) [] E0 (tCons (tVar 0) (tCons (tVar 1) tNil))) (gName 6))
    (tSeq (tIfS (tAnd (tB (tGt (tCB (rLenS K) (tCons (tVar 6) tNil)) (tC (.int 0)))) (tNot (tB (tCall (sp_law_put K) [] E0 (tCons (tVar 0) (tCons (tVar 1) (tCons (tVar 6) tNil))))))) (tRet (tC (.bl false))) tNext)
    (tRet (tOrV (tGt (tCall (sp_law_take K) [] E0 (tCons (tVar 0) (tCons (tC (.int 3)) tNil))) (tC (.int 0))) (tCall (sp_law_back K) [] E0 (tCons (tVar 1) (tCons (tCall (sp_law_take K) [] E0 (tCons (tVar 0) (tCons (tOp rAddR (tVar 4) (tC (.int 1))) tNil))) tNil))))))) tNext)
    (tSeq (tAsg (tCall (sp_law_open K) [] E0 (tCons (tVar 0) (tCons (tVar 1) tNil))) (gName 7))
    (tRet (tOrV (tEqI (tVar 2) (tC (.int 3))) (tOrV (tEqI (tVar 7) (tC (.int 0))) (tOrV (tNotV (tOp (rIxL K) (tVar 1) (tC (.int 7)))) (tCall (sp_law_chooses K) [] E0 (tCons (tVar 1) (tCons (tVar 7) tNil))))))))))))))))
set_option maxHeartbeats 4000000 in
theorem der_law_deed {P : Program} {w : World} {K : PySem.W.Frag} {mg : Str → Option Value} {base : Heap} {f : Addr} {cdv : Value} {A : Around} {outer : List Env} {s : Shared} {H : Hp} {E : XK} (T : Tx K mg) {fd_law_take : FuncData} (F_law_take : FnOk P w K mg base CX0 1 (He.fAd K ("_law_take", none)) fd_law_take ps_law_take (sp_law_take K)) (B_law_take : Binds K fd_law_take ps_law_take []) {fd_law_depth : FuncData} (F_law_depth : FnOk P w K mg base CX0 1 (He.fAd K ("_law_depth", none)) fd_law_depth ps_law_depth (sp_law_depth K)) (B_law_depth : Binds K fd_law_depth ps_law_depth []) {fd_law_put_one : FuncData} (F_law_put_one : FnOk P w K mg base CX0 8 (He.fAd K ("_law_put_one", none)) fd_law_put_one ps_law_put_one (sp_law_put_one K)) (B_law_put_one : Binds K fd_law_put_one ps_law_put_one []) {fd_law_forget : FuncData} (F_law_forget : FnOk P w K mg base CX0 2 (He.fAd K ("_law_forget", none)) fd_law_forget ps_law_forget (sp_law_forget K)) (B_law_forget : Binds K fd_law_forget ps_law_forget []) {fd_law_back : FuncData} (F_law_back : FnOk P w K mg base CX0 4 (He.fAd K ("_law_back", none)) fd_law_back ps_law_back (sp_law_back K)) (B_law_back : Binds K fd_law_back ps_law_back []) {fd_law_like_learned : FuncData} (F_law_like_learned : FnOk P w K mg base CX0 3 (He.fAd K ("_law_like_learned", none)) fd_law_like_learned ps_law_like_learned (sp_law_like_learned K)) (B_law_like_learned : Binds K fd_law_like_learned ps_law_like_learned []) {fd_law_put : FuncData} (F_law_put : FnOk P w K mg base CX0 7 (He.fAd K ("_law_put", none)) fd_law_put ps_law_put (sp_law_put K)) (B_law_put : Binds K fd_law_put ps_law_put []) {fd_law_open : FuncData} (F_law_open : FnOk P w K mg base CX0 2 (He.fAd K ("_law_open", none)) fd_law_open ps_law_open (sp_law_open K)) (B_law_open : Binds K fd_law_open ps_law_open []) {fd_law_chooses : FuncData} (F_law_chooses : FnOk P w K mg base CX0 4 (He.fAd K ("_law_chooses", none)) fd_law_chooses ps_law_chooses (sp_law_chooses K)) (B_law_chooses : Binds K fd_law_chooses ps_law_chooses []) (hr : Room 8 (A.deeper (envOfC "_law_deed" (defScope s_law_deed) s.heap.objs.size f cdv))) (hu : (A.deeper (envOfC "_law_deed" (defScope s_law_deed) s.heap.objs.size f cdv)).units + 1 < cLine) :
    PSs (cxOf CX0 P w K mg base N_law_deed "_law_deed" (defScope s_law_deed) f cdv A outer s H E).nox (defBody s_law_deed) (t_law_deed K) := by
  exact (pss_cons (ps_set (i := 2) sc_law_deed.nd rfl (Or.inl rfl) (pe_call F_law_take (hr.mono (by decide)) rfl T.g_law_take T.k_law_take B_law_take .nil pass0 (pa_cons (pv 0) (pa_cons pe_int pa_nil))))
    (pss_cons (ps_set (i := 3) sc_law_deed.nd rfl (Or.inl rfl) (pe_call F_law_depth (hr.mono (by decide)) rfl T.g_law_depth T.k_law_depth B_law_depth .nil pass0 (pa_cons (pv 1) pa_nil)))
    (pss_cons (ps_if (pt_cmp (pc_eqI (pv 2) pe_int)) (pss_one (ps_ret (pe_and (pe_call F_law_put_one (hr.mono (by decide)) rfl T.g_law_put_one T.k_law_put_one B_law_put_one .nil pass0 (pa_cons (pv 0) (pa_cons (pv 1) pa_nil))) (pe_one (pe_call F_law_put_one (hr.mono (by decide)) rfl T.g_law_put_one T.k_law_put_one B_law_put_one .nil pass0 (pa_cons (pv 0) (pa_cons (pv 1) pa_nil))))))) pss_nil)
    (pss_cons (ps_if (pt_cmp (pc_eqI (pv 2) pe_int)) (pss_one (ps_ret (pe_call F_law_forget (hr.mono (by decide)) rfl T.g_law_forget T.k_law_forget B_law_forget .nil pass0 (pa_cons (pv 0) (pa_cons (pv 1) pa_nil))))) pss_nil)
    (pss_cons (ps_set (i := 4) sc_law_deed.nd rfl (Or.inl rfl) (pv 3))
    (pss_cons (ps_if (PW.pt (pw_or (pt_cmp (pc_lt (pv 2) pe_int)) (pw_or1 (pt_cmp (pc_gt (pv 2) pe_int))))) (pss_one (ps_set (i := 4) sc_law_deed.nd rfl (Or.inl rfl) (pe_call F_law_take (hr.mono (by decide)) rfl T.g_law_take T.k_law_take B_law_take .nil pass0 (pa_cons (pv 0) (pa_cons (pe_op op_add (pv 3) pe_int) pa_nil))))) pss_nil)
    (pss_cons (ps_for PassesOwn.never rfl (pi_range3 rfl T.f_range (pa_cons (pv 3) (pa_cons (pe_op op_sub (pv 4) pe_int) (pa_cons (pe_un un_neg pe_int) pa_nil)))) (pg_name (i := 5) sc_law_deed.nd rfl (Or.inl rfl)) (pss_one (ps_if (pt_not (pt_val (pe_call F_law_back (hr.mono (by decide)) rfl T.g_law_back T.k_law_back B_law_back .nil pass0 (pa_cons (pv 1) (pa_cons (pv 5) pa_nil))))) (pss_one (ps_ret pe_bl)) pss_nil)))
    (pss_cons (ps_if (pt_cmp (pc_eqI (pv 2) pe_int)) (pss_cons (ps_set (i := 6) sc_law_deed.nd rfl (Or.inl rfl) (pe_call F_law_like_learned (hr.mono (by decide)) rfl T.g_law_like_learned T.k_law_like_learned B_law_like_learned .nil pass0 (pa_cons (pv 0) (pa_cons (pv 1) pa_nil))))
    (pss_cons (ps_if (PW.pt (pw_and (pt_cmp (pc_gt (pe_callB call_len_seq rfl T.f_len bt_len (pa_cons (pv 6) pa_nil)) pe_int)) (pw_and1 (pt_not (pt_val (pe_call F_law_put (hr.mono (by decide)) rfl T.g_law_put T.k_law_put B_law_put .nil pass0 (pa_cons (pv 0) (pa_cons (pv 1) (pa_cons (pv 6) pa_nil))))))))) (pss_one (ps_ret pe_bl)) pss_nil)
    (pss_one (ps_ret (pe_or (pe_cmp (pc_gt (pe_call F_law_take (hr.mono (by decide)) rfl T.g_law_take T.k_law_take B_law_take .nil pass0 (pa_cons (pv 0) (pa_cons pe_int pa_nil))) pe_int)) (pe_one (pe_call F_law_back (hr.mono (by decide)) rfl T.g_law_back T.k_law_back B_law_back .nil pass0 (pa_cons (pv 1) (pa_cons (pe_call F_law_take (hr.mono (by decide)) rfl T.g_law_take T.k_law_take B_law_take .nil pass0 (pa_cons (pv 0) (pa_cons (pe_op op_add (pv 4) pe_int) pa_nil))) pa_nil))))))))) pss_nil)
    (pss_cons (ps_set (i := 7) sc_law_deed.nd rfl (Or.inl rfl) (pe_call F_law_open (hr.mono (by decide)) rfl T.g_law_open T.k_law_open B_law_open .nil pass0 (pa_cons (pv 0) (pa_cons (pv 1) pa_nil))))
    (pss_one (ps_ret (pe_or (pe_cmp (pc_eqI (pv 2) pe_int)) (pe_or (pe_cmp (pc_eqI (pv 7) pe_int)) (pe_or (pe_not (pe_ix ix_list (pv 1) pe_int (fun _ _ => rfl))) (pe_one (pe_call F_law_chooses (hr.mono (by decide)) rfl T.g_law_chooses T.k_law_chooses B_law_chooses .nil pass0 (pa_cons (pv 1) (pa_cons (pv 7) pa_nil))))))))))))))))))
theorem len_law_deed (h : sp_law_deed K vs H Q E) : vs.length = 2 := by
  obtain ⟨_, _, _, _, _, _, _, rfl, _⟩ := h
  rfl
theorem PWS.backed {p s : Addr} {T : Tr} {W : Wt} {fl : Bool} {lk : List Int} {F F' : Addr → Prop} {l : Nat} (P : PWS K p s T W fl lk F H) (B : WS K s (T.back l) W fl lk F' H') (st : Stp F F' H H') : PWS K p s (T.back l) W fl lk F' H' :=
  P.move B st (P.j.back l) (fun hf => (P.fu hf).back l) (by rw [back_known]; exact P.ne)
theorem pure_law_deed (T : Tx K mg) (h : sp_law_deed K vs H Q E) : t_law_deed K { nx := fun _ H' => Q .non H', rt := Q } (start N_law_deed vs) H := by
  obtain ⟨p, s, T0, W, fl, lk, F, rfl, P, hlk, hk16, hN, q⟩ := h
  refine t_take rfl (z := 9) ev_c P.pool (by decide) (by decide) fun pick H1 hpick hp1 s1 => ?_
  have P1 := P.take hp1 s1
  have t01 : Stp (FP p F) (FP p F) H H1 := stp_pool s1
  have hd := P.j.ok.dle
  have hrl := P.j.ok.weak.rl
  show tSeq (tAsg (tCall (sp_law_depth K) [] E0 (tCons (tVar 1) tNil)) (gName 3)) _ { nx := fun _ H' => Q .non H', rt := Q } [some (.ref p), some (.ref s), some (.int (pick : Int)), none, none, none, none, none] H1
  refine q_asg (ev_call (ea_cons (ev_var rfl) ea_nil) (spv_depth P1.ws P1.j.ok)) fun H2 e2 => ?_
  have P2 := P1.ex e2
  have t02 := t01.post e2
  refine q_when (b := decide ((pick : Int) = 0)) (et_B (ev_cmp (p := fun i j => decide (i = j)) (ev_var rfl) ev_c)) (fun hb H3 e3 => ?_) (fun hb H3 e3 => ?_)
  · -- two clauses
    refine ⟨_, rfl, _, rfl, p, s, T0, W, fl, lk, F, rfl, P2.ex e3, hlk, hk16, by omega, fun T4 W4 fl4 F4 H4 P4 s4 k4 l4 => ⟨true, rfl, iteT ?_⟩⟩
    refine ⟨_, rfl, _, rfl, p, s, T4, W4, fl4, lk, F4, rfl, P4, by rw [k4]; exact hlk, by rw [k4]; exact hk16, by omega, fun T5 W5 fl5 F5 H5 P5 s5 k5 l5 => ?_⟩
    exact q T5 W5 fl5 F5 H5 P5 (((t02.post e3).trans s4).trans s5) (k5.trans k4) (by omega)
  · have P3 := P2.ex e3
    have t03 := t02.post e3
    refine q_when (b := decide ((pick : Int) = 1)) (et_B (ev_cmp (p := fun i j => decide (i = j)) (ev_var rfl) ev_c)) (fun hb2 H4 e4 => ?_) (fun hb2 H4 e4 => ?_)
    · refine ⟨_, rfl, _, rfl, p, s, T0, W, fl, lk, F, rfl, P3.ex e4, by omega, fun T5 W5 fl5 F5 H5 P5 s5 k5 l5 => ?_⟩
      exact q T5 W5 fl5 F5 H5 P5 ((t03.post e4).trans s5) k5 (by omega)
    · have P4 := P3.ex e4
      have t04 := t03.post e4
      refine q_asg (ev_var rfl) fun H5 e5 => ?_
      have P5 := P4.ex e5
      have t05 := t04.post e5
      -- what follows the choice of low
      have rest : ∀ {low : Nat} {H6 : Hp}, low ≤ T0.depth → PWS K p s T0 W fl lk F H6 → Stp (FP p F) (FP p F) H H6 → (tSeq (tFor (iRng3 (tCons (tVar 3) (tCons (tOp rSubR (tVar 4) (tC (.int 1))) (tCons (tUn rNegR (tC (.int 1))) tNil)))) (gName 5) (tIfS (tNot (tB (tCall (sp_law_back K) [] E0 (tCons (tVar 1) (tCons (tVar 5) tNil))))) (tRet (tC (.bl false))) tNext))
    (tSeq (tIfS (tB (tEqI (tVar 2) (tC (.int 2)))) (tSeq (tAsg (tCall (sp_law_like_learned K) [] E0 (tCons (tVar 0) (tCons (tVar 1) tNil))) (gName 6))
    (tSeq (tIfS (tAnd (tB (tGt (tCB (rLenS K) (tCons (tVar 6) tNil)) (tC (.int 0)))) (tNot (tB (tCall (sp_law_put K) [] E0 (tCons (tVar 0) (tCons (tVar 1) (tCons (tVar 6) tNil))))))) (tRet (tC (.bl false))) tNext)
    (tRet (tOrV (tGt (tCall (sp_law_take K) [] E0 (tCons (tVar 0) (tCons (tC (.int 3)) tNil))) (tC (.int 0))) (tCall (sp_law_back K) [] E0 (tCons (tVar 1) (tCons (tCall (sp_law_take K) [] E0 (tCons (tVar 0) (tCons (tOp rAddR (tVar 4) (tC (.int 1))) tNil))) tNil))))))) tNext)
    (tSeq (tAsg (tCall (sp_law_open K) [] E0 (tCons (tVar 0) (tCons (tVar 1) tNil))) (gName 7))
    (tRet (tOrV (tEqI (tVar 2) (tC (.int 3))) (tOrV (tEqI (tVar 7) (tC (.int 0))) (tOrV (tNotV (tOp (rIxL K) (tVar 1) (tC (.int 7)))) (tCall (sp_law_chooses K) [] E0 (tCons (tVar 1) (tCons (tVar 7) tNil)))))))))) { nx := fun _ H' => Q .non H', rt := Q } [some (.ref p), some (.ref s), some (.int (pick : Int)), some (.int (T0.depth : Int)), some (.int (low : Int)), none, none, none] H6 := fun {low H6} hlow P6 t06 => by
        refine ⟨_, rfl, _, rfl, (low : Int), 1, rfl, rfl, 1, rfl, (T0.depth : Int), (low : Int) - 1, -1, _, rfl, RgC.neg (by omega) (by omega) (by omega) (by omega), ?_⟩
        refine for_rangeC (D := { nx := _, rt := Q }) (fun i σ' H' => (∃ u, σ' = [some (.ref p), some (.ref s), some (.int (pick : Int)), some (.int (T0.depth : Int)), some (.int (low : Int)), u, none, none]) ∧ ∃ T' F', PWS K p s T' W fl lk F' H' ∧ Stp (FP p F) (FP p F') H H' ∧ T'.known = T0.known) ⟨⟨_, rfl⟩, T0, F, P6, t06, rfl⟩ (fun i σ' H' hi w => ?_) (fun σ' H' w => ?_)
        · obtain ⟨⟨u, rfl⟩, T', F', P', st, hk⟩ := w
          have hlv : (T0.depth : Int) + (i : Int) * (-1) = ((T0.depth - i : Nat) : Int) := by omega
          rw [hlv]
          refine ⟨_, rfl, _, rfl, s, T', W, fl, lk, F', T0.depth - i, rfl, P'.ws, P'.j, P'.fu, by omega, fun F7 H7 W7 s7 => ⟨true, rfl, iteF ⟨⟨_, rfl⟩, T'.back (T0.depth - i), F7, P'.backed W7 s7, st.trans (stp_ws s7), by rw [back_known]; exact hk⟩⟩⟩
        · obtain ⟨⟨u, rfl⟩, T', F', P', st, hk⟩ := w
          show tSeq (tIfS (tB (tEqI (tVar 2) (tC (.int 2)))) (tSeq (tAsg (tCall (sp_law_like_learned K) [] E0 (tCons (tVar 0) (tCons (tVar 1) tNil))) (gName 6))
                      (tSeq (tIfS (tAnd (tB (tGt (tCB (rLenS K) (tCons (tVar 6) tNil)) (tC (.int 0)))) (tNot (tB (tCall (sp_law_put K) [] E0 (tCons (tVar 0) (tCons (tVar 1) (tCons (tVar 6) tNil))))))) (tRet (tC (.bl false))) tNext)
                      (tRet (tOrV (tGt (tCall (sp_law_take K) [] E0 (tCons (tVar 0) (tCons (tC (.int 3)) tNil))) (tC (.int 0))) (tCall (sp_law_back K) [] E0 (tCons (tVar 1) (tCons (tCall (sp_law_take K) [] E0 (tCons (tVar 0) (tCons (tOp rAddR (tVar 4) (tC (.int 1))) tNil))) tNil))))))) tNext)
                      (tSeq (tAsg (tCall (sp_law_open K) [] E0 (tCons (tVar 0) (tCons (tVar 1) tNil))) (gName 7))
                      (tRet (tOrV (tEqI (tVar 2) (tC (.int 3))) (tOrV (tEqI (tVar 7) (tC (.int 0))) (tOrV (tNotV (tOp (rIxL K) (tVar 1) (tC (.int 7)))) (tCall (sp_law_chooses K) [] E0 (tCons (tVar 1) (tCons (tVar 7) tNil)))))))) { nx := fun _ H' => Q .non H', rt := Q } [some (.ref p), some (.ref s), some (.int (pick : Int)), some (.int (T0.depth : Int)), some (.int (low : Int)), u, none, none] H'
          refine q_when (b := decide ((pick : Int) = 2)) (et_B (ev_cmp (p := fun i j => decide (i = j)) (ev_var rfl) ev_c)) (fun hb3 H7 e7 => ?_) (fun hb3 H7 e7 => ?_)
          · -- a clause as one learned
            refine ⟨_, rfl, _, rfl, p, s, T', W, fl, lk, F', rfl, P'.ex e7, fun a c H8 hp8 s8 ha hcc => ?_⟩
            have P8 := (P'.ex e7).take hp8 s8
            have t08 := (st.post e7).trans (stp_pool s8)
            -- the last line, from any such world
            have last : ∀ {N : L2.St → Hp → Prop} {T9 : Tr} {W9 : Wt} {fl9 : Bool} {F9 : Addr → Prop} {H9 : Hp}, PWS K p s T9 W9 fl9 lk F9 H9 → Stp (FP p F) (FP p F9) H H9 → T9.known = T0.known → W9.cls.length ≤ W.cls.length + 1 →
                tRet (tOrV (tGt (tCall (sp_law_take K) [] E0 (tCons (tVar 0) (tCons (tC (.int 3)) tNil))) (tC (.int 0))) (tCall (sp_law_back K) [] E0 (tCons (tVar 1) (tCons (tCall (sp_law_take K) [] E0 (tCons (tVar 0) (tCons (tOp rAddR (tVar 4) (tC (.int 1))) tNil))) tNil)))) { nx := N, rt := Q } [some (.ref p), some (.ref s), some (.int (pick : Int)), some (.int (T0.depth : Int)), some (.int (low : Int)), u, some (.ref a), none] H9   := fun {N T9 W9 fl9 F9 H9} P9 t09 k9 l9 => by
              refine t_take rfl (z := 3) ev_c P9.pool (by decide) (by decide) fun r H10 hr hp10 s10 => ⟨(r : Int), 0, rfl, rfl, decide ((0 : Int) < (r : Int)), rfl, ?_⟩
              have P10 := P9.take hp10 s10
              have t10 := t09.trans (stp_pool s10)
              by_cases hr0 : (0 : Int) < (r : Int)
              · rw [decide_eq_true hr0]
                exact iteT (q T9 W9 fl9 F9 H10 P10 t10 k9 (by omega))
              · rw [decide_eq_false hr0]
                refine iteF ⟨_, rfl, t_take rfl (z := low + 1) (ev_is (ev_add (ev_var rfl) ev_c) rfl) P10.pool (by omega) (by omega) fun r2 H11 hr2 hp11 s11 => ?_⟩
                have P11 := P10.take hp11 s11
                refine ⟨s, T9, W9, fl9, lk, F9, r2, rfl, P11.ws, P11.j, P11.fu, by omega, fun F12 H12 W12 s12 => ?_⟩
                exact q (T9.back r2) W9 fl9 F12 H12 (P11.backed W12 s12) ((t10.trans (stp_pool s11)).trans (stp_ws s12)) (by rw [back_known]; exact k9) (by omega)
            refine q_ifAnd (b := decide (0 < c.length)) (et_is (et_B (ev_cmp (ev_lenT (ev_var rfl) ha) ev_c)) ?_) (fun hb4 H9 e9 => ?_) (fun hb4 H9 e9 => last (P8.ex e9) (t08.post e9) hk (by omega))
            · rw [List.length_map, Bool.eq_iff_iff]
              simp
              try omega
            · have hpos := of_decide_eq_true hb4
              obtain ⟨k1, k2, k3⟩ : CK T'.known c ∧ c ≠ [] ∧ NwC T' c := by
                rcases hcc with rfl | h
                · simp at hpos
                · exact h
              refine ⟨_, rfl, _, rfl, _, rfl, p, s, a, T', W, fl, lk, F', c, rfl, P8.ex e9, e9 _ _ ha, k1, fun _ => k2, k3, by omega, fun T10 W10 fl10 F10 H10 P10 s10 kk10 l10 => ⟨true, rfl, iteF ?_⟩⟩
              exact last P10 ((t08.post e9).trans s10) (kk10.trans hk) l10
          · refine ⟨_, rfl, _, rfl, p, s, T', W, fl, lk, F', rfl, (P'.ex e7).pool, (P'.ex e7).ws, P'.np, P'.j.ok, fun lit H8 hp8 s8 hlit => ?_⟩
            have P8 := (P'.ex e7).take hp8 s8
            have t08 := (st.post e7).trans (stp_pool s8)
            have fin : ∀ {H9 : Hp}, Ex H8 H9 → Q (.bl true) H9 := fun {H9} e9 => q T' W fl F' H9 (P8.ex e9) (t08.post e9) hk (by omega)
            show tRet (tOrV (tEqI (tVar 2) (tC (.int 3))) (tOrV (tEqI (tVar 7) (tC (.int 0))) (tOrV (tNotV (tOp (rIxL K) (tVar 1) (tC (.int 7)))) (tCall (sp_law_chooses K) [] E0 (tCons (tVar 1) (tCons (tVar 7) tNil)))))) { nx := fun _ H' => Q .non H', rt := Q } [some (.ref p), some (.ref s), some (.int (pick : Int)), some (.int (T0.depth : Int)), some (.int (low : Int)), u, none, some (.int lit)] H8
            obtain ⟨L, M, S, hS, hF, A⟩ := id P8.ws
            have hs8 : H8 s = some (.lst (seatL S L.t M.w fl)) := by rw [← hS]; exact A.B.s
            refine ⟨_, rfl, (pick : Int), 3, rfl, rfl, decide ((pick : Int) = 3), rfl, ?_⟩
            by_cases h3 : (pick : Int) = 3
            · rw [decide_eq_true h3]
              exact iteT (fin (Ex.refl _))
            · rw [decide_eq_false h3]
              refine iteF ⟨_, rfl, lit, 0, rfl, rfl, decide (lit = 0), rfl, ?_⟩
              by_cases h0 : lit = 0
              · rw [decide_eq_true h0]
                exact iteT (fin (Ex.refl _))
              · rw [decide_eq_false h0]
                refine iteF ?_
                refine (Evl.ev_notV (ev_ixL (j := 7) (v := .bl fl) (ev_var rfl) ev_c hs8 rfl) : Ev (tNotV (tOp (rIxL K) (tVar 1) (tC (.int 7)))) [some (.ref p), some (.ref s), some (.int (pick : Int)), some (.int (T0.depth : Int)), some (.int (low : Int)), u, none, some (.int lit)] H8 (.bl (!fl))) H8 (Ex.refl H8) _ fun H9 e9 => ⟨!fl, rfl, ?_⟩
                cases hfl : fl with
                | false => exact iteT (by subst hfl; exact fin e9)
                | true =>
                  subst hfl
                  obtain ⟨l1, l2⟩ := hlit.resolve_left h0
                  refine iteF ⟨_, rfl, _, rfl, s, T', W, true, lk, F', lit, rfl, (P8.ex e9).ws, P8.j.ok, l1, l2, fun F10 H10 W10 s10 => ?_⟩
                  exact q _ W false F10 H10 (chosen_pws (P8.ex e9) W10 s10 l1 l2) ((t08.post e9).trans (stp_ws s10)) hk (by omega)
      refine q_if (b := decide ((pick : Int) < 4) || decide (6 < (pick : Int))) (et_or (et_B (ev_cmp (ev_var rfl) ev_c)) fun _ => et_B (ev_cmp (ev_var rfl) ev_c)) (fun hb3 H6 e6 => ?_) (fun hb3 H6 e6 => rest (Nat.le_refl _) (P5.ex e6) (t05.post e6))
      refine t_take rfl (z := T0.depth + 1) (ev_is (ev_add (ev_var rfl) ev_c) rfl) (P5.ex e6).pool (by omega) (by omega) fun r H7 hr hp7 s7 => ?_
      exact rest (low := r) (by omega) ((P5.ex e6).take hp7 s7) ((t05.post e6).trans (stp_pool s7))
theorem ok_law_deed {P : Program} {w : World} {K : PySem.W.Frag} {mg : Str → Option Value} {base : Heap} (T : Tx K mg) : FnX P w K mg base 9 (He.fAd K ("_law_deed", none)) ps_law_deed (sp_law_deed K) := by
  obtain ⟨_, F_law_take, B_law_take⟩ := ok_law_take (P := P) (w := w) (base := base) T
  obtain ⟨_, F_law_depth, B_law_depth⟩ := ok_law_depth (P := P) (w := w) (base := base) T
  obtain ⟨_, F_law_put_one, B_law_put_one⟩ := ok_law_put_one (P := P) (w := w) (base := base) T
  obtain ⟨_, F_law_forget, B_law_forget⟩ := ok_law_forget (P := P) (w := w) (base := base) T
  obtain ⟨_, F_law_back, B_law_back⟩ := ok_law_back (P := P) (w := w) (base := base) T
  obtain ⟨_, F_law_like_learned, B_law_like_learned⟩ := ok_law_like_learned (P := P) (w := w) (base := base) T
  obtain ⟨_, F_law_put, B_law_put⟩ := ok_law_put (P := P) (w := w) (base := base) T
  obtain ⟨_, F_law_open, B_law_open⟩ := ok_law_open (P := P) (w := w) (base := base) T
  obtain ⟨_, F_law_chooses, B_law_chooses⟩ := ok_law_chooses (P := P) (w := w) (base := base) T
  obtain ⟨fd, F⟩ := T.fun_law_deed
  refine ⟨fd, F.ok sc_law_deed (fun vs H Q E h => len_law_deed h) (fun cdv A outer s H vs Q E hr h => ⟨t_law_deed K, PSs.nox (der_law_deed T F_law_take B_law_take F_law_depth B_law_depth F_law_put_one B_law_put_one F_law_forget B_law_forget F_law_back B_law_back F_law_like_learned B_law_like_learned F_law_put B_law_put F_law_open B_law_open F_law_chooses B_law_chooses hr (hu_of hr)), pure_law_deed T h⟩), F.bindsN fun _ _ _ _ _ _ us hl => match us, hl with | [_, _], _ => rfl⟩
end
end TW

set_option Elab.async false
set_option linter.all false
set_option maxRecDepth 100000
set_option maxHeartbeats 1000000
namespace TW
open PySem PySem.Spec PyProof.Rows L2 Evl
theorem fresh_tr {known : List Int} (h1 : ∀ n ∈ known, 0 < n) (h2 : known.Nodup) (h3 : known.length ≤ 100) : (Tr.fresh known).Ok :=
  ⟨h1, h2, h3, fun r h => (nomatch h), List.nodup_nil, List.Pairwise.nil, fun r h => (nomatch h), fun l h1 h2 => absurd h2 (by show ¬ l ≤ 0; omega), rfl, List.Pairwise.nil, fun x h => (nomatch h)⟩
theorem fresh_j {known : List Int} (ok : (Tr.fresh known).Ok) : J (Tr.fresh known) Wt.fresh := by
  refine ⟨ok, ⟨rfl, rfl, rfl, fun n c h => ?_, fun n c p h => ?_, Nat.le_refl _, fun x n h => (nomatch h), fun x => List.nodup_nil, fun n p h => absurd h (Nat.not_lt_zero _), fun n h => (nomatch h), List.nodup_nil⟩, ⟨Nat.zero_le _, fun n p h => absurd h (Nat.not_lt_zero _), fun i r _ h => ?_, fun n c _ _ h => ?_, fun n c h => absurd h (Nat.not_lt_zero _), fun i r n h => ?_⟩, Nat.le_refl _⟩
  · simp [Wt.fresh] at h
  · simp [Wt.fresh] at h
  · simp [Tr.fresh] at h
  · simp [Wt.fresh] at h
  · simp [Tr.fresh] at h
section
variable {K : PySem.W.Frag} {mg : Str → Option Value} {vs : List V} {H H' H1 : Hp} {Q : VK} {E : XK} {σ : L2.St} {ta tb te tl td ty : TE} {x y v : V} {D : Ends} {tz : TS} {tc tk : TT} {tu tw : TS} {g : TG}
theorem fresh_pool {p a : Addr} (s : Stp (fun a => a = p) (fun a => a = p) H H') (hp : PoolAt p H') (h : H' a = none) : H a = none := by
  cases q : H a with
  | none => rfl
  | some o =>
    by_cases e : a = p
    · subst e
      exact (hp.some h).elim
    · rw [s.keep _ _ q e] at h
      cases h
def sp_law_seat (K : PySem.W.Frag) : Sp := fun vs H Q _ => ∃ (p : Addr), vs = [.ref p] ∧ PoolAt p H ∧
  ∀ (s : Addr) (known lk : List Int) (F : Addr → Prop) H', PoolAt p H' → WS K s (Tr.fresh known) Wt.fresh false lk F H' → ¬ F p → Stp (fun a => a = p) (FP p F) H H' → LinkOk known lk → known.length ≤ 16 → (∀ n ∈ known, 0 < n) → known.Nodup → Q (.ref s) H'
abbrev N_law_seat : List Str := ["pool", "many", "gaps", "nodes", "node", "k", "links", "trail", "n"]
theorem sc_law_seat : FnScope N_law_seat ["pool"] (defScope s_law_seat) := ⟨rfl, rfl, rfl, by decide +kernel, rfl, by decide +kernel, by decide +kernel⟩
def t_law_seat (K : PySem.W.Frag) : TS := (tSeq (tAsg (tOp (rIxT K) (tTup (tCons (tC (.int 5)) (tCons (tC (.int 4)) (tCons (tC (.int 6)) (tCons (tC (.int 7)) (tCons (tC (.int 1)) (tCons (tC (.int 5)) (tCons (tC (.int 6)) (tCons (tC (.int 2)) (tCons (tC (.int 7)) (tCons (tC (.int 3)) (tCons (tC (.int 4)) (tCons (tC (.int 5)) (tCons (tC (.int 6)) (tCons (tC (.int 16)) (tCons (tC (.int 6)) (tCons (tC (.int 0)) tNil))))))))))))))))) (tCall (sp_law_take K) [] E0 (tCons (tVar 0) (tCons (tC (.int 16)) tNil)))) (gName 1))
    (tSeq (tAsg (tTup (tCons (tC (.int 1)) (tCons (tC (.int 3)) (tCons (tC (.int 40)) (tCons (tOp rFdivR (tC (.int 3900)) (tCB rMax2R (tCons (tC (.int 8)) (tCons (tVar 1) tNil)))) tNil))))) (gName 2))
    (tSeq (tAsg (tLst tNil) (gName 3))
    (tSeq (tAsg (tC (.int 0)) (gName 4))
    (tSeq (tFor (iRng1 (tCons (tVar 1) tNil)) (gName 5) (tSeq (tAsg (tOp rAddR (tOp rAddR (tVar 4) (tC (.int 1))) (tCall (sp_law_take K) [] E0 (tCons (tVar 0) (tCons (tOp (rIxT K) (tVar 2) (tCall (sp_law_take K) [] E0 (tCons (tVar 0) (tCons (tC (.int 4)) tNil)))) tNil)))) (gName 4))
    (tDrop (tBM K "list" rAppend (tVar 3) (tCons (tVar 4) tNil)))))
    (tSeq (tAsg (tLst tNil) (gName 6))
    (tSeq (tIfS (tAnd (tB (tEqI (tCall (sp_law_take K) [] E0 (tCons (tVar 0) (tCons (tC (.int 3)) tNil))) (tC (.int 0)))) (tB (tLt (tVar 1) (tC (.int 8))))) (tAsg (tLc (iList K (tVar 3)) (gName 8) tYes (tOp rSubR (tVar 8) (tOp rMulR (tOp rMulR (tC (.int 2)) (tVar 8)) (tCall (sp_law_take K) [] E0 (tCons (tVar 0) (tCons (tC (.int 2)) tNil))))) [8]) (gName 6)) tNext)
    (tSeq (tAsg (tMake (He.ga K "Trail") (sp_Trail_init K) [] E0 (tCons (tCB (rListS K) (tCons (tVar 3) tNil)) tNil)) (gName 7))
    (tRet (tLst (tCons (tVar 7) (tCons (tMake (He.ga K "Watching") (sp_Watching_init K) [] E0 (tCons (tVar 7) tNil)) (tCons (tVar 3) (tCons (tLst tNil) (tCons (tLst tNil) (tCons (tLst tNil) (tCons (tLst tNil) (tCons (tC (.bl false)) (tCons (tVar 6) tNil)))))))))))))))))))
set_option maxHeartbeats 4000000 in
theorem der_law_seat {P : Program} {w : World} {K : PySem.W.Frag} {mg : Str → Option Value} {base : Heap} {f : Addr} {cdv : Value} {A : Around} {outer : List Env} {s : Shared} {H : Hp} {E : XK} (T : Tx K mg) {fd_law_take : FuncData} (F_law_take : FnOk P w K mg base CX0 1 (He.fAd K ("_law_take", none)) fd_law_take ps_law_take (sp_law_take K)) (B_law_take : Binds K fd_law_take ps_law_take []) {fd_Trail_init : FuncData} (F_Trail_init : FnOk P w K mg base CX0 1 (He.fAd K ("Trail", some "__init__")) fd_Trail_init ps_Trail_init (sp_Trail_init K)) (B_Trail_init : Binds K fd_Trail_init ps_Trail_init []) {fd_Watching_init : FuncData} (F_Watching_init : FnOk P w K mg base CX0 1 (He.fAd K ("Watching", some "__init__")) fd_Watching_init ps_Watching_init (sp_Watching_init K)) (B_Watching_init : Binds K fd_Watching_init ps_Watching_init []) (hr : Room 2 (A.deeper (envOfC "_law_seat" (defScope s_law_seat) s.heap.objs.size f cdv))) (hu : (A.deeper (envOfC "_law_seat" (defScope s_law_seat) s.heap.objs.size f cdv)).units + 1 < cLine) :
    PSs (cxOf CX0 P w K mg base N_law_seat "_law_seat" (defScope s_law_seat) f cdv A outer s H E).nox (defBody s_law_seat) (t_law_seat K) := by
  exact (pss_cons (ps_set (i := 1) sc_law_seat.nd rfl (Or.inl rfl) (pe_ix ix_tup (pe_tup (pa_cons pe_int (pa_cons pe_int (pa_cons pe_int (pa_cons pe_int (pa_cons pe_int (pa_cons pe_int (pa_cons pe_int (pa_cons pe_int (pa_cons pe_int (pa_cons pe_int (pa_cons pe_int (pa_cons pe_int (pa_cons pe_int (pa_cons pe_int (pa_cons pe_int (pa_cons pe_int pa_nil))))))))))))))))) (pe_call F_law_take (hr.mono (by decide)) rfl T.g_law_take T.k_law_take B_law_take .nil pass0 (pa_cons (pv 0) (pa_cons pe_int pa_nil))) (fun _ _ => rfl)))
    (pss_cons (ps_set (i := 2) sc_law_seat.nd rfl (Or.inl rfl) (pe_tup (pa_cons pe_int (pa_cons pe_int (pa_cons pe_int (pa_cons (pe_op op_fdiv pe_int (pe_callB (call_max2 rfl) rfl T.f_max bt_max (pa_cons pe_int (pa_cons (pv 1) pa_nil)))) pa_nil))))))
    (pss_cons (ps_set (i := 3) sc_law_seat.nd rfl (Or.inl rfl) (pe_lst pa_nil))
    (pss_cons (ps_set (i := 4) sc_law_seat.nd rfl (Or.inl rfl) pe_int)
    (pss_cons (ps_for PassesOwn.never rfl (pi_range1 rfl T.f_range (pa_cons (pv 1) pa_nil)) (pg_name (i := 5) sc_law_seat.nd rfl (Or.inl rfl)) (pss_cons (ps_set (i := 4) sc_law_seat.nd rfl (Or.inl rfl) (pe_op op_add (pe_op op_add (pv 4) pe_int) (pe_call F_law_take (hr.mono (by decide)) rfl T.g_law_take T.k_law_take B_law_take .nil pass0 (pa_cons (pv 0) (pa_cons (pe_ix ix_tup (pv 2) (pe_call F_law_take (hr.mono (by decide)) rfl T.g_law_take T.k_law_take B_law_take .nil pass0 (pa_cons (pv 0) (pa_cons pe_int pa_nil))) (fun _ _ => rfl)) pa_nil)))))
    (pss_one (ps_expr (pe_bm PySem.F.plainAttrs_list PySem.F.slot_list_append PySem.F.type_list_append mt_append (pv 3) (pa_cons (pv 4) pa_nil))))))
    (pss_cons (ps_set (i := 6) sc_law_seat.nd rfl (Or.inl rfl) (pe_lst pa_nil))
    (pss_cons (ps_if (PW.pt (pw_and (pt_cmp (pc_eqI (pe_call F_law_take (hr.mono (by decide)) rfl T.g_law_take T.k_law_take B_law_take .nil pass0 (pa_cons (pv 0) (pa_cons pe_int pa_nil))) pe_int)) (pw_and1 (pt_cmp (pc_lt (pv 1) pe_int))))) (pss_one (ps_setLc (i := 6) (own := [("n", 8)]) (g := gName 8) rfl sc_law_seat.nd rfl rfl (sw_true rfl rfl rfl (by decide +kernel)) (pi_list (pv 3)) (blkOk_by (N := N_law_seat) (sc := defScope s_law_seat) (by decide +kernel)) (fun _ _ _ _ _ => pg_name (i := 8) sc_law_seat.nd rfl (Or.inl rfl)) (fun _ _ _ _ _ => pts_nil) (fun _ _ _ _ _ => (pe_op op_sub (pv 8) (pe_op op_mul (pe_op op_mul pe_int (pv 8)) (pe_call F_law_take (hr.mono (by decide)) rfl T.g_law_take T.k_law_take B_law_take .nil pass0 (pa_cons (pv 0) (pa_cons pe_int pa_nil)))))))) pss_nil)
    (pss_cons (ps_set (i := 7) sc_law_seat.nd rfl (Or.inl rfl) (pe_make T.mk_Trail F_Trail_init (hr.mono (by decide)) rfl T.g_Trail B_Trail_init .nil pass0 (pa_cons (pe_callTy call_list_of rfl T.f_list bt_list (pa_cons (pv 3) pa_nil)) pa_nil)))
    (pss_one (ps_ret (pe_lst (pa_cons (pv 7) (pa_cons (pe_make T.mk_Watching F_Watching_init (hr.mono (by decide)) rfl T.g_Watching B_Watching_init .nil pass0 (pa_cons (pv 7) pa_nil)) (pa_cons (pv 3) (pa_cons (pe_lst pa_nil) (pa_cons (pe_lst pa_nil) (pa_cons (pe_lst pa_nil) (pa_cons (pe_lst pa_nil) (pa_cons pe_bl (pa_cons (pv 6) pa_nil))))))))))))))))))))
theorem len_law_seat (h : sp_law_seat K vs H Q E) : vs.length = 1 := by
  obtain ⟨_, rfl, _⟩ := h
  rfl
theorem pure_law_seat (T : Tx K mg) (h : sp_law_seat K vs H Q E) : t_law_seat K { nx := fun _ H' => Q .non H', rt := Q } (start N_law_seat vs) H := by
  obtain ⟨p, rfl, hp, q⟩ := h
  refine q_opRaw ?_
  refine (eu_tup (ea_ints [5, 4, 6, 7, 1, 5, 6, 2, 7, 3, 4, 5, 6, 16, 6, 0]) (by simp) : EvU (tTup (tCons (tC (.int 5)) (tCons (tC (.int 4)) (tCons (tC (.int 6)) (tCons (tC (.int 7)) (tCons (tC (.int 1)) (tCons (tC (.int 5)) (tCons (tC (.int 6)) (tCons (tC (.int 2)) (tCons (tC (.int 7)) (tCons (tC (.int 3)) (tCons (tC (.int 4)) (tCons (tC (.int 5)) (tCons (tC (.int 6)) (tCons (tC (.int 16)) (tCons (tC (.int 6)) (tCons (tC (.int 0)) tNil))))))))))))))))) (start N_law_seat [.ref p]) H _) H (Ex.refl H) _ fun pt H1 hpt e1 h1 => ?_
  refine t_take rfl (z := 16) ev_c (hp.ex e1) (by decide) (by decide) fun r H2 hr hp2 s2 => ?_
  have h2 := s2.tups _ _ h1
  obtain ⟨many, hmany, hm0, hm16⟩ : ∃ many : Nat, ([5, 4, 6, 7, 1, 5, 6, 2, 7, 3, 4, 5, 6, 16, 6, 0] : List Int)[r]? = some (many : Int) ∧ 0 ≤ many ∧ many ≤ 16 := by
    have hr' : r < ([5, 4, 6, 7, 1, 5, 6, 2, 7, 3, 4, 5, 6, 16, 6, 0] : List Int).length := hr
    have : ∀ v ∈ ([5, 4, 6, 7, 1, 5, 6, 2, 7, 3, 4, 5, 6, 16, 6, 0] : List Int), 0 ≤ v ∧ v ≤ 16 := by decide
    obtain ⟨g1, g2⟩ := this _ (List.getElem_mem hr')
    refine ⟨(([5, 4, 6, 7, 1, 5, 6, 2, 7, 3, 4, 5, 6, 16, 6, 0] : List Int)[r]).toNat, ?_, Nat.zero_le _, by omega⟩
    rw [List.getElem?_eq_getElem hr', Int.toNat_of_nonneg g1]
  have s02 := Stp.pre e1 s2
  refine ⟨pt, _, (r : Int), .int (many : Int), rfl, rfl, st_of h2, atI_nat (by rw [List.getElem?_map, hmany]; rfl), ?_⟩
  have hmx : 8 ≤ (if (many : Int) > 8 then (many : Int) else 8) ∧ (if (many : Int) > 8 then (many : Int) else 8) ≤ 16 := by split <;> omega
  obtain ⟨g3, hg3, hg0, hg1⟩ : ∃ g3 : Nat, 3900 / (if (many : Int) > 8 then (many : Int) else 8) = (g3 : Int) ∧ 0 < g3 ∧ g3 < 1000 := by
    generalize (if (many : Int) > 8 then (many : Int) else 8) = mx at hmx
    have h1 : 0 < 3900 / mx := by
      have := Int.le_ediv_of_mul_le (a := 1) (b := 3900) (c := mx) (by omega) (by omega)
      omega
    have h2 : 3900 / mx < 1000 := Int.ediv_lt_of_lt_mul (by omega) (by omega)
    exact ⟨(3900 / mx).toNat, by omega, by omega, by omega⟩
  refine q_asgU (eu_tup (ea_cons ev_c (ea_cons ev_c (ea_cons ev_c (ea_cons (ev_is (ev_fdiv ev_c (ev_max2R ev_c (ev_var rfl)) ⟨by omega, by omega⟩) (by rw [hg3])) ea_nil)))) (by simp)) fun pg H3 hpg e3 h3 => ?_
  refine q_asgL (xs := []) (el_lst ea_nil (by simp)) fun pn H4 hpn e4 h4 => ?_
  refine q_asg (v := .int 0) ev_c fun H5 e5 => ?_
  have e35 := (e3.trans e4).trans e5
  have hpn0 : H pn = none := fresh_pool s02 hp2 (fresh_back e3 hpn)
  have npn : pn ≠ p := fun z => (hp2.ex e3).some (z ▸ hpn)
  refine q_forR1 (n := (many : Int)) (ea_cons (ev_var rfl) ea_nil) ⟨by omega, by omega⟩ (fun i σ' H' => ∃ (ns : List Int) (node : Int) (u : Option V), σ' = [some (.ref p), some (.int (many : Int)), some (.ref pg), some (.ref pn), some (.int node), u, none, none, none] ∧ PoolAt p H' ∧ Stp (fun a => a = p) (fun a => a = p) H H' ∧ H' pg = some (.tup [.int 1, .int 3, .int 40, .int (g3 : Int)]) ∧ H' pn = some (.lst (ns.map V.int)) ∧ ns.length = i ∧ 0 ≤ node ∧ (∀ x ∈ ns, 0 < x ∧ x ≤ node) ∧ ns.Nodup)
    (fun H6 e6 => ⟨[], 0, _, rfl, hp2.ex (e35.trans e6), s02.post (e35.trans e6), ((e4.trans e5).trans e6) _ _ h3, (e5.trans e6) _ _ h4, rfl, by omega, fun x h => (nomatch h), List.nodup_nil⟩) (fun i σ' H' hi w => ?_) (fun σ' H' w => ?_)
  · obtain ⟨ns, node, u, rfl, hp', st, hg, hn, hlen, hnode, hns, hnd⟩ := w
    refine ⟨_, rfl, node, 1, rfl, rfl, _, rfl, _, rfl, t_take rfl (z := 4) ev_c hp' (by decide) (by decide) fun r1 H7 hr1 hp7 s7 => ?_⟩
    have hg7 := s7.tups _ _ hg
    obtain ⟨z, hz, hz0, hz1⟩ : ∃ z : Nat, ([.int 1, .int 3, .int 40, .int (g3 : Int)] : List V)[r1]? = some (.int (z : Int)) ∧ 0 < z ∧ z < 1000000 := by
      match r1, hr1 with
      | 0, _ => exact ⟨1, rfl, by decide, by decide⟩
      | 1, _ => exact ⟨3, rfl, by decide, by decide⟩
      | 2, _ => exact ⟨40, rfl, by decide, by decide⟩
      | 3, _ => exact ⟨g3, rfl, hg0, by omega⟩
    refine ⟨pg, _, (r1 : Int), .int (z : Int), rfl, rfl, st_of hg7, atI_nat hz, p, z, rfl, hp7, hz0, hz1, fun r2 H8 hr2 hp8 s8 => ⟨node + 1, (r2 : Int), rfl, rfl, ?_⟩⟩
    have hn8 := s8.keep _ _ (s7.keep _ _ hn npn) npn
    refine s_app hn8 (ev_var rfl) (ev_var rfl) (by rw [List.length_map]; omega) fun H9 e9 => ⟨ns ++ [node + 1 + (r2 : Int)], node + 1 + (r2 : Int), _, rfl, ?_, (((st.trans s7).trans s8).post e9).loc hpn0, ?_, by rw [upd_same, List.map_append]; rfl, by rw [List.length_append, hlen]; rfl, by omega, fun x hx => ?_, ?_⟩
    · obtain ⟨c', k', b', z', hh⟩ := hp8.ex e9
      exact ⟨c', k', b', z', by rw [upd_ne npn.symm]; exact hh⟩
    · have := e9 _ _ (s8.tups _ _ hg7)
      rw [upd_ne (ne_of this (e9 _ _ hn8) (fun z => nomatch z))]
      exact this
    · rcases List.mem_append.mp hx with h | h
      · have := hns x h
        omega
      · rw [List.mem_singleton.mp h]
        omega
    · refine List.nodup_append.mpr ⟨hnd, by simp, fun a ha b hb e => ?_⟩
      have := hns a ha
      rw [List.mem_singleton.mp hb] at e
      omega
  · obtain ⟨ns, node, u, rfl, hp', st, hg, hn, hlen, hnode, hns, hnd⟩ := w
    have hlen' : ns.length = many := by omega
    have hpos : ∀ n ∈ ns, 0 < n := fun n hn => (hns n hn).1
    have rest2 : ∀ {pk : Addr} {lk : List Int} {H6 : Hp} {u : Option V}, PoolAt p H6 → Stp (fun a => a = p) (fun a => a = p) H H6 → H6 pn = some (.lst (ns.map V.int)) → H6 pk = some (.lst (lk.map V.int)) → pk ≠ pn → H pk = none → pk ≠ p → LinkOk ns lk →
        tSeq (tAsg (tMake (He.ga K "Trail") (sp_Trail_init K) [] E0 (tCons (tCB (rListS K) (tCons (tVar 3) tNil)) tNil)) (gName 7))
          (tRet (tLst (tCons (tVar 7) (tCons (tMake (He.ga K "Watching") (sp_Watching_init K) [] E0 (tCons (tVar 7) tNil)) (tCons (tVar 3) (tCons (tLst tNil) (tCons (tLst tNil) (tCons (tLst tNil) (tCons (tLst tNil) (tCons (tC (.bl false)) (tCons (tVar 6) tNil))))))))))) { nx := fun _ H' => Q .non H', rt := Q } [some (.ref p), some (.int (many : Int)), some (.ref pg), some (.ref pn), some (.int node), u, some (.ref pk), none, none] H6 := fun {pk lk H6 u} hp6 s6 hn6 hk6 nkn hk0 nkp hlk => by
      refine (el_list (ev_var rfl) (sq_of hn6) : EvL (tCB (rListS K) (tCons (tVar 3) tNil)) [some (.ref p), some (.int (many : Int)), some (.ref pg), some (.ref pn), some (.int node), u, some (.ref pk), none, none] H6 (ns.map V.int)) H6 (Ex.refl H6) _ fun pc H7 hpc e7 h7 x dx hx hdx hne => ?_
      have e8 : Ex H7 (upd (upd H7 dx (.own x)) x (.ins (CT K) dx [])) := (Ex.new hdx).trans (Ex.new (by rw [upd_ne hne.symm]; exact hx))
      refine ⟨x, dx, pc, ns, rfl, upd_same, e8 _ _ h7, hnd, by omega, fun L H9 hLt A9 s9 => ⟨rfl, ?_⟩⟩
      have e68 := e7.trans e8
      have keep9 : ∀ {a : Addr} {o : HO}, H7 a = some o → H9 a = some o := fun {a o} h => s9.keep a o (e8 _ _ h) fun z => by rw [z, hx] at h; cases h
      have newL : ∀ {a : Addr}, L.In a → H7 a = none := fun {a} h => by
        rcases s9.new a h with z | z
        · rw [z]; exact hx
        · exact fresh_back e8 z
      subst hLt
      -- Watching(trail), and the seat
      refine ⟨_, rfl, _, rfl, fun x2 dx2 hx2 hdx2 hne2 => ?_⟩
      have e10 : Ex H9 (upd (upd H9 dx2 (.own x2)) x2 (.ins (CW K) dx2 [])) := (Ex.new hdx2).trans (Ex.new (by rw [upd_ne hne2.symm]; exact hx2))
      refine ⟨x2, dx2, L.t, rfl, upd_same, fun M H11 hMw A11 s11 => ⟨rfl, ?_⟩⟩
      have keep11 : ∀ {a : Addr} {o : HO}, H9 a = some o → H11 a = some o := fun {a o} h => s11.keep a o (e10 _ _ h) fun z => by rw [z, hx2] at h; cases h
      have newM : ∀ {a : Addr}, M.In a → H9 a = none := fun {a} h => by
        rcases s11.new a h with z | z
        · rw [z]; exact hx2
        · exact fresh_back e10 z
      have djM : ∀ a, M.In a → ¬ L.In a := fun a h z => A9.tracked a z (newM h)
      have A11t : TAt (CT K) L (Tr.fresh ns) H11 := (A9.ex e10).stp s11 fun a h z => A9.tracked a h (by rw [z]; exact hx2)
      have A12 : Two K L (Tr.fresh ns) M Wt.fresh H11 := ⟨A11t, A11 ns, djM⟩
      refine ⟨_, rfl, Nat.zero_le _, fun p1 hp1 => ⟨Nat.zero_le _, fun p2 hp2 => ⟨Nat.zero_le _, fun p3 hp3 => ⟨Nat.zero_le _, fun p4 hp4 => ⟨_, rfl, sz_of (by simp), fun s hs => ?_⟩⟩⟩⟩⟩
      have f1 : Ex H11 (upd H11 p1 (.lst [])) := Ex.new hp1
      have f2 : Ex (upd H11 p1 (.lst [])) _ := Ex.new (o := .lst []) hp2
      have f3 : Ex (upd (upd H11 p1 (.lst [])) p2 (.lst [])) _ := Ex.new (o := .lst []) hp3
      have f4 : Ex (upd (upd (upd H11 p1 (.lst [])) p2 (.lst [])) p3 (.lst [])) _ := Ex.new (o := .lst []) hp4
      have f5 := Ex.new (o := .lst [.ref L.t, .ref x2, .ref pn, .ref p1, .ref p2, .ref p3, .ref p4, .bl false, .ref pk]) hs
      have g1 : upd H11 p1 (.lst []) p1 = some (.lst []) := upd_same
      have g2 : upd (upd H11 p1 (.lst [])) p2 (.lst []) p2 = some (.lst []) := upd_same
      have g3' : upd (upd (upd H11 p1 (.lst [])) p2 (.lst [])) p3 (.lst []) p3 = some (.lst []) := upd_same
      have g4 : upd (upd (upd (upd H11 p1 (.lst [])) p2 (.lst [])) p3 (.lst [])) p4 (.lst []) p4 = some (.lst []) := upd_same
      have g5 : upd (upd (upd (upd (upd H11 p1 (.lst [])) p2 (.lst [])) p3 (.lst [])) p4 (.lst [])) s (.lst [.ref L.t, .ref x2, .ref pn, .ref p1, .ref p2, .ref p3, .ref p4, .bl false, .ref pk]) s = some (.lst [.ref L.t, .ref x2, .ref pn, .ref p1, .ref p2, .ref p3, .ref p4, .bl false, .ref pk]) := upd_same
      show Q (.ref s) (upd (upd (upd (upd (upd H11 p1 (.lst [])) p2 (.lst [])) p3 (.lst [])) p4 (.lst [])) s (.lst [.ref L.t, .ref x2, .ref pn, .ref p1, .ref p2, .ref p3, .ref p4, .bl false, .ref pk]))
      generalize upd H11 p1 (.lst []) = G1 at *
      generalize upd G1 p2 (.lst []) = G2 at *
      generalize upd G2 p3 (.lst []) = G3 at *
      generalize upd G3 p4 (.lst []) = G4 at *
      generalize upd G4 s (.lst [.ref L.t, .ref x2, .ref pn, .ref p1, .ref p2, .ref p3, .ref p4, .bl false, .ref pk]) = G5 at *
      have fA : Ex H11 G5 := (((f1.trans f2).trans f3).trans f4).trans f5
      have kn7 := e7 _ _ hn6
      have kk7 := e7 _ _ hk6
      have kn11 := keep11 (keep9 kn7)
      have kk11 := keep11 (keep9 kk7)
      have nn1 : pn ≠ p1 := ne_of_none kn11 hp1
      have nn2 : pn ≠ p2 := ne_of_none (f1 _ _ kn11) hp2
      have nn3 : pn ≠ p3 := ne_of_none (f2 _ _ (f1 _ _ kn11)) hp3
      have nn4 : pn ≠ p4 := ne_of_none (f3 _ _ (f2 _ _ (f1 _ _ kn11))) hp4
      have nn5 : pn ≠ s := ne_of_none (f4 _ _ (f3 _ _ (f2 _ _ (f1 _ _ kn11)))) hs
      have nk1 : pk ≠ p1 := ne_of_none kk11 hp1
      have nk2 : pk ≠ p2 := ne_of_none (f1 _ _ kk11) hp2
      have nk3 : pk ≠ p3 := ne_of_none (f2 _ _ (f1 _ _ kk11)) hp3
      have nk4 : pk ≠ p4 := ne_of_none (f3 _ _ (f2 _ _ (f1 _ _ kk11))) hp4
      have nk5 : pk ≠ s := ne_of_none (f4 _ _ (f3 _ _ (f2 _ _ (f1 _ _ kk11)))) hs
      have n12 : p1 ≠ p2 := ne_of_none g1 hp2
      have n13 : p1 ≠ p3 := ne_of_none (f2 _ _ g1) hp3
      have n14 : p1 ≠ p4 := ne_of_none (f3 _ _ (f2 _ _ g1)) hp4
      have n15 : p1 ≠ s := ne_of_none (f4 _ _ (f3 _ _ (f2 _ _ g1))) hs
      have n23 : p2 ≠ p3 := ne_of_none g2 hp3
      have n24 : p2 ≠ p4 := ne_of_none (f3 _ _ g2) hp4
      have n25 : p2 ≠ s := ne_of_none (f4 _ _ (f3 _ _ g2)) hs
      have n34 : p3 ≠ p4 := ne_of_none g3' hp4
      have n35 : p3 ≠ s := ne_of_none (f4 _ _ g3') hs
      have n45 : p4 ≠ s := ne_of_none g4 hs
      have tr : ∀ {a : Addr} {G : Hp}, Ex H11 G → G a = none → ¬ In2 L M a := fun {a G} e h z => A12.tracked a z (fresh_back e h)
      have i1 := tr (Ex.refl H11) hp1
      have i2 := tr f1 hp2
      have i3 := tr (f1.trans f2) hp3
      have i4 := tr ((f1.trans f2).trans f3) hp4
      have i5 := tr (((f1.trans f2).trans f3).trans f4) hs
      have iO : ∀ {a : Addr} {o : HO}, H7 a = some o → ¬ In2 L M a := fun {a o} h z => by
        rcases z with z | z
        · rw [newL z] at h; cases h
        · have := keep9 h
          rw [newM z] at this
          cases this
      have ip := iO kn7
      have ik := iO kk7
      have all : ∀ {P : Addr → Prop}, P s → P pn → P p1 → P p2 → P p3 → P p4 → P pk → ∀ a ∈ (⟨s, pn, p1, p2, p3, p4, pk⟩ : SL).all, P a := fun {P} a1 a2 a3 a4 a5 a6 a7 a h => by
        simp only [SL.all, List.mem_cons, List.not_mem_nil, or_false] at h
        rcases h with rfl | rfl | rfl | rfl | rfl | rfl | rfl <;> assumption
      have B : SAt ⟨s, pn, p1, p2, p3, p4, pk⟩ L.t M.w ns [] Wt.fresh false lk G5 := by
        refine ⟨by rw [hMw]; exact g5, fA _ _ kn11, ⟨[], f5 _ _ (f4 _ _ (f3 _ _ (f2 _ _ g1))), rfl, fun q hq => (nomatch hq)⟩, f5 _ _ (f4 _ _ (f3 _ _ g2)), f5 _ _ (f4 _ _ g3'), ⟨[], f5 _ _ g4, rfl, fun q hq => (nomatch hq)⟩, fA _ _ kk11, ?_⟩
        simp only [SL.all, List.nodup_cons, List.mem_cons, List.not_mem_nil, or_false, not_or]
        exact ⟨⟨nn5.symm, n15.symm, n25.symm, n35.symm, n45.symm, nk5.symm⟩, ⟨nn1, nn2, nn3, nn4, nkn.symm⟩, ⟨n12, n13, n14, nk1.symm⟩, ⟨n23, n24, nk2.symm⟩, ⟨n34, nk3.symm⟩, nk4.symm, fun z => (nomatch z), List.nodup_nil⟩
      have hp7 := hp6.ex e7
      have hp11 : PoolAt p G5 := by
        obtain ⟨c', k', b', z', hh⟩ := hp7
        exact ⟨c', k', b', z', fA _ _ (keep11 (keep9 hh))⟩
      obtain ⟨pc', pk', pb', pz', ph7⟩ := hp7
      have ph11 := keep11 (keep9 ph7)
      have npF : ¬ In3 L M ⟨s, pn, p1, p2, p3, p4, pk⟩ p := fun z => by
        rcases z with z | z
        · exact iO ph7 z
        · refine all (P := fun a => a ≠ p) ?_ npn ?_ ?_ ?_ ?_ nkp p z rfl
          · exact (ne_of_none (f4 _ _ (f3 _ _ (f2 _ _ (f1 _ _ ph11)))) hs).symm
          · exact (ne_of_none ph11 hp1).symm
          · exact (ne_of_none (f1 _ _ ph11) hp2).symm
          · exact (ne_of_none (f2 _ _ (f1 _ _ ph11)) hp3).symm
          · exact (ne_of_none (f3 _ _ (f2 _ _ (f1 _ _ ph11))) hp4).symm
      have n7 : ∀ {a : Addr}, H7 a = none → H a = none := fun {a} h => fresh_pool s6 hp6 (fresh_back e7 h)
      have b7 : ∀ {a : Addr}, H11 a = none → H a = none := fun {a} h => by
        refine n7 ?_
        cases q : H7 a with
        | none => rfl
        | some o => rw [keep11 (keep9 q)] at h; cases h
      refine q s ns lk (In3 L M ⟨s, pn, p1, p2, p3, p4, pk⟩) G5 hp11 ⟨L, M, ⟨s, pn, p1, p2, p3, p4, pk⟩, rfl, rfl, A12.ex fA, B, all i5 ip i1 i2 i3 i4 ik⟩ npF ⟨fun a o h n => fA _ _ (keep11 (keep9 (e7 _ _ (s6.keep a o h n)))), fun a xs h => fA _ _ (keep11 (keep9 (e7 _ _ (s6.tups a xs h)))), fun a h => ?_⟩ hlk (by omega) hpos hnd
      rcases h with h | h
      · exact .inl h
      · refine .inr ?_
        rcases h with h | h
        · rcases h with h | h
          · exact n7 (newL h)
          · have := newM h
            refine n7 ?_
            cases q : H7 a with
            | none => rfl
            | some o => rw [keep9 q] at this; cases this
        · exact all (P := fun a => H a = none) (b7 (fresh_back (((f1.trans f2).trans f3).trans f4) hs)) hpn0 (b7 hp1) (b7 (fresh_back f1 hp2)) (b7 (fresh_back (f1.trans f2) hp3)) (b7 (fresh_back ((f1.trans f2).trans f3) hp4)) hk0 a h
    refine q_asgL (xs := []) (el_lst ea_nil (by simp)) fun pk H6 hpk e6 h6 => ?_
    have hp6 := hp'.ex e6
    have s6 := st.post e6
    have hn6 := e6 _ _ hn
    have hk0 : H pk = none := fresh_pool st hp' hpk
    have nkp : pk ≠ p := fun z => hp'.some (z ▸ hpk)
    have nkn : pk ≠ pn := (ne_of_none hn hpk).symm
    refine t_take rfl (z := 3) ev_c hp6 (by decide) (by decide) fun r1 H7 hr1 hp7 s7 => ⟨(r1 : Int), 0, rfl, rfl, decide ((r1 : Int) = 0), rfl, ?_⟩
    have s67 := s6.trans s7
    have hn7 := s7.keep _ _ hn6 npn
    have hk7 : H7 pk = some (.lst (([] : List Int).map V.int)) := s7.keep _ _ h6 nkp
    by_cases hr0 : (r1 : Int) = 0
    · rw [decide_eq_true hr0]
      refine iteT ?_
      refine (et_B (ev_cmp (ev_var rfl) ev_c) : EvT (tB (tLt (tVar 1) (tC (.int 8)))) [some (.ref p), some (.int (many : Int)), some (.ref pg), some (.ref pn), some (.int node), u, some (.ref pk), none, none] H7 (decide ((many : Int) < 8))) H7 (Ex.refl H7) _ fun H8 e8 => ?_
      by_cases hm8 : (many : Int) < 8
      · rw [decide_eq_true hm8]
        refine iteT ?_
        refine ⟨_, rfl, pn, rfl, ⟨_, sq_of (e8 _ _ hn7)⟩, fun Dl hD => ?_⟩
        have hD0 : H Dl = none := fresh_pool s67 hp7 (fresh_back e8 hD)
        have nDp : Dl ≠ p := fun z => (hp7.ex e8).some (z ▸ hD)
        have nDn : Dl ≠ pn := (ne_of_none (e8 _ _ hn7) hD).symm
        refine lc_list (xs := ns.map V.int) (fun i H' => PoolAt p H' ∧ Stp (fun a => a = p) (fun a => a = p) H H' ∧ H' pn = some (.lst (ns.map V.int)) ∧ ∃ ls : List Int, H' Dl = some (.lst (ls.map V.int)) ∧ ls.length = i ∧ ∀ (j : Nat) (x : Int), ls[j]? = some x → ∃ n, ns[j]? = some n ∧ (x = n ∨ x = -n)) ⟨(hp7.ex e8).ex (Ex.new hD), (s67.post e8).post (Ex.new hD), (Ex.new hD) _ _ (e8 _ _ hn7), [], upd_same, rfl, fun j x h => by simp at h⟩ (fun i H' _ w => sq_of w.2.2.1) (fun i v H' hi w => ?_) (fun H' w => ?_)
        · obtain ⟨hpw, stw, hnw, ls, hl1, hl2, hl3⟩ := w
          rw [List.getElem?_map] at hi
          obtain ⟨n, hn1, rfl⟩ := Option.map_eq_some_iff.mp hi
          refine ⟨rfl, ?_⟩
          refine tyes_if ?_
          refine t_sign (n := n) rfl (fun H' _ => ev_var rfl) hpw fun xx H9 hxx hp9 s9 => ?_
          have hl9 := s9.keep _ _ hl1 nDp
          refine ⟨_, hl9, sz_lt (by rw [List.length_map]; have := (List.getElem?_eq_some_iff.mp hn1).1; omega), ?_, (stw.trans s9).loc hD0, by rw [upd_ne nDn.symm]; exact s9.keep _ _ hnw npn, ls ++ [xx], by rw [upd_same, List.map_append]; rfl, by rw [List.length_append, hl2]; rfl, fun j x h => ?_⟩
          · obtain ⟨c', k', b', z', hh⟩ := hp9
            exact ⟨c', k', b', z', by rw [upd_ne nDp.symm]; exact hh⟩
          · rcases snoc_get h with q1 | ⟨q2, q3⟩
            · exact hl3 j x q1
            · rw [q2, hl2, q3]
              exact ⟨n, hn1, hxx⟩
        · obtain ⟨hpw, stw, hnw, ls, hl1, hl2, hl3⟩ := w
          rw [List.length_map] at hl2
          exact rest2 hpw stw hnw hl1 nDn hD0 nDp (.inr ⟨hl2, hl3⟩)
      · rw [decide_eq_false hm8]
        exact iteF (rest2 (hp7.ex e8) (s67.post e8) (e8 _ _ hn7) (e8 _ _ hk7) nkn hk0 nkp (.inl rfl))
    · rw [decide_eq_false hr0]
      exact iteF (iteF (rest2 hp7 s67 hn7 hk7 nkn hk0 nkp (.inl rfl)))
theorem ok_law_seat {P : Program} {w : World} {K : PySem.W.Frag} {mg : Str → Option Value} {base : Heap} (T : Tx K mg) : FnX P w K mg base 3 (He.fAd K ("_law_seat", none)) ps_law_seat (sp_law_seat K) := by
  obtain ⟨_, F_law_take, B_law_take⟩ := ok_law_take (P := P) (w := w) (base := base) T
  obtain ⟨_, F_Trail_init, B_Trail_init⟩ := ok_Trail_init (P := P) (w := w) (base := base) T
  obtain ⟨_, F_Watching_init, B_Watching_init⟩ := ok_Watching_init (P := P) (w := w) (base := base) T
  obtain ⟨fd, F⟩ := T.fun_law_seat
  refine ⟨fd, F.ok sc_law_seat (fun vs H Q E h => len_law_seat h) (fun cdv A outer s H vs Q E hr h => ⟨t_law_seat K, PSs.nox (der_law_seat T F_law_take B_law_take F_Trail_init B_Trail_init F_Watching_init B_Watching_init hr (hu_of hr)), pure_law_seat T h⟩), F.bindsN fun _ _ _ _ _ _ us hl => match us, hl with | [_], _ => rfl⟩
end
end TW

set_option Elab.async false
set_option linter.all false
set_option maxRecDepth 100000
set_option maxHeartbeats 1000000
namespace TW
open PySem PySem.Spec PyProof.Rows L2 Evl
section
variable {K : PySem.W.Frag} {mg : Str → Option Value} {vs : List V} {H H' H0 H1 : Hp} {Q : VK} {E : XK} {σ : L2.St} {ta tb te tl td ty : TE} {x y v : V} {D : Ends} {tz : TS} {tc tk : TT} {tu tw : TS} {g : TG}
theorem PWS.other {p p' s : Addr} {T T' : Tr} {W W' : Wt} {fl fl' : Bool} {lk : List Int} {F F' : Addr → Prop} (P : PWS K p s T W fl lk F H) (P' : PWS K p' s T' W' fl' lk F' H') (st : Stp (FP p' F) (FP p' F') H H') : PWS K p s T' W' fl' lk F' H' := by
  by_cases h : p = p'
  · rw [h]; exact P'
  · have n : ¬ FP p' F p := fun z => z.elim h P.np
    exact ⟨P.pool.stp st n, P'.ws, fun z => (st.new p (.inr z)).elim n P.pool.some, P'.j, P'.fu, P'.ne⟩
theorem since {p : Addr} {F F' : Addr → Prop} (e : Ex H0 H) (f : ∀ a, F a → H0 a = none) (hp : H0 p = none) (st : Stp (FP p F) (FP p F') H H') : Ex H0 H' ∧ ∀ a, F' a → H0 a = none := by
  have nf : ∀ a, FP p F a → H0 a = none := fun a h => h.elim (fun z => z ▸ hp) (f a)
  refine ⟨fun a o h => st.keep a o (e a o h) fun z => (by rw [nf a z] at h; cases h), fun a h => ?_⟩
  rcases st.new a (.inr h) with z | z
  · exact nf a z
  · exact fresh_back e z
def sp_law (K : PySem.W.Frag) : Sp := fun vs H Q _ => ∃ (a : Addr) (ns : List Int), vs = [.ref a] ∧ SqL K H a (ns.map V.int) ∧ ns.length ≤ 63 ∧ ∀ H', Q (.bl true) H'
abbrev N_law : List Str := ["script", "first", "seat", "k", "pool"]
theorem sc_law : FnScope N_law ["script"] (defScope s_law) := ⟨rfl, rfl, rfl, by decide +kernel, rfl, by decide +kernel, by decide +kernel⟩
def t_law (K : PySem.W.Frag) : TS := (tSeq (tAsg (tCall (sp_law_pool K) [] E0 (tCons (tVar 0) (tCons (tC (.int 0)) tNil))) (gName 1))
    (tSeq (tAsg (tCall (sp_law_seat K) [] E0 (tCons (tVar 1) tNil)) (gName 2))
    (tSeq (tFor (iRng1 (tCons (tCB rMin2R (tCons (tCall (sp_law_take K) [] E0 (tCons (tVar 1) (tCons (tC (.int 9)) tNil))) (tCons (tOp rAddR (tC (.int 2)) (tOp rMulR (tC (.int 3)) (tCB (rLenS K) (tCons (tVar 0) tNil)))) tNil))) tNil)) (gName 3) (tIfS (tNot (tB (tCall (sp_law_put_one K) [] E0 (tCons (tVar 1) (tCons (tVar 2) tNil))))) (tRet (tC (.bl false))) tNext))
    (tSeq (tIfS (tNot (tB (tCall (sp_law_propagates K) [] E0 (tCons (tVar 2) tNil)))) (tRet (tC (.bl false))) tNext)
    (tSeq (tIfS (tAnd (tB (tGt (tCB (rLenS K) (tCons (tOp (rIxL K) (tVar 2) (tC (.int 2))) tNil)) (tC (.int 7)))) (tAnd (tB (tGt (tCB (rLenS K) (tCons (tOp (rIxL K) (tVar 2) (tC (.int 3))) tNil)) (tC (.int 0)))) (tNot (tB (tCall (sp_law_down K) [] E0 (tCons (tVar 1) (tCons (tVar 2) tNil))))))) (tRet (tC (.bl false))) tNext)
    (tSeq (tFor (iRng1 (tCons (tCB rMin2R (tCons (tOp rAddR (tC (.int 6)) (tCall (sp_law_take K) [] E0 (tCons (tVar 1) (tCons (tC (.int 19)) tNil)))) (tCons (tOp rAddR (tC (.int 3)) (tOp rMulR (tC (.int 6)) (tCB (rLenS K) (tCons (tVar 0) tNil)))) tNil))) tNil)) (gName 3) (tSeq (tAsg (tVar 1) (gName 4))
    (tSeq (tIfS (tB (tLt (tOp rAddR (tVar 3) (tC (.int 1))) (tCB (rLenS K) (tCons (tVar 0) tNil)))) (tAsg (tCall (sp_law_pool K) [] E0 (tCons (tVar 0) (tCons (tOp rAddR (tVar 3) (tC (.int 1))) tNil))) (gName 4)) tNext)
    (tSeq (tIfS (tAnd (tB (tGt (tCall (sp_law_depth K) [] E0 (tCons (tVar 2) tNil)) (tC (.int 0)))) (tAnd (tNot (tB (tOp (rIxL K) (tVar 2) (tC (.int 7))))) (tNot (tB (tCall (sp_law_back K) [] E0 (tCons (tVar 2) (tCons (tCall (sp_law_take K) [] E0 (tCons (tVar 4) (tCons (tCall (sp_law_depth K) [] E0 (tCons (tVar 2) tNil)) tNil))) tNil))))))) (tRet (tC (.bl false))) tNext)
    (tIfS (tOr (tNot (tB (tCall (sp_law_deed K) [] E0 (tCons (tVar 4) (tCons (tVar 2) tNil))))) (tNot (tB (tCall (sp_law_propagates K) [] E0 (tCons (tVar 2) tNil))))) (tRet (tC (.bl false))) tNext)))))
    (tRet (tCall (sp_law_back K) [] E0 (tCons (tVar 2) (tCons (tC (.int 0)) tNil))))))))))
set_option maxHeartbeats 4000000 in
theorem der_law {P : Program} {w : World} {K : PySem.W.Frag} {mg : Str → Option Value} {base : Heap} {f : Addr} {cdv : Value} {A : Around} {outer : List Env} {s : Shared} {H : Hp} {E : XK} (T : Tx K mg) {fd_law_pool : FuncData} (F_law_pool : FnOk P w K mg base CX0 1 (He.fAd K ("_law_pool", none)) fd_law_pool ps_law_pool (sp_law_pool K)) (B_law_pool : Binds K fd_law_pool ps_law_pool []) {fd_law_seat : FuncData} (F_law_seat : FnOk P w K mg base CX0 3 (He.fAd K ("_law_seat", none)) fd_law_seat ps_law_seat (sp_law_seat K)) (B_law_seat : Binds K fd_law_seat ps_law_seat []) {fd_law_take : FuncData} (F_law_take : FnOk P w K mg base CX0 1 (He.fAd K ("_law_take", none)) fd_law_take ps_law_take (sp_law_take K)) (B_law_take : Binds K fd_law_take ps_law_take []) {fd_law_put_one : FuncData} (F_law_put_one : FnOk P w K mg base CX0 8 (He.fAd K ("_law_put_one", none)) fd_law_put_one ps_law_put_one (sp_law_put_one K)) (B_law_put_one : Binds K fd_law_put_one ps_law_put_one []) {fd_law_propagates : FuncData} (F_law_propagates : FnOk P w K mg base CX0 9 (He.fAd K ("_law_propagates", none)) fd_law_propagates ps_law_propagates (sp_law_propagates K)) (B_law_propagates : Binds K fd_law_propagates ps_law_propagates []) {fd_law_down : FuncData} (F_law_down : FnOk P w K mg base CX0 10 (He.fAd K ("_law_down", none)) fd_law_down ps_law_down (sp_law_down K)) (B_law_down : Binds K fd_law_down ps_law_down []) {fd_law_depth : FuncData} (F_law_depth : FnOk P w K mg base CX0 1 (He.fAd K ("_law_depth", none)) fd_law_depth ps_law_depth (sp_law_depth K)) (B_law_depth : Binds K fd_law_depth ps_law_depth []) {fd_law_back : FuncData} (F_law_back : FnOk P w K mg base CX0 4 (He.fAd K ("_law_back", none)) fd_law_back ps_law_back (sp_law_back K)) (B_law_back : Binds K fd_law_back ps_law_back []) {fd_law_deed : FuncData} (F_law_deed : FnOk P w K mg base CX0 9 (He.fAd K ("_law_deed", none)) fd_law_deed ps_law_deed (sp_law_deed K)) (B_law_deed : Binds K fd_law_deed ps_law_deed []) (hr : Room 10 (A.deeper (envOfC "law" (defScope s_law) s.heap.objs.size f cdv))) (hu : (A.deeper (envOfC "law" (defScope s_law) s.heap.objs.size f cdv)).units + 1 < cLine) :
    PSs (cxOf CX0 P w K mg base N_law "law" (defScope s_law) f cdv A outer s H E).nox (defBody s_law) (t_law K) := by
  exact (pss_cons (ps_set (i := 1) sc_law.nd rfl (Or.inl rfl) (pe_call F_law_pool (hr.mono (by decide)) rfl T.g_law_pool T.k_law_pool B_law_pool .nil pass0 (pa_cons (pv 0) (pa_cons pe_int pa_nil))))
    (pss_cons (ps_set (i := 2) sc_law.nd rfl (Or.inl rfl) (pe_call F_law_seat (hr.mono (by decide)) rfl T.g_law_seat T.k_law_seat B_law_seat .nil pass0 (pa_cons (pv 1) pa_nil)))
    (pss_cons (ps_for PassesOwn.never rfl (pi_range1 rfl T.f_range (pa_cons (pe_callB (call_min2 rfl) rfl T.f_min bt_min (pa_cons (pe_call F_law_take (hr.mono (by decide)) rfl T.g_law_take T.k_law_take B_law_take .nil pass0 (pa_cons (pv 1) (pa_cons pe_int pa_nil))) (pa_cons (pe_op op_add pe_int (pe_op op_mul pe_int (pe_callB call_len_seq rfl T.f_len bt_len (pa_cons (pv 0) pa_nil)))) pa_nil))) pa_nil)) (pg_name (i := 3) sc_law.nd rfl (Or.inl rfl)) (pss_one (ps_if (pt_not (pt_val (pe_call F_law_put_one (hr.mono (by decide)) rfl T.g_law_put_one T.k_law_put_one B_law_put_one .nil pass0 (pa_cons (pv 1) (pa_cons (pv 2) pa_nil))))) (pss_one (ps_ret pe_bl)) pss_nil)))
    (pss_cons (ps_if (pt_not (pt_val (pe_call F_law_propagates (hr.mono (by decide)) rfl T.g_law_propagates T.k_law_propagates B_law_propagates .nil pass0 (pa_cons (pv 2) pa_nil)))) (pss_one (ps_ret pe_bl)) pss_nil)
    (pss_cons (ps_if (PW.pt (pw_and (pt_cmp (pc_gt (pe_callB call_len_seq rfl T.f_len bt_len (pa_cons (pe_ix ix_list (pv 2) pe_int (fun _ _ => rfl)) pa_nil)) pe_int)) (pw_and (pt_cmp (pc_gt (pe_callB call_len_seq rfl T.f_len bt_len (pa_cons (pe_ix ix_list (pv 2) pe_int (fun _ _ => rfl)) pa_nil)) pe_int)) (pw_and1 (pt_not (pt_val (pe_call F_law_down (hr.mono (by decide)) rfl T.g_law_down T.k_law_down B_law_down .nil pass0 (pa_cons (pv 1) (pa_cons (pv 2) pa_nil))))))))) (pss_one (ps_ret pe_bl)) pss_nil)
    (pss_cons (ps_for PassesOwn.never rfl (pi_range1 rfl T.f_range (pa_cons (pe_callB (call_min2 rfl) rfl T.f_min bt_min (pa_cons (pe_op op_add pe_int (pe_call F_law_take (hr.mono (by decide)) rfl T.g_law_take T.k_law_take B_law_take .nil pass0 (pa_cons (pv 1) (pa_cons pe_int pa_nil)))) (pa_cons (pe_op op_add pe_int (pe_op op_mul pe_int (pe_callB call_len_seq rfl T.f_len bt_len (pa_cons (pv 0) pa_nil)))) pa_nil))) pa_nil)) (pg_name (i := 3) sc_law.nd rfl (Or.inl rfl)) (pss_cons (ps_set (i := 4) sc_law.nd rfl (Or.inl rfl) (pv 1))
    (pss_cons (ps_if (pt_cmp (pc_lt (pe_op op_add (pv 3) pe_int) (pe_callB call_len_seq rfl T.f_len bt_len (pa_cons (pv 0) pa_nil)))) (pss_one (ps_set (i := 4) sc_law.nd rfl (Or.inl rfl) (pe_call F_law_pool (hr.mono (by decide)) rfl T.g_law_pool T.k_law_pool B_law_pool .nil pass0 (pa_cons (pv 0) (pa_cons (pe_op op_add (pv 3) pe_int) pa_nil))))) pss_nil)
    (pss_cons (ps_if (PW.pt (pw_and (pt_cmp (pc_gt (pe_call F_law_depth (hr.mono (by decide)) rfl T.g_law_depth T.k_law_depth B_law_depth .nil pass0 (pa_cons (pv 2) pa_nil)) pe_int)) (pw_and (pt_not (pt_val (pe_ix ix_list (pv 2) pe_int (fun _ _ => rfl)))) (pw_and1 (pt_not (pt_val (pe_call F_law_back (hr.mono (by decide)) rfl T.g_law_back T.k_law_back B_law_back .nil pass0 (pa_cons (pv 2) (pa_cons (pe_call F_law_take (hr.mono (by decide)) rfl T.g_law_take T.k_law_take B_law_take .nil pass0 (pa_cons (pv 4) (pa_cons (pe_call F_law_depth (hr.mono (by decide)) rfl T.g_law_depth T.k_law_depth B_law_depth .nil pass0 (pa_cons (pv 2) pa_nil)) pa_nil))) pa_nil))))))))) (pss_one (ps_ret pe_bl)) pss_nil)
    (pss_one (ps_if (PW.pt (pw_or (pt_not (pt_val (pe_call F_law_deed (hr.mono (by decide)) rfl T.g_law_deed T.k_law_deed B_law_deed .nil pass0 (pa_cons (pv 4) (pa_cons (pv 2) pa_nil))))) (pw_or1 (pt_not (pt_val (pe_call F_law_propagates (hr.mono (by decide)) rfl T.g_law_propagates T.k_law_propagates B_law_propagates .nil pass0 (pa_cons (pv 2) pa_nil))))))) (pss_one (ps_ret pe_bl)) pss_nil))))))
    (pss_one (ps_ret (pe_call F_law_back (hr.mono (by decide)) rfl T.g_law_back T.k_law_back B_law_back .nil pass0 (pa_cons (pv 2) (pa_cons pe_int pa_nil)))))))))))
theorem len_law (h : sp_law K vs H Q E) : vs.length = 1 := by
  obtain ⟨_, _, rfl, _⟩ := h
  rfl
/-- where the law stands -/
def At (K : PySem.W.Frag) (p s : Addr) (known lk : List Int) (H0 : Hp) (n : Nat) (H' : Hp) : Prop := ∃ T W fl F, PWS K p s T W fl lk F H' ∧ Ex H0 H' ∧ (∀ a, F a → H0 a = none) ∧ T.known = known ∧ W.cls.length ≤ n
theorem At.ex {p s : Addr} {known lk : List Int} {n : Nat} (A : At K p s known lk H0 n H) (e : Ex H H') : At K p s known lk H0 n H' := let ⟨T, W, fl, F, P, a, b, c, d⟩ := A; ⟨T, W, fl, F, P.ex e, a.trans e, b, c, d⟩
theorem At.take {p s : Addr} {known lk : List Int} {n : Nat} (A : At K p s known lk H0 n H) (hp0 : H0 p = none) (hp : PoolAt p H') (st : Stp (fun a => a = p) (fun a => a = p) H H') : At K p s known lk H0 n H' := by
  obtain ⟨T, W, fl, F, P, a, b, c, d⟩ := A
  obtain ⟨a', b'⟩ := since a b hp0 (stp_pool (F := F) st)
  exact ⟨T, W, fl, F, P.take hp st, a', b', c, d⟩
theorem pure_law (T : Tx K mg) (h : sp_law K vs H Q E) : t_law K { nx := fun _ H' => Q .non H', rt := Q } (start N_law vs) H := by
  obtain ⟨a, ns, rfl, hs, hns, q⟩ := h
  refine ⟨_, rfl, a, ns, 0, rfl, hs, fun p H1 hp0 e1 hp1 => ?_⟩
  refine ⟨_, rfl, p, rfl, hp1, fun s known lk F H2 hp2 W2 np s2 hlk h16 hpos hnd => ?_⟩
  have ok := fresh_tr hpos hnd (by omega)
  have P2 : PWS K p s (Tr.fresh known) Wt.fresh false lk F H2 := ⟨hp2, W2, np, fresh_j ok, fun z => (nomatch z), fun _ c h => (nomatch h)⟩
  have A2 : At K p s known lk H 0 H2 := by
    refine ⟨_, _, _, F, P2, fun b o h => s2.keep b o (e1 b o h) fun z => (by rw [z, hp0] at h; cases h), fun b h => ?_, rfl, Nat.le_refl _⟩
    rcases s2.new b (.inr h) with z | z
    · rw [z]; exact hp0
    · exact fresh_back e1 z
  have hlkT : ∀ {T : Tr}, T.known = known → LinkOk T.known lk := fun {T} h => by rw [h]; exact hlk
  have hkT : ∀ {T : Tr}, T.known = known → T.known.length ≤ 16 := fun {T} h => by rw [h]; exact h16
  -- the first clauses
  show tSeq (tFor (iRng1 (tCons (tCB rMin2R (tCons (tCall (sp_law_take K) [] E0 (tCons (tVar 1) (tCons (tC (.int 9)) tNil))) (tCons (tOp rAddR (tC (.int 2)) (tOp rMulR (tC (.int 3)) (tCB (rLenS K) (tCons (tVar 0) tNil)))) tNil))) tNil)) (gName 3) (tIfS (tNot (tB (tCall (sp_law_put_one K) [] E0 (tCons (tVar 1) (tCons (tVar 2) tNil))))) (tRet (tC (.bl false))) tNext)) _ { nx := fun _ H' => Q .non H', rt := Q } [some (.ref a), some (.ref p), some (.ref s), none, none] H2
  refine q_forX (P := fun n H' => n ≤ 8 ∧ At K p s known lk H 0 H') (fun R k => ?_) (fun n i σ' H' => (∃ u, σ' = [some (.ref a), some (.ref p), some (.ref s), u, none]) ∧ n ≤ 8 ∧ At K p s known lk H i H') (fun n H3 ⟨h1, h2⟩ => ⟨⟨_, rfl⟩, h1, h2⟩) (fun n i σ' H' hi w => ?_) (fun n σ' H' w => ?_)
  · refine t_take rfl (z := 9) ev_c hp2 (by decide) (by decide) fun r H3 hr hp3 s3 => ?_
    have A3 := A2.take hp0 hp3 s3
    obtain ⟨_, _, _, _, _, e3, _⟩ := id A3
    refine (ev_add ev_c (ev_mul (i := 3) (j := (ns.length : Int)) ev_c (ev_is (ev_len (ev_var rfl) (ex_l e3 hs)) (by rw [List.length_map])) (.inl (by decide))) : Ev (tOp rAddR (tC (.int 2)) (tOp rMulR (tC (.int 3)) (tCB (rLenS K) (tCons (tVar 0) tNil)))) [some (.ref a), some (.ref p), some (.ref s), none, none] H3 (.int (2 + 3 * (ns.length : Int)))) H3 (Ex.refl H3) _ fun H4 e4 => ⟨(r : Int), 2 + 3 * (ns.length : Int), rfl, ?_⟩
    have : (if 2 + 3 * (ns.length : Int) < (r : Int) then 2 + 3 * (ns.length : Int) else (r : Int)) = ((min r (2 + 3 * ns.length) : Nat) : Int) := by split <;> omega
    rw [this]
    exact k _ H4 (by omega) ⟨by omega, A3.ex e4⟩
  · obtain ⟨⟨u, rfl⟩, hn8, T', W', fl', F', P', e', f', k', l'⟩ := w
    refine ⟨_, rfl, _, rfl, p, s, T', W', fl', lk, F', rfl, P', hlkT k', hkT k', by omega, fun T3 W3 fl3 F3 H3 P3 s3 k3 l3 => ⟨true, rfl, iteF ?_⟩⟩
    obtain ⟨e3, f3⟩ := since e' f' hp0 s3
    exact ⟨⟨_, rfl⟩, hn8, T3, W3, fl3, F3, P3, e3, f3, k3.trans k', by omega⟩
  · obtain ⟨⟨u, rfl⟩, hn8, T', W', fl', F', P', e', f', k', l'⟩ := w
    -- propagate
    refine ⟨_, rfl, s, T', W', fl', lk, F', rfl, P'.ws, P'.j, by omega, fun T3 W3 fl3 F3 H3 W3s s3 g3 d3 j3 f3u => ⟨true, rfl, iteF ?_⟩⟩
    have P3 := P'.move W3s s3 j3 f3u (by rw [g3.kn, d3.cl]; exact P'.ne)
    obtain ⟨e3, f3⟩ := since e' f' hp0 (stp_ws (p := p) s3)
    have k3 : T3.known = known := g3.kn.trans k'
    have l3 : W3.cls.length ≤ 8 := by rw [d3.cl]; omega
    have A3 : At K p s known lk H 8 H3 := ⟨T3, W3, fl3, F3, P3, e3, f3, k3, l3⟩
    -- the rest
    have rest : ∀ {H4 : Hp}, At K p s known lk H 8 H4 → (tSeq (tFor (iRng1 (tCons (tCB rMin2R (tCons (tOp rAddR (tC (.int 6)) (tCall (sp_law_take K) [] E0 (tCons (tVar 1) (tCons (tC (.int 19)) tNil)))) (tCons (tOp rAddR (tC (.int 3)) (tOp rMulR (tC (.int 6)) (tCB (rLenS K) (tCons (tVar 0) tNil)))) tNil))) tNil)) (gName 3) (tSeq (tAsg (tVar 1) (gName 4))
    (tSeq (tIfS (tB (tLt (tOp rAddR (tVar 3) (tC (.int 1))) (tCB (rLenS K) (tCons (tVar 0) tNil)))) (tAsg (tCall (sp_law_pool K) [] E0 (tCons (tVar 0) (tCons (tOp rAddR (tVar 3) (tC (.int 1))) tNil))) (gName 4)) tNext)
    (tSeq (tIfS (tAnd (tB (tGt (tCall (sp_law_depth K) [] E0 (tCons (tVar 2) tNil)) (tC (.int 0)))) (tAnd (tNot (tB (tOp (rIxL K) (tVar 2) (tC (.int 7))))) (tNot (tB (tCall (sp_law_back K) [] E0 (tCons (tVar 2) (tCons (tCall (sp_law_take K) [] E0 (tCons (tVar 4) (tCons (tCall (sp_law_depth K) [] E0 (tCons (tVar 2) tNil)) tNil))) tNil))))))) (tRet (tC (.bl false))) tNext)
    (tIfS (tOr (tNot (tB (tCall (sp_law_deed K) [] E0 (tCons (tVar 4) (tCons (tVar 2) tNil))))) (tNot (tB (tCall (sp_law_propagates K) [] E0 (tCons (tVar 2) tNil))))) (tRet (tC (.bl false))) tNext)))))
    (tRet (tCall (sp_law_back K) [] E0 (tCons (tVar 2) (tCons (tC (.int 0)) tNil))))) { nx := fun _ H' => Q .non H', rt := Q } [some (.ref a), some (.ref p), some (.ref s), u, none] H4 := fun {H4} A4 => by
      refine q_forX (P := fun n H' => n ≤ 24 ∧ At K p s known lk H 8 H') (fun R k => ?_) (fun n i σ' H' => (∃ u u1, σ' = [some (.ref a), some (.ref p), some (.ref s), u, u1]) ∧ n ≤ 24 ∧ At K p s known lk H (8 + 2 * i) H') (fun n H5 ⟨h1, h2⟩ => ⟨⟨_, _, rfl⟩, h1, h2⟩) (fun n i σ' H' hi w => ?_) (fun n σ' H' w => ?_)
      · obtain ⟨T4, W4, fl4, F4, P4, _⟩ := id A4
        refine t_take rfl (z := 19) ev_c P4.pool (by decide) (by decide) fun r H5 hr hp5 s5 => ⟨6, (r : Int), rfl, rfl, ?_⟩
        have A5 := A4.take hp0 hp5 s5
        obtain ⟨_, _, _, _, _, e5, _⟩ := id A5
        refine (ev_add ev_c (ev_mul (i := 6) (j := (ns.length : Int)) ev_c (ev_is (ev_len (ev_var rfl) (ex_l e5 hs)) (by rw [List.length_map])) (.inl (by decide))) : Ev (tOp rAddR (tC (.int 3)) (tOp rMulR (tC (.int 6)) (tCB (rLenS K) (tCons (tVar 0) tNil)))) [some (.ref a), some (.ref p), some (.ref s), u, none] H5 (.int (3 + 6 * (ns.length : Int)))) H5 (Ex.refl H5) _ fun H6 e6 => ⟨6 + (r : Int), 3 + 6 * (ns.length : Int), rfl, ?_⟩
        have : (if 3 + 6 * (ns.length : Int) < 6 + (r : Int) then 3 + 6 * (ns.length : Int) else 6 + (r : Int)) = ((min (6 + r) (3 + 6 * ns.length) : Nat) : Int) := by split <;> omega
        rw [this]
        exact k _ H6 (by omega) ⟨by omega, A5.ex e6⟩
      · obtain ⟨⟨u, u1, rfl⟩, hn24, A5⟩ := w
        -- a turn, whatever the pool
        have turn : ∀ {p' : Addr} {T5 : Tr} {W5 : Wt} {fl5 : Bool} {F5 : Addr → Prop} {H5 : Hp}, PWS K p s T5 W5 fl5 lk F5 H5 → PWS K p' s T5 W5 fl5 lk F5 H5 → Ex H H5 → (∀ b, F5 b → H b = none) → H p' = none → T5.known = known → W5.cls.length ≤ 8 + 2 * i →
            tSeq (tIfS (tAnd (tB (tGt (tCall (sp_law_depth K) [] E0 (tCons (tVar 2) tNil)) (tC (.int 0)))) (tAnd (tNot (tB (tOp (rIxL K) (tVar 2) (tC (.int 7))))) (tNot (tB (tCall (sp_law_back K) [] E0 (tCons (tVar 2) (tCons (tCall (sp_law_take K) [] E0 (tCons (tVar 4) (tCons (tCall (sp_law_depth K) [] E0 (tCons (tVar 2) tNil)) tNil))) tNil))))))) (tRet (tC (.bl false))) tNext)
              (tIfS (tOr (tNot (tB (tCall (sp_law_deed K) [] E0 (tCons (tVar 4) (tCons (tVar 2) tNil))))) (tNot (tB (tCall (sp_law_propagates K) [] E0 (tCons (tVar 2) tNil))))) (tRet (tC (.bl false))) tNext)
              { nx := fun σ' H' => (∃ u u1, σ' = [some (.ref a), some (.ref p), some (.ref s), u, u1]) ∧ n ≤ 24 ∧ At K p s known lk H (8 + 2 * (i + 1)) H', ct := fun σ' H' => (∃ u u1, σ' = [some (.ref a), some (.ref p), some (.ref s), u, u1]) ∧ n ≤ 24 ∧ At K p s known lk H (8 + 2 * (i + 1)) H', rt := Q, bk := tRet (tCall (sp_law_back K) [] E0 (tCons (tVar 2) (tCons (tC (.int 0)) tNil))) { nx := fun _ H' => Q .non H', rt := Q } } [some (.ref a), some (.ref p), some (.ref s), some (.int (i : Int)), some (.ref p')] H5 := fun {p' T5 W5 fl5 F5 H5} P P' e5 f5 hp'0 k5 l5 => by
          -- the deed and the propagation
          have deed : ∀ {T6 : Tr} {W6 : Wt} {fl6 : Bool} {F6 : Addr → Prop} {H6 : Hp}, PWS K p s T6 W6 fl6 lk F6 H6 → PWS K p' s T6 W6 fl6 lk F6 H6 → Ex H H6 → (∀ b, F6 b → H b = none) → T6.known = known → W6.cls.length ≤ 8 + 2 * i →
              tIfS (tOr (tNot (tB (tCall (sp_law_deed K) [] E0 (tCons (tVar 4) (tCons (tVar 2) tNil))))) (tNot (tB (tCall (sp_law_propagates K) [] E0 (tCons (tVar 2) tNil))))) (tRet (tC (.bl false))) tNext
                { nx := fun σ' H' => (∃ u u1, σ' = [some (.ref a), some (.ref p), some (.ref s), u, u1]) ∧ n ≤ 24 ∧ At K p s known lk H (8 + 2 * (i + 1)) H', ct := fun σ' H' => (∃ u u1, σ' = [some (.ref a), some (.ref p), some (.ref s), u, u1]) ∧ n ≤ 24 ∧ At K p s known lk H (8 + 2 * (i + 1)) H', rt := Q, bk := tRet (tCall (sp_law_back K) [] E0 (tCons (tVar 2) (tCons (tC (.int 0)) tNil))) { nx := fun _ H' => Q .non H', rt := Q } } [some (.ref a), some (.ref p), some (.ref s), some (.int (i : Int)), some (.ref p')] H6 := fun {T6 W6 fl6 F6 H6} Pa Pb e6 f6 k6 l6 => by
            refine ⟨_, rfl, _, rfl, p', s, T6, W6, fl6, lk, F6, rfl, Pb, hlkT k6, hkT k6, by omega, fun T7 W7 fl7 F7 H7 P7 s7 k7 l7 => ⟨true, rfl, iteF ?_⟩⟩
            have Pa7 := Pa.other P7 s7
            obtain ⟨e7, f7⟩ := since e6 f6 hp'0 s7
            refine ⟨_, rfl, s, T7, W7, fl7, lk, F7, rfl, P7.ws, P7.j, by omega, fun T8 W8 fl8 F8 H8 W8s s8 g8 d8 j8 f8u => ⟨true, rfl, iteF ?_⟩⟩
            have Pa8 := Pa7.move W8s s8 j8 f8u (by rw [g8.kn, d8.cl]; exact P7.ne)
            obtain ⟨e8, f8⟩ := since e7 f7 hp0 (stp_ws (p := p) s8)
            exact ⟨⟨_, _, rfl⟩, hn24, T8, W8, fl8, F8, Pa8, e8, f8, g8.kn.trans (k7.trans k6), by rw [d8.cl]; omega⟩
          obtain ⟨L, M, S, hS, hF, A⟩ := id P.ws
          have hs5 : H5 s = some (.lst (seatL S L.t M.w fl5)) := by rw [← hS]; exact A.B.s
          have hdl := P.j.ok.dle
          have hrl := P.j.ok.weak.rl
          refine q_ifAnd (b := decide (0 < T5.depth)) (et_is (et_B (ev_cmp (ev_call (ea_cons (ev_var rfl) ea_nil) (spv_depth P.ws P.j.ok)) ev_c)) ?_) (fun hb H6 e6 => ?_) (fun hb H6 e6 => deed (P.ex e6) (P'.ex e6) (e5.trans e6) f5 k5 l5)
          · rw [Bool.eq_iff_iff]
            simp
            try omega
          · have hdp := of_decide_eq_true hb
            refine (et_not (et_B (ev_ixL (j := 7) (v := .bl fl5) (ev_var rfl) ev_c (e6 _ _ hs5) rfl)) : EvT (tNot (tB (tOp (rIxL K) (tVar 2) (tC (.int 7))))) [some (.ref a), some (.ref p), some (.ref s), some (.int (i : Int)), some (.ref p')] H6 (!fl5)) H6 (Ex.refl H6) _ fun H7 e7 => ?_
            have e67 := e6.trans e7
            cases hfl : fl5 with
            | true =>
              subst hfl
              exact iteF (iteF (deed (P.ex e67) (P'.ex e67) (e5.trans e67) f5 k5 l5))
            | false =>
              subst hfl
              have Pa7 := P.ex e67
              have Pb7 := P'.ex e67
              refine iteT ⟨_, rfl, t_take rfl (z := T5.depth) (ev_call (ea_cons (ev_var rfl) ea_nil) (spv_depth Pa7.ws Pa7.j.ok)) Pb7.pool hdp (by omega) fun r H8 hr hp8 s8 => ?_⟩
              have Pb8 := Pb7.take hp8 s8
              have Pa8 := Pa7.other Pb8 (stp_pool s8)
              obtain ⟨e8, f8⟩ := since (e5.trans e67) f5 hp'0 (stp_pool (F := F5) s8)
              refine ⟨s, T5, W5, false, lk, F5, r, rfl, Pb8.ws, Pb8.j, Pb8.fu, by omega, fun F9 H9 W9 s9 => ⟨true, rfl, iteF ?_⟩⟩
              obtain ⟨e9, f9⟩ := since e8 f8 hp0 (stp_ws (p := p) s9)
              exact deed (Pa8.backed W9 s9) (Pb8.backed W9 s9) e9 f9 (by rw [back_known]; exact k5) l5
        obtain ⟨T5, W5, fl5, F5, P5, e5, f5, k5, l5⟩ := A5
        refine q_asg (ev_var rfl) fun H6 e6 => ?_
        have e06 := e5.trans e6
        refine q_if (b := decide (i + 1 < ns.length)) (et_is (et_B (ev_cmp (ev_add (ev_var rfl) ev_c) (ev_len (ev_var rfl) (ex_l e06 hs)))) ?_) (fun hb H7 e7 => ?_) (fun hb H7 e7 => turn (P5.ex (e6.trans e7)) (P5.ex (e6.trans e7)) (e06.trans e7) f5 hp0 k5 l5)
        · rw [List.length_map, Bool.eq_iff_iff]
          simp
          try omega
        · have e07 := e06.trans e7
          refine ⟨_, rfl, _, rfl, (i : Int), 1, rfl, rfl, a, ns, i + 1, rfl, ex_l e07 hs, fun p' H8 hp'8 e8 hpp => ?_⟩
          have P8 := P5.ex ((e6.trans e7).trans e8)
          have P8' : PWS K p' s T5 W5 fl5 lk F5 H8 := ⟨hpp, P8.ws, fun z => (P5.ws.ex (e6.trans e7)).tracked p' z hp'8, P8.j, P8.fu, P8.ne⟩
          exact turn P8 P8' (e07.trans e8) f5 (fresh_back e07 hp'8) k5 l5
      · obtain ⟨⟨u, u1, rfl⟩, hn24, T5, W5, fl5, F5, P5, e5, f5, k5, l5⟩ := w
        exact ⟨_, rfl, s, T5, W5, fl5, lk, F5, 0, rfl, P5.ws, P5.j, P5.fu, by omega, fun F6 H6 W6 s6 => q H6⟩
    obtain ⟨L, M, S, hS, hF, A⟩ := id P3.ws
    have hs3 : H3 s = some (.lst (seatL S L.t M.w fl3)) := by rw [← hS]; exact A.B.s
    obtain ⟨ys, c1, c2, c3⟩ := A.B.cs
    have hyl : ys.length = W3.cls.length := by rw [c2, List.length_map]
    show tSeq (tIfS (tAnd (tB (tGt (tCB (rLenS K) (tCons (tOp (rIxL K) (tVar 2) (tC (.int 2))) tNil)) (tC (.int 7)))) (tAnd (tB (tGt (tCB (rLenS K) (tCons (tOp (rIxL K) (tVar 2) (tC (.int 3))) tNil)) (tC (.int 0)))) (tNot (tB (tCall (sp_law_down K) [] E0 (tCons (tVar 1) (tCons (tVar 2) tNil))))))) (tRet (tC (.bl false))) tNext) _ { nx := fun _ H' => Q .non H', rt := Q } [some (.ref a), some (.ref p), some (.ref s), u, none] H3
    refine q_ifAnd (b := decide (7 < known.length)) (et_is (et_B (ev_cmp (ev_lenL (ev_ixL (j := 2) (ev_var rfl) ev_c hs3 rfl) A.B.nd) ev_c)) ?_) (fun hb H4 e4 => ?_) (fun hb H4 e4 => rest (A3.ex e4))
    · rw [List.length_map, k3, Bool.eq_iff_iff]
      simp
      try omega
    · have hb' := of_decide_eq_true hb
      refine (et_B (ev_cmp (ev_lenL (ev_ixL (j := 3) (ev_var rfl) ev_c (e4 _ _ hs3) rfl) (e4 _ _ c1)) ev_c) : EvT (tB (tGt (tCB (rLenS K) (tCons (tOp (rIxL K) (tVar 2) (tC (.int 3))) tNil)) (tC (.int 0)))) [some (.ref a), some (.ref p), some (.ref s), u, none] H4 _) H4 (Ex.refl H4) _ fun H5 e5 => ?_
      have e45 := e4.trans e5
      by_cases hc : (0 : Int) < ((ys.map fun p => V.ref p.2).length : Int)
      · rw [decide_eq_true hc]
        rw [List.length_map, hyl] at hc
        refine iteT ⟨_, rfl, _, rfl, p, s, T3, W3, fl3, lk, F3, rfl, P3.ex e45, fun z => ?_, by omega, by omega, fun T6 W6 fl6 F6 H6 P6 s6 k6 l6 => ⟨true, rfl, iteF ?_⟩⟩
        · rw [k3] at z
          rw [z] at hb'
          simp at hb'
        · obtain ⟨e6, f6⟩ := since (e3.trans e45) f3 hp0 s6
          exact rest ⟨T6, W6, fl6, F6, P6, e6, f6, k6.trans k3, by omega⟩
      · rw [decide_eq_false hc]
        exact iteF (iteF (rest (A3.ex e45)))
theorem ok_law {P : Program} {w : World} {K : PySem.W.Frag} {mg : Str → Option Value} {base : Heap} (T : Tx K mg) : FnX P w K mg base 11 (He.fAd K ("law", none)) ps_law (sp_law K) := by
  obtain ⟨_, F_law_pool, B_law_pool⟩ := ok_law_pool (P := P) (w := w) (base := base) T
  obtain ⟨_, F_law_seat, B_law_seat⟩ := ok_law_seat (P := P) (w := w) (base := base) T
  obtain ⟨_, F_law_take, B_law_take⟩ := ok_law_take (P := P) (w := w) (base := base) T
  obtain ⟨_, F_law_put_one, B_law_put_one⟩ := ok_law_put_one (P := P) (w := w) (base := base) T
  obtain ⟨_, F_law_propagates, B_law_propagates⟩ := ok_law_propagates (P := P) (w := w) (base := base) T
  obtain ⟨_, F_law_down, B_law_down⟩ := ok_law_down (P := P) (w := w) (base := base) T
  obtain ⟨_, F_law_depth, B_law_depth⟩ := ok_law_depth (P := P) (w := w) (base := base) T
  obtain ⟨_, F_law_back, B_law_back⟩ := ok_law_back (P := P) (w := w) (base := base) T
  obtain ⟨_, F_law_deed, B_law_deed⟩ := ok_law_deed (P := P) (w := w) (base := base) T
  obtain ⟨fd, F⟩ := T.fun_law
  refine ⟨fd, F.ok sc_law (fun vs H Q E h => len_law h) (fun cdv A outer s H vs Q E hr h => ⟨t_law K, PSs.nox (der_law T F_law_pool B_law_pool F_law_seat B_law_seat F_law_take B_law_take F_law_put_one B_law_put_one F_law_propagates B_law_propagates F_law_down B_law_down F_law_depth B_law_depth F_law_back B_law_back F_law_deed B_law_deed hr (hu_of hr)), pure_law T h⟩), F.bindsN fun _ _ _ _ _ _ us hl => match us, hl with | [_], _ => rfl⟩
theorem law_fn {P : Program} {w : World} {K : PySem.W.Frag} {mg : Str → Option Value} {base : Heap} {fd : FuncData} (T : Tx K mg) (F : FnP_law K fd) : FnOk P w K mg base CX0 11 (He.fAd K ("law", none)) fd ps_law (sp_law K) := by
  obtain ⟨_, F_law_pool, B_law_pool⟩ := ok_law_pool (P := P) (w := w) (base := base) T
  obtain ⟨_, F_law_seat, B_law_seat⟩ := ok_law_seat (P := P) (w := w) (base := base) T
  obtain ⟨_, F_law_take, B_law_take⟩ := ok_law_take (P := P) (w := w) (base := base) T
  obtain ⟨_, F_law_put_one, B_law_put_one⟩ := ok_law_put_one (P := P) (w := w) (base := base) T
  obtain ⟨_, F_law_propagates, B_law_propagates⟩ := ok_law_propagates (P := P) (w := w) (base := base) T
  obtain ⟨_, F_law_down, B_law_down⟩ := ok_law_down (P := P) (w := w) (base := base) T
  obtain ⟨_, F_law_depth, B_law_depth⟩ := ok_law_depth (P := P) (w := w) (base := base) T
  obtain ⟨_, F_law_back, B_law_back⟩ := ok_law_back (P := P) (w := w) (base := base) T
  obtain ⟨_, F_law_deed, B_law_deed⟩ := ok_law_deed (P := P) (w := w) (base := base) T
  exact F.ok sc_law (fun vs H Q E h => len_law h) (fun cdv A outer s H vs Q E hr h => ⟨t_law K, PSs.nox (der_law T F_law_pool B_law_pool F_law_seat B_law_seat F_law_take B_law_take F_law_put_one B_law_put_one F_law_propagates B_law_propagates F_law_down B_law_down F_law_depth B_law_depth F_law_back B_law_back F_law_deed B_law_deed hr (hu_of hr)), pure_law T h⟩)
end
end TW

set_option Elab.async false
set_option linter.all false
set_option maxRecDepth 100000
set_option maxHeartbeats 0
namespace TW
open PySem PySem.Spec PyProof.Rows L2
def bmB (K : PySem.W.Frag) : Bool := He.eqO (PySem.W.specialIn K (.ref (He.fAd K ("Trail", some "level_of"))) "__get__") (some (some (.builtin "function.__get__"))) && (decide (PySem.W.takesIn K (.ref (He.fAd K ("Trail", some "level_of"))) = some false) && (!PySem.W.copiedNames.contains ("level_of" : Str) && PySem.W.fnIn K (He.fAd K ("Trail", some "level_of"))))
def obsX (K : PySem.W.Frag) : Bool × He.AlD := (bmB K, He.obsD fa fn K)
def obsXG (g : Addr → Option Obj) : Bool × He.AlD := obsX (He.frG g (He.asD g 6))
def hkX : PySem.W.Hook where
  α := Bool × He.AlD
  obs := fun s => obsXG s.heap.get?
  val := fun _ => (true, He.valD fn)
  says := fun _ h => ∃ K : PySem.W.Frag, K.In h ∧ He.SaysD fa fn K ∧ bmB K = true
  of := fun _ _ e => ⟨_, He.frG_in, congrArg Prod.snd e, congrArg Prod.fst e⟩
  keeps := fun _ _ _ ⟨K, hK, c, b⟩ k => ⟨K, PySem.W.Frag.In.keeps hK k, c, b⟩
abbrev RX : PySem.W.OpenRow := PySem.W.OpenLaw.row PySem.Challenge.rw_solvedpapers_k94_watched_pairs
def obX (s : PySem.W.SharedT) : Bool × He.AlD := obsXG (HandSHeadRun.getT s)
theorem obX_eq (s : PySem.W.SharedT) : obX s = hkX.obs s.abs := by
  have e : HandSHeadRun.getT s = s.abs.heap.get? := funext (HandSHeadRun.getT_eq s)
  unfold obX
  rw [e]
  rfl
theorem bm_of {K : PySem.W.Frag} (m : Meth K (He.ga K "Trail") "level_of" (He.fAd K ("Trail", some "level_of"))) (h : bmB K = true) : BMeth K (He.ga K "Trail") "level_of" (He.fAd K ("Trail", some "level_of")) := by
  obtain ⟨h1, h⟩ := Bool.and_eq_true_iff.mp h
  obtain ⟨h2, h⟩ := Bool.and_eq_true_iff.mp h
  obtain ⟨h3, h4⟩ := Bool.and_eq_true_iff.mp h
  exact ⟨m, He.eqO_ok h1, of_decide_eq_true h2, by simpa using h3, h4⟩
def namesX : List PySem.Str := ["_wall", "PaperError", "BadLiteral", "Watching", "Trail", "_law_pool", "_law_take", "_law_whole", "_law_alike", "_law_list", "_law_seat", "_law_clause", "_law_watched", "_law_put", "_law_depth", "_law_stands", "_law_back", "_law_pair", "_law_pairs", "_law_grown", "_law_closure", "_law_propagates", "_law_open", "_law_chooses", "_law_down", "_law_like_learned", "_law_forget", "_law_put_one", "_law_deed"]
theorem runX (w : World) : HandSHeadRun.RunEq RX (PySem.W.view RX.prog [33]) hkX obX 4000 namesX w := by
  intro os
  kernel_rfl
theorem tx_of {K : PySem.W.Frag} {h : Heap} {mg : Str → Option Value} (X : K.In h) (G : h.Ns mainGlobals mg) (c : He.SaysD fa fn K) (b : bmB K = true) : Tx K mg := by
  have m : Meth K (He.ga K "Trail") "level_of" (He.fAd K ("Trail", some "level_of")) := He.meth_ok (c.fact 50 (f := .meth "Trail" "level_of") rfl)
  refine ⟨c, fun x o e => ?_, bm_of m b⟩
  cases o with
  | none => exact PySem.W.mg_none_of X G e
  | some v => exact PySem.W.mg_of X G e
end TW
open PySem PySem.W PySem.Calls PyProof.Rows
theorem PySem.Challenge.cw_solvedpapers_k94_watched_pairs_holds : PySem.Challenge.rw_solvedpapers_k94_watched_pairs.Holds := by
  w_on; o_law
  refine HandSHeadRun.head_any (r := OpenLaw.row PySem.Challenge.rw_solvedpapers_k94_watched_pairs) (q := view (OpenLaw.row PySem.Challenge.rw_solvedpapers_k94_watched_pairs).prog [33]) (H := TW.hkX) (ob := TW.obX) (M := 4000) (loose := TW.namesX) (d := HandSHeadRun.topDef (OpenLaw.row PySem.Challenge.rw_solvedpapers_k94_watched_pairs).prog 33) (kwd := []) TW.obX_eq
    (by kernel_rfl) (fun s => by kernel_rfl) TW.runX (by kernel_rfl) (by kernel_rfl) (by kernel_rfl) (by rfl) (by first | assumption | decide +kernel) (by decide +kernel) ⟨rfl, rfl, rfl, rfl, rfl, by decide +kernel⟩ ?hw ?hc
  case hw => w_witness2
  case hc =>
    refine L2.walk_ofE (l := PySem.Challenge.rw_solvedpapers_k94_watched_pairs) (n := 63) (k := 11) (x := "script") (CX := L2.CX0) rfl (by decide) (by kernel_rfl) ⟨rfl, by decide, by decide⟩ ?F (fun _ _ _ _ z => z)
    intro w mg fa h Y G hmg0
    obtain ⟨K, KX, c, b⟩ := Y
    have T := TW.tx_of KX G c b
    have hmg : mg ("law" : PySem.Str) = some (.ref fa) := by
      have e : (HandSHeadRun.topDef (OpenLaw.row PySem.Challenge.rw_solvedpapers_k94_watched_pairs).prog 33).name = ("law" : PySem.Str) := by kernel_rfl
      rw [← e]
      exact hmg0
    have e := hmg.symm.trans T.g_law
    cases e
    obtain ⟨fd, F⟩ := T.fun_law
    have hb := L2.FunD.bindsA (ps := ["script"]) F fun _ _ _ _ _ _ us hl => match us, hl with | [_], _ => rfl
    refine ⟨K, fd, TW.sp_law K, KX, fun s v => hb s [v] rfl, fun H a ns hl _ hS => ⟨a, ns, rfl, hS, hl, fun _ => rfl⟩, fun base _ _ => TW.law_fn T F⟩

