import PyProof.Rows.All
import Wide.All
import OpenK.AllK
import Wide.FinOn
import HandS.ForMost
import HandS.ForExc
import HandS.Wide
import HandS.WideMore
import HandS.IsInst
import HandS.Defaults
import HandS.More
import HandS.Flow
import HandS.TryOnly
import HandS.Steps
import HandS.Sort
import HandS.SortKw
import HandS.Head0
import HandS.Head1
import HandS.Head2
import HandS.HeadEnd
import HandS.HeadHook1
import HandS.HeadHook2
import HandS.EndBits
import PyProof.LongRange
import PySem.Challenge.RW_timerdeque_k20_common_ticks
set_option Elab.async false
set_option linter.all false
set_option maxRecDepth 100000

namespace TD
open PySem PySem.Spec PyProof.Rows L2

/-- data: what never changes any more -/
inductive D where
  | non | bl (b : Bool) | int (i : Int) | str (x : Str) | lst (xs : List D) | tup (xs : List D) | ob (c : Addr) (fs : List (Str × D))
/-- what may still change -/
inductive MO where
  | dl (es : List D) | raw (o : HO)

mutual
inductive Rp (K : PySem.W.Frag) (G : Hp) : V → D → Prop
  | non : Rp K G .non .non
  | bl (b : Bool) : Rp K G (.bl b) (.bl b)
  | int (i : Int) : Rp K G (.int i) (.int i)
  | str (x : Str) : Rp K G (.str x) (.str x)
  | lst {a : Addr} {xs : List V} {ds : List D} : SqL K G a xs → RpAll K G xs ds → Rp K G (.ref a) (.lst ds)
  | tup {a : Addr} {xs : List V} {ds : List D} : SqT K G a xs → RpAll K G xs ds → Rp K G (.ref a) (.tup ds)
  | ob {a C dx : Addr} {fs : List (Str × V)} {gs : List (Str × D)} : G a = some (.ins C dx fs) → RpFs K G fs gs → Rp K G (.ref a) (.ob C gs)
inductive RpAll (K : PySem.W.Frag) (G : Hp) : List V → List D → Prop
  | nil : RpAll K G [] []
  | cons {v : V} {vs : List V} {d : D} {ds : List D} : Rp K G v d → RpAll K G vs ds → RpAll K G (v :: vs) (d :: ds)
inductive RpFs (K : PySem.W.Frag) (G : Hp) : List (Str × V) → List (Str × D) → Prop
  | nil : RpFs K G [] []
  | cons {f : Str} {v : V} {fs : List (Str × V)} {d : D} {gs : List (Str × D)} : Rp K G v d → RpFs K G fs gs → RpFs K G ((f, v) :: fs) ((f, d) :: gs)
end

section
variable {K : PySem.W.Frag} {G G' H H' : Hp} {a p : Addr} {o : HO} {xs : List V} {es : List D}
theorem same_new (h : H p = none) : Same H (upd H p o) := fun b x e => by
  rw [upd_ne (ne_of_none e h)]
  exact e
theorem sub_rd {u : HO} (s : Same G G') (h : Rd G a u) : Rd G' a u := by
  rcases h with h | ⟨o, h⟩
  · exact .inl (s _ _ h)
  · exact .inr ⟨o, s _ _ h⟩
theorem sub_sqt (s : Same G G') (h : SqT K G a xs) : SqT K G' a xs := by
  rcases h with h | h
  · exact .inl (sub_rd s h)
  · exact .inr h
mutual
theorem Rp.sub (s : Same G G') : ∀ {d : D} {v : V}, Rp K G v d → Rp K G' v d
  | _, _, .non => .non
  | _, _, .bl b => .bl b
  | _, _, .int i => .int i
  | _, _, .str x => .str x
  | _, _, .lst h t => .lst (s.seq h) (RpAll.sub s t)
  | _, _, .tup h t => .tup (sub_sqt s h) (RpAll.sub s t)
  | _, _, .ob h t => .ob (s _ _ h) (RpFs.sub s t)
theorem RpAll.sub (s : Same G G') : ∀ {ds : List D} {vs : List V}, RpAll K G vs ds → RpAll K G' vs ds
  | _, _, .nil => .nil
  | _, _, .cons h t => .cons (Rp.sub s h) (RpAll.sub s t)
theorem RpFs.sub (s : Same G G') : ∀ {ds : List (Str × D)} {vs : List (Str × V)}, RpFs K G vs ds → RpFs K G' vs ds
  | _, _, .nil => .nil
  | _, _, .cons h t => .cons (Rp.sub s h) (RpFs.sub s t)
end
theorem RpAll.len : ∀ {xs : List V} {es : List D}, RpAll K G xs es → xs.length = es.length
  | _, _, .nil => rfl
  | _, _, .cons _ t => congrArg Nat.succ (RpAll.len t)
theorem RpAll.app : ∀ {xs ys : List V} {es fs : List D}, RpAll K G xs es → RpAll K G ys fs → RpAll K G (xs ++ ys) (es ++ fs)
  | _, _, _, _, .nil, t => t
  | _, _, _, _, .cons h s, t => .cons h (RpAll.app s t)
theorem RpAll.get : ∀ {xs : List V} {es : List D} {i : Nat} {e : D}, RpAll K G xs es → es[i]? = some e → ∃ v, xs[i]? = some v ∧ Rp K G v e
  | _, _, _, _, .nil, e => by simp at e
  | _, _, 0, _, .cons h _, e => by
    simp at e
    subst e
    exact ⟨_, rfl, h⟩
  | _, _, i + 1, _, .cons _ t, e => by
    obtain ⟨v, h1, h2⟩ := RpAll.get (i := i) t (by simpa using e)
    exact ⟨v, by simpa using h1, h2⟩
theorem RpAll.set : ∀ {xs : List V} {es : List D} {v : V} {e : D} (i : Nat), RpAll K G xs es → Rp K G v e → RpAll K G (xs.set i v) (es.set i e)
  | _, _, _, _, _, .nil, _ => .nil
  | _, _, _, _, 0, .cons _ t, h => .cons h t
  | _, _, _, _, i + 1, .cons h t, q => .cons h (RpAll.set i t q)
theorem RpAll.take : ∀ {xs : List V} {es : List D} (n : Nat), RpAll K G xs es → RpAll K G (xs.take n) (es.take n)
  | _, _, 0, _ => .nil
  | _, _, _ + 1, .nil => .nil
  | _, _, n + 1, .cons h t => .cons h (RpAll.take n t)
theorem RpAll.drop : ∀ {xs : List V} {es : List D} (n : Nat), RpAll K G xs es → RpAll K G (xs.drop n) (es.drop n)
  | _, _, 0, r => r
  | _, _, _ + 1, .nil => .nil
  | _, _, n + 1, .cons _ t => RpAll.drop n t
theorem RpAll.rev : ∀ {xs : List V} {es : List D}, RpAll K G xs es → RpAll K G xs.reverse es.reverse
  | _, _, .nil => .nil
  | _, _, .cons h t => by
    rw [List.reverse_cons, List.reverse_cons]
    exact RpAll.app (RpAll.rev t) (.cons h .nil)
theorem RpAll.ints : ∀ {xs : List V} {ns : List Int}, RpAll K G xs (ns.map D.int) → xs = ns.map V.int
  | [], [], _ => rfl
  | _, n :: ns, h => by
    cases h with
    | cons h t =>
      cases h
      rw [RpAll.ints t]
      rfl
theorem RpAll.ofInts : ∀ (ns : List Int), RpAll K G (ns.map V.int) (ns.map D.int)
  | [] => .nil
  | n :: ns => .cons (.int n) (RpAll.ofInts ns)
theorem RpAll.strs : ∀ {xs : List V} {ns : List Str}, RpAll K G xs (ns.map D.str) → xs = ns.map V.str
  | [], [], _ => rfl
  | _, n :: ns, h => by
    cases h with
    | cons h t =>
      cases h
      rw [RpAll.strs t]
      rfl
theorem RpAll.bls : ∀ {xs : List V} {ns : List Bool}, RpAll K G xs (ns.map D.bl) → xs = ns.map V.bl
  | [], [], _ => rfl
  | _, n :: ns, h => by
    cases h with
    | cons h t =>
      cases h
      rw [RpAll.bls t]
      rfl
end

/-- an object that may change, as it stands -/
def HasO (K : PySem.W.Frag) (H G : Hp) (a : Addr) : MO → Prop
  | .raw o => H a = some o
  | .dl es => ∃ xs, H a = some (.lst xs) ∧ RpAll K G xs es
/-- the state: l the objects that may change, ds the data in hand -/
def S (K : PySem.W.Frag) (H : Hp) (l : List (Addr × MO)) (ds : List (V × D)) : Prop :=
  ∃ G : Hp, Same G H ∧ (l.map (·.1)).Nodup ∧ (∀ q ∈ l, G q.1 = none ∧ HasO K H G q.1 q.2) ∧ ∀ q ∈ ds, Rp K G q.1 q.2

/-- a value whose data is known -/
def Kn (ds : List (V × D)) (v : V) (d : D) : Prop := (∀ K G, Rp K G v d) ∨ (v, d) ∈ ds
theorem kn_int {ds : List (V × D)} {i : Int} : Kn ds (.int i) (.int i) := .inl fun _ _ => .int i
theorem kn_str {ds : List (V × D)} {i : Str} : Kn ds (.str i) (.str i) := .inl fun _ _ => .str i
theorem kn_bl {ds : List (V × D)} {i : Bool} : Kn ds (.bl i) (.bl i) := .inl fun _ _ => .bl i
theorem kn_non {ds : List (V × D)} : Kn ds .non .non := .inl fun _ _ => .non
theorem kn_ix {ds : List (V × D)} {v : V} {d : D} (j : Nat) (h : ds[j]? = some (v, d)) : Kn ds v d := .inr (List.mem_of_getElem? h)
def KnAll (ds : List (V × D)) : List V → List D → Prop
  | [], [] => True
  | v :: vs, d :: es => Kn ds v d ∧ KnAll ds vs es
  | _, _ => False

section
variable {K : PySem.W.Frag} {G G' H H' : Hp} {a p : Addr} {o : HO} {xs : List V} {es : List D} {l l' : List (Addr × MO)} {ds ds' : List (V × D)} {v x : V} {d e : D} {mo : MO} {i : Nat}
theorem Kn.rp (h : Kn ds v d) (r : ∀ q ∈ ds, Rp K G q.1 q.2) : Rp K G v d := by
  rcases h with h | h
  · exact h K G
  · exact r _ h
theorem KnAll.rp (r : ∀ q ∈ ds, Rp K G q.1 q.2) : ∀ {xs : List V} {es : List D}, KnAll ds xs es → RpAll K G xs es
  | [], [], _ => .nil
  | _ :: _, _ :: _, ⟨h, t⟩ => .cons (h.rp r) (KnAll.rp r t)
theorem HasO.sub (s : Same H H') (g : Same G G') (h : HasO K H G a mo) : HasO K H' G' a mo := by
  cases mo with
  | raw o => exact s _ _ h
  | dl es =>
    obtain ⟨xs, h1, h2⟩ := h
    exact ⟨xs, s _ _ h1, h2.sub g⟩
theorem HasO.ex (h : HasO K H G a mo) : ∃ o, H a = some o := by
  cases mo with
  | raw o => exact ⟨_, h⟩
  | dl es =>
    obtain ⟨xs, h1, _⟩ := h
    exact ⟨_, h1⟩
/-- the heap grows -/
theorem S.sub (h : S K H l ds) (s : Same H H') : S K H' l ds := by
  obtain ⟨G, g, nd, hl, hd⟩ := h
  exact ⟨G, g.trans s, nd, fun q hq => ⟨(hl q hq).1, (hl q hq).2.sub s (Same.refl G)⟩, hd⟩
/-- facts are forgotten, scalars are known -/
theorem S.facts (h : S K H l ds) (k : ∀ q ∈ ds', Kn ds q.1 q.2) : S K H l ds' := by
  obtain ⟨G, g, nd, hl, hd⟩ := h
  exact ⟨G, g, nd, hl, fun q hq => (k q hq).rp hd⟩
theorem S.know (h : S K H l ds) (k : Kn ds v d) : S K H l ((v, d) :: ds) := by
  obtain ⟨G, g, nd, hl, hd⟩ := h
  refine ⟨G, g, nd, hl, fun q hq => ?_⟩
  rcases List.mem_cons.mp hq with e | hq
  · rw [e]
    exact k.rp hd
  · exact hd q hq
theorem S.forget (h : S K H l (q :: ds)) : S K H l ds := h.facts fun z hz => .inr (List.mem_cons_of_mem _ hz)
theorem S.nil (h : S K H l ds) : S K H l [] := h.facts fun _ hz => nomatch hz
/-- objects are forgotten, or stand in another order -/
theorem S.objs (h : S K H l ds) (nd : (l'.map (·.1)).Nodup) (k : ∀ q ∈ l', q ∈ l) : S K H l' ds := by
  obtain ⟨G, g, _, hl, hd⟩ := h
  exact ⟨G, g, nd, fun q hq => hl q (k q hq), hd⟩
theorem S.perm (h : S K H l ds) (k : l'.Perm l) : S K H l' ds := by
  obtain ⟨G, g, nd, hl, hd⟩ := h
  exact ⟨G, g, (k.map (·.1)).nodup_iff.mpr nd, fun q hq => hl q (k.mem_iff.mp hq), hd⟩
theorem S.drop (h : S K H (q :: l) ds) : S K H l ds := by
  obtain ⟨G, g, nd, hl, hd⟩ := h
  exact ⟨G, g, (List.nodup_cons.mp nd).2, fun q hq => hl q (List.mem_cons_of_mem _ hq), hd⟩
theorem S.swap {q r : Addr × MO} (h : S K H (q :: r :: l) ds) : S K H (r :: q :: l) ds := h.perm (List.Perm.swap _ _ _)
theorem S.dropAll (h : S K H l ds) : S K H [] ds := by
  obtain ⟨G, g, nd, hl, hd⟩ := h
  exact ⟨G, g, List.nodup_nil, fun q hq => (nomatch hq), hd⟩
/-- a new object -/
theorem S.fresh (h : S K H l ds) (hp : H p = none) (hm : ∀ G, Same G H → (∀ q ∈ ds, Rp K G q.1 q.2) → HasO K (upd H p o) G p mo) : S K (upd H p o) ((p, mo) :: l) ds := by
  obtain ⟨G, g, nd, hl, hd⟩ := h
  have gp : G p = Option.none := g.free hp
  refine ⟨G, g.trans (same_new hp), List.nodup_cons.mpr ⟨fun hm => ?_, nd⟩, fun q hq => ?_, hd⟩
  · obtain ⟨q, hq, e⟩ := List.mem_map.mp hm
    obtain ⟨u, hu⟩ := (hl q hq).2.ex
    rw [e, hp] at hu
    cases hu
  · rcases List.mem_cons.mp hq with e | hq
    · rw [e]
      exact ⟨gp, hm G g hd⟩
    · exact ⟨(hl q hq).1, (hl q hq).2.sub (same_new hp) (Same.refl G)⟩
theorem S.freshRaw (h : S K H l ds) (hp : H p = none) : S K (upd H p o) ((p, .raw o) :: l) ds := h.fresh hp fun _ _ _ => upd_same
theorem S.freshDl (h : S K H l ds) (hp : H p = none) (k : KnAll ds xs es) : S K (upd H p (.lst xs)) ((p, .dl es) :: l) ds := h.fresh hp fun _ _ r => ⟨xs, upd_same, k.rp r⟩
/-- a mutable list freezes -/
theorem freeze_aux {u : HO} (h : S K H ((p, mo) :: l) ds) (hu : H p = some u) (hr : ∀ G, Same G H → G p = none → HasO K H G p mo → (∀ G', Same G G' → G' p = some u → Rp K G' v d)) : S K H l ((v, d) :: ds) := by
  obtain ⟨G, g, nd, hl, hd⟩ := h
  obtain ⟨n1, n2⟩ := List.nodup_cons.mp nd
  obtain ⟨gp, hm⟩ := hl (p, mo) List.mem_cons_self
  have s1 : Same G (upd G p u) := same_new gp
  refine ⟨upd G p u, fun b x e => ?_, n2, fun q hq => ?_, fun q hq => ?_⟩
  · by_cases hb : b = p
    · subst hb
      rw [upd_same] at e
      cases e
      exact hu
    · rw [upd_ne hb] at e
      exact g b x e
  · have nq : q.1 ≠ p := fun e => n1 (List.mem_map.mpr ⟨q, hq, e⟩)
    obtain ⟨h1, h2⟩ := hl q (List.mem_cons_of_mem _ hq)
    exact ⟨by rw [upd_ne nq]; exact h1, h2.sub (Same.refl H) s1⟩
  · rcases List.mem_cons.mp hq with e | hq
    · rw [e]
      exact hr G g gp hm _ s1 upd_same
    · exact (hd q hq).sub s1
theorem S.freeze (h : S K H ((p, .dl es) :: l) ds) : S K H l ((.ref p, .lst es) :: ds) := by
  obtain ⟨G, g, nd, hl, hd⟩ := id h
  obtain ⟨gp, xs, h1, h2⟩ := hl _ List.mem_cons_self
  refine freeze_aux h h1 fun G g gp hm G' s e => ?_
  obtain ⟨ys, h3, h4⟩ := hm
  rw [h1] at h3
  cases h3
  exact .lst (.inl (.inl e)) (h4.sub s)
theorem S.freezeTup (h : S K H ((p, .raw (.tup xs)) :: l) ds) (k : KnAll ds xs es) : S K H l ((.ref p, .tup es) :: ds) := by
  obtain ⟨G, g, nd, hl, hd⟩ := id h
  obtain ⟨gp, h1⟩ := hl _ List.mem_cons_self
  obtain ⟨G1, g1, nd1, hl1, hd1⟩ := id h.drop
  refine S.perm (l := l) ?_ (List.Perm.refl l)
  have hr := k.rp hd
  obtain ⟨n1, n2⟩ := List.nodup_cons.mp nd
  have s1 : Same G (upd G p (.tup xs)) := same_new gp
  refine ⟨upd G p (.tup xs), fun b x e => ?_, n2, fun q hq => ?_, fun q hq => ?_⟩
  · by_cases hb : b = p
    · subst hb
      rw [upd_same] at e
      cases e
      exact h1
    · rw [upd_ne hb] at e
      exact g b x e
  · have nq : q.1 ≠ p := fun e => n1 (List.mem_map.mpr ⟨q, hq, e⟩)
    obtain ⟨h1, h2⟩ := hl q (List.mem_cons_of_mem _ hq)
    exact ⟨by rw [upd_ne nq]; exact h1, h2.sub (Same.refl H) s1⟩
  · rcases List.mem_cons.mp hq with e | hq
    · rw [e]
      exact .tup (.inl (.inl upd_same)) (hr.sub s1)
    · exact (hd q hq).sub s1
theorem S.tup (h : S K H l ds) (hp : H p = none) (k : KnAll ds xs es) : S K (upd H p (.tup xs)) l ((.ref p, .tup es) :: ds) := (h.freshRaw hp).freezeTup k
theorem S.lst (h : S K H l ds) (hp : H p = none) (k : KnAll ds xs es) : S K (upd H p (.lst xs)) l ((.ref p, .lst es) :: ds) := (h.freshDl hp k).freeze
/-- reading -/
theorem S.rp (h : S K H l ds) (k : Kn ds v d) : Rp K H v d := by
  obtain ⟨G, g, nd, hl, hd⟩ := h
  exact (k.rp hd).sub g
theorem S.int {j : Int} (h : S K H l ds) (k : Kn ds v (.int j)) : v = .int j := by
  have r := h.rp k
  cases r
  rfl
theorem S.has (h : S K H l ds) (hi : l[i]? = some (a, mo)) : HasO K H H a mo := by
  obtain ⟨G, g, nd, hl, hd⟩ := h
  exact (hl _ (List.mem_of_getElem? hi)).2.sub (Same.refl H) g
theorem S.raw (h : S K H l ds) (hi : l[i]? = some (a, .raw o)) : H a = some o := h.has hi
/-- the items of a list, a tuple -/
theorem S.lstD (h : S K H l ds) (k : Kn ds (.ref a) (.lst es)) : ∃ xs, SqL K H a xs ∧ xs.length = es.length ∧ S K H l (xs.zip es ++ ds) ∧ RpAll K H xs es := by
  obtain ⟨G, g, nd, hl, hd⟩ := h
  have r := k.rp hd
  cases r with
  | lst hs ht =>
    refine ⟨_, g.seq hs, ht.len, ⟨G, g, nd, hl, fun q hq => ?_⟩, ht.sub g⟩
    rcases List.mem_append.mp hq with hq | hq
    · obtain ⟨i, hi⟩ := List.mem_iff_getElem?.mp hq
      obtain ⟨h1, h2⟩ := List.getElem?_zip_eq_some.mp hi
      obtain ⟨v, h3, h4⟩ := ht.get h2
      rw [h1] at h3
      cases h3
      exact h4
    · exact hd q hq
theorem S.tupD (h : S K H l ds) (k : Kn ds (.ref a) (.tup es)) : ∃ xs, SqT K H a xs ∧ xs.length = es.length ∧ S K H l (xs.zip es ++ ds) ∧ RpAll K H xs es := by
  obtain ⟨G, g, nd, hl, hd⟩ := h
  have r := k.rp hd
  cases r with
  | tup hs ht =>
    refine ⟨_, sub_sqt g hs, ht.len, ⟨G, g, nd, hl, fun q hq => ?_⟩, ht.sub g⟩
    rcases List.mem_append.mp hq with hq | hq
    · obtain ⟨i, hi⟩ := List.mem_iff_getElem?.mp hq
      obtain ⟨h1, h2⟩ := List.getElem?_zip_eq_some.mp hi
      obtain ⟨v, h3, h4⟩ := ht.get h2
      rw [h1] at h3
      cases h3
      exact h4
    · exact hd q hq
theorem S.dlD (h : S K H l ds) (hi : l[i]? = some (a, .dl es)) : ∃ xs, H a = some (.lst xs) ∧ xs.length = es.length ∧ S K H l (xs.zip es ++ ds) ∧ RpAll K H xs es := by
  obtain ⟨G, g, nd, hl, hd⟩ := h
  obtain ⟨gp, xs, hx, ht⟩ := hl _ (List.mem_of_getElem? hi)
  refine ⟨xs, hx, ht.len, ⟨G, g, nd, hl, fun q hq => ?_⟩, ht.sub g⟩
  rcases List.mem_append.mp hq with hq | hq
  · obtain ⟨i, hi⟩ := List.mem_iff_getElem?.mp hq
    obtain ⟨h1, h2⟩ := List.getElem?_zip_eq_some.mp hi
    obtain ⟨v, h3, h4⟩ := ht.get h2
    rw [h1] at h3
    cases h3
    exact h4
  · exact hd q hq
/-- writing -/
theorem S.write (h : S K H l ds) (hi : l[i]? = some (a, mo)) {mo' : MO} (hm : ∀ G, Same G H → G a = none → HasO K H G a mo → (∀ q ∈ ds, Rp K G q.1 q.2) → HasO K (upd H a o) G a mo') : S K (upd H a o) (l.set i (a, mo')) ds := by
  obtain ⟨G, g, nd, hl, hd⟩ := h
  obtain ⟨gp, h0⟩ := hl _ (List.mem_of_getElem? hi)
  have hlt : i < l.length := (List.getElem?_eq_some_iff.mp hi).1
  have keys : (l.set i (a, mo')).map (·.1) = l.map (·.1) := by
    rw [List.map_set]
    apply List.ext_getElem?
    intro j
    by_cases hj : i = j
    · subst hj
      rw [List.getElem?_set_self (by simpa using hlt), List.getElem?_map, hi]
      rfl
    · rw [List.getElem?_set_ne hj]
  refine ⟨G, fun b x e => ?_, by rw [keys]; exact nd, fun q hq => ?_, hd⟩
  · have hb : b ≠ a := fun z => by
      rw [z, gp] at e
      cases e
    rw [upd_ne hb]
    exact g b x e
  · obtain ⟨j, hj⟩ := List.mem_iff_getElem?.mp hq
    by_cases hij : i = j
    · subst hij
      rw [List.getElem?_set_self hlt] at hj
      cases hj
      exact ⟨gp, hm G g gp h0 hd⟩
    · rw [List.getElem?_set_ne hij] at hj
      obtain ⟨h1, h2⟩ := hl q (List.mem_of_getElem? hj)
      have nq : q.1 ≠ a := fun z => by
        refine hij ?_
        refine nd_ix nd (x := a) ?_ ?_
        · rw [List.getElem?_map, hi]
          rfl
        · rw [List.getElem?_map, hj]
          exact congrArg Option.some z
      refine ⟨h1, ?_⟩
      cases h3 : q.2 with
      | raw u =>
        rw [h3] at h2
        show upd H a o q.1 = Option.some u
        rw [upd_ne nq]
        exact h2
      | dl es =>
        rw [h3] at h2
        obtain ⟨xs, h4, h5⟩ := h2
        exact ⟨xs, by rw [upd_ne nq]; exact h4, h5⟩
theorem S.writeRaw (h : S K H l ds) (hi : l[i]? = some (a, mo)) : S K (upd H a o) (l.set i (a, .raw o)) ds := h.write hi fun _ _ _ _ _ => upd_same
theorem S.writeDl (h : S K H l ds) (hi : l[i]? = some (a, .dl es)) {es' : List D} {xs' : List V} (hx : ∀ G xs, H a = some (.lst xs) → RpAll K G xs es → (∀ q ∈ ds, Rp K G q.1 q.2) → RpAll K G xs' es') : S K (upd H a (.lst xs')) (l.set i (a, .dl es')) ds :=
  h.write hi fun G _ _ h0 r => by
    obtain ⟨xs, h1, h2⟩ := h0
    exact ⟨xs', upd_same, hx G xs h1 h2 r⟩
end
end TD

namespace TD
open PySem PySem.Spec PyProof.Rows L2

theorem nr {α : Sort u} {a b : α} (h : a = b) : a = b := h
abbrev oAdd : R2 := rI0 fun i j => .int (i + j)
abbrev oSub : R2 := rI0 fun i j => .int (i - j)
def CMulZ (i j : Int) : Prop := i.natAbs.log2 + j.natAbs.log2 < 100000000
abbrev oMul : R2 := rI CMulZ fun i j => .int (i * j)
abbrev oDiv : R2 := rI CDivW fun i j => .int (i / j)
abbrev oMod : R2 := rI (fun _ j => 0 < j) fun i j => .int (i % j)
abbrev oPow : R2 := rI CPow fun i j => .int (i ^ j.toNat)
abbrev oLt : R2 := rI0 fun i j => .bl (decide (i < j))
abbrev oLe : R2 := rI0 fun i j => .bl (decide (i ≤ j))
abbrev oGt : R2 := rI0 fun i j => .bl (decide (j < i))
abbrev oGe : R2 := rI0 fun i j => .bl (decide (j ≤ i))
theorem CMulZ.ok {i j : Int} (h : CMulZ i j) : IntMulOk i j := by
  have b : ∀ x : Int, Builtin.Int.intBits x ≤ x.natAbs.log2 + 1 := fun x => by
    unfold Builtin.Int.intBits
    split <;> omega
  have h1 := b i
  have h2 := b j
  have h3 : i.natAbs.log2 + j.natAbs.log2 < 100000000 := h
  have e : bitsLine = 134217728 := by decide
  unfold IntMulOk
  intro z
  rw [Bool.and_eq_true] at z
  have z2 := z.2
  unfold Builtin.Int.intTooBig at z2
  have z3 := of_decide_eq_true z2
  rw [e] at z3
  omega
theorem op_mulZ {X : Cx} : OpR X (binaryOp .Mult) oMul := opI fun _ _ _ _ _ _ _ hc q => mul_int q hc.ok
/-- a great bound for numbers -/
def big : Int := 2 ^ 4000
theorem big_ge : (10 : Int) ^ 200 < big := by unfold big; decide +kernel
theorem log2_big {i : Int} (h1 : -big < i) (h2 : i < big) : i.natAbs.log2 < 4000 := by
  have h : i.natAbs < 2 ^ 4000 := by
    have e : big = ((2 ^ 4000 : Nat) : Int) := by unfold big; decide +kernel
    rw [e] at h1 h2
    omega
  exact PySem.Flt.log2_lt_of (by decide) h
theorem cm {i j : Int} (h1 : -big < i) (h2 : i < big) (h3 : -big < j) (h4 : j < big) : CMulZ i j := by
  have a := log2_big h1 h2
  have b := log2_big h3 h4
  unfold CMulZ
  omega
theorem cd {i j : Int} (h1 : 0 < j) (h2 : j < big) : CDivW i j := ⟨h1, Nat.lt_trans (log2_big (by omega) h2) (by decide)⟩

section
variable {σ : L2.St} {H : Hp} {Q : VK} {QT : Bool → Hp → Prop} {QA : List V → Hp → Prop} {D : Ends} {t u : TS} {te ta tb : TE} {tt tu : TT} {tr : TA} {i j : Int} {k n : Nat} {v x : V} {g : Int → Int → V} {C : Int → Int → Prop} {r : R2} {sp : Sp} {dvs : List V} {E : XK} {b c : Bool} {o : Option V}
theorem e_seq : tSeq t u D σ H = t { D with nx := u D } σ H := nr rfl
theorem e_next : tNext D σ H = D.nx σ H := nr rfl
theorem e_asg : tAsg te (gName k) D σ H = te σ H fun v H1 => D.nx (σ.set k (some v)) H1 := nr rfl
theorem e_drop : tDrop te D σ H = te σ H fun _ H1 => D.nx σ H1 := nr rfl
theorem e_ret : tRet te D σ H = te σ H D.rt := nr rfl
theorem e_retN : tRetN D σ H = D.rt .non H := nr rfl
theorem e_ifS : tIfS tt t u D σ H = tt σ H fun b H1 => if b = true then t D σ H1 else u D σ H1 := nr rfl
theorem e_var0 : tVar 0 (some v :: σ) H Q = Q v H := propext ⟨fun ⟨w, e, q⟩ => by cases e; exact q, fun q => ⟨v, rfl, q⟩⟩
theorem e_varS : tVar (k + 1) (o :: σ) H Q = tVar k σ H Q := nr rfl
theorem e_c : tC v σ H Q = Q v H := nr rfl
theorem e_op : tOp r ta tb σ H Q = ta σ H fun x H1 => tb σ H1 fun y H2 => r x y H2 Q := nr rfl
theorem e_un {r : V → Hp → VK → Prop} : tUn r ta σ H Q = ta σ H fun x H1 => r x H1 Q := nr rfl
theorem e_rI0 : rI0 g (.int i) (.int j) H Q = Q (g i j) H := propext ⟨fun ⟨_, _, e1, e2, q⟩ => by cases e1; cases e2; exact q, fun q => ⟨_, _, rfl, rfl, q⟩⟩
theorem e_rI : rI C g (.int i) (.int j) H Q = (C i j ∧ Q (g i j) H) := propext ⟨fun ⟨_, _, e1, e2, c, q⟩ => by cases e1; cases e2; exact ⟨c, q⟩, fun ⟨c, q⟩ => ⟨_, _, rfl, rfl, c, q⟩⟩
theorem e_rU {g : Int → V} : rU g (.int i) H Q = Q (g i) H := propext ⟨fun ⟨_, e1, q⟩ => by cases e1; exact q, fun q => ⟨_, rfl, q⟩⟩
theorem e_test : tTest te σ H QT = te σ H fun x H1 => ∃ k, x = .bl k ∧ QT k H1 := nr rfl
theorem e_B : tB te σ H QT = te σ H fun x H1 => ∃ k, x = .bl k ∧ QT k H1 := nr rfl
theorem e_bl {P : Bool → Prop} : (∃ k, V.bl b = .bl k ∧ P k) = P b := propext ⟨fun ⟨_, e, q⟩ => by cases e; exact q, fun q => ⟨_, rfl, q⟩⟩
theorem e_and : tAnd tt tu σ H QT = tt σ H fun c H1 => if c = true then tu σ H1 QT else QT false H1 := nr rfl
theorem e_or : tOr tt tu σ H QT = tt σ H fun c H1 => if c = true then QT true H1 else tu σ H1 QT := nr rfl
theorem e_not : tNot tt σ H QT = tt σ H fun c H1 => QT (!c) H1 := nr rfl
theorem e_andV : tAndV ta tb σ H Q = ta σ H fun x H1 => ∃ c, x = .bl c ∧ if c = true then tb σ H1 Q else Q (.bl false) H1 := nr rfl
theorem e_orV : tOrV ta tb σ H Q = ta σ H fun x H1 => ∃ c, x = .bl c ∧ if c = true then Q (.bl true) H1 else tb σ H1 Q := nr rfl
theorem e_notV : tNotV ta σ H Q = ta σ H fun x H1 => ∃ c, x = .bl c ∧ Q (.bl (!c)) H1 := nr rfl
theorem e_if : tIf tt ta tb σ H Q = tt σ H fun c H1 => if c = true then ta σ H1 Q else tb σ H1 Q := nr rfl
theorem e_nil : tNil σ H QA = QA [] H := nr rfl
theorem e_cons : tCons ta tr σ H QA = ta σ H fun x H1 => tr σ H1 fun xs H2 => QA (x :: xs) H2 := nr rfl
theorem e_call : tCall sp dvs E tr σ H Q = tr σ H fun vs H1 => sp (vs ++ dvs) H1 Q E := nr rfl
theorem e_cb {r : List V → Hp → VK → Prop} : tCB r tr σ H Q = tr σ H fun vs H1 => r vs H1 Q := nr rfl
theorem e_par {i j : Nat} {ta : TA} : tPar i j ta D σ H = ta σ H fun vs H1 => ∃ v w, vs = [v, w] ∧ D.nx ((σ.set i (some v)).set j (some w)) H1 := nr rfl
theorem e_par2 {P : V → V → Prop} {a b : V} : (∃ v w, [a, b] = [v, w] ∧ P v w) = P a b := propext ⟨fun ⟨_, _, e, q⟩ => by cases e; exact q, fun q => ⟨_, _, rfl, q⟩⟩
theorem e_isN : tIsN ta σ H Q = ta σ H fun x H1 => Q (.bl (decide (x = .non))) H1 := nr rfl
theorem e_notN : tNotN ta σ H Q = ta σ H fun x H1 => Q (.bl (!decide (x = .non))) H1 := nr rfl
theorem e_chain {r r' : R2} {tc : TE} : tChain r r' ta tb tc σ H Q = ta σ H fun x H1 => tb σ H1 fun y H2 => r x y H2 fun z H3 => ∃ k, z = .bl k ∧ (if k = true then tc σ H3 fun w' H4 => r' y w' H4 Q else Q (.bl false) H3) := nr rfl
theorem e_aug {ti : TIp} : tAug k te ti D (σ) H = ∃ x, σ[k]? = some (some x) ∧ te σ H fun y H1 => ti x y H1 fun z H2 => D.nx (σ.set k (some z)) H2 := nr rfl
theorem e_ipI {f : Int → Int → Int} : ipI f (.int i) (.int j) H Q = Q (.int (f i j)) H := propext ⟨fun ⟨_, _, e1, e2, q⟩ => by cases e1; cases e2; exact q, fun q => ⟨_, _, rfl, rfl, q⟩⟩
theorem e_eqI : rEq (.int i) (.int j) H Q = Q (.bl (decide (i = j))) H := propext ⟨fun ⟨_, q⟩ => by
  have e : decide (V.int i = V.int j) = decide (i = j) := by simp
  rw [e] at q; exact q, fun q => ⟨rfl, by
  have e : decide (V.int i = V.int j) = decide (i = j) := by simp
  rw [e]; exact q⟩⟩
theorem e_neI : rNe (.int i) (.int j) H Q = Q (.bl (!decide (i = j))) H := propext ⟨fun ⟨_, q⟩ => by
  have e : decide (V.int i = V.int j) = decide (i = j) := by simp
  rw [e] at q; exact q, fun q => ⟨rfl, by
  have e : decide (V.int i = V.int j) = decide (i = j) := by simp
  rw [e]; exact q⟩⟩
theorem e_some {P : V → Prop} : (∃ y, (some (some v) : Option (Option V)) = some (some y) ∧ P y) = P v := propext ⟨fun ⟨_, e, q⟩ => by cases e; exact q, fun q => ⟨_, rfl, q⟩⟩
end
section
variable {K : PySem.W.Frag} {H : Hp} {l : List (Addr × MO)} {ds : List (V × D)} {a p : Addr} {es : List D} {e : D} {v x y : V} {Q : VK} {n k i j : Nat} {z : Int} {xs : List V} {σ : L2.St} {R : Hp → Prop}
theorem small {n : Nat} (h : n ≤ 1000000) : n ≤ sizeLine := Nat.le_trans h (by decide)
theorem smallL {n : Nat} (h : n < 1000000) : n < sizeLine := Nat.lt_of_lt_of_le h (by decide)
/-- xs[i] of data -/
theorem w_ixL (hs : S K H l ds) (hd : Kn ds (.ref a) (.lst es)) (hz : z = (k : Int)) (he : es[k]? = some e) (q : ∀ v, S K H l ((v, e) :: ds) → Q v H) : rIxL K (.ref a) (.int z) H Q := by
  obtain ⟨xs, h1, h2, h3, h4⟩ := hs.lstD hd
  obtain ⟨v, h5, h6⟩ := h4.get he
  refine ⟨a, xs, z, v, rfl, rfl, h1, at_of hz h5, q v (h3.facts fun q hq => ?_)⟩
  rcases List.mem_cons.mp hq with e1 | hq
  · rw [e1]
    exact .inr (List.mem_append_left _ (List.mem_of_getElem? (List.getElem?_zip_eq_some.mpr ⟨h5, he⟩)))
  · exact .inr (List.mem_append_right _ hq)
theorem w_ixT (hs : S K H l ds) (hd : Kn ds (.ref a) (.tup es)) (hz : z = (k : Int)) (he : es[k]? = some e) (q : ∀ v, S K H l ((v, e) :: ds) → Q v H) : rIxT K (.ref a) (.int z) H Q := by
  obtain ⟨xs, h1, h2, h3, h4⟩ := hs.tupD hd
  obtain ⟨v, h5, h6⟩ := h4.get he
  refine ⟨a, xs, z, v, rfl, rfl, h1, at_of hz h5, q v (h3.facts fun q hq => ?_)⟩
  rcases List.mem_cons.mp hq with e1 | hq
  · rw [e1]
    exact .inr (List.mem_append_left _ (List.mem_of_getElem? (List.getElem?_zip_eq_some.mpr ⟨h5, he⟩)))
  · exact .inr (List.mem_append_right _ hq)
theorem w_ixM (hs : S K H l ds) (hi : l[i]? = some (a, .dl es)) (hz : z = (k : Int)) (he : es[k]? = some e) (q : ∀ v, S K H l ((v, e) :: ds) → Q v H) : rIxL K (.ref a) (.int z) H Q := by
  obtain ⟨xs, h1, h2, h3, h4⟩ := hs.dlD hi
  obtain ⟨v, h5, h6⟩ := h4.get he
  refine ⟨a, xs, z, v, rfl, rfl, .inl (.inl h1), at_of hz h5, q v (h3.facts fun q hq => ?_)⟩
  rcases List.mem_cons.mp hq with e1 | hq
  · rw [e1]
    exact .inr (List.mem_append_left _ (List.mem_of_getElem? (List.getElem?_zip_eq_some.mpr ⟨h5, he⟩)))
  · exact .inr (List.mem_append_right _ hq)
/-- .. where the item is a number -/
theorem w_ixLi {m : Int} (hs : S K H l ds) (hd : Kn ds (.ref a) (.lst es)) (hz : z = (k : Int)) (he : es[k]? = some (.int m)) (q : Q (.int m) H) : rIxL K (.ref a) (.int z) H Q :=
  w_ixL hs hd hz he fun v h => by rw [h.int (kn_ix 0 rfl)]; exact q
theorem w_ixTi {m : Int} (hs : S K H l ds) (hd : Kn ds (.ref a) (.tup es)) (hz : z = (k : Int)) (he : es[k]? = some (.int m)) (q : Q (.int m) H) : rIxT K (.ref a) (.int z) H Q :=
  w_ixT hs hd hz he fun v h => by rw [h.int (kn_ix 0 rfl)]; exact q
theorem w_ixMi {m : Int} (hs : S K H l ds) (hi : l[i]? = some (a, .dl es)) (hz : z = (k : Int)) (he : es[k]? = some (.int m)) (q : Q (.int m) H) : rIxL K (.ref a) (.int z) H Q :=
  w_ixM hs hi hz he fun v h => by rw [h.int (kn_ix 0 rfl)]; exact q
/-- displays -/
def NewL (xs : List V) (H : Hp) (Q : VK) : Prop := xs.length ≤ sizeLine ∧ ∀ p, H p = none → Q (.ref p) (upd H p (.lst xs))
def NewT (xs : List V) (H : Hp) (Q : VK) : Prop := xs.length ≤ sizeLine ∧ ∀ p, H p = none → Q (.ref p) (upd H p (.tup xs))
theorem d_lstM {es : List D} (hs : S K H l ds) (hk : KnAll ds xs es) (hl : es.length ≤ 1000000) (q : ∀ p H', S K H' ((p, .dl es) :: l) ds → Q (.ref p) H') : NewL xs H Q := by
  obtain ⟨G, g, nd, _, hd⟩ := id hs
  have e := (hk.rp hd).len
  exact ⟨small (by omega), fun p hp => q p _ (hs.freshDl hp hk)⟩
theorem d_lst {es : List D} (hs : S K H l ds) (hk : KnAll ds xs es) (hl : es.length ≤ 1000000) (q : ∀ p H', S K H' l ((.ref p, .lst es) :: ds) → Q (.ref p) H') : NewL xs H Q := by
  obtain ⟨G, g, nd, _, hd⟩ := id hs
  have e := (hk.rp hd).len
  exact ⟨small (by omega), fun p hp => q p _ (hs.lst hp hk)⟩
theorem d_tup {es : List D} (hs : S K H l ds) (hk : KnAll ds xs es) (hl : es.length ≤ 1000000) (q : ∀ p H', S K H' l ((.ref p, .tup es) :: ds) → Q (.ref p) H') : NewT xs H Q := by
  obtain ⟨G, g, nd, _, hd⟩ := id hs
  have e := (hk.rp hd).len
  exact ⟨small (by omega), fun p hp => q p _ (hs.tup hp hk)⟩
/-- a mutable list written -/
theorem w_setL (hs : S K H l ds) (hi : l[i]? = some (a, .dl es)) (hz : z = (k : Int)) (hk : k < es.length) (hx : Kn ds x e) (q : ∀ H', S K H' (l.set i (a, .dl (es.set k e))) ds → R H') : rSetL (.ref a) (.int z) x H R := by
  obtain ⟨xs, h1, h2, h3, h4⟩ := hs.dlD hi
  refine ⟨a, xs, z, k, rfl, rfl, h1, ?_, q _ (hs.writeDl hi fun G ys hy hr r => ?_)⟩
  · rw [hz]
    unfold ixN
    rw [if_pos (by omega), if_pos (by omega)]
    rfl
  · rw [h1] at hy
    cases hy
    exact hr.set k (hx.rp r)
theorem w_app (hs : S K H l ds) (hi : l[i]? = some (a, .dl es)) (hx : Kn ds x e) (hl : es.length < 1000000) (q : ∀ H', S K H' (l.set i (a, .dl (es ++ [e]))) ds → Q .non H') : rAppend (.ref a) [x] H Q := by
  obtain ⟨xs, h1, h2, h3, h4⟩ := hs.dlD hi
  refine ⟨a, xs, x, rfl, rfl, h1, smallL (by omega), q _ (hs.writeDl hi fun G ys hy hr r => ?_)⟩
  rw [h1] at hy
  cases hy
  exact hr.app (.cons (hx.rp r) .nil)
/-- the type of a method's receiver -/
theorem ty_lstM (hs : S K H l ds) (hi : l[i]? = some (a, .dl es)) : tyV K "list" (.ref a) H := by
  obtain ⟨xs, h1, _⟩ := hs.dlD hi
  exact .inl ⟨rfl, xs, .inl (.inl h1)⟩
theorem ty_lst (hs : S K H l ds) (hd : Kn ds (.ref a) (.lst es)) : tyV K "list" (.ref a) H := by
  obtain ⟨xs, h1, _⟩ := hs.lstD hd
  exact .inl ⟨rfl, xs, h1⟩
def rLenS (K : PySem.W.Frag) : List V → Hp → VK → Prop := fun xs H Q => ∃ p ys, xs = [.ref p] ∧ (SqL K H p ys ∨ SqT K H p ys) ∧ Q (.int ys.length) H
theorem w_len (hs : S K H l ds) (hd : Kn ds (.ref a) (.lst es)) (q : Q (.int (es.length : Int)) H) : rLenS K [.ref a] H Q := by
  obtain ⟨xs, h1, h2, _⟩ := hs.lstD hd
  exact ⟨a, xs, rfl, .inl h1, by rw [h2]; exact q⟩
theorem w_lenT (hs : S K H l ds) (hd : Kn ds (.ref a) (.tup es)) (q : Q (.int (es.length : Int)) H) : rLenS K [.ref a] H Q := by
  obtain ⟨xs, h1, h2, _⟩ := hs.tupD hd
  exact ⟨a, xs, rfl, .inr h1, by rw [h2]; exact q⟩
theorem w_lenM (hs : S K H l ds) (hi : l[i]? = some (a, .dl es)) (q : Q (.int (es.length : Int)) H) : rLenS K [.ref a] H Q := by
  obtain ⟨xs, h1, h2, _⟩ := hs.dlD hi
  exact ⟨a, xs, rfl, .inl (.inl (.inl h1)), by rw [h2]; exact q⟩
end
end TD

namespace TD
open PySem PySem.Spec PyProof.Rows L2

/-- a def that stands at a module's name and keeps its promise; dvs the defaults that fill up -/
structure Cal (P : Program) (w : World) (K : PySem.W.Frag) (mg : Str → Option Value) (base : Heap) (CX : CXT) (k : Nat) (x : Str) (ps : List Str) (dvs : List V) (sp : Sp) : Prop where
  ex : ∃ (f : Addr) (fd : FuncData) (ds : List Value), FnOk P w K mg base CX k f fd ps sp ∧ mg x = some (.ref f) ∧ PySem.W.keepIn K (.ref f) = true ∧ Binds K fd ps ds ∧ Vals dvs ds
section
variable {X : Cx} {k : Nat} {x : Str} {ps : List Str} {sp : Sp} {dvs : List V} {p pos : Pos} {e : Expr} {es : List Expr} {t : TA} {te : TE}
theorem pe_callC (C : Cal X.prog X.w X.K X.mg X.base CX0 k x ps dvs sp) (hr : Room k X.A) (hg : Gl X x) (ha : PA X (e :: es) t) (hdb : (x == ("__debug__" : Str)) = false := by decide)
    (he : starEach (e :: es) X.env = (false, eval e X.env) :: starEach es X.env := by rfl) (hpl : (backTo pos (starEach es X.env)).any (·.1) = false := by rfl) : PE X (.Call (.Name x p) (e :: es) [] pos) (tCall sp dvs E0 t) := by
  obtain ⟨f, fd, ds, F, hm, hk, hb, hd⟩ := C.ex
  exact pe_call F hr hg hm hk hb hd pass0 ha hdb he hpl
theorem pe_globI {i : Int} (hg : Gl X x) (h : ∃ t, X.mg x = some (.int i t)) (hd : (x == ("__debug__" : Str)) = false := by decide) : PE X (.Name x pos) (tC (.int i)) := by
  obtain ⟨t, h⟩ := h
  exact pe_glob hg h ⟨t, rfl⟩ hd
theorem pe_globS {i : Str} (hg : Gl X x) (h : ∃ t, X.mg x = some (.str i t)) (hd : (x == ("__debug__" : Str)) = false := by decide) : PE X (.Name x pos) (tC (.str i)) := by
  obtain ⟨t, h⟩ := h
  exact pe_glob hg h ⟨t, rfl⟩ hd
theorem pe_globR {a : Addr} (hg : Gl X x) (h : X.mg x = some (.ref a)) (hd : (x == ("__debug__" : Str)) = false := by decide) : PE X (.Name x pos) (tC (.ref a)) := pe_glob hg h rfl hd
theorem ip_fdivW : PIp X .FloorDiv oDiv := iop_fdivW
theorem ip_mulZ : PIp X .Mult oMul := opI fun _ _ _ _ _ _ _ hc q => imul_int q hc.ok
end
/-- a statement, then the rest, with a word between them -/
def tCut (t u : TS) : TS := fun D σ H => ∃ Mid : L2.St → Hp → Prop, t { D with nx := Mid } σ H ∧ ∀ σ' H', Mid σ' H' → u D σ' H'
theorem pss_cut {X : Cx} {st : Stmt} {rest : List Stmt} {t u : TS} (h1 : PS X st t) (h2 : PSs X rest u) : PSs X (st :: rest) (tCut t u) := by
  refine ⟨fun pins s σ H D I h => ?_⟩
  obtain ⟨Mid, hm, hu⟩ := h
  refine wpAny_execs_cons (thn (h1.run pins s σ H { D with nx := Mid } I hm) fun f s1 q => ?_)
  cases f with
  | next =>
    obtain ⟨σ', H', I', q⟩ := q
    exact h2.run pins s1 σ' H' D I' (hu σ' H' q)
  | ret v => exact q
  | brk => exact q
  | cont => exact q
abbrev rMax2 : List V → Hp → VK → Prop := fun xs H Q => ∃ i j, xs = [.int i, .int j] ∧ Q (.int (if j > i then j else i)) H
abbrev rMin2 : List V → Hp → VK → Prop := fun xs H Q => ∃ i j, xs = [.int i, .int j] ∧ Q (.int (if j < i then j else i)) H
abbrev rInt1 : List V → Hp → VK → Prop := fun xs H Q => (∃ i, xs = [.int i] ∧ Q (.int i) H) ∨ ∃ k, xs = [.bl k] ∧ Q (.int (if k then 1 else 0)) H
abbrev rNeg : V → Hp → VK → Prop := rU fun i => .int (-i)
abbrev rListS (K : PySem.W.Frag) : List V → Hp → VK → Prop := fun xs H Q => ∃ p ys, xs = [.ref p] ∧ (SqL K H p ys ∨ SqT K H p ys) ∧ ∀ l, H l = none → Q (.ref l) (upd H l (.lst ys))
abbrev rInsert : V → List V → Hp → VK → Prop := fun x vs H Q => ∃ (l : Addr) (xs : List V) (i : Int) (y : V), x = .ref l ∧ vs = [.int i, y] ∧ H l = some (.lst xs) ∧ xs.length < sizeLine ∧ 0 ≤ i ∧ i < 2 ^ 63 ∧
    Q .non (upd H l (.lst (xs.take i.toNat ++ [y] ++ xs.drop i.toNat)))
abbrev stN (n : Nat) (vs : List V) : L2.St := vs.map some ++ List.replicate (n - vs.length) none
abbrev EndsOf (Q : VK) : Ends := { nx := fun _ H' => Q .non H', rt := Q }
/-- the law's end, with the script's bits -/
theorem walk_ofM {l : PySem.W.OpenLaw} {n k : Nat} {q : Program} {loose : List Str} {XP : (Str → Option Value) → Heap → Prop} {YP : World → Heap → Prop} {d : DefRec} {CX : World → CXT} {x : Str}
    (hn : l.most = some n) (hn2 : n ≤ sizeLine) (hdf : d.params.defaults = []) (hr : Room k callerA)
    (F : ∀ (w : World) (mg : Str → Option Value) (fa : Addr) (h : Heap), YP w h → h.Ns mainGlobals mg → mg d.name = some (.ref fa) →
      ∃ (K : PySem.W.Frag) (fd : FuncData) (sp : Sp), K.In h ∧ (∀ (s : Shared) (u : Value), BindsTo s fd ⟨[u], []⟩ [(x, u)]) ∧
        (∀ (H : Hp) (a : Addr) (ns : List Int), ns.length ≤ n → (∀ z ∈ ns, Builtin.Int.intBits z ≤ 1048576) → Only H → SqL K H a (ns.map V.int) → sp [.ref a] H (fun v _ => v = .bl true) fun _ _ _ => False) ∧
        ∀ base : Heap, K.In base → base.Ns mainGlobals mg → FnOk l.prog w K mg base (CX w) k fa fd [x] sp)
    (hCX : ∀ (w : World) (H : Hp) (s : Shared) (e : Value) (s' : Shared), CX w [] H s (fun _ _ _ => False) e s' → False) :
    PySem.W.WalkO q loose XP YP l.row.toRowW d [] (fun f vs => PySem.call f vs) := by
  refine Att.attach_callB hn hdf fun w s₀ s₁ mg mb fa o pm cd doc a vs ns G Y ho hd hcd hmg hobj hints hlen hbits hg => ?_
  obtain ⟨K, fd, sp, KX, hb, hsp, hF⟩ := F w mg fa _ Y G.T.g hmg
  exact law_call KX G.T.g G.T.b G.T.builtins G.T.nolimit hg hobj hints (Nat.le_trans hlen hn2) hr hF hb (fun H hO hS => hsp H a ns hlen hbits hO hS) fun H e s' => hCX w H s₁ e s'
end TD

namespace TD
open PySem PySem.Spec PyProof.Rows L2
section
variable {K : PySem.W.Frag} {σ : L2.St} {H : Hp} {Q : VK} {QT : Bool → Hp → Prop} {QA : List V → Hp → Prop} {D : Ends} {t u : TS} {te ta tb to ti : TE} {tt tu : TT} {tr : TA} {i j : Int} {k n : Nat} {v x : V} {r : R2} {b c : Bool} {R : L2.St → Hp → Prop} {g : TG} {gs : TGs}
theorem e_cut {t u : TS} : tCut t u D σ H = ∃ Mid : L2.St → Hp → Prop, t { D with nx := Mid } σ H ∧ ∀ σ' H', Mid σ' H' → u D σ' H' := nr rfl
theorem e_gn : gName k v σ H R = R (σ.set k (some v)) H := nr rfl
theorem e_asgG : tAsg te (gSub to ti rSetL) D σ H = te σ H fun x H1 => to σ H1 fun o H2 => ti σ H2 fun i H3 => rSetL o i x H3 fun H4 => D.nx σ H4 := nr rfl
theorem e_gSub {s : TSet} : gSub to ti s v σ H R = to σ H fun o H1 => ti σ H1 fun i H2 => s o i v H2 fun H3 => R σ H3 := nr rfl
theorem e_gtup : tAsg te (gTup K n gs) D σ H = te σ H fun x H1 => gTup K n gs x σ H1 D.nx := nr rfl
theorem e_max2 : rMax2 [.int i, .int j] H Q = Q (.int (max i j)) H := by
  have e : (if j > i then j else i) = max i j := by omega
  refine propext ⟨fun ⟨_, _, e1, q⟩ => ?_, fun q => ⟨i, j, rfl, by rw [e]; exact q⟩⟩
  cases e1
  rw [e] at q
  exact q
theorem e_min2 : rMin2 [.int i, .int j] H Q = Q (.int (min i j)) H := by
  have e : (if j < i then j else i) = min i j := by omega
  refine propext ⟨fun ⟨_, _, e1, q⟩ => ?_, fun q => ⟨i, j, rfl, by rw [e]; exact q⟩⟩
  cases e1
  rw [e] at q
  exact q
theorem e_int1 : rInt1 [.int i] H Q = Q (.int i) H := by
  refine propext ⟨fun h => ?_, fun q => .inl ⟨i, rfl, q⟩⟩
  rcases h with ⟨_, e, q⟩ | ⟨_, e, _⟩
  · cases e
    exact q
  · cases e
theorem e_intB : rInt1 [.bl b] H Q = Q (.int (if b then 1 else 0)) H := by
  refine propext ⟨fun h => ?_, fun q => .inr ⟨b, rfl, q⟩⟩
  rcases h with ⟨_, e, q⟩ | ⟨_, e, q⟩
  · cases e
  · cases e
    exact q
theorem e_tup : tTup tr σ H Q = tr σ H fun xs H1 => NewT xs H1 Q := nr rfl
theorem e_lst : tLst tr σ H Q = tr σ H fun xs H1 => NewL xs H1 Q := nr rfl
/-- loops: what is walked is told first -/
def LoopR (J : It) (g : TG) (tb : TS) (D : Ends) (σ : L2.St) (H : Hp) : Prop := ∃ W : Nat → Nat → L2.St → Hp → Prop, (∃ m, W 0 m σ H) ∧ ∀ i m σ H, W i m σ H →
  (J.stop i H ∧ D.nx σ H) ∨ (J.go i H ∧ ∃ N : L2.St → Hp → Prop, (∀ σ' H', N σ' H' → ∃ m', m' < m ∧ W (i + 1) m' σ' H') ∧ ∀ x H', J.yld i H x H' → g x σ H' fun σ2 H2 => tb { D with nx := N, ct := N, bk := D.nx } σ2 H2)
theorem e_for {wi : TI} : tFor wi g t D σ H = wi σ H fun J H1 => LoopR J g t D σ H1 := nr rfl
def CompR (J : It) (g : TG) (tt : TT) (te : TE) (vs : List Nat) (σ : L2.St) (H1 : Hp) (Q : VK) : Prop := ∀ D, H1 D = none → ∃ W : Nat → Nat → Hp → Prop, (∃ m, W 0 m (upd H1 D (.lst []))) ∧ ∀ i m H, W i m H →
  (J.stop i H ∧ Q (.ref D) H) ∨ (J.go i H ∧ ∃ Nx : Hp → Prop, (∀ H', Nx H' → ∃ m', m' < m ∧ W (i + 1) m' H') ∧ ∀ x H', J.yld i H x H' → g x (wipe σ vs) H' fun σ2 H2 => wipe σ2 vs = wipe σ vs ∧ tt σ2 H2 fun b H3 =>
    if b = true then te σ2 H3 fun y H4 => ∃ acc, H4 D = some (.lst acc) ∧ acc.length < sizeLine ∧ Nx (upd H4 D (.lst (acc ++ [y]))) else Nx H3)
theorem e_lc {wi : TI} {vs : List Nat} : tLc wi g tt te vs σ H Q = wi σ H fun J H1 => CompR J g tt te vs σ H1 Q := nr rfl
theorem e_yes : tYes σ H QT = QT true H := nr rfl
variable {RI : It → Hp → Prop}
theorem e_rng1 : iRng1 tr σ H RI = tr σ H fun vs H1 => ∃ j : Int, vs = [.int j] ∧ -(2 ^ 62) ≤ j ∧ j < 2 ^ 62 ∧ RI (Itr 0 j.toNat) H1 := nr rfl
theorem e_rng2 : iRng2 tr σ H RI = tr σ H fun vs H1 => ∃ i j : Int, vs = [.int i, .int j] ∧ (-(2 ^ 62) ≤ i ∧ i < 2 ^ 62 ∧ -(2 ^ 62) ≤ j ∧ j < 2 ^ 62) ∧ RI (Itr i (j - i).toNat) H1 := nr rfl
theorem e_ilst : iList K te σ H RI = te σ H fun x H1 => ∃ a, x = .ref a ∧ (∃ xs, SqL K H1 a xs) ∧ RI (Itl K a) H1 := nr rfl
theorem e_itup : iTup K te σ H RI = te σ H fun x H1 => ∃ a, x = .ref a ∧ (∃ xs, SqT K H1 a xs) ∧ RI (Itt K a) H1 := nr rfl
theorem e_bm {T : String} {m : V → List V → Hp → VK → Prop} : tBM K T m to tr σ H Q = to σ H fun x H1 => tyV K T x H1 ∧ tr σ H1 fun xs H2 => m x xs H2 Q := nr rfl
theorem e_bm0 {T : String} {m : V → List V → Hp → VK → Prop} : tBM0 K T m to σ H Q = to σ H fun x H1 => tyV K T x H1 ∧ m x [] H1 Q := nr rfl
theorem e_isNV : rIsN v .non H Q = Q (.bl (decide (v = .non))) H := propext ⟨fun ⟨_, q⟩ => q, fun q => ⟨rfl, q⟩⟩
theorem e_notNV : rNotN v .non H Q = Q (.bl (!decide (v = .non))) H := propext ⟨fun ⟨_, q⟩ => q, fun q => ⟨rfl, q⟩⟩
theorem e_cp2 : CPow 10 2 = True := propext ⟨fun _ => True.intro, fun _ => ⟨by decide, by decide, by decide⟩⟩
theorem e_cp3 : CPow 10 3 = True := propext ⟨fun _ => True.intro, fun _ => ⟨by decide, by decide, by decide⟩⟩
theorem e_cp4 : CPow 10 4 = True := propext ⟨fun _ => True.intro, fun _ => ⟨by decide, by decide, by decide⟩⟩
theorem e_cp5 : CPow 10 5 = True := propext ⟨fun _ => True.intro, fun _ => ⟨by decide, by decide, by decide⟩⟩
theorem e_cp6 : CPow 10 6 = True := propext ⟨fun _ => True.intro, fun _ => ⟨by decide, by decide, by decide⟩⟩
theorem e_cp9 : CPow 10 9 = True := propext ⟨fun _ => True.intro, fun _ => ⟨by decide, by decide, by decide⟩⟩
theorem e_cp12 : CPow 10 12 = True := propext ⟨fun _ => True.intro, fun _ => ⟨by decide, by decide, by decide⟩⟩
theorem e_cp13 : CPow 10 13 = True := propext ⟨fun _ => True.intro, fun _ => ⟨by decide, by decide, by decide⟩⟩
theorem e_cp15 : CPow 10 15 = True := propext ⟨fun _ => True.intro, fun _ => ⟨by decide, by decide, by decide⟩⟩
theorem e_cp18 : CPow 10 18 = True := propext ⟨fun _ => True.intro, fun _ => ⟨by decide, by decide, by decide⟩⟩
theorem e_cp20 : CPow 10 20 = True := propext ⟨fun _ => True.intro, fun _ => ⟨by decide, by decide, by decide⟩⟩
theorem e_cp21 : CPow 10 21 = True := propext ⟨fun _ => True.intro, fun _ => ⟨by decide, by decide, by decide⟩⟩
theorem e_cp25 : CPow 10 25 = True := propext ⟨fun _ => True.intro, fun _ => ⟨by decide, by decide, by decide⟩⟩
theorem e_cp30 : CPow 10 30 = True := propext ⟨fun _ => True.intro, fun _ => ⟨by decide, by decide, by decide⟩⟩
theorem e_cp35 : CPow 10 35 = True := propext ⟨fun _ => True.intro, fun _ => ⟨by decide, by decide, by decide⟩⟩
theorem e_cp40 : CPow 10 40 = True := propext ⟨fun _ => True.intro, fun _ => ⟨by decide, by decide, by decide⟩⟩
theorem e_cp45 : CPow 10 45 = True := propext ⟨fun _ => True.intro, fun _ => ⟨by decide, by decide, by decide⟩⟩
theorem e_cp50 : CPow 10 50 = True := propext ⟨fun _ => True.intro, fun _ => ⟨by decide, by decide, by decide⟩⟩
theorem e_cp56 : CPow 10 56 = True := propext ⟨fun _ => True.intro, fun _ => ⟨by decide, by decide, by decide⟩⟩
theorem e_cp57 : CPow 10 57 = True := propext ⟨fun _ => True.intro, fun _ => ⟨by decide, by decide, by decide⟩⟩
theorem e_cp58 : CPow 10 58 = True := propext ⟨fun _ => True.intro, fun _ => ⟨by decide, by decide, by decide⟩⟩
theorem e_cp60 : CPow 10 60 = True := propext ⟨fun _ => True.intro, fun _ => ⟨by decide, by decide, by decide⟩⟩
/-- loops over a range, a list, a tuple of data -/
theorem w_for {lo : Int} {n : Nat} (Pv : Nat → L2.St → Hp → Prop) (h0 : Pv 0 σ H) (hs : ∀ i σ H, i < n → Pv i σ H → g (.int (lo + i)) σ H fun σ2 H2 => t { D with nx := Pv (i + 1), ct := Pv (i + 1), bk := D.nx } σ2 H2) (hd : ∀ σ H, Pv n σ H → D.nx σ H) : LoopR (Itr lo n) g t D σ H := for_range Pv h0 hs hd
theorem w_forL {a : Addr} {xs : List V} (Pv : Nat → L2.St → Hp → Prop) (h0 : Pv 0 σ H) (hl : ∀ i σ H, i ≤ xs.length → Pv i σ H → SqL K H a xs) (hs : ∀ i x σ H, xs[i]? = some x → Pv i σ H → g x σ H fun σ2 H2 => t { D with nx := Pv (i + 1), ct := Pv (i + 1), bk := D.nx } σ2 H2) (hd : ∀ σ H, Pv xs.length σ H → D.nx σ H) : LoopR (Itl K a) g t D σ H := for_list Pv h0 hl hs hd
theorem w_forT {a : Addr} {xs : List V} (Pv : Nat → L2.St → Hp → Prop) (h0 : Pv 0 σ H) (hl : ∀ i σ H, i ≤ xs.length → Pv i σ H → SqT K H a xs) (hs : ∀ i x σ H, xs[i]? = some x → Pv i σ H → g x σ H fun σ2 H2 => t { D with nx := Pv (i + 1), ct := Pv (i + 1), bk := D.nx } σ2 H2) (hd : ∀ σ H, Pv xs.length σ H → D.nx σ H) : LoopR (Itt K a) g t D σ H := for_tup Pv h0 hl hs hd
/-- a while by a word and a measure: W m σ H -/
theorem w_while (W : Nat → L2.St → Hp → Prop) (m0 : Nat) (h0 : W m0 σ H) (hs : ∀ m σ H, W m σ H → tt σ H fun b H1 => if b = true then t { D with nx := fun σ' H' => ∃ m', m' < m ∧ W m' σ' H', ct := fun σ' H' => ∃ m', m' < m ∧ W m' σ' H', bk := D.nx } σ H1 else D.nx σ H1)
    (mono : ∀ σ H (Q Q' : Bool → Hp → Prop), (∀ b H1, Q b H1 → Q' b H1) → tt σ H Q → tt σ H Q') : tWhile tt t D σ H := by
  refine ⟨W, ⟨m0, h0⟩, fun m σ H w => ?_⟩
  refine mono σ H _ _ (fun b H1 q => ?_) (hs m σ H w)
  cases b with
  | true => exact ⟨fun σ' H' => ∃ m', m' < m ∧ W m' σ' H', fun _ _ h => h, q⟩
  | false => exact q
end
theorem cmz {i j : Int} {a b : Nat} (ha : i.natAbs < 2 ^ a) (hb : j.natAbs < 2 ^ b) (h0 : 0 < a) (h1 : 0 < b) (h : a + b ≤ 90000000) : CMulZ i j := by
  have x := PySem.Flt.log2_lt_of h0 ha
  have y := PySem.Flt.log2_lt_of h1 hb
  unfold CMulZ
  omega
/-- a cell of the script, or what is left of it -/
def CB (z : Int) : Prop := z.natAbs < 2 ^ 1048577
theorem cb_of_bits {z : Int} (h : Builtin.Int.intBits z ≤ 1048576) : CB z := by
  have h1 : z.natAbs < 2 ^ (z.natAbs.log2 + 1) := Nat.lt_log2_self
  have hz : z = 0 → z.natAbs = 0 := fun e => by rw [e]; rfl
  have h2 : z.natAbs.log2 ≤ 1048576 := by
    unfold Builtin.Int.intBits at h
    split at h
    · rename_i e
      rw [hz (by simpa using e)]
      decide
    · omega
  exact Nat.lt_of_lt_of_le h1 (Nat.pow_le_pow_right (by decide) (by omega))
theorem cb_le {z y : Int} (h : CB z) (hy : y.natAbs ≤ z.natAbs) : CB y := Nat.lt_of_le_of_lt hy h
theorem cb_small {y : Int} (hy : y.natAbs < 2 ^ 64) : CB y := Nat.lt_of_lt_of_le hy (Nat.pow_le_pow_right (by decide) (by decide))
theorem abs_div {z n : Int} (hn : 0 < n) : (z / n).natAbs ≤ z.natAbs := Int.natAbs_ediv_le_natAbs z n
theorem pow_le' {a b : Nat} (h : a ≤ b) : 2 ^ a ≤ 2 ^ b := Nat.pow_le_pow_right (by decide) h
/-- the source of the draws: its number, the number it began as, how many draws -/
def Src (b : Int) (mo : MO) : Prop := ∃ c0 c1 c2 : Int, mo = .dl [.int c0, .int c1, .int c2] ∧ CB c0 ∧ CB c1 ∧ 0 ≤ c2 ∧ c2 ≤ b
theorem Src.mono {b c : Int} {mo : MO} (h : Src b mo) (e : b ≤ c) : Src c mo := by
  obtain ⟨c0, c1, c2, h1, h2, h3, h4, h5⟩ := h
  exact ⟨c0, c1, c2, h1, h2, h3, h4, by omega⟩
/-- the script as the law gets it -/
theorem start_S {K : PySem.W.Frag} {H : Hp} {a : Addr} {ns : List Int} (h : SqL K H a (ns.map V.int)) : S K H [] [(.ref a, .lst (ns.map D.int))] :=
  ⟨H, Same.refl H, List.nodup_nil, (fun _ hq => nomatch hq), fun q hq => by
    rcases List.mem_cons.mp hq with e | hq
    · rw [e]
      exact .lst h (RpAll.ofInts ns)
    · cases hq⟩
end TD

namespace TD
open PySem PySem.Spec PyProof.Rows L2
section
variable {K : PySem.W.Frag} {H : Hp} {l : List (Addr × MO)} {ds : List (V × D)} {a : Addr} {es : List D} {e : D} {x : V} {Q : VK} {n i : Nat} {m : Int} {R : Hp → Prop}
theorem w_ixMn (hs : S K H l ds) (hi : l[i]? = some (a, .dl es)) (he : es[n]? = some (.int m)) (q : Q (.int m) H) : rIxL K (.ref a) (.int (OfNat.ofNat n)) H Q := w_ixMi (k := n) hs hi rfl he q
theorem w_ixLn (hs : S K H l ds) (hd : Kn ds (.ref a) (.lst es)) (he : es[n]? = some (.int m)) (q : Q (.int m) H) : rIxL K (.ref a) (.int (OfNat.ofNat n)) H Q := w_ixLi (k := n) hs hd rfl he q
theorem w_ixTn (hs : S K H l ds) (hd : Kn ds (.ref a) (.tup es)) (he : es[n]? = some (.int m)) (q : Q (.int m) H) : rIxT K (.ref a) (.int (OfNat.ofNat n)) H Q := w_ixTi (k := n) hs hd rfl he q
theorem w_setn (hs : S K H l ds) (hi : l[i]? = some (a, .dl es)) (hk : n < es.length) (hx : Kn ds x e) (q : ∀ H', S K H' (l.set i (a, .dl (es.set n e))) ds → R H') : rSetL (.ref a) (.int (OfNat.ofNat n)) x H R := w_setL (k := n) hs hi rfl hk hx q
end
end TD

namespace TD
open PySem PySem.Spec PyProof.Rows L2

def D.kind : D → String
  | .non => "NoneType" | .bl _ => "bool" | .int _ => "int" | .str _ => "str" | .lst _ => "list" | .tup _ => "tuple" | .ob _ _ => "object"
def D.plain : D → Bool
  | .ob _ _ => false
  | _ => true
def isK (t c : String) : Bool := t == c || (t == "bool" && c == "int")
section
variable {K : PySem.W.Frag} {H : Hp} {l : List (Addr × MO)} {ds : List (V × D)} {a : Addr} {es : List D} {d e : D} {v x : V} {Q : VK} {n i : Nat}
theorem Rp.tyx (h : Rp K H v d) (hp : d.plain = true) : TyX K H v (.type d.kind) := by
  cases h with
  | non => exact .base .non
  | bl b => exact .base (.bl b)
  | int i => exact .base (.int i)
  | str x => exact .base (.str x)
  | lst hs _ =>
    rcases hs with (h | ⟨o, h⟩) | ⟨o, its, n, h1, h2, _⟩
    · exact .base (.lst h)
    · exact .base (.frz h)
    · exact .kList h1 h2
  | tup hs _ =>
    rcases hs with (h | ⟨o, h⟩) | ⟨o, its, n, h1, h2, _⟩
    · exact .base (.tup h)
    · exact .fTuple h
    · exact .kTuple h1 h2
  | ob _ _ => cases hp
theorem kit_is {t c : String} (ht : t ∈ ["NoneType", "bool", "int", "str", "list", "tuple"]) (hc : c ∈ ["bool", "int", "str", "list", "tuple"]) : PySem.W.kitOne K (.type t) (.type c) = some (isK t c) := by
  have h : (["NoneType", "bool", "int", "str", "list", "tuple"].all fun t => ["bool", "int", "str", "list", "tuple"].all fun c => decide (kitB t c = some (isK t c))) = true := by decide +kernel
  exact kit_ty (of_decide_eq_true (List.all_eq_true.mp (List.all_eq_true.mp h t ht) c hc))
theorem D.kind_mem (hp : d.plain = true) : d.kind ∈ ["NoneType", "bool", "int", "str", "list", "tuple"] := by
  cases d <;> first | (simp [D.kind]; done) | cases hp
/-- isinstance(x, c) of data -/
theorem w_isi {c : String} (hs : S K H l ds) (hk : Kn ds v d) (hp : d.plain = true) (hc : c ∈ ["bool", "int", "str", "list", "tuple"]) (q : Q (.bl (isK d.kind c)) H) : rIsi K [v, .ty c] H Q :=
  ⟨v, .ty c, _, _, _, rfl, .ty c, (hs.rp hk).tyx hp, kit_is (D.kind_mem hp) hc, q⟩
theorem w_isiB {c : String} {b : Bool} (hs : S K H l ds) (hk : Kn ds v d) (hp : d.plain = true) (hc : c ∈ ["bool", "int", "str", "list", "tuple"]) (hb : isK d.kind c = b) (q : Q (.bl b) H) : rIsi K [v, .ty c] H Q := w_isi hs hk hp hc (by rw [hb]; exact q)
theorem w_isiI {i : Int} {b : Bool} {c : String} (hc : c ∈ ["bool", "int", "str", "list", "tuple"]) (hb : isK "int" c = b) (q : Q (.bl b) H) : rIsi K [.int i, .ty c] H Q :=
  ⟨.int i, .ty c, _, _, _, rfl, .ty c, .base (.int i), kit_is (t := "int") (by simp) hc, by rw [hb]; exact q⟩
end

mutual
def D.py : D → PyData
  | .non => .none | .bl b => .bool b | .int i => .int i | .str x => .str x | .lst xs => .list (D.pyAll xs) | .tup xs => .tuple (D.pyAll xs) | .ob _ _ => .none
def D.pyAll : List D → List PyData
  | [] => []
  | d :: ds => d.py :: D.pyAll ds
end
mutual
/-- no object, good texts, at most n deep -/
def D.ok : Nat → D → Bool
  | _, .non => true | _, .bl _ => true | _, .int _ => true | _, .str x => PyData.strOk x
  | 0, .lst _ => false | 0, .tup _ => false | _, .ob _ _ => false
  | n + 1, .lst xs => D.okAll n xs | n + 1, .tup xs => D.okAll n xs
def D.okAll : Nat → List D → Bool
  | _, [] => true
  | n, d :: ds => D.ok n d && D.okAll n ds
end
mutual
theorem D.lay : ∀ (d : D) (n : Nat), D.ok n d = true → d.py.canLay0 = true ∧ d.py.depth ≤ n
  | .non, n, _ => ⟨by simp [D.py, PyData.canLay0], by simp [D.py, PyData.depth]⟩
  | .bl _, n, _ => ⟨by simp [D.py, PyData.canLay0], by simp [D.py, PyData.depth]⟩
  | .int _, n, _ => ⟨by simp [D.py, PyData.canLay0], by simp [D.py, PyData.depth]⟩
  | .str x, n, h => ⟨by simp only [D.py, PyData.canLay0]; simpa [D.ok] using h, by simp [D.py, PyData.depth]⟩
  | .lst xs, 0, h => by simp [D.ok] at h
  | .tup xs, 0, h => by simp [D.ok] at h
  | .ob _ _, n, h => by simp [D.ok] at h
  | .lst xs, n + 1, h => by
    have h2 := D.layAll xs n (by simpa [D.ok] using h)
    exact ⟨by simp only [D.py, PyData.canLay0]; exact h2.1, by simp only [D.py, PyData.depth]; omega⟩
  | .tup xs, n + 1, h => by
    have h2 := D.layAll xs n (by simpa [D.ok] using h)
    exact ⟨by simp only [D.py, PyData.canLay0]; exact h2.1, by simp only [D.py, PyData.depth]; omega⟩
theorem D.layAll : ∀ (ds : List D) (n : Nat), D.okAll n ds = true → PyData.canLayAll0 (D.pyAll ds) = true ∧ PyData.depthAll (D.pyAll ds) ≤ n
  | [], n, _ => ⟨by simp [D.pyAll, PyData.canLayAll0], by simp [D.pyAll, PyData.depthAll]⟩
  | d :: ds, n, h => by
    have h1 : D.ok n d = true ∧ D.okAll n ds = true := by simpa [D.okAll] using h
    have a := D.lay d n h1.1
    have b := D.layAll ds n h1.2
    exact ⟨by simp only [D.pyAll, PyData.canLayAll0, a.1, b.1, Bool.and_self], by simp only [D.pyAll, PyData.depthAll]; omega⟩
end
theorem D.shaped {d : D} (h : D.ok 60 d = true) : SeqAt.shaped d.py = true := by
  obtain ⟨a, b⟩ := D.lay d 60 h
  unfold SeqAt.shaped
  rw [a, decide_eq_true (by omega)]
  rfl
section
variable {K : PySem.W.Frag} {H : Hp}
mutual
theorem Rp.dp : ∀ {d : D} {v : V} (n : Nat), D.ok n d = true → Rp K H v d → Dp K H v d.py
  | .non, _, _, _, .non => .non
  | .bl b, _, _, _, .bl _ => .bl b
  | .int i, _, _, _, .int _ => .int i
  | .str x, _, _, _, .str _ => .str x
  | .lst _, _, 0, h, _ => by simp [D.ok] at h
  | .tup _, _, 0, h, _ => by simp [D.ok] at h
  | .lst _, _, n + 1, h, .lst hs ht => .lst hs (RpAll.dp n (by simpa [D.ok] using h) ht)
  | .tup _, _, n + 1, h, .tup hs ht => .tup hs (RpAll.dp n (by simpa [D.ok] using h) ht)
  | .ob _ _, _, n, h, _ => by simp [D.ok] at h
theorem RpAll.dp : ∀ {ds : List D} {vs : List V} (n : Nat), D.okAll n ds = true → RpAll K H vs ds → DpAll K H vs (D.pyAll ds)
  | [], _, _, _, .nil => .nil
  | d :: ds, _, n, h, .cons hv ht => by
    have h1 : D.ok n d = true ∧ D.okAll n ds = true := by simpa [D.okAll] using h
    exact .cons (Rp.dp n h1.1 hv) (RpAll.dp n h1.2 ht)
end
end
/-- what == says of two data -/
def D.same (d e : D) : Bool := PyData.eqv d.py e.py
def D.sameAll (d e : List D) : Bool := PyData.eqvAll (D.pyAll d) (D.pyAll e)
theorem same_int (i j : Int) : D.same (.int i) (.int j) = decide (i = j) := by
  show PyData.eqv (.int i) (.int j) = _
  simp [PyData.eqv]
  exact Bool.beq_eq_decide_eq i j
theorem same_str (i j : Str) : D.same (.str i) (.str j) = decide (i = j) := by
  show PyData.eqv (.str i) (.str j) = _
  simp [PyData.eqv]
  exact Bool.beq_eq_decide_eq i j
theorem same_bl (i j : Bool) : D.same (.bl i) (.bl j) = decide (i = j) := by
  show PyData.eqv (.bool i) (.bool j) = _
  simp [PyData.eqv]
  exact Bool.beq_eq_decide_eq i j
theorem same_non : D.same .non .non = true := rfl
theorem same_lst (xs ys : List D) : D.same (.lst xs) (.lst ys) = D.sameAll xs ys := by
  show PyData.eqv (.list _) (.list _) = _
  simp only [PyData.eqv]
  rfl
theorem same_tup (xs ys : List D) : D.same (.tup xs) (.tup ys) = D.sameAll xs ys := by
  show PyData.eqv (.tuple _) (.tuple _) = _
  simp only [PyData.eqv]
  rfl
theorem same_tn (xs : List D) : D.same (.tup xs) .non = false := by
  show PyData.eqv (.tuple _) .none = _
  simp only [PyData.eqv]
theorem same_nt (xs : List D) : D.same .non (.tup xs) = false := by
  show PyData.eqv .none (.tuple _) = _
  simp only [PyData.eqv]
theorem same_ln (xs : List D) : D.same (.lst xs) .non = false := by
  show PyData.eqv (.list _) .none = _
  simp only [PyData.eqv]
theorem same_nl (xs : List D) : D.same .non (.lst xs) = false := by
  show PyData.eqv .none (.list _) = _
  simp only [PyData.eqv]
theorem same_in (i : Int) : D.same (.int i) .non = false := by
  show PyData.eqv (.int _) .none = _
  simp only [PyData.eqv]
theorem same_ni (i : Int) : D.same .non (.int i) = false := by
  show PyData.eqv .none (.int _) = _
  simp only [PyData.eqv]
theorem sameAll_nil : D.sameAll [] [] = true := rfl
theorem sameAll_cons (x y : D) (xs ys : List D) : D.sameAll (x :: xs) (y :: ys) = (D.same x y && D.sameAll xs ys) := by
  show PyData.eqvAll (_ :: _) (_ :: _) = _
  simp only [PyData.eqvAll]
  rfl
theorem sameAll_nc (y : D) (ys : List D) : D.sameAll [] (y :: ys) = false := by
  show PyData.eqvAll [] (_ :: _) = _
  simp only [PyData.eqvAll]
theorem sameAll_cn (y : D) (ys : List D) : D.sameAll (y :: ys) [] = false := by
  show PyData.eqvAll (_ :: _) [] = _
  simp only [PyData.eqvAll]
mutual
theorem D.same_refl : ∀ (d : D) (n : Nat), D.ok n d = true → D.same d d = true
  | .non, _, _ => rfl
  | .bl b, _, _ => by rw [same_bl]; simp
  | .int b, _, _ => by rw [same_int]; simp
  | .str b, _, _ => by rw [same_str]; simp
  | .lst xs, 0, h => by simp [D.ok] at h
  | .tup xs, 0, h => by simp [D.ok] at h
  | .ob _ _, _, h => by simp [D.ok] at h
  | .lst xs, n + 1, h => by rw [same_lst]; exact D.sameAll_refl xs n (by simpa [D.ok] using h)
  | .tup xs, n + 1, h => by rw [same_tup]; exact D.sameAll_refl xs n (by simpa [D.ok] using h)
theorem D.sameAll_refl : ∀ (ds : List D) (n : Nat), D.okAll n ds = true → D.sameAll ds ds = true
  | [], _, _ => rfl
  | d :: ds, n, h => by
    have h1 : D.ok n d = true ∧ D.okAll n ds = true := by simpa [D.okAll] using h
    rw [sameAll_cons, D.same_refl d n h1.1, D.sameAll_refl ds n h1.2]
    rfl
end
section
variable {K : PySem.W.Frag} {H : Hp} {l : List (Addr × MO)} {ds : List (V × D)} {a : Addr} {es : List D} {d e : D} {v x y : V} {Q : VK} {n i : Nat} {b : Bool}
theorem w_eqD (hs : S K H l ds) (hx : Kn ds x d) (hy : Kn ds y e) (h1 : D.ok 60 d = true) (h2 : D.ok 60 e = true) (q : Q (.bl (D.same d e)) H) : rEqD K x y H Q :=
  ⟨d.py, e.py, (hs.rp hx).dp 60 h1, (hs.rp hy).dp 60 h2, D.shaped h1, D.shaped h2, q⟩
theorem w_neD (hs : S K H l ds) (hx : Kn ds x d) (hy : Kn ds y e) (h1 : D.ok 60 d = true) (h2 : D.ok 60 e = true) (q : Q (.bl (!D.same d e)) H) : rNeD K x y H Q :=
  ⟨d.py, e.py, (hs.rp hx).dp 60 h1, (hs.rp hy).dp 60 h2, D.shaped h1, D.shaped h2, q⟩
/-- a mutable list against data -/
theorem S.seen (hs : S K H l ds) (hi : l[i]? = some (a, .dl es)) : Rp K H (.ref a) (.lst es) := by
  obtain ⟨G, g, nd, hl, hd⟩ := hs
  obtain ⟨gp, xs, hx, ht⟩ := hl _ (List.mem_of_getElem? hi)
  exact .lst (.inl (.inl hx)) (ht.sub g)
theorem tru_lst (hs : S K H l ds) (hk : Kn ds (.ref a) (.lst es)) : TruV K (.ref a) H (!es.isEmpty) := by
  obtain ⟨xs, h1, h2, _⟩ := hs.lstD hk
  refine .inl ⟨xs, h1, ?_⟩
  cases xs <;> cases es <;> first | rfl | cases h2
theorem tru_tup (hs : S K H l ds) (hk : Kn ds (.ref a) (.tup es)) : TruV K (.ref a) H (!es.isEmpty) := by
  obtain ⟨xs, h1, h2, _⟩ := hs.tupD hk
  refine .inr (.inl ⟨xs, h1, ?_⟩)
  cases xs <;> cases es <;> first | rfl | cases h2
theorem tru_non : TruV K .non H false := rfl
theorem w_unT {t : TGs} {σ : L2.St} {R : L2.St → Hp → Prop} (hs : S K H l ds) (hk : Kn ds x (.tup es)) (hn : es.length = n) (q : ∀ xs, xs.length = n → S K H l (xs.zip es ++ ds) → RpAll K H xs es → t xs σ H R) : gTup K n t x σ H R := by
  have r := hs.rp hk
  obtain ⟨a, rfl⟩ : ∃ a, x = .ref a := by
    cases r
    exact ⟨_, rfl⟩
  obtain ⟨xs, h1, h2, h3, h4⟩ := hs.tupD hk
  exact ⟨a, xs, rfl, h1, h2.trans hn, q xs (h2.trans hn) h3 h4⟩
theorem gcons_eq {t : TG} {u : TGs} {σ : L2.St} {R : L2.St → Hp → Prop} {xs : List V} : gCons t u (x :: xs) σ H R = t x σ H fun σ' H' => u xs σ' H' R := by
  refine propext ⟨fun h => ?_, fun h => ⟨x, xs, rfl, h⟩⟩
  obtain ⟨v, r, e, h⟩ := h
  cases e
  exact h
theorem gnil_eq {σ : L2.St} {R : L2.St → Hp → Prop} : gNil [] σ H R = R σ H := propext ⟨fun h => h.2, fun h => ⟨rfl, h⟩⟩
/-- a pair of numbers -/
theorem w_un2 {t : TG} {u : TG} {σ : L2.St} {R : L2.St → Hp → Prop} {p q : Int} (hs : S K H l ds) (hk : Kn ds x (.tup [.int p, .int q])) (h : t (.int p) σ H fun σ' H' => u (.int q) σ' H' R) : gTup K 2 (gCons t (gCons u gNil)) x σ H R := by
  refine w_unT hs hk rfl fun xs hl _ hr => ?_
  have e := RpAll.ints (ns := [p, q]) hr
  rw [e]
  show gCons t (gCons u gNil) [.int p, .int q] σ H R
  rw [gcons_eq]
  have e2 : (fun σ' H' => gCons u gNil [V.int q] σ' H' R) = fun σ' H' => u (.int q) σ' H' R := by
    funext σ' H'
    rw [gcons_eq]
    have e3 : (fun σ' H' => gNil [] σ' H' R) = R := by
      funext σ' H'
      exact gnil_eq
    rw [e3]
  rw [e2]
  exact h
theorem w_un3 {t u w : TG} {σ : L2.St} {R : L2.St → Hp → Prop} {p q r : Int} (hs : S K H l ds) (hk : Kn ds x (.tup [.int p, .int q, .int r])) (h : t (.int p) σ H fun σ' H' => u (.int q) σ' H' fun σ2 H2 => w (.int r) σ2 H2 R) : gTup K 3 (gCons t (gCons u (gCons w gNil))) x σ H R := by
  refine w_unT hs hk rfl fun xs hl _ hr => ?_
  have e := RpAll.ints (ns := [p, q, r]) hr
  rw [e]
  show gCons t (gCons u (gCons w gNil)) [.int p, .int q, .int r] σ H R
  simp only [gcons_eq, gnil_eq]
  exact h
/-- for x in a list of data -/
theorem w_forD {g : TG} {t : TS} {De : Ends} {σ : L2.St} (hs : S K H l ds) (hk : Kn ds x (.lst es)) (Pv : Nat → L2.St → Hp → Prop) (h0 : Pv 0 σ H) (hl : ∀ i σ H', Pv i σ H' → ∃ l' ds', S K H' l' ds' ∧ Kn ds' x (.lst es))
    (hstep : ∀ (i : Nat) (y : V) (e : D) σ H', es[i]? = some e → Pv i σ H' → (∀ {l' ds'}, S K H' l' ds' → Kn ds' x (.lst es) → S K H' l' ((y, e) :: ds')) → g y σ H' fun σ2 H2 => t { De with nx := Pv (i + 1), ct := Pv (i + 1), bk := De.nx } σ2 H2) (hd : ∀ σ H', Pv es.length σ H' → De.nx σ H') :
    ∃ a, x = .ref a ∧ (∃ xs, SqL K H a xs) ∧ LoopR (Itl K a) g t De σ H := by
  have r := hs.rp hk
  obtain ⟨a, rfl⟩ : ∃ a, x = .ref a := by
    cases r
    exact ⟨_, rfl⟩
  obtain ⟨xs, h1, h2, h3, h4⟩ := hs.lstD hk
  refine ⟨a, rfl, ⟨xs, h1⟩, ?_⟩
  refine ⟨fun i m σ H' => m = es.length - i ∧ i ≤ es.length ∧ Pv i σ H', ⟨es.length, by simp, Nat.zero_le _, h0⟩, ?_⟩
  rintro i m σ H' ⟨rfl, hi, p⟩
  obtain ⟨l', ds', hs', hk'⟩ := hl i σ H' p
  obtain ⟨ys, g1, g2, g3, g4⟩ := hs'.lstD hk'
  by_cases hlt : i < es.length
  · have hget : ys[i]? = some ys[i] := List.getElem?_eq_getElem (by omega)
    refine .inr ⟨⟨ys, ys[i], g1, hget⟩, Pv (i + 1), fun σ' H2 p' => ⟨es.length - (i + 1), by omega, rfl, hlt, p'⟩, fun y H2 hy => ?_⟩
    obtain ⟨e, hy⟩ := hy
    subst e
    have ey : ys[i]? = some y := hy ys g1
    have ee : es[i]? = some es[i] := List.getElem?_eq_getElem hlt
    refine hstep i y es[i] σ _ ee p fun {l2 ds2} s2 k2 => ?_
    obtain ⟨zs, z1, z2, z3, z4⟩ := s2.lstD k2
    have ez : zs[i]? = some y := hy zs z1
    refine z3.facts fun q hq => ?_
    rcases List.mem_cons.mp hq with e1 | hq
    · rw [e1]
      exact .inr (List.mem_append_left _ (List.mem_of_getElem? (List.getElem?_zip_eq_some.mpr ⟨ez, ee⟩)))
    · exact .inr (List.mem_append_right _ hq)
  · have e : i = es.length := by omega
    subst e
    exact .inl ⟨⟨ys, g1, by omega⟩, hd σ H' p⟩
end
end TD

namespace TD
open PySem PySem.Spec PyProof.Rows L2
theorem turn_long {P : Program} {w : World} {K : PySem.W.Frag} {tg : Expr} (it : Addr) (lo : Int) (n : Nat) : Turn P w K tg (Itr lo n) [it] it (fun i h => IsLongIter h it (lo + (i : Nat) * 1) ((n : Int) - (i : Nat)) 1) where
  mem := by simp
  obj := fun i h st b hb => by
    have e : b = it := by simpa using hb
    subst e
    exact ⟨_, st, fun v z => by
      have z' : Data.fields _ = Data.cell v := z
      cases z'⟩
  keep := fun i h h' st k => k it (by simp) _ st
  item := by
    intro X hP hw hK hc i pins s σ H E I hf st hg
    subst hP hw hK
    obtain ⟨f0, f1, f2, f3, f4, f5⟩ := hf it (by simp)
    have W := Walks.longrange (prog := X.prog) (w := X.w) (I.ok.hd hc) it lo 1 n
    refine W.item i s _ _ hg st fun v h' tk hv st' kk => ?_
    obtain ⟨t, rfl⟩ := hv
    have I1 : Inv X pins σ H { s with heap := h', toks := tk } := I.turned (fun b o hb e => kk b o (by simpa using hb) e) f0 f1 f3 f4 f5
    refine ⟨_, rfl, go_of (s := { s with heap := h', toks := tk }) (n := "longrange_iterator") st' rfl rfl (by decide) ⟨.int (lo + i), H, I1, ⟨t, ?_⟩, ⟨rfl, rfl⟩, st', fun b hb => (hf b hb).1⟩⟩
    rw [Int.mul_one]
  done := by
    intro X hP hw hK hc i pins s σ H E I hf st hg
    subst hP hw hK
    obtain ⟨f0, f1, f2, f3, f4, f5⟩ := hf it (by simp)
    exact wpAny_pyNext_long_end (I.ok.hd hc) st (by have : n ≤ i := hg; omega) fun h' eb => ⟨rfl, I.turned (t' := s.toks) (fun b o hb e => eb b o hb e) f0 f1 f3 f4 f5⟩
  self := fun _ _ _ _ _ st h => wpAny_pyIter_longiter st h
section
variable {X : Cx} {tg : Expr}
theorem range_itB {pins : List (Addr × Obj)} {σ : L2.St} {H : Hp} {s : Shared} {R : It → Hp → Prop} {E : Value → Shared → Prop} {lo hi : Int} {t u v : Tok} {tk : Nat} (I : Inv X pins σ H s)
    (q : R (Itr lo (hi - lo).toNat) H) : wpAny (model X.prog X.w) X.A (pyIter (.ref s.heap.objs.size)) (PIE X pins σ tg R) E { s with heap := s.heap.push { cls := .type "range", data := .fields #[.int lo t, .int hi u, .int 1 v] }, toks := tk } := by
  have I1 : Inv X pins σ H { s with heap := s.heap.push { cls := .type "range", data := .fields #[.int lo t, .int hi u, .int 1 v] }, toks := tk } := I.kept fun b o e => Heap.get?_push_of_some _ e
  have e1 : lo + ((0 : Nat) : Int) * 1 = lo := by simp
  have e2 : (((hi - lo).toNat : Nat) : Int) - ((0 : Nat) : Int) = Builtin.Range.rangeSize lo hi 1 := by rw [rangeSize_one]; split <;> omega
  have fp : ∀ b ∈ [(s.heap.push { cls := .type "range", data := .fields #[.int lo t, .int hi u, .int 1 v] }).objs.size], FpOk X pins H b := fun b hb => by
    have e : b = (s.heap.push { cls := .type "range", data := .fields #[.int lo t, .int hi u, .int 1 v] }).objs.size := by simpa using hb
    subst e
    exact I1.fpOk (Nat.le_refl _) (I1.hok.fresh (Nat.le_refl _))
  cases hs : Builtin.Range.small lo hi 1 with
  | true =>
    refine wpAny_pyIter_range (IsRange.new ..) hs ?_
    refine ⟨_, [(s.heap.push { cls := .type "range", data := .fields #[.int lo t, .int hi u, .int 1 v] }).objs.size], _, _, H, rfl, I1.kept (t' := tk) fun b o e => Heap.get?_push_of_some _ e, turn_range _ lo (hi - lo).toNat, ?_, fp, q⟩
    show IsRangeIter _ _ (lo + ((0 : Nat) : Int) * 1) ((((hi - lo).toNat : Nat) : Int) - ((0 : Nat) : Int)) 1
    rw [e1, e2]
    exact Heap.get?_push_size _ rfl
  | false =>
    refine wpAny_pyIter_longrange (IsRange.new ..) hs ?_
    refine ⟨_, [(s.heap.push { cls := .type "range", data := .fields #[.int lo t, .int hi u, .int 1 v] }).objs.size], _, _, H, rfl, I1.kept (t' := tk) fun b o e => Heap.get?_push_of_some _ e, turn_long _ lo (hi - lo).toNat, ?_, fp, q⟩
    show IsLongIter _ _ (lo + ((0 : Nat) : Int) * 1) ((((hi - lo).toNat : Nat) : Int) - ((0 : Nat) : Int)) 1
    rw [e1, e2]
    exact Heap.get?_push_size _ rfl
def iRB1 (ta : TA) : TI := fun σ H R => ta σ H fun vs H1 => ∃ j : Int, vs = [.int j] ∧ R (Itr 0 j.toNat) H1
def iRB2 (ta : TA) : TI := fun σ H R => ta σ H fun vs H1 => ∃ i j : Int, vs = [.int i, .int j] ∧ R (Itr i (j - i).toNat) H1
theorem pi_rangeB1 {a : Expr} {ta : TA} {p pos : Pos} (hg : Gl X "range") (hm : X.mg "range" = none) (ha : PA X [a] ta) (hs : starEach [a] X.env = [(false, eval a X.env)] := by rfl) : PI X tg (.Call (.Name "range" p) [a] [] pos) (iRB1 ta) := by
  refine ⟨fun pins s σ H R I h => ?_⟩
  refine Call_ (ld_blt I hg hm boot_range (PyProof.Rows.callWith_type1 (thn (ha.run pos pins s σ H _ I h) fun us s1 ⟨vs, H1, I1, r1, q1⟩ => ?_) hs rfl))
  obtain ⟨j, e, q⟩ := q1
  subst e
  cases r1 with
  | cons r rr =>
    cases rr
    obtain ⟨t, rfl⟩ := r
    exact call_range_1 (range_itB I1 (by simpa using q))
theorem pi_rangeB2 {a b : Expr} {ta : TA} {p pos : Pos} (hg : Gl X "range") (hm : X.mg "range" = none) (ha : PA X [a, b] ta) (hs : starEach [a, b] X.env = [(false, eval a X.env), (false, eval b X.env)] := by rfl) (hs2 : starEach [b] X.env = [(false, eval b X.env)] := by rfl) :
    PI X tg (.Call (.Name "range" p) [a, b] [] pos) (iRB2 ta) := by
  refine ⟨fun pins s σ H R I h => ?_⟩
  refine Call_ (ld_blt I hg hm boot_range (PyProof.Rows.callWith_type1 (thn (ha.run pos pins s σ H _ I h) fun us s1 ⟨vs, H1, I1, r1, q1⟩ => ?_) (by rw [hs, hs2]) (by rw [hs2]; rfl)))
  obtain ⟨i, j, e, q⟩ := q1
  subst e
  cases r1 with
  | cons r rr =>
    cases rr with
    | cons r' rr =>
      cases rr
      obtain ⟨t, rfl⟩ := r
      obtain ⟨t', rfl⟩ := r'
      exact call_range_2 (range_itB I1 q)
end
section
variable {σ : L2.St} {H : Hp} {tr : TA} {RI : It → Hp → Prop} {i j : Int}
theorem e_rb1 : iRB1 tr σ H RI = tr σ H fun vs H1 => ∃ j : Int, vs = [.int j] ∧ RI (Itr 0 j.toNat) H1 := nr rfl
theorem e_rb2 : iRB2 tr σ H RI = tr σ H fun vs H1 => ∃ i j : Int, vs = [.int i, .int j] ∧ RI (Itr i (j - i).toNat) H1 := nr rfl
theorem e_rbx1 {P : Int → Prop} : (∃ j' : Int, [V.int j] = [.int j'] ∧ P j') = P j := propext ⟨fun ⟨_, e, q⟩ => by cases e; exact q, fun q => ⟨_, rfl, q⟩⟩
theorem e_rbx2 {P : Int → Int → Prop} : (∃ i' j' : Int, [V.int i, V.int j] = [.int i', .int j'] ∧ P i' j') = P i j := propext ⟨fun ⟨_, _, e, q⟩ => by cases e; exact q, fun q => ⟨_, _, rfl, q⟩⟩
end
end TD

namespace TD
open PySem PySem.Spec PyProof.Rows L2
section
variable {K : PySem.W.Frag} {H : Hp} {l : List (Addr × MO)} {ds : List (V × D)} {a : Addr} {es : List D} {d e : D} {v x y : V} {Q : VK} {n i j : Nat} {b : Bool} {σ : L2.St} {tt : TT} {te : TE} {vs : List Nat} {lo : Int} {g : TG}
/-- what the new item is to give -/
def ItemC (p : Addr) (R : Hp → Prop) : VK := fun y H4 => ∃ xs, H4 p = some (.lst xs) ∧ xs.length < sizeLine ∧ R (upd H4 p (.lst (xs ++ [y])))
theorem item_push {p : Addr} {acc : List D} {R : Hp → Prop} (hs : S K H ((p, .dl acc) :: l) ds) (hk : Kn ds y e) (hl : acc.length < 1000000) (q : ∀ H5, S K H5 ((p, .dl (acc ++ [e])) :: l) ds → R H5) : ItemC p R y H := by
  obtain ⟨xs, h1, h2, h3, h4⟩ := hs.dlD (i := 0) rfl
  refine ⟨xs, h1, smallL (by omega), q _ (hs.writeDl (i := 0) rfl fun G ys hy hr r => ?_)⟩
  rw [h1] at hy
  cases hy
  exact hr.app (.cons (hk.rp r) .nil)
theorem w_compR (hs0 : S K H l ds) (hw : ∀ x, wipe ((wipe σ vs).set j (some x)) vs = wipe σ vs) (Pv : Addr → Nat → Hp → List D → Prop) (h0 : ∀ p H', S K H' ((p, .dl []) :: l) ds → Pv p 0 H' [])
    (hs : ∀ p i H' acc, i < n → Pv p i H' acc → tt ((wipe σ vs).set j (some (.int (lo + i)))) H' fun b H3 => if b = true then te ((wipe σ vs).set j (some (.int (lo + i)))) H3 (ItemC p fun H5 => ∃ acc', Pv p (i + 1) H5 acc') else ∃ acc', Pv p (i + 1) H3 acc')
    (hd : ∀ p H' acc, Pv p n H' acc → Q (.ref p) H') : CompR (Itr lo n) (gName j) tt te vs σ H Q := by
  intro p hp
  refine lc_range (lo := lo) (n := n) (fun i H' => ∃ acc, Pv p i H' acc) ⟨[], h0 p _ (hs0.freshDl hp True.intro)⟩ ?_ fun H' ⟨acc, h⟩ => hd p H' acc h
  rintro i H' hi ⟨acc, hP⟩
  exact ⟨hw _, hs p i H' acc hi hP⟩
/-- over a list of data -/
theorem w_compD (hs0 : S K H l ds) (hk0 : Kn ds x (.lst es)) (Pv : Addr → Nat → Hp → List D → Prop) (h0 : ∀ p H', S K H' ((p, .dl []) :: l) ds → Pv p 0 H' []) (hl : ∀ p i H' acc, Pv p i H' acc → ∃ l' ds', S K H' l' ds' ∧ Kn ds' x (.lst es))
    (hs : ∀ p i (y : V) (e : D) H' acc, es[i]? = some e → Pv p i H' acc → (∀ {l' ds'}, S K H' l' ds' → Kn ds' x (.lst es) → S K H' l' ((y, e) :: ds')) → g y (wipe σ vs) H' fun σ2 H2 => wipe σ2 vs = wipe σ vs ∧ tt σ2 H2 fun b H3 => if b = true then te σ2 H3 (ItemC p fun H5 => ∃ acc', Pv p (i + 1) H5 acc') else ∃ acc', Pv p (i + 1) H3 acc')
    (hd : ∀ p H' acc, Pv p es.length H' acc → Q (.ref p) H') : ∃ a, x = .ref a ∧ (∃ xs, SqL K H a xs) ∧ CompR (Itl K a) g tt te vs σ H Q := by
  have r := hs0.rp hk0
  obtain ⟨a, rfl⟩ : ∃ a, x = .ref a := by
    cases r
    exact ⟨_, rfl⟩
  obtain ⟨xs, h1, h2, h3, h4⟩ := hs0.lstD hk0
  refine ⟨a, rfl, ⟨xs, h1⟩, fun p hp => ?_⟩
  refine ⟨fun i m H' => m = es.length - i ∧ i ≤ es.length ∧ ∃ acc, Pv p i H' acc, ⟨es.length, by simp, Nat.zero_le _, [], h0 p _ (hs0.freshDl hp True.intro)⟩, ?_⟩
  rintro i m H' ⟨rfl, hi, acc, hP⟩
  obtain ⟨l', ds', hs', hk'⟩ := hl p i H' acc hP
  obtain ⟨ys, g1, g2, g3, g4⟩ := hs'.lstD hk'
  by_cases hlt : i < es.length
  · have hget : ys[i]? = some ys[i] := List.getElem?_eq_getElem (by omega)
    refine .inr ⟨⟨ys, ys[i], g1, hget⟩, fun H2 => ∃ acc, Pv p (i + 1) H2 acc, fun H2 p' => ⟨es.length - (i + 1), by omega, rfl, hlt, p'⟩, fun y H2 hy => ?_⟩
    obtain ⟨e, hy⟩ := hy
    subst e
    have ey : ys[i]? = some y := hy ys g1
    have ee : es[i]? = some es[i] := List.getElem?_eq_getElem hlt
    have known : ∀ {l2 ds2}, S K H2 l2 ds2 → Kn ds2 (.ref a) (.lst es) → S K H2 l2 ((y, es[i]) :: ds2) := fun {l2 ds2} s2 k2 => by
      obtain ⟨zs, z1, z2, z3, z4⟩ := s2.lstD k2
      have ez : zs[i]? = some y := hy zs z1
      refine z3.facts fun q hq => ?_
      rcases List.mem_cons.mp hq with e1 | hq
      · rw [e1]
        exact .inr (List.mem_append_left _ (List.mem_of_getElem? (List.getElem?_zip_eq_some.mpr ⟨ez, ee⟩)))
      · exact .inr (List.mem_append_right _ hq)
    exact hs p i y es[i] H2 acc ee hP known
  · have e : i = es.length := by omega
    subst e
    exact .inl ⟨⟨ys, g1, by omega⟩, hd p H' acc hP⟩
/-- unpacking a list -/
theorem w_unL {t : TGs} {R : L2.St → Hp → Prop} (hs : S K H l ds) (hi : l[i]? = some (a, .dl es)) (hn : es.length = n) (q : ∀ xs, xs.length = n → S K H l (xs.zip es ++ ds) → RpAll K H xs es → t xs σ H R) : gLst K n t (.ref a) σ H R := by
  obtain ⟨xs, h1, h2, h3, h4⟩ := hs.dlD hi
  exact ⟨a, xs, rfl, .inl (.inl h1), h2.trans hn, q xs (h2.trans hn) h3 h4⟩
theorem len2 {xs : List V} (h : xs.length = 2) : ∃ a b, xs = [a, b] := by
  match xs, h with
  | [a, b], _ => exact ⟨a, b, rfl⟩
theorem dlen2 {xs : List D} (h : xs.length = 2) : ∃ a b, xs = [a, b] := by
  match xs, h with
  | [a, b], _ => exact ⟨a, b, rfl⟩
theorem w_unL2 {t u : TG} {R : L2.St → Hp → Prop} {e1 e2 : D} (hs : S K H l ds) (hi : l[i]? = some (a, .dl [e1, e2])) (q : ∀ v1 v2, S K H l ((v1, e1) :: (v2, e2) :: ds) → t v1 σ H fun σ' H' => u v2 σ' H' R) : gLst K 2 (gCons t (gCons u gNil)) (.ref a) σ H R := by
  refine w_unL hs hi rfl fun xs hl h _ => ?_
  obtain ⟨v1, v2, rfl⟩ := len2 hl
  simp only [gcons_eq, gnil_eq]
  exact q v1 v2 h
theorem w_unT2 {t u : TG} {R : L2.St → Hp → Prop} {e1 e2 : D} (hs : S K H l ds) (hk : Kn ds x (.tup [e1, e2])) (q : ∀ v1 v2, S K H l ((v1, e1) :: (v2, e2) :: ds) → t v1 σ H fun σ' H' => u v2 σ' H' R) : gTup K 2 (gCons t (gCons u gNil)) x σ H R := by
  refine w_unT hs hk rfl fun xs hl h _ => ?_
  obtain ⟨v1, v2, rfl⟩ := len2 hl
  simp only [gcons_eq, gnil_eq]
  exact q v1 v2 h
theorem e_orT {ta tb : TE} : tOrT K ta tb σ H Q = ta σ H fun x H1 => ∃ k, TruV K x H1 k ∧ if k = true then Q x H1 else tb σ H1 Q := nr rfl
theorem e_andT {ta tb : TE} : tAndT K ta tb σ H Q = ta σ H fun x H1 => ∃ k, TruV K x H1 k ∧ if k = true then tb σ H1 Q else Q x H1 := nr rfl
theorem e_asgL {gs : TGs} {D : Ends} : tAsg te (gLst K n gs) D σ H = te σ H fun x H1 => gLst K n gs x σ H1 D.nx := nr rfl
end
end TD

local macro_rules | `(tactic| walk_at "td rd") => `(tactic| try simp only [TD.e_seq, TD.e_cut, L2.wipe, List.foldl_cons, List.foldl_nil, TD.e_next, TD.e_asg, TD.e_drop, TD.e_ret, TD.e_retN, TD.e_ifS, TD.e_var0, TD.e_varS, TD.e_c, TD.e_op, TD.e_un, TD.e_rI0, TD.e_rI, TD.e_rU, TD.e_test, TD.e_B, TD.e_bl, TD.e_and, TD.e_or, TD.e_not, TD.e_andV, TD.e_orV, TD.e_notV, TD.e_if, TD.e_nil, TD.e_cons, TD.e_call, TD.e_cb, TD.e_par, TD.e_par2, TD.e_isN, TD.e_notN, TD.e_chain, TD.e_eqI, TD.e_neI, TD.e_some, TD.e_gSub, TD.e_asgG, TD.e_max2, TD.e_min2, TD.e_int1, TD.e_intB, TD.e_tup, TD.e_lst, TD.e_for, TD.e_lc, TD.e_rb1, TD.e_rb2, TD.e_rbx1, TD.e_rbx2, TD.e_ilst, TD.e_itup, TD.e_bm, TD.e_bm0, TD.e_cp2, TD.e_cp3, TD.e_cp4, TD.e_cp5, TD.e_cp6, TD.e_cp9, TD.e_cp12, TD.e_cp13, TD.e_cp15, TD.e_cp18, TD.e_cp20, TD.e_cp21, TD.e_cp25, TD.e_cp30, TD.e_cp35, TD.e_cp40, TD.e_cp45, TD.e_cp50, TD.e_cp56, TD.e_cp57, TD.e_cp58, TD.e_cp60, TD.e_gtup, TD.e_orT, TD.e_andT, TD.e_asgL, TD.e_aug, TD.e_ipI, TD.e_isNV, TD.e_notNV, TD.e_gn, TD.e_yes,
  List.set_cons_zero, List.set_cons_succ, List.append_nil, List.nil_append, List.cons_append, decide_eq_true_eq, Bool.not_eq_true', decide_eq_false_iff_not, Bool.not_true, Bool.not_false, true_and, and_true, Bool.false_eq_true, if_false, if_true, ite_true, ite_false, reduceCtorEq, List.length_map, List.length_cons, List.length_nil, Nat.zero_add, Nat.reduceAdd, Int.cast_ofNat_Int, Decidable.not_not, not_true_eq_false, not_false_eq_true, Int.reduceAdd, exists_eq_left, exists_eq_left'])
local macro_rules | `(tactic| walk_at "td len") => `(tactic| (intro vs H Q E h; (repeat (rcases h with ⟨_, h⟩)); subst_vars; rfl))
local macro_rules | `(tactic| walk_at "td kn") => `(tactic| first | exact TD.kn_int | exact TD.kn_str | exact TD.kn_bl | exact TD.kn_non | assumption | exact TD.kn_ix 0 rfl | exact TD.kn_ix 1 rfl | exact TD.kn_ix 2 rfl | exact TD.kn_ix 3 rfl | exact TD.kn_ix 4 rfl | exact TD.kn_ix 5 rfl | exact TD.kn_ix 6 rfl | exact TD.kn_ix 7 rfl)
local macro_rules | `(tactic| walk_at "td kna") => `(tactic| (repeat (first | exact True.intro | refine ⟨by walk_at "td kn", ?_⟩)))
local macro_rules | `(tactic| walk_at "td ix") => `(tactic| first
  | refine TD.w_ixMn (i := 0) (by assumption) rfl rfl ?_ | refine TD.w_ixMn (i := 1) (by assumption) rfl rfl ?_ | refine TD.w_ixMn (i := 2) (by assumption) rfl rfl ?_
  | refine TD.w_ixTn (by assumption) (by walk_at "td kn") rfl ?_ | refine TD.w_ixLn (by assumption) (by walk_at "td kn") rfl ?_)
local macro_rules | `(tactic| walk_at "td go") => `(tactic| (walk_at "td rd"; repeat (walk_at "td ix"; walk_at "td rd")))

namespace TD
open PySem PySem.Spec PyProof.Rows L2
def t_is_whole (K : PySem.W.Frag) : TS := (tRet (tAndV (tCB (rIsi K) (tCons (tVar 0) (tCons (tC (.ty "int")) tNil))) (tAndV (tNotV (tCB (rIsi K) (tCons (tVar 0) (tCons (tC (.ty "bool")) tNil)))) (tOp (oGe) (tVar 0) (tVar 1)))))
end TD
namespace TD
open PySem PySem.Spec PyProof.Rows L2
section
variable {K : PySem.W.Frag}
def isWhole (d : D) (n : Int) : Bool := match d with
  | .int i => decide (n ≤ i)
  | _ => false
def sp_is_whole (K : PySem.W.Frag) : Sp := fun vs H Q _ => ∃ (v : V) (d : D) (n : Int) (l : List (Addr × MO)) (ds : List (V × D)), vs = [v, .int n] ∧ S K H l ds ∧ Kn ds v d ∧ d.plain = true ∧ Q (.bl (isWhole d n)) H
theorem len_is_whole : ∀ vs H Q E, sp_is_whole K vs H Q E → vs.length = 2 := by walk_at "td len"
theorem sem_is_whole (vs : List V) (H : Hp) (Q : VK) (E : XK) (h : sp_is_whole K vs H Q E) : t_is_whole K (EndsOf Q) (stN 2 vs) H := by
  obtain ⟨v, d, n, l, ds, rfl, hs, hk, hp, q⟩ := h
  show t_is_whole K (EndsOf Q) [some v, some (.int n)] H
  unfold t_is_whole
  walk_at "td rd"
  refine w_isi hs hk hp (by simp) ?_
  cases d with
  | int i =>
    have e := hs.int hk
    subst e
    rw [show isK (D.int i).kind "int" = true from rfl]
    walk_at "td rd"
    refine w_isi hs hk hp (by simp) ?_
    rw [show isK (D.int i).kind "bool" = false from rfl]
    walk_at "td rd"
    exact q
  | bl b =>
    rw [show isK (D.bl b).kind "int" = true from rfl]
    walk_at "td rd"
    refine w_isi hs hk hp (by simp) ?_
    rw [show isK (D.bl b).kind "bool" = true from rfl]
    walk_at "td rd"
    exact q
  | non =>
    rw [show isK D.non.kind "int" = false from rfl]
    walk_at "td rd"
    exact q
  | str x =>
    rw [show isK (D.str x).kind "int" = false from rfl]
    walk_at "td rd"
    exact q
  | lst x =>
    rw [show isK (D.lst x).kind "int" = false from rfl]
    walk_at "td rd"
    exact q
  | tup x =>
    rw [show isK (D.tup x).kind "int" = false from rfl]
    walk_at "td rd"
    exact q
  | ob c x => cases hp
end
end TD

namespace TD
open PySem PySem.Spec PyProof.Rows L2
def t_check_periodic (K : PySem.W.Frag) : TS := (tIfS (tOr (tNot (tB (tCB (rIsi K) (tCons (tVar 0) (tCons (tC (.ty "tuple")) tNil))))) (tOr (tTest (tOp (rNe) (tCB (rLenS K) (tCons (tVar 0) tNil)) (tC (.int 2)))) (tOr (tNot (tB (tCall (sp_is_whole K) [.int 0] E0 (tCons (tOp (rIxT K) (tVar 0) (tC (.int 0))) tNil)))) (tNot (tB (tCall (sp_is_whole K) [] E0 (tCons (tOp (rIxT K) (tVar 0) (tC (.int 1))) (tCons (tC (.int 1)) tNil)))))))) tNever tNext)
end TD
namespace TD
open PySem PySem.Spec PyProof.Rows L2
section
variable {K : PySem.W.Frag}
def sp_check_periodic (K : PySem.W.Frag) : Sp := fun vs H Q _ => ∃ (v : V) (p q : Int) (l : List (Addr × MO)) (ds : List (V × D)), vs = [v] ∧ S K H l ds ∧ Kn ds v (.tup [.int p, .int q]) ∧ 0 ≤ p ∧ 1 ≤ q ∧ Q .non H
theorem len_check_periodic : ∀ vs H Q E, sp_check_periodic K vs H Q E → vs.length = 1 := by walk_at "td len"
theorem Kn.ref_tup {ds : List (V × D)} {l : List (Addr × MO)} {H : Hp} {v : V} {es : List D} (hs : S K H l ds) (h : Kn ds v (.tup es)) : ∃ a, v = .ref a := by
  have r := hs.rp h
  cases r
  exact ⟨_, rfl⟩
theorem Kn.ref_lst {ds : List (V × D)} {l : List (Addr × MO)} {H : Hp} {v : V} {es : List D} (hs : S K H l ds) (h : Kn ds v (.lst es)) : ∃ a, v = .ref a := by
  have r := hs.rp h
  cases r
  exact ⟨_, rfl⟩
theorem sem_check_periodic (vs : List V) (H : Hp) (Q : VK) (E : XK) (h : sp_check_periodic K vs H Q E) : t_check_periodic K (EndsOf Q) (stN 1 vs) H := by
  obtain ⟨v, p, k, l, ds, rfl, hs, hk, h0, h1, q⟩ := h
  obtain ⟨a, rfl⟩ := hk.ref_tup hs
  show t_check_periodic K (EndsOf Q) [some (.ref a)] H
  unfold t_check_periodic
  walk_at "td rd"
  refine w_isiB hs hk rfl (by simp) (b := true) rfl ?_
  walk_at "td rd"
  refine w_lenT hs hk ?_
  walk_at "td rd"
  refine w_ixTn hs hk rfl ?_
  walk_at "td rd"
  refine ⟨_, .int p, 0, l, ds, rfl, hs, kn_int, rfl, ?_⟩
  rw [show isWhole (.int p) 0 = true from decide_eq_true h0]
  walk_at "td rd"
  refine w_ixTn hs hk rfl ?_
  walk_at "td rd"
  refine ⟨_, .int k, 1, l, ds, rfl, hs, kn_int, rfl, ?_⟩
  rw [show isWhole (.int k) 1 = true from decide_eq_true h1]
  walk_at "td rd"
  exact q
end
end TD

namespace TD
open PySem PySem.Spec PyProof.Rows L2
def t_common_divisor (K : PySem.W.Frag) : TS := (tSeq (tWhile (tTest (tOp (rNe) (tVar 1) (tC (.int 0)))) (tPar 0 1 (tCons (tVar 1) (tCons (tOp (oMod) (tVar 0) (tVar 1)) tNil))))
  (tRet (tVar 0)))
end TD
namespace TD
open PySem PySem.Spec PyProof.Rows L2
section
variable {K : PySem.W.Frag}
theorem gcd_step {a b : Int} (ha : 0 ≤ a) (hb : 0 ≤ b) : Int.gcd b (a % b) = Int.gcd a b := by
  obtain ⟨m, rfl⟩ := Int.eq_ofNat_of_zero_le ha
  obtain ⟨n, rfl⟩ := Int.eq_ofNat_of_zero_le hb
  show Int.gcd (n : Int) ((m : Int) % (n : Int)) = Int.gcd (m : Int) (n : Int)
  rw [← Int.natCast_emod, Int.gcd_natCast_natCast, Int.gcd_natCast_natCast, Nat.gcd_comm m n, Nat.gcd_comm n (m % n), ← Nat.gcd_rec]
def sp_common_divisor (K : PySem.W.Frag) : Sp := fun vs H Q _ => ∃ (a b : Int), vs = [.int a, .int b] ∧ 0 ≤ a ∧ 0 ≤ b ∧ Q (.int (Int.gcd a b : Int)) H
theorem len_common_divisor : ∀ vs H Q E, sp_common_divisor K vs H Q E → vs.length = 2 := by walk_at "td len"
theorem sem_common_divisor (vs : List V) (H : Hp) (Q : VK) (E : XK) (h : sp_common_divisor K vs H Q E) : t_common_divisor K (EndsOf Q) (stN 2 vs) H := by
  obtain ⟨a, b, rfl, ha, hb, q⟩ := h
  show t_common_divisor K (EndsOf Q) [some (.int a), some (.int b)] H
  unfold t_common_divisor
  walk_at "td rd"
  refine w_while (fun m σ H' => ∃ x y : Int, σ = [some (.int x), some (.int y)] ∧ H' = H ∧ 0 ≤ x ∧ 0 ≤ y ∧ Int.gcd x y = Int.gcd a b ∧ m = y.toNat) b.toNat ⟨a, b, rfl, rfl, ha, hb, rfl, rfl⟩ ?_ ?_
  · rintro m σ H' ⟨x, y, rfl, rfl, hx, hy, hg, rfl⟩
    walk_at "td rd"
    refine ite2 (fun h => ?_) (fun h => ?_)
    · have hy' : 0 < y := by omega
      refine ⟨hy', (x % y).toNat, ?_, y, x % y, rfl, hy, Int.emod_nonneg _ (by omega), (gcd_step hx hy).trans hg, rfl⟩
      have := Int.emod_lt_of_pos x hy'
      have := Int.emod_nonneg x (show y ≠ 0 by omega)
      omega
    · have hy' : y = 0 := by omega
      subst hy'
      have e : (Int.gcd a b : Int) = x := by
        rw [← hg, Int.gcd_zero_right]
        omega
      rw [e] at q
      exact q
  · intro σ H' Q1 Q2 hq h
    obtain ⟨v, e1, h⟩ := h
    exact ⟨v, e1, h.1, h.2.imp fun k hk => ⟨hk.1, hq _ _ hk.2⟩⟩
end
end TD

namespace TD
open PySem PySem.Spec PyProof.Rows L2
def t_inverse (K : PySem.W.Frag) : TS := (tSeq (tAsg (tTup (tCons (tC (.int 1)) (tCons (tC (.int 0)) (tCons (tOp (oMod) (tVar 0) (tVar 1)) (tCons (tVar 1) tNil))))) (gTup K 4 (gCons (gName 2) (gCons (gName 3) (gCons (gName 4) (gCons (gName 5) gNil))))))
  (tSeq (tWhile (tTest (tOp (rNe) (tVar 5) (tC (.int 0)))) (tSeq (tAsg (tOp (oDiv) (tVar 4) (tVar 5)) (gName 6))
  (tSeq (tPar 4 5 (tCons (tVar 5) (tCons (tOp (oMod) (tVar 4) (tVar 5)) tNil)))
  (tPar 2 3 (tCons (tVar 3) (tCons (tOp (oSub) (tVar 2) (tOp (oMul) (tVar 6) (tVar 3))) tNil))))))
  (tRet (tOp (oMod) (tVar 2) (tVar 1)))))
end TD
namespace TD
open PySem PySem.Spec PyProof.Rows L2
section
variable {K : PySem.W.Frag}
def sp_inverse (K : PySem.W.Frag) : Sp := fun vs H Q _ => ∃ (n b : Int) (l : List (Addr × MO)) (ds : List (V × D)), vs = [.int n, .int b] ∧ S K H l ds ∧ 0 ≤ n ∧ 1 < b ∧ b < 10 ^ 100 ∧ Int.gcd n b = 1 ∧ ∀ (r : Int) H', 0 ≤ r → r < b → b ∣ (r * n - 1) → S K H' l ds → Q (.int r) H'
theorem len_inverse : ∀ vs H Q E, sp_inverse K vs H Q E → vs.length = 2 := by walk_at "td len"
/-- what holds ahead of each turn: f * n is x up to b, o * n is y up to b, the sizes -/
structure Euc (n b f o x y : Int) : Prop where
  x1 : 1 ≤ x
  xb : x ≤ b
  y0 : 0 ≤ y
  yb : y ≤ b
  g : Int.gcd x y = 1
  cf : b ∣ f * n - x
  co : b ∣ o * n - y
  sz : (f.natAbs : Int) * y + (o.natAbs : Int) * x ≤ b
theorem Euc.step {n b f o x y : Int} (h : Euc n b f o x y) (hy : 0 < y) : Euc n b o (f - x / y * o) y (x % y) := by
  have d0 : 0 ≤ x / y := Int.ediv_nonneg (by have := h.x1; omega) (by omega)
  have m0 : 0 ≤ x % y := Int.emod_nonneg _ (by omega)
  have m1 : x % y < y := Int.emod_lt_of_pos _ hy
  have dm : x / y * y + x % y = x := by rw [Int.mul_comm]; exact Int.mul_ediv_add_emod x y
  refine ⟨by omega, h.yb, m0, by have := h.yb; omega, (gcd_step (by have := h.x1; omega) h.y0).trans h.g, h.co, ?_, ?_⟩
  · obtain ⟨u, hu⟩ := h.cf
    obtain ⟨w, hw⟩ := h.co
    refine ⟨u - x / y * w, ?_⟩
    have e1 : x % y = x - x / y * y := by omega
    rw [e1, Int.sub_mul, Int.mul_sub, ← hu, Int.mul_left_comm, ← hw, Int.mul_sub, Int.mul_assoc]
    omega
  · have a1 : ((f - x / y * o).natAbs : Int) ≤ (f.natAbs : Int) + x / y * (o.natAbs : Int) := by
      have t1 : (f - x / y * o).natAbs ≤ f.natAbs + (x / y * o).natAbs := Int.natAbs_sub_le _ _
      have t2 : ((x / y * o).natAbs : Int) = x / y * (o.natAbs : Int) := by
        rw [Int.natAbs_mul, Int.natCast_mul, Int.natAbs_of_nonneg d0]
      omega
    have a2 : ((f - x / y * o).natAbs : Int) * y ≤ ((f.natAbs : Int) + x / y * (o.natAbs : Int)) * y := Int.mul_le_mul_of_nonneg_right a1 (by omega)
    have a3 : ((f.natAbs : Int) + x / y * (o.natAbs : Int)) * y = (f.natAbs : Int) * y + (o.natAbs : Int) * (x / y * y) := by
      rw [Int.add_mul, Int.mul_comm (x / y), Int.mul_assoc]
    have a4 : (o.natAbs : Int) * x = (o.natAbs : Int) * (x / y * y) + (o.natAbs : Int) * (x % y) := by
      rw [← Int.mul_add, dm]
    have a5 := h.sz
    omega
theorem Euc.small {n b f o x y : Int} (h : Euc n b f o x y) (hy : 0 < y) : (f.natAbs : Int) ≤ b ∧ (o.natAbs : Int) ≤ b := by
  have h1 : (f.natAbs : Int) * 1 ≤ (f.natAbs : Int) * y := Int.mul_le_mul_of_nonneg_left (by omega) (by omega)
  have h2 : (o.natAbs : Int) * 1 ≤ (o.natAbs : Int) * x := Int.mul_le_mul_of_nonneg_left h.x1 (by omega)
  have h3 : 0 ≤ (f.natAbs : Int) * y := Int.mul_nonneg (by omega) (by omega)
  have h4 : 0 ≤ (o.natAbs : Int) * x := Int.mul_nonneg (by omega) (by have := h.x1; omega)
  have h5 := h.sz
  omega
theorem Euc.first {n b : Int} (hn : 0 ≤ n) (hb : 1 < b) (hg : Int.gcd n b = 1) : Euc n b 1 0 (n % b) b := by
  have m0 : 0 ≤ n % b := Int.emod_nonneg _ (by omega)
  have m1 : n % b < b := Int.emod_lt_of_pos _ (by omega)
  have g : Int.gcd (n % b) b = 1 := by
    rw [Int.gcd_comm, gcd_step hn (by omega)]
    exact hg
  have x1 : 1 ≤ n % b := by
    by_cases h : n % b = 0
    · rw [h, Int.gcd_zero_left] at g
      omega
    · omega
  refine ⟨x1, by omega, by omega, Int.le_refl _, g, ?_, ⟨-1, by omega⟩, ?_⟩
  · have e := Int.mul_ediv_add_emod n b
    exact ⟨n / b, by omega⟩
  · show ((1 : Nat) : Int) * b + ((0 : Nat) : Int) * (n % b) ≤ b
    omega
theorem sem_inverse (vs : List V) (H : Hp) (Q : VK) (E : XK) (h : sp_inverse K vs H Q E) : t_inverse K (EndsOf Q) (stN 7 vs) H := by
  obtain ⟨n, b, l, ds, rfl, hs, hn, hb, hb2, hg, q⟩ := h
  have hbig : (10 : Int) ^ 200 < big := big_ge
  show t_inverse K (EndsOf Q) [some (.int n), some (.int b), none, none, none, none, none] H
  unfold t_inverse
  walk_at "td rd"
  refine ⟨by omega, ?_⟩
  refine d_tup (es := [.int 1, .int 0, .int (n % b), .int b]) hs (by walk_at "td kna") (by show 4 ≤ 1000000; decide) fun p H1 hs1 => ?_
  refine w_unT hs1 (kn_ix 0 rfl) rfl fun xs hl _ hr => ?_
  have e := RpAll.ints (ns := [1, 0, n % b, b]) hr
  rw [e]
  simp only [List.map_cons, List.map_nil, gcons_eq, gnil_eq]
  walk_at "td rd"
  refine w_while (fun m σ H' => ∃ (f o x y : Int) (z : Option V), σ = [some (.int n), some (.int b), some (.int f), some (.int o), some (.int x), some (.int y), z] ∧ H' = H1 ∧ Euc n b f o x y ∧ m = y.toNat) b.toNat ⟨1, 0, n % b, b, none, rfl, rfl, Euc.first hn hb hg, rfl⟩ ?_ ?_
  · rintro m σ H' ⟨f, o, x, y, z, rfl, rfl, he, rfl⟩
    have y0 := he.y0
    have yb := he.yb
    have xb := he.xb
    have x1 := he.x1
    walk_at "td rd"
    refine ite2 (fun h => ?_) (fun h => ?_)
    · have hy : 0 < y := by omega
      obtain ⟨s1, s2⟩ := he.small hy
      have d0 : 0 ≤ x / y := Int.ediv_nonneg (by omega) (by omega)
      have d1 : x / y ≤ x := Int.ediv_le_self _ (by omega)
      have m1 := Int.emod_lt_of_pos x hy
      have m0 := Int.emod_nonneg x (show y ≠ 0 by omega)
      refine ⟨cd hy (by omega), hy, cm (by omega) (by omega) (by omega) (by omega), (x % y).toNat, by omega, o, _, y, x % y, _, rfl, he.step hy, rfl⟩
    · have hy : y = 0 := by omega
      subst hy
      refine ⟨by omega, ?_⟩
      have hx : x = 1 := by
        have g := he.g
        rw [Int.gcd_zero_right] at g
        omega
      subst hx
      refine q _ _ (Int.emod_nonneg _ (by omega)) (Int.emod_lt_of_pos _ (by omega)) ?_ (hs1.facts fun z hz => .inr (List.mem_cons_of_mem _ hz))
      obtain ⟨u, hu⟩ := he.cf
      have e := Int.mul_ediv_add_emod f b
      refine ⟨u - f / b * n, ?_⟩
      have e1 : f % b = f - b * (f / b) := by omega
      rw [e1, Int.sub_mul, Int.mul_sub, ← hu, Int.mul_assoc]
      omega
  · intro σ H' Q1 Q2 hq h
    obtain ⟨v, e1, h⟩ := h
    exact ⟨v, e1, h.1, h.2.imp fun k hk => ⟨hk.1, hq _ _ hk.2⟩⟩
end
end TD

namespace TD
open PySem PySem.Spec PyProof.Rows L2
def t_common (K : PySem.W.Frag) : TS := (tSeq (tDrop (tCall (sp_check_periodic K) [] E0 (tCons (tVar 0) tNil)))
  (tSeq (tDrop (tCall (sp_check_periodic K) [] E0 (tCons (tVar 1) tNil)))
  (tSeq (tAsg (tCall (sp_common_divisor K) [] E0 (tCons (tOp (rIxT K) (tVar 0) (tC (.int 1))) (tCons (tOp (rIxT K) (tVar 1) (tC (.int 1))) tNil))) (gName 2))
  (tSeq (tIfS (tTest (tOp (rNe) (tOp (oMod) (tOp (oSub) (tOp (rIxT K) (tVar 1) (tC (.int 0))) (tOp (rIxT K) (tVar 0) (tC (.int 0)))) (tVar 2)) (tC (.int 0)))) (tRet (tC .non)) tNext)
  (tSeq (tAsg (tOp (oMul) (tOp (oDiv) (tOp (rIxT K) (tVar 0) (tC (.int 1))) (tVar 2)) (tOp (rIxT K) (tVar 1) (tC (.int 1)))) (gName 3))
  (tSeq (tAsg (tOp (oDiv) (tOp (rIxT K) (tVar 1) (tC (.int 1))) (tVar 2)) (gName 4))
  (tSeq (tAsg (tIf (tTest (tOp (oGt) (tVar 4) (tC (.int 1)))) (tOp (oMod) (tOp (oMul) (tOp (oDiv) (tOp (oSub) (tOp (rIxT K) (tVar 1) (tC (.int 0))) (tOp (rIxT K) (tVar 0) (tC (.int 0)))) (tVar 2)) (tCall (sp_inverse K) [] E0 (tCons (tOp (oDiv) (tOp (rIxT K) (tVar 0) (tC (.int 1))) (tVar 2)) (tCons (tVar 4) tNil)))) (tVar 4)) (tC (.int 0))) (gName 5))
  (tSeq (tAsg (tOp (oAdd) (tOp (rIxT K) (tVar 0) (tC (.int 0))) (tOp (oMul) (tVar 5) (tOp (rIxT K) (tVar 0) (tC (.int 1))))) (gName 6))
  (tSeq (tAsg (tCB rMax2 (tCons (tOp (rIxT K) (tVar 0) (tC (.int 0))) (tCons (tOp (rIxT K) (tVar 1) (tC (.int 0))) tNil))) (gName 7))
  (tRet (tTup (tCons (tOp (oAdd) (tVar 7) (tOp (oMod) (tOp (oSub) (tVar 6) (tVar 7)) (tVar 3))) (tCons (tVar 3) tNil)))))))))))))
end TD
namespace TD
open PySem PySem.Spec PyProof.Rows L2
section
variable {K : PySem.W.Frag}
/-- what common may say -/
def ComOk (a0 a1 o0 o1 : Int) (d : D) : Prop := (d = .non ∧ ¬ ((Int.gcd a1 o1 : Int) ∣ o0 - a0)) ∨
  ∃ f e : Int, d = .tup [.int f, .int e] ∧ (Int.gcd a1 o1 : Int) ∣ o0 - a0 ∧ e = a1 / (Int.gcd a1 o1 : Int) * o1 ∧ max a0 o0 ≤ f ∧ f < max a0 o0 + e ∧ a1 ∣ f - a0 ∧ o1 ∣ f - o0
theorem gcd_pos_of {a b : Int} (h : 1 ≤ a) : (0 : Int) < (Int.gcd a b : Int) := by
  have h1 : 0 < Int.gcd a b := Nat.pos_of_ne_zero fun e => by
    rw [Int.gcd_eq_zero_iff] at e
    omega
  omega
theorem gcd_dl (a b : Int) : (Int.gcd a b : Int) ∣ a := Int.gcd_dvd_left ..
theorem gcd_dr (a b : Int) : (Int.gcd a b : Int) ∣ b := Int.gcd_dvd_right ..
/-- the first common tick, from a solution of the congruence -/
theorem com_make {a0 a1 o0 o1 t : Int} (h1 : 1 ≤ a1) (h2 : 1 ≤ o1) (hd : (Int.gcd a1 o1 : Int) ∣ o0 - a0) (ht : o1 / (Int.gcd a1 o1 : Int) ∣ t * (a1 / (Int.gcd a1 o1 : Int)) - (o0 - a0) / (Int.gcd a1 o1 : Int)) :
    ComOk a0 a1 o0 o1 (.tup [.int (max a0 o0 + (a0 + t * a1 - max a0 o0) % (a1 / (Int.gcd a1 o1 : Int) * o1)), .int (a1 / (Int.gcd a1 o1 : Int) * o1)]) := by
  have g0 := gcd_pos_of (a := a1) (b := o1) h1
  obtain ⟨a, ea⟩ := gcd_dl a1 o1
  obtain ⟨o, eo⟩ := gcd_dr a1 o1
  obtain ⟨c, ec⟩ := hd
  have hd' : (Int.gcd a1 o1 : Int) ∣ o0 - a0 := ⟨c, ec⟩
  unfold ComOk
  generalize (Int.gcd a1 o1 : Int) = g at *
  have qa : a1 / g = a := by rw [ea]; exact Int.mul_ediv_cancel_left _ (by omega)
  have qo : o1 / g = o := by rw [eo]; exact Int.mul_ediv_cancel_left _ (by omega)
  have qc : (o0 - a0) / g = c := by rw [ec]; exact Int.mul_ediv_cancel_left _ (by omega)
  rw [qa] at ht ⊢
  rw [qo, qc] at ht
  have pa : 0 < a := by
    have : 0 < g * a := by omega
    exact Int.pos_of_mul_pos_right this (by omega)
  have pe : 0 < a * o1 := Int.mul_pos pa (by omega)
  have m0 := Int.emod_nonneg (a0 + t * a1 - max a0 o0) (show a * o1 ≠ 0 by omega)
  have m1 := Int.emod_lt_of_pos (a0 + t * a1 - max a0 o0) pe
  have dm := Int.mul_ediv_add_emod (a0 + t * a1 - max a0 o0) (a * o1)
  have da : a1 ∣ a * o1 := ⟨o, by rw [ea, eo, Int.mul_left_comm, Int.mul_assoc]⟩
  have do' : o1 ∣ a * o1 := ⟨a, Int.mul_comm _ _⟩
  generalize hz : (a0 + t * a1 - max a0 o0) / (a * o1) = z at dm
  refine .inr ⟨_, _, rfl, hd', ?_, by omega, by omega, ?_, ?_⟩
  · rfl
  · have e : max a0 o0 + (a0 + t * a1 - max a0 o0) % (a * o1) - a0 = t * a1 - a * o1 * z := by omega
    rw [e]
    exact Int.dvd_sub ⟨t, Int.mul_comm _ _⟩ (Int.dvd_mul_of_dvd_left da)
  · obtain ⟨k, ek⟩ := ht
    have e : max a0 o0 + (a0 + t * a1 - max a0 o0) % (a * o1) - o0 = (t * a1 - (o0 - a0)) - a * o1 * z := by omega
    rw [e]
    refine Int.dvd_sub ⟨k, ?_⟩ (Int.dvd_mul_of_dvd_left do')
    have e2 : t * a1 - (o0 - a0) = g * (t * a - c) := by
      rw [ec, Int.mul_sub, ea, Int.mul_left_comm]
    rw [e2, ek, eo, Int.mul_assoc]
theorem gcd_quot {a b : Int} (h : 1 ≤ a) : Int.gcd (a / (Int.gcd a b : Int)) (b / (Int.gcd a b : Int)) = 1 := by
  have g0 := gcd_pos_of (a := a) (b := b) h
  obtain ⟨x, hx⟩ := gcd_dl a b
  obtain ⟨y, hy⟩ := gcd_dr a b
  have h1 : Int.gcd ((Int.gcd a b : Int) * x) ((Int.gcd a b : Int) * y) = Int.gcd a b := by rw [← hx, ← hy]
  rw [Int.gcd_mul_left, Int.natAbs_natCast] at h1
  have e1 : a / (Int.gcd a b : Int) = x := Int.ediv_eq_of_eq_mul_right (by omega) hx
  have e2 : b / (Int.gcd a b : Int) = y := Int.ediv_eq_of_eq_mul_right (by omega) hy
  rw [e1, e2]
  exact Nat.eq_of_mul_eq_mul_left (show 0 < Int.gcd a b by omega) (by omega)
def sp_common (K : PySem.W.Frag) : Sp := fun vs H Q _ => ∃ (v w : V) (a0 a1 o0 o1 : Int) (l : List (Addr × MO)) (ds : List (V × D)), vs = [v, w] ∧ S K H l ds ∧ Kn ds v (.tup [.int a0, .int a1]) ∧ Kn ds w (.tup [.int o0, .int o1]) ∧
  0 ≤ a0 ∧ a0 < 10 ^ 70 ∧ 1 ≤ a1 ∧ a1 < 10 ^ 70 ∧ 0 ≤ o0 ∧ o0 < 10 ^ 70 ∧ 1 ≤ o1 ∧ o1 < 10 ^ 70 ∧ ∀ r d H', ComOk a0 a1 o0 o1 d → S K H' l ((r, d) :: ds) → Q r H'
theorem len_common : ∀ vs H Q E, sp_common K vs H Q E → vs.length = 2 := by walk_at "td len"
theorem sem_common (vs : List V) (H : Hp) (Q : VK) (E : XK) (h : sp_common K vs H Q E) : t_common K (EndsOf Q) (stN 8 vs) H := by
  obtain ⟨v, w, a0, a1, o0, o1, l, ds, rfl, hs, kv, kw, p1, p2, p3, p4, p5, p6, p7, p8, q⟩ := h
  have hbig : (10 : Int) ^ 200 < big := big_ge
  obtain ⟨a, rfl⟩ := kv.ref_tup hs
  obtain ⟨b, rfl⟩ := kw.ref_tup hs
  show t_common K (EndsOf Q) [some (.ref a), some (.ref b), none, none, none, none, none, none] H
  have i0 : ∀ {Q : VK}, Q (.int a0) H → rIxT K (.ref a) (.int 0) H Q := fun q => w_ixTn hs kv rfl q
  have i1 : ∀ {Q : VK}, Q (.int a1) H → rIxT K (.ref a) (.int 1) H Q := fun q => w_ixTn hs kv rfl q
  have j0 : ∀ {Q : VK}, Q (.int o0) H → rIxT K (.ref b) (.int 0) H Q := fun q => w_ixTn hs kw rfl q
  have j1 : ∀ {Q : VK}, Q (.int o1) H → rIxT K (.ref b) (.int 1) H Q := fun q => w_ixTn hs kw rfl q
  unfold t_common
  walk_at "td rd"
  refine ⟨_, a0, a1, l, ds, rfl, hs, kv, p1, p3, ?_⟩
  walk_at "td rd"
  refine ⟨_, o0, o1, l, ds, rfl, hs, kw, p5, p7, ?_⟩
  walk_at "td rd"
  refine i1 ?_
  walk_at "td rd"
  refine j1 ?_
  walk_at "td rd"
  refine ⟨a1, o1, rfl, by omega, by omega, ?_⟩
  have g0 := gcd_pos_of (a := a1) (b := o1) p3
  have ga := gcd_dl a1 o1
  have go := gcd_dr a1 o1
  have gle : (Int.gcd a1 o1 : Int) ≤ a1 := Int.le_of_dvd (by omega) ga
  have gq := gcd_quot (a := a1) (b := o1) p3
  have mk := com_make (a0 := a0) (a1 := a1) (o0 := o0) (o1 := o1) (t := 0) p3 p7
  have mk2 := fun t => com_make (a0 := a0) (a1 := a1) (o0 := o0) (o1 := o1) (t := t) p3 p7
  have hno : ¬ ((Int.gcd a1 o1 : Int) ∣ o0 - a0) → ComOk a0 a1 o0 o1 .non := fun h => .inl ⟨rfl, h⟩
  generalize (Int.gcd a1 o1 : Int) = g at *
  have qa1 : a1 / g ≤ a1 := Int.ediv_le_self _ (by omega)
  have qa0 : 0 < a1 / g := Int.ediv_pos_of_pos_of_dvd (by omega) (by omega) ga
  have qo1 : o1 / g ≤ o1 := Int.ediv_le_self _ (by omega)
  have qo0 : 0 < o1 / g := Int.ediv_pos_of_pos_of_dvd (by omega) (by omega) go
  have mg : ∀ x y : Int, 0 ≤ x → x < 10 ^ 80 → 0 ≤ y → y < 10 ^ 80 → 0 ≤ x * y ∧ x * y < 10 ^ 160 := fun x y h1 h2 h3 h4 => ⟨Int.mul_nonneg h1 h3, by
    have a1 : x * y ≤ 10 ^ 80 * y := Int.mul_le_mul_of_nonneg_right (by omega) h3
    omega⟩
  have ev := mg (a1 / g) o1 (by omega) (by omega) (by omega) (by omega)
  walk_at "td rd"
  refine j0 ?_
  walk_at "td rd"
  refine i0 ?_
  walk_at "td rd"
  refine ⟨g0, ite2 (fun h => ?_) (fun h => ?_)⟩
  · exact q _ _ H (hno fun hd => h (Int.emod_eq_zero_of_dvd hd)) (hs.know kn_non)
  · have hd : g ∣ o0 - a0 := Int.dvd_of_emod_eq_zero (by simpa using h)
    refine i1 ?_
    walk_at "td rd"
    refine ⟨cd g0 (by omega), ?_⟩
    refine j1 ?_
    walk_at "td rd"
    refine ⟨cm (by omega) (by omega) (by omega) (by omega), ?_⟩
    refine j1 ?_
    walk_at "td rd"
    refine ⟨cd g0 (by omega), ite2 (fun h1 => ?_) (fun h1 => ?_)⟩
    · refine j0 ?_
      walk_at "td rd"
      refine i0 ?_
      walk_at "td rd"
      refine ⟨cd g0 (by omega), ?_⟩
      refine i1 ?_
      walk_at "td rd"
      refine ⟨cd g0 (by omega), ?_⟩
      refine ⟨a1 / g, o1 / g, l, ds, rfl, hs, by omega, h1, by omega, gq, fun r H1 r0 r1 hr hs1 => ?_⟩
      have i0 : ∀ {Q : VK}, Q (.int a0) H1 → rIxT K (.ref a) (.int 0) H1 Q := fun q => w_ixTn hs1 kv rfl q
      have i1 : ∀ {Q : VK}, Q (.int a1) H1 → rIxT K (.ref a) (.int 1) H1 Q := fun q => w_ixTn hs1 kv rfl q
      have j0 : ∀ {Q : VK}, Q (.int o0) H1 → rIxT K (.ref b) (.int 0) H1 Q := fun q => w_ixTn hs1 kw rfl q
      have dd : -(10 ^ 80) < (o0 - a0) / g ∧ (o0 - a0) / g < 10 ^ 80 := by
        have := abs_div (z := o0 - a0) g0
        omega
      walk_at "td rd"
      have t0 := Int.emod_nonneg ((o0 - a0) / g * r) (show o1 / g ≠ 0 by omega)
      have t1 := Int.emod_lt_of_pos ((o0 - a0) / g * r) qo0
      have hm := mk2 ((o0 - a0) / g * r % (o1 / g)) hd (by
        obtain ⟨k, ek⟩ := hr
        have dm := Int.mul_ediv_add_emod ((o0 - a0) / g * r) (o1 / g)
        have e1 : (o0 - a0) / g * r % (o1 / g) = (o0 - a0) / g * r - o1 / g * ((o0 - a0) / g * r / (o1 / g)) := by omega
        refine ⟨(o0 - a0) / g * k - ((o0 - a0) / g * r / (o1 / g)) * (a1 / g), ?_⟩
        have e2 : r * (a1 / g) = o1 / g * k + 1 := by omega
        rw [e1, Int.sub_mul, Int.mul_assoc ((o0 - a0) / g), e2, Int.mul_sub, Int.mul_add, Int.mul_assoc (o1 / g), Int.mul_left_comm ((o0 - a0) / g)]
        omega)
      generalize (o0 - a0) / g * r % (o1 / g) = t at *
      have tm := mg t a1 t0 (by omega) (by omega) (by omega)
      refine ⟨cm (by omega) (by omega) (by omega) (by omega), qo0, ?_⟩
      refine i0 ?_
      walk_at "td rd"
      refine i1 ?_
      walk_at "td rd"
      refine ⟨cm (by omega) (by omega) (by omega) (by omega), ?_⟩
      refine i0 ?_
      walk_at "td rd"
      refine j0 ?_
      walk_at "td rd"
      have pe : 0 < a1 / g * o1 := Int.mul_pos qa0 (by omega)
      refine ⟨pe, ?_⟩
      refine d_tup (es := [_, _]) hs1 ⟨kn_int, kn_int, True.intro⟩ (by show 2 ≤ 1000000; decide) fun p H2 hs2 => ?_
      exact q _ _ H2 hm hs2
    · refine i0 ?_
      walk_at "td rd"
      refine i1 ?_
      walk_at "td rd"
      refine ⟨cm (by omega) (by omega) (by omega) (by omega), ?_⟩
      refine i0 ?_
      walk_at "td rd"
      refine j0 ?_
      walk_at "td rd"
      have pe : 0 < a1 / g * o1 := Int.mul_pos qa0 (by omega)
      refine ⟨pe, ?_⟩
      refine d_tup (es := [_, _]) hs ⟨kn_int, kn_int, True.intro⟩ (by show 2 ≤ 1000000; decide) fun p H2 hs2 => ?_
      refine q _ _ H2 (mk hd ?_) hs2
      have e : o1 / g = 1 := by omega
      rw [e]
      exact ⟨_, (Int.one_mul _).symm⟩
end
end TD

namespace TD
open PySem PySem.Spec PyProof.Rows L2
def t_law_cell_at (K : PySem.W.Frag) : TS := (tSeq (tIfS (tTest (tOp (oLt) (tVar 1) (tCB (rLenS K) (tCons (tVar 0) tNil)))) (tRet (tOp (rIxL K) (tVar 0) (tVar 1))) tNext)
  (tRet (tC (.int 0))))
end TD
namespace TD
open PySem PySem.Spec PyProof.Rows L2
section
variable {K : PySem.W.Frag}
def sp_law_cell_at (K : PySem.W.Frag) : Sp := fun vs H Q _ => ∃ (a : Addr) (ns : List Int) (k : Nat) (l : List (Addr × MO)) (ds : List (V × D)), vs = [.ref a, .int (k : Int)] ∧ S K H l ds ∧ Kn ds (.ref a) (.lst (ns.map .int)) ∧ Q (.int (ns.getD k 0)) H
theorem len_law_cell_at : ∀ vs H Q E, sp_law_cell_at K vs H Q E → vs.length = 2 := by walk_at "td len"
theorem sem_law_cell_at (vs : List V) (H : Hp) (Q : VK) (E : XK) (h : sp_law_cell_at K vs H Q E) : t_law_cell_at K (EndsOf Q) (stN 2 vs) H := by
  obtain ⟨a, ns, k, l, ds, rfl, hs, hk, q⟩ := h
  show t_law_cell_at K (EndsOf Q) [some (.ref a), some (.int (k : Int))] H
  unfold t_law_cell_at
  walk_at "td rd"
  refine w_len hs hk ?_
  walk_at "td rd"
  refine ite2 (fun h => ?_) (fun h => ?_)
  · have h' : k < ns.length := by omega
    refine w_ixLi hs hk rfl (m := ns.getD k 0) ?_ q
    rw [List.getElem?_map, List.getD_eq_getElem?_getD, List.getElem?_eq_getElem h']
    rfl
  · have h' : ns.length ≤ k := by omega
    rw [List.getD_eq_getElem?_getD, List.getElem?_eq_none h'] at q
    exact q
end
end TD

namespace TD
open PySem PySem.Spec PyProof.Rows L2
def t_law_mixed (K : PySem.W.Frag) : TS := (tSeq (tAsg (tOp (oAdd) (tOp (oMod) (tVar 0) (tC (.int 2147483629))) (tOp (oMul) (tOp (oDiv) (tVar 0) (tC (.int 2147483629))) (tC (.int 30011)))) (gName 2))
  (tSeq (tAsg (tOp (oMod) (tOp (oMul) (tOp (oAdd) (tOp (oAdd) (tVar 2) (tOp (oMul) (tC (.int 69621)) (tVar 1))) (tC (.int 1))) (tC (.int 48271))) (tC (.int 2147483629))) (gName 2))
  (tSeq (tAsg (tOp (oMod) (tOp (oMul) (tVar 2) (tOp (oAdd) (tOp (oAdd) (tOp (oDiv) (tVar 2) (tC (.int 907))) (tC (.int 16831))) (tVar 1))) (tC (.int 2147483587))) (gName 2))
  (tRet (tOp (oMod) (tOp (oMul) (tVar 2) (tOp (oAdd) (tOp (oDiv) (tVar 2) (tC (.int 1201))) (tC (.int 30011)))) (tC (.int 2147483563)))))))
end TD
namespace TD
open PySem PySem.Spec PyProof.Rows L2
section
variable {K : PySem.W.Frag}
def sp_law_mixed (K : PySem.W.Frag) : Sp := fun vs H Q _ => ∃ cell k : Int, vs = [.int cell, .int k] ∧ CB cell ∧ 0 ≤ k ∧ k ≤ 10 ^ 12 ∧ ∀ r : Int, 0 ≤ r → r < 2147483563 → Q (.int r) H
theorem len_law_mixed : ∀ vs H Q E, sp_law_mixed K vs H Q E → vs.length = 2 := by walk_at "td len"
theorem mixed_low {N c q k m : Nat} {r z : Int} (hc : c < N) (hz : z.natAbs ≤ c) (hr : 0 ≤ r) (hr2 : r < 2147483629) (hN : 1 ≤ N) (x : Int) (hx : 0 ≤ x) (hx2 : x ≤ 10 ^ 20) : (r + z * 30011 + x + 1).natAbs < 2 ^ 68 * N := by
  have e : (2 : Nat) ^ 68 = 295147905179352825856 := by decide
  rw [e]
  omega
theorem sem_law_mixed (vs : List V) (H : Hp) (Q : VK) (E : XK) (h : sp_law_mixed K vs H Q E) : t_law_mixed K (EndsOf Q) (stN 3 vs) H := by
  obtain ⟨cell, k, rfl, hc, hk, hk2, q⟩ := h
  show t_law_mixed K (EndsOf Q) [some (.int cell), some (.int k), none] H
  unfold t_law_mixed
  walk_at "td rd"
  have d1 : (cell / 2147483629).natAbs ≤ cell.natAbs := abs_div (by decide)
  have b1 : (cell / 2147483629).natAbs < 2 ^ 1048577 := Nat.lt_of_le_of_lt d1 hc
  have m0 : 0 ≤ cell % 2147483629 := Int.emod_nonneg _ (by decide)
  have m1 : cell % 2147483629 < 2147483629 := Int.emod_lt_of_pos _ (by decide)
  have lo : (cell % 2147483629 + cell / 2147483629 * 30011 + 69621 * k + 1).natAbs < 2 ^ 1048645 := by
    have h1 := mixed_low (N := 2 ^ 1048577) (c := cell.natAbs) (q := 0) (k := 0) (m := 0) hc d1 m0 m1 Nat.one_le_two_pow (69621 * k) (by omega) (by omega)
    rw [← Nat.pow_add] at h1
    exact h1
  generalize hlow : cell % 2147483629 + cell / 2147483629 * 30011 + 69621 * k + 1 = low at lo
  have n0 : 0 ≤ low * 48271 % 2147483629 := Int.emod_nonneg _ (by decide)
  have n1 : low * 48271 % 2147483629 < 2147483629 := Int.emod_lt_of_pos _ (by decide)
  generalize low * 48271 % 2147483629 = u at n0 n1
  have v0 : 0 ≤ u / 907 := Int.ediv_nonneg n0 (by decide)
  have v1 : u / 907 ≤ u := Int.ediv_le_self _ n0
  generalize u / 907 = v at v0 v1
  have w0 : 0 ≤ u * (v + 16831 + k) % 2147483587 := Int.emod_nonneg _ (by decide)
  have w1 : u * (v + 16831 + k) % 2147483587 < 2147483587 := Int.emod_lt_of_pos _ (by decide)
  generalize u * (v + 16831 + k) % 2147483587 = y at w0 w1
  have x0 : 0 ≤ y / 1201 := Int.ediv_nonneg w0 (by decide)
  have x1 : y / 1201 ≤ y := Int.ediv_le_self _ w0
  generalize y / 1201 = x at x0 x1
  have c1 : ∀ n : Int, 0 < n → n < 2 ^ 60 → ∀ z, CDivW z n := fun n h1 h2 z => wide_div (b := 60) h1 (by omega) (by decide) (by decide)
  have c2 : ∀ a b : Int, a.natAbs < 2 ^ 60 → b.natAbs < 2 ^ 60 → CMulZ a b := fun a b h1 h2 => cmz h1 h2 (by decide) (by decide) (by decide)
  refine ⟨by decide, c1 _ (by decide) (by decide) _, cmz b1 (show (30011 : Int).natAbs < 2 ^ 15 by decide) (by decide) (by decide) (by decide), c2 _ _ (by decide) (by omega), cmz lo (show (48271 : Int).natAbs < 2 ^ 16 by decide) (by decide) (by decide) (by decide), by decide, ?_⟩
  refine ⟨c1 _ (by decide) (by decide) _, c2 _ _ (by omega) (by omega), by decide, c1 _ (by decide) (by decide) _, c2 _ _ (by omega) (by omega), by decide, ?_⟩
  exact q _ (Int.emod_nonneg _ (by decide)) (Int.emod_lt_of_pos _ (by decide))
end
end TD

namespace TD
open PySem PySem.Spec PyProof.Rows L2
def t_law_source (K : PySem.W.Frag) : TS := (tSeq (tIfS (tTest (tOp (oLt) (tVar 1) (tCB (rLenS K) (tCons (tVar 0) tNil)))) (tRet (tLst (tCons (tOp (rIxL K) (tVar 0) (tVar 1)) (tCons (tOp (rIxL K) (tVar 0) (tVar 1)) (tCons (tC (.int 0)) tNil))))) tNext)
  (tSeq (tAsg (tCall (sp_law_mixed K) [] E0 (tCons (tCall (sp_law_cell_at K) [] E0 (tCons (tVar 0) (tCons (tC (.int 0)) tNil))) (tCons (tOp (oAdd) (tC (.int 1000)) (tVar 1)) tNil))) (gName 2))
  (tRet (tLst (tCons (tVar 2) (tCons (tVar 2) (tCons (tC (.int 0)) tNil)))))))
end TD
namespace TD
open PySem PySem.Spec PyProof.Rows L2
section
variable {K : PySem.W.Frag}
def sp_law_source (K : PySem.W.Frag) : Sp := fun vs H Q _ => ∃ (a : Addr) (ns : List Int) (k : Nat) (l : List (Addr × MO)) (ds : List (V × D)), vs = [.ref a, .int (k : Int)] ∧ S K H l ds ∧ Kn ds (.ref a) (.lst (ns.map .int)) ∧ (∀ z ∈ ns, CB z) ∧ k ≤ 1000000 ∧
  ∀ p mo H', Src 0 mo → S K H' ((p, mo) :: l) ds → Q (.ref p) H'
theorem len_law_source : ∀ vs H Q E, sp_law_source K vs H Q E → vs.length = 2 := by walk_at "td len"
theorem getD_cb {ns : List Int} (h : ∀ z ∈ ns, CB z) (k : Nat) : CB (ns.getD k 0) := by
  rw [List.getD_eq_getElem?_getD]
  cases e : ns[k]? with
  | none => exact cb_small (by decide)
  | some z => exact h z (List.mem_of_getElem? e)
theorem sem_law_source (vs : List V) (H : Hp) (Q : VK) (E : XK) (h : sp_law_source K vs H Q E) : t_law_source K (EndsOf Q) (stN 3 vs) H := by
  obtain ⟨a, ns, k, l, ds, rfl, hs, hk, hc, hk2, q⟩ := h
  show t_law_source K (EndsOf Q) [some (.ref a), some (.int (k : Int)), none] H
  unfold t_law_source
  walk_at "td rd"
  refine w_len hs hk ?_
  walk_at "td rd"
  refine ite2 (fun h => ?_) (fun h => ?_)
  · have h' : k < ns.length := by omega
    have hg : (ns.map D.int)[k]? = some (.int ns[k]) := by
      rw [List.getElem?_map, List.getElem?_eq_getElem h']
      rfl
    refine w_ixLi hs hk rfl hg ?_
    walk_at "td rd"
    refine w_ixLi hs hk rfl hg ?_
    walk_at "td rd"
    refine d_lstM (es := [.int ns[k], .int ns[k], .int 0]) hs (by walk_at "td kna") (by show 3 ≤ 1000000; decide) fun p H' hs' => ?_
    exact q p _ H' ⟨_, _, _, rfl, hc _ (List.getElem_mem h'), hc _ (List.getElem_mem h'), by omega, by omega⟩ hs'
  · refine ⟨a, ns, 0, l, ds, rfl, hs, hk, ?_⟩
    walk_at "td rd"
    refine ⟨_, _, rfl, getD_cb hc 0, by omega, by omega, fun r h0 h1 => ?_⟩
    walk_at "td rd"
    refine d_lstM (es := [.int r, .int r, .int 0]) hs (by walk_at "td kna") (by show 3 ≤ 1000000; decide) fun p H' hs' => ?_
    exact q p _ H' ⟨_, _, _, rfl, cb_small (by omega), cb_small (by omega), by omega, by omega⟩ hs'
end
end TD

namespace TD
open PySem PySem.Spec PyProof.Rows L2
def t_law_next (K : PySem.W.Frag) : TS := (tSeq (tIfS (tTest (tOp (oGe) (tOp (rIxL K) (tVar 0) (tC (.int 0))) (tOp (oPow) (tC (.int 10)) (tC (.int 18))))) (tSeq (tAsg (tOp (oMod) (tOp (rIxL K) (tVar 0) (tC (.int 0))) (tVar 1)) (gName 2))
  (tSeq (tAsg (tOp (oDiv) (tOp (rIxL K) (tVar 0) (tC (.int 0))) (tVar 1)) (gSub (tVar 0) (tC (.int 0)) rSetL))
  (tRet (tVar 2)))) tNext)
  (tSeq (tAsg (tOp (oAdd) (tOp (rIxL K) (tVar 0) (tC (.int 2))) (tC (.int 1))) (gSub (tVar 0) (tC (.int 2)) rSetL))
  (tRet (tOp (oMod) (tCall (sp_law_mixed K) [] E0 (tCons (tOp (rIxL K) (tVar 0) (tC (.int 1))) (tCons (tOp (rIxL K) (tVar 0) (tC (.int 2))) tNil))) (tVar 1)))))
end TD
namespace TD
open PySem PySem.Spec PyProof.Rows L2
section
variable {K : PySem.W.Frag}
/-- a draw: r below n; the source, at place i of the objects, has drawn once more -/
def sp_law_next (K : PySem.W.Frag) : Sp := fun vs H Q _ => ∃ (a : Addr) (n : Int) (i : Nat) (mo : MO) (b : Int) (l : List (Addr × MO)) (ds : List (V × D)), vs = [.ref a, .int n] ∧ S K H l ds ∧ l[i]? = some (a, mo) ∧ Src b mo ∧ b < 10 ^ 10 ∧ 0 < n ∧ n < big ∧
  ∀ r mo' H', 0 ≤ r → r < n → Src (b + 1) mo' → S K H' (l.set i (a, mo')) ds → Q (.int r) H'
theorem len_law_next : ∀ vs H Q E, sp_law_next K vs H Q E → vs.length = 2 := by walk_at "td len"
theorem sem_law_next (vs : List V) (H : Hp) (Q : VK) (E : XK) (h : sp_law_next K vs H Q E) : t_law_next K (EndsOf Q) (stN 3 vs) H := by
  obtain ⟨a, n, i, mo, b, l, ds, rfl, hs, hi, ⟨c0, c1, c2, rfl, h0, h1, h2, h3⟩, hb, hn, hn2, q⟩ := h
  show t_law_next K (EndsOf Q) [some (.ref a), some (.int n), none] H
  unfold t_law_next
  walk_at "td rd"
  refine w_ixMn hs hi rfl ?_
  walk_at "td rd"
  refine ite2 (fun h => ?_) (fun h => ?_)
  · have h' : (10 : Int) ^ 18 ≤ c0 := by simpa using h
    refine w_ixMn hs hi rfl ?_
    walk_at "td rd"
    refine ⟨hn, ?_⟩
    refine w_ixMn hs hi rfl ?_
    walk_at "td rd"
    refine ⟨cd hn hn2, ?_⟩
    refine w_setn hs hi (show 0 < 3 by decide) kn_int fun H' hs' => ?_
    walk_at "td rd"
    exact q _ _ H' (Int.emod_nonneg _ (by omega)) (Int.emod_lt_of_pos _ hn) ⟨_, _, _, rfl, cb_le h0 (abs_div hn), h1, h2, by omega⟩ hs'
  · refine w_ixMn hs hi rfl ?_
    walk_at "td rd"
    refine w_setn hs hi (show 2 < 3 by decide) kn_int fun H' hs' => ?_
    have hi' : (l.set i (a, MO.dl [.int c0, .int c1, .int (c2 + 1)]))[i]? = some (a, MO.dl [.int c0, .int c1, .int (c2 + 1)]) := List.getElem?_set_self (List.getElem?_eq_some_iff.mp hi).1
    walk_at "td rd"
    refine w_ixMn hs' hi' rfl ?_
    walk_at "td rd"
    refine w_ixMn hs' hi' rfl ?_
    walk_at "td rd"
    refine ⟨c1, c2 + 1, rfl, h1, by omega, by omega, fun r r0 r1 => ?_⟩
    walk_at "td rd"
    refine ⟨hn, ?_⟩
    exact q _ _ H' (Int.emod_nonneg _ (by omega)) (Int.emod_lt_of_pos _ hn) ⟨_, _, _, rfl, h0, h1, by omega, by omega⟩ hs'
end
end TD

namespace TD
open PySem PySem.Spec PyProof.Rows L2
def t_law_pair_5a478e (K : PySem.W.Frag) : TS := (tSeq (tAsg (tOp (rIxL K) (tLst (tCons (tC (.int 6)) (tCons (tC (.int 1000)) (tCons (tOp (oPow) (tC (.int 10)) (tC (.int 12))) tNil)))) (tCall (sp_law_next K) [] E0 (tCons (tVar 0) (tCons (tC (.int 3)) tNil)))) (gName 2))
  (tSeq (tAsg (tLst (tCons (tCall (sp_law_next K) [] E0 (tCons (tVar 0) (tCons (tC (.int 9)) tNil))) (tCons (tCall (sp_law_next K) [] E0 (tCons (tVar 0) (tCons (tC (.int 40)) tNil))) (tCons (tOp (oAdd) (tOp (oMul) (tVar 1) (tCall (sp_law_next K) [] E0 (tCons (tVar 0) (tCons (tOp (oPow) (tC (.int 10)) (tC (.int 6))) tNil)))) (tCall (sp_law_next K) [] E0 (tCons (tVar 0) (tCons (tC (.int 3)) tNil)))) tNil)))) (gName 3))
  (tSeq (tDrop (tBM K "list" rAppend (tVar 3) (tCons (tOp (oAdd) (tOp (oPow) (tC (.int 10)) (tC (.int 25))) (tCall (sp_law_next K) [] E0 (tCons (tVar 0) (tCons (tOp (oPow) (tC (.int 10)) (tC (.int 9))) tNil)))) tNil)))
  (tRet (tTup (tCons (tOp (rIxL K) (tVar 3) (tCall (sp_law_next K) [] E0 (tCons (tVar 0) (tCons (tC (.int 4)) tNil)))) (tCons (tOp (oMul) (tVar 1) (tOp (oAdd) (tC (.int 1)) (tCall (sp_law_next K) [] E0 (tCons (tVar 0) (tCons (tVar 2) tNil))))) tNil)))))))
end TD
namespace TD
open PySem PySem.Spec PyProof.Rows L2
section
variable {K : PySem.W.Frag}
/-- a phase and a period; eleven draws -/
def sp_law_pair_5a478e (K : PySem.W.Frag) : Sp := fun vs H Q _ => ∃ (a : Addr) (m : Int) (mo : MO) (b : Int) (l : List (Addr × MO)) (ds : List (V × D)), vs = [.ref a, .int m] ∧ S K H ((a, mo) :: l) ds ∧ Src b mo ∧ 0 ≤ b ∧ b < 10 ^ 9 ∧ 1 ≤ m ∧ m < 10 ^ 20 ∧
  ∀ r p k mo' H', 0 ≤ p → p < 10 ^ 40 → 1 ≤ k → k < 10 ^ 40 → Src (b + 20) mo' → S K H' ((a, mo') :: l) ((r, .tup [.int p, .int k]) :: ds) → Q r H'
theorem len_law_pair_5a478e : ∀ vs H Q E, sp_law_pair_5a478e K vs H Q E → vs.length = 2 := by walk_at "td len"
theorem sem_law_pair_5a478e (vs : List V) (H : Hp) (Q : VK) (E : XK) (h : sp_law_pair_5a478e K vs H Q E) : t_law_pair_5a478e K (EndsOf Q) (stN 4 vs) H := by
  obtain ⟨a, m, mo, b, l, ds, rfl, hs, hm, hb0, hb, m1, m2, q⟩ := h
  have hbig : (10 : Int) ^ 200 < big := big_ge
  show t_law_pair_5a478e K (EndsOf Q) [some (.ref a), some (.int m), none, none] H
  unfold t_law_pair_5a478e
  walk_at "td rd"
  refine d_lst (es := [.int 6, .int 1000, .int (10 ^ 12)]) hs (by walk_at "td kna") (by show 3 ≤ 1000000; decide) fun p1 H1 hs1 => ?_
  refine ⟨a, 3, 0, mo, b, _, _, rfl, hs1, rfl, hm, by omega, by omega, by omega, fun r mo1 H2 r0 r1 hm1 hs2 => ?_⟩
  have : ∃ most : Int, 1 ≤ most ∧ most ≤ 10 ^ 12 ∧ ([.int 6, .int 1000, .int (10 ^ 12)] : List D)[r.toNat]? = some (.int most) := by
    have h3 : r = 0 ∨ r = 1 ∨ r = 2 := by omega
    rcases h3 with rfl | rfl | rfl
    · exact ⟨6, by omega, by omega, rfl⟩
    · exact ⟨1000, by omega, by omega, rfl⟩
    · exact ⟨10 ^ 12, by omega, by omega, rfl⟩
  obtain ⟨most, w1, w2, hw⟩ := this
  refine w_ixLi hs2 (kn_ix 0 rfl) (k := r.toNat) (by omega) hw ?_
  walk_at "td rd"
  have hs2 : S K H2 ((a, mo1) :: l) ds := hs2.forget
  refine ⟨a, 9, 0, mo1, b + 1, _, _, rfl, hs2, rfl, hm1, by omega, by omega, by omega, fun r1 mo2 H3 r10 r11 hm2 hs3 => ?_⟩
  walk_at "td rd"
  refine ⟨a, 40, 0, mo2, b + 1 + 1, _, _, rfl, hs3, rfl, hm2, by omega, by omega, by omega, fun r2 mo3 H4 r20 r21 hm3 hs4 => ?_⟩
  walk_at "td rd"
  refine ⟨a, 10 ^ 6, 0, mo3, b + 1 + 1 + 1, _, _, rfl, hs4, rfl, hm3, by omega, by omega, by omega, fun r3 mo4 H5 r30 r31 hm4 hs5 => ?_⟩
  walk_at "td rd"
  have c1 : 0 ≤ m * r3 ∧ m * r3 < 10 ^ 30 := ⟨Int.mul_nonneg (by omega) r30, by
    have a1 : m * r3 ≤ 10 ^ 20 * r3 := Int.mul_le_mul_of_nonneg_right (by omega) r30
    omega⟩
  refine ⟨cm (by omega) (by omega) (by omega) (by omega), ?_⟩
  refine ⟨a, 3, 0, mo4, b + 1 + 1 + 1 + 1, _, _, rfl, hs5, rfl, hm4, by omega, by omega, by omega, fun r4 mo5 H6 r40 r41 hm5 hs6 => ?_⟩
  walk_at "td rd"
  refine d_lstM (es := [.int r1, .int r2, .int (m * r3 + r4)]) hs6 (by walk_at "td kna") (by show 3 ≤ 1000000; decide) fun p2 H7 hs7 => ?_
  refine ⟨ty_lstM hs7 (i := 0) rfl, ?_⟩
  refine ⟨a, 10 ^ 9, 1, mo5, b + 1 + 1 + 1 + 1 + 1, _, _, rfl, hs7, rfl, hm5, by omega, by omega, by omega, fun r5 mo6 H8 r50 r51 hm6 hs8 => ?_⟩
  walk_at "td rd"
  refine w_app hs8 (i := 0) rfl kn_int (by show 3 < 1000000; decide) fun H9 hs9 => ?_
  walk_at "td rd"
  refine ⟨a, 4, 1, mo6, b + 1 + 1 + 1 + 1 + 1 + 1, _, _, rfl, hs9, rfl, hm6, by omega, by omega, by omega, fun r6 mo7 H10 r60 r61 hm7 hs10 => ?_⟩
  have : ∃ ph : Int, 0 ≤ ph ∧ ph < 10 ^ 40 ∧ ([.int r1, .int r2, .int (m * r3 + r4)] ++ [.int (10 ^ 25 + r5)] : List D)[r6.toNat]? = some (.int ph) := by
    have h3 : r6 = 0 ∨ r6 = 1 ∨ r6 = 2 ∨ r6 = 3 := by omega
    rcases h3 with rfl | rfl | rfl | rfl
    · exact ⟨_, r10, by omega, rfl⟩
    · exact ⟨_, r20, by omega, rfl⟩
    · exact ⟨_, by omega, by omega, rfl⟩
    · exact ⟨_, by omega, by omega, rfl⟩
  obtain ⟨ph, p0, p1, hp⟩ := this
  refine w_ixMi hs10 (i := 0) rfl (k := r6.toNat) (by omega) hp ?_
  walk_at "td rd"
  refine ⟨a, most, 1, mo7, b + 1 + 1 + 1 + 1 + 1 + 1 + 1, _, _, rfl, hs10, rfl, hm7, by omega, by omega, by omega, fun r7 mo8 H11 r70 r71 hm8 hs11 => ?_⟩
  walk_at "td rd"
  have c2 : 1 ≤ m * (1 + r7) ∧ m * (1 + r7) < 10 ^ 40 := by
    have a1 : m * (1 + r7) ≤ 10 ^ 20 * (1 + r7) := Int.mul_le_mul_of_nonneg_right (by omega) (by omega)
    have a2 : 1 * (1 + r7) ≤ m * (1 + r7) := Int.mul_le_mul_of_nonneg_right m1 (by omega)
    omega
  refine ⟨cm (by omega) (by omega) (by omega) (by omega), ?_⟩
  refine d_tup (es := [.int ph, .int (m * (1 + r7))]) hs11 (by walk_at "td kna") (by show 2 ≤ 1000000; decide) fun p H12 hs12 => ?_
  exact q _ _ _ _ H12 p0 p1 c2.1 c2.2 (hm8.mono (by omega)) hs12.drop
end
end TD

namespace TD
open PySem PySem.Spec PyProof.Rows L2
def t_law_measure (K : PySem.W.Frag) : TS := (tSeq (tWhile (tTest (tOp (oGt) (tVar 1) (tC (.int 0)))) (tPar 0 1 (tCons (tVar 1) (tCons (tOp (oMod) (tVar 0) (tVar 1)) tNil))))
  (tRet (tVar 0)))
end TD
namespace TD
open PySem PySem.Spec PyProof.Rows L2
section
variable {K : PySem.W.Frag}
def sp_law_measure (K : PySem.W.Frag) : Sp := fun vs H Q _ => ∃ (a b : Int), vs = [.int a, .int b] ∧ 0 ≤ a ∧ 0 ≤ b ∧ Q (.int (Int.gcd a b : Int)) H
theorem len_law_measure : ∀ vs H Q E, sp_law_measure K vs H Q E → vs.length = 2 := by walk_at "td len"
theorem sem_law_measure (vs : List V) (H : Hp) (Q : VK) (E : XK) (h : sp_law_measure K vs H Q E) : t_law_measure K (EndsOf Q) (stN 2 vs) H := by
  obtain ⟨a, b, rfl, ha, hb, q⟩ := h
  show t_law_measure K (EndsOf Q) [some (.int a), some (.int b)] H
  unfold t_law_measure
  walk_at "td rd"
  refine w_while (fun m σ H' => ∃ x y : Int, σ = [some (.int x), some (.int y)] ∧ H' = H ∧ 0 ≤ x ∧ 0 ≤ y ∧ Int.gcd x y = Int.gcd a b ∧ m = y.toNat) b.toNat ⟨a, b, rfl, rfl, ha, hb, rfl, rfl⟩ ?_ ?_
  · rintro m σ H' ⟨x, y, rfl, rfl, hx, hy, hg, rfl⟩
    walk_at "td rd"
    refine ite2 (fun h => ?_) (fun h => ?_)
    · have hy' : 0 < y := by omega
      refine ⟨hy', (x % y).toNat, ?_, y, x % y, rfl, hy, Int.emod_nonneg _ (by omega), (gcd_step hx hy).trans hg, rfl⟩
      have := Int.emod_lt_of_pos x hy'
      have := Int.emod_nonneg x (show y ≠ 0 by omega)
      omega
    · have hy' : y = 0 := by omega
      subst hy'
      have e : (Int.gcd a b : Int) = x := by
        rw [← hg, Int.gcd_zero_right]
        omega
      rw [e] at q
      exact q
  · intro σ H' Q1 Q2 hq h
    obtain ⟨v, e1, h⟩ := h
    obtain ⟨i, j, e2, e3, k, e4, h⟩ := h
    exact ⟨v, e1, i, j, e2, e3, k, e4, hq _ _ h⟩
end
end TD

namespace TD
open PySem PySem.Spec PyProof.Rows L2
def t_law_gone_through_5e40cc (K : PySem.W.Frag) : TS := (tSeq (tAsg (tCB rMax2 (tCons (tOp (rIxT K) (tVar 0) (tC (.int 0))) (tCons (tOp (rIxT K) (tVar 1) (tC (.int 0))) tNil))) (gName 2))
  (tSeq (tFor (iRB2 (tCons (tVar 2) (tCons (tOp (oAdd) (tVar 2) (tOp (oMul) (tOp (rIxT K) (tVar 0) (tC (.int 1))) (tOp (rIxT K) (tVar 1) (tC (.int 1))))) tNil))) (gName 3) (tIfS (tAnd (tTest (tOp (rEq) (tOp (oMod) (tOp (oSub) (tVar 3) (tOp (rIxT K) (tVar 0) (tC (.int 0)))) (tOp (rIxT K) (tVar 0) (tC (.int 1)))) (tC (.int 0)))) (tTest (tOp (rEq) (tOp (oMod) (tOp (oSub) (tVar 3) (tOp (rIxT K) (tVar 1) (tC (.int 0)))) (tOp (rIxT K) (tVar 1) (tC (.int 1)))) (tC (.int 0))))) (tRet (tVar 3)) tNext))
  (tRet (tC .non))))
end TD
namespace TD
open PySem PySem.Spec PyProof.Rows L2
section
variable {K : PySem.W.Frag}
def sp_law_gone_through_5e40cc (K : PySem.W.Frag) : Sp := fun vs H Q _ => ∃ (v w : V) (a0 a1 o0 o1 : Int) (l : List (Addr × MO)) (ds : List (V × D)), vs = [v, w] ∧ S K H l ds ∧ Kn ds v (.tup [.int a0, .int a1]) ∧ Kn ds w (.tup [.int o0, .int o1]) ∧
  1 ≤ a1 ∧ a1 < 10 ^ 70 ∧ 1 ≤ o1 ∧ o1 < 10 ^ 70 ∧
  (∀ t : Int, max a0 o0 ≤ t → t < max a0 o0 + a1 * o1 → a1 ∣ t - a0 → o1 ∣ t - o0 → (∀ s, max a0 o0 ≤ s → s < t → a1 ∣ s - a0 → ¬ o1 ∣ s - o0) → Q (.int t) H) ∧ ((∀ t : Int, max a0 o0 ≤ t → t < max a0 o0 + a1 * o1 → a1 ∣ t - a0 → ¬ o1 ∣ t - o0) → Q .non H)
theorem len_law_gone_through_5e40cc : ∀ vs H Q E, sp_law_gone_through_5e40cc K vs H Q E → vs.length = 2 := by walk_at "td len"
theorem sem_law_gone_through_5e40cc (vs : List V) (H : Hp) (Q : VK) (E : XK) (h : sp_law_gone_through_5e40cc K vs H Q E) : t_law_gone_through_5e40cc K (EndsOf Q) (stN 4 vs) H := by
  obtain ⟨v, w, a0, a1, o0, o1, l, ds, rfl, hs, kv, kw, p1, p2, p3, p4, q1, q2⟩ := h
  have hbig : (10 : Int) ^ 200 < big := big_ge
  obtain ⟨a, rfl⟩ := kv.ref_tup hs
  obtain ⟨b, rfl⟩ := kw.ref_tup hs
  show t_law_gone_through_5e40cc K (EndsOf Q) [some (.ref a), some (.ref b), none, none] H
  have i0 : ∀ {Q : VK}, Q (.int a0) H → rIxT K (.ref a) (.int 0) H Q := fun q => w_ixTn hs kv rfl q
  have i1 : ∀ {Q : VK}, Q (.int a1) H → rIxT K (.ref a) (.int 1) H Q := fun q => w_ixTn hs kv rfl q
  have j0 : ∀ {Q : VK}, Q (.int o0) H → rIxT K (.ref b) (.int 0) H Q := fun q => w_ixTn hs kw rfl q
  have j1 : ∀ {Q : VK}, Q (.int o1) H → rIxT K (.ref b) (.int 1) H Q := fun q => w_ixTn hs kw rfl q
  unfold t_law_gone_through_5e40cc
  walk_at "td rd"
  refine i0 ?_
  walk_at "td rd"
  refine j0 ?_
  walk_at "td rd"
  refine i1 ?_
  walk_at "td rd"
  refine j1 ?_
  walk_at "td rd"
  refine ⟨cm (by omega) (by omega) (by omega) (by omega), ?_⟩
  have en : (max a0 o0 + a1 * o1 - max a0 o0).toNat = (a1 * o1).toNat := by congr 1; omega
  rw [en]
  have pp : 0 < a1 * o1 := Int.mul_pos (by omega) (by omega)
  refine w_for (fun i σ H' => ∃ z, σ = [some (.ref a), some (.ref b), some (.int (max a0 o0)), z] ∧ H' = H ∧ ∀ t : Int, max a0 o0 ≤ t → t < max a0 o0 + i → a1 ∣ t - a0 → ¬ o1 ∣ t - o0) ⟨none, rfl, rfl, fun t h1 h2 => by omega⟩ ?_ ?_
  · rintro i σ H' hi ⟨z, rfl, rfl, hP⟩
    walk_at "td rd"
    refine i0 ?_
    walk_at "td rd"
    refine i1 ?_
    walk_at "td rd"
    have step : ∀ t : Int, (¬ (a1 ∣ t - a0 ∧ o1 ∣ t - o0)) → t = max a0 o0 + i → ∀ s : Int, max a0 o0 ≤ s → s < max a0 o0 + ((i + 1 : Nat) : Int) → a1 ∣ s - a0 → ¬ o1 ∣ s - o0 := fun t hn e s h1 h2 h3 h4 => by
      by_cases hst : s = t
      · exact hn ⟨hst ▸ h3, hst ▸ h4⟩
      · exact hP s h1 (by omega) h3 h4
    refine ⟨by omega, ite2 (fun h => ?_) (fun h => ?_)⟩
    · refine j0 ?_
      walk_at "td rd"
      refine j1 ?_
      walk_at "td rd"
      refine ⟨by omega, ite2 (fun h' => ?_) (fun h' => ?_)⟩
      · exact q1 _ (by omega) (by omega) (Int.dvd_of_emod_eq_zero h) (Int.dvd_of_emod_eq_zero h') fun s h1 h2 => hP s h1 h2
      · exact ⟨_, rfl, step _ (fun hc => h' (Int.emod_eq_zero_of_dvd hc.2)) rfl⟩
    · exact ⟨_, rfl, step _ (fun hc => h (Int.emod_eq_zero_of_dvd hc.1)) rfl⟩
  · rintro σ H' ⟨z, rfl, rfl, hP⟩
    walk_at "td rd"
    exact q2 fun t h1 h2 => hP t h1 (by omega)
end
end TD

namespace TD
open PySem PySem.Spec PyProof.Rows L2
def t_law_right_a91a20 (K : PySem.W.Frag) : TS := (tSeq (tAsg (tCall (sp_law_measure K) [] E0 (tCons (tOp (rIxT K) (tVar 0) (tC (.int 1))) (tCons (tOp (rIxT K) (tVar 1) (tC (.int 1))) tNil))) (gName 3))
  (tSeq (tIfS (tTest (tOp (rNe) (tOp (oMod) (tOp (oSub) (tOp (rIxT K) (tVar 0) (tC (.int 0))) (tOp (rIxT K) (tVar 1) (tC (.int 0)))) (tVar 3)) (tC (.int 0)))) (tRet (tOp (rIsN) (tVar 2) (tC .non))) tNext)
  (tSeq (tIfS (tOr (tNot (tB (tCB (rIsi K) (tCons (tVar 2) (tCons (tC (.ty "tuple")) tNil))))) (tOr (tTest (tOp (rNe) (tCB (rLenS K) (tCons (tVar 2) tNil)) (tC (.int 2)))) (tOr (tB (tCB (rIsi K) (tCons (tOp (rIxT K) (tVar 2) (tC (.int 0))) (tCons (tC (.ty "bool")) tNil)))) (tB (tCB (rIsi K) (tCons (tOp (rIxT K) (tVar 2) (tC (.int 1))) (tCons (tC (.ty "bool")) tNil))))))) (tRet (tC (.bl false))) tNext)
  (tSeq (tAsg (tVar 2) (gTup K 2 (gCons (gName 4) (gCons (gName 5) gNil))))
  (tSeq (tIfS (tOr (tTest (tOp (rNe) (tVar 5) (tOp (oDiv) (tOp (oMul) (tOp (rIxT K) (tVar 0) (tC (.int 1))) (tOp (rIxT K) (tVar 1) (tC (.int 1)))) (tVar 3)))) (tNot (tTest (tChain (oLe) (oLt) (tC (.int 0)) (tOp (oSub) (tVar 4) (tCB rMax2 (tCons (tOp (rIxT K) (tVar 0) (tC (.int 0))) (tCons (tOp (rIxT K) (tVar 1) (tC (.int 0))) tNil)))) (tVar 5))))) (tRet (tC (.bl false))) tNext)
  (tRet (tAndV (tOp (rEq) (tOp (oMod) (tOp (oSub) (tVar 4) (tOp (rIxT K) (tVar 0) (tC (.int 0)))) (tOp (rIxT K) (tVar 0) (tC (.int 1)))) (tC (.int 0))) (tOp (rEq) (tOp (oMod) (tOp (oSub) (tVar 4) (tOp (rIxT K) (tVar 1) (tC (.int 0)))) (tOp (rIxT K) (tVar 1) (tC (.int 1)))) (tC (.int 0))))))))))
end TD
namespace TD
open PySem PySem.Spec PyProof.Rows L2
section
variable {K : PySem.W.Frag}
def sp_law_right_a91a20 (K : PySem.W.Frag) : Sp := fun vs H Q _ => ∃ (v w u : V) (a0 a1 o0 o1 : Int) (d : D) (l : List (Addr × MO)) (ds : List (V × D)), vs = [v, w, u] ∧ S K H l ds ∧ Kn ds v (.tup [.int a0, .int a1]) ∧ Kn ds w (.tup [.int o0, .int o1]) ∧ Kn ds u d ∧
  1 ≤ a1 ∧ a1 < 10 ^ 70 ∧ 1 ≤ o1 ∧ o1 < 10 ^ 70 ∧ ComOk a0 a1 o0 o1 d ∧ Q (.bl true) H
theorem len_law_right_a91a20 : ∀ vs H Q E, sp_law_right_a91a20 K vs H Q E → vs.length = 3 := by walk_at "td len"
theorem sem_law_right_a91a20 (vs : List V) (H : Hp) (Q : VK) (E : XK) (h : sp_law_right_a91a20 K vs H Q E) : t_law_right_a91a20 K (EndsOf Q) (stN 6 vs) H := by
  obtain ⟨v, w, u, a0, a1, o0, o1, d, l, ds, rfl, hs, kv, kw, ku, p1, p2, p3, p4, hc, q⟩ := h
  have hbig : (10 : Int) ^ 200 < big := big_ge
  obtain ⟨a, rfl⟩ := kv.ref_tup hs
  obtain ⟨b, rfl⟩ := kw.ref_tup hs
  show t_law_right_a91a20 K (EndsOf Q) [some (.ref a), some (.ref b), some u, none, none, none] H
  have i0 : ∀ {Q : VK}, Q (.int a0) H → rIxT K (.ref a) (.int 0) H Q := fun q => w_ixTn hs kv rfl q
  have i1 : ∀ {Q : VK}, Q (.int a1) H → rIxT K (.ref a) (.int 1) H Q := fun q => w_ixTn hs kv rfl q
  have j0 : ∀ {Q : VK}, Q (.int o0) H → rIxT K (.ref b) (.int 0) H Q := fun q => w_ixTn hs kw rfl q
  have j1 : ∀ {Q : VK}, Q (.int o1) H → rIxT K (.ref b) (.int 1) H Q := fun q => w_ixTn hs kw rfl q
  unfold t_law_right_a91a20
  walk_at "td rd"
  refine i1 ?_
  walk_at "td rd"
  refine j1 ?_
  walk_at "td rd"
  refine ⟨a1, o1, rfl, by omega, by omega, ?_⟩
  have g0 := gcd_pos_of (a := a1) (b := o1) p1
  have ga := gcd_dl a1 o1
  have gle : (Int.gcd a1 o1 : Int) ≤ a1 := Int.le_of_dvd (by omega) ga
  walk_at "td rd"
  refine i0 ?_
  walk_at "td rd"
  refine j0 ?_
  walk_at "td rd"
  have neg : (Int.gcd a1 o1 : Int) ∣ a0 - o0 ↔ (Int.gcd a1 o1 : Int) ∣ o0 - a0 := by
    have e : a0 - o0 = -(o0 - a0) := by omega
    rw [e, Int.dvd_neg]
  refine ⟨g0, ite2 (fun h => ?_) (fun h => ?_)⟩
  · have hd : ¬ (Int.gcd a1 o1 : Int) ∣ o0 - a0 := fun z => h (Int.emod_eq_zero_of_dvd (neg.mpr z))
    rcases hc with ⟨rfl, _⟩ | ⟨f, e, rfl, z, _⟩
    · have r := hs.rp ku
      cases r
      exact q
    · exact absurd z hd
  · have hd : (Int.gcd a1 o1 : Int) ∣ o0 - a0 := neg.mp (Int.dvd_of_emod_eq_zero (by simpa using h))
    rcases hc with ⟨rfl, z⟩ | ⟨f, e, rfl, _, he, hf0, hf1, hda, hdo⟩
    · exact absurd hd z
    · obtain ⟨c, rfl⟩ := ku.ref_tup hs
      have k0 : ∀ {Q : VK}, Q (.int f) H → rIxT K (.ref c) (.int 0) H Q := fun q => w_ixTn hs ku rfl q
      have k1 : ∀ {Q : VK}, Q (.int e) H → rIxT K (.ref c) (.int 1) H Q := fun q => w_ixTn hs ku rfl q
      refine w_isiB hs ku rfl (by simp) (b := true) rfl ?_
      walk_at "td rd"
      refine w_lenT hs ku ?_
      walk_at "td rd"
      refine k0 ?_
      walk_at "td rd"
      refine w_isiI (by simp) (b := false) rfl ?_
      walk_at "td rd"
      refine k1 ?_
      walk_at "td rd"
      refine w_isiI (by simp) (b := false) rfl ?_
      walk_at "td rd"
      refine w_un2 hs ku ?_
      walk_at "td rd"
      refine i1 ?_
      walk_at "td rd"
      refine j1 ?_
      walk_at "td rd"
      refine ⟨cm (by omega) (by omega) (by omega) (by omega), cd g0 (by omega), ?_⟩
      have ee : a1 * o1 / (Int.gcd a1 o1 : Int) = e := by
        rw [he]
        obtain ⟨k, hk⟩ := ga
        have e1 : a1 / (Int.gcd a1 o1 : Int) = k := Int.ediv_eq_of_eq_mul_right (by omega) hk
        rw [e1]
        refine Int.ediv_eq_of_eq_mul_right (by omega) ?_
        conv => lhs; rw [hk]
        rw [Int.mul_assoc]
      rw [ee]
      walk_at "td rd"
      refine i0 ?_
      walk_at "td rd"
      refine j0 ?_
      walk_at "td rd"
      rw [if_pos (by omega), if_neg (show ¬ ¬ f - max a0 o0 < e by omega)]
      walk_at "td rd"
      refine i0 ?_
      walk_at "td rd"
      refine i1 ?_
      walk_at "td rd"
      refine ⟨by omega, ?_⟩
      rw [if_pos (Int.emod_eq_zero_of_dvd hda)]
      refine j0 ?_
      walk_at "td rd"
      refine j1 ?_
      walk_at "td rd"
      refine ⟨by omega, ?_⟩
      rw [decide_eq_true (Int.emod_eq_zero_of_dvd hdo)]
      exact q
end
end TD

namespace TD
open PySem PySem.Spec PyProof.Rows L2
def t_law (K : PySem.W.Frag) : TS := (tSeq (tFor (iRB1 (tCons (tCB rMax2 (tCons (tC (.int 1)) (tCons (tCB rMin2 (tCons (tC (.int 8)) (tCons (tCB (rLenS K) (tCons (tVar 0) tNil)) tNil))) tNil))) tNil)) (gName 1) (tSeq (tAsg (tCall (sp_law_source K) [] E0 (tCons (tVar 0) (tCons (tVar 1) tNil))) (gName 2))
  (tSeq (tAsg (tOp (rIxL K) (tLst (tCons (tC (.int 1)) (tCons (tC (.int 2)) (tCons (tC (.int 6)) (tCons (tOp (oAdd) (tC (.int 1)) (tCall (sp_law_next K) [] E0 (tCons (tVar 2) (tCons (tOp (oPow) (tC (.int 10)) (tC (.int 9))) tNil)))) (tCons (tOp (oAdd) (tOp (oPow) (tC (.int 10)) (tC (.int 18))) (tCall (sp_law_next K) [] E0 (tCons (tVar 2) (tCons (tOp (oPow) (tC (.int 10)) (tC (.int 6))) tNil)))) tNil)))))) (tCall (sp_law_next K) [] E0 (tCons (tVar 2) (tCons (tC (.int 5)) tNil)))) (gName 3))
  (tSeq (tAsg (tLc (iRB1 (tCons (tC (.int 2)) tNil)) (gName 6) tYes (tCall (sp_law_pair_5a478e K) [] E0 (tCons (tVar 2) (tCons (tVar 3) tNil))) [6]) (gLst K 2 (gCons (gName 4) (gCons (gName 5) gNil))))
  (tCut (tIfS (tTest (tOp (rEq) (tCall (sp_law_next K) [] E0 (tCons (tVar 2) (tCons (tC (.int 6)) tNil))) (tC (.int 0)))) (tAsg (tTup (tCons (tOp (rIxT K) (tVar 5) (tC (.int 0))) (tCons (tOp (rIxT K) (tVar 4) (tC (.int 1))) tNil))) (gName 5)) tNext)
  (tSeq (tAsg (tCall (sp_common K) [] E0 (tCons (tVar 4) (tCons (tVar 5) tNil))) (gName 7))
  (tSeq (tIfS (tOr (tNot (tB (tCall (sp_law_right_a91a20 K) [] E0 (tCons (tVar 4) (tCons (tVar 5) (tCons (tVar 7) tNil)))))) (tOr (tTest (tOp (rNeD K) (tCall (sp_common K) [] E0 (tCons (tVar 5) (tCons (tVar 4) tNil))) (tVar 7))) (tTest (tOp (rNeD K) (tCall (sp_common K) [] E0 (tCons (tVar 4) (tCons (tVar 5) tNil))) (tVar 7))))) (tRet (tC (.bl false))) tNext)
  (tIfS (tAnd (tTest (tOp (oLt) (tOp (oMul) (tOp (rIxT K) (tVar 4) (tC (.int 1))) (tOp (rIxT K) (tVar 5) (tC (.int 1)))) (tC (.int 3000)))) (tTest (tOp (rNeD K) (tCall (sp_law_gone_through_5e40cc K) [] E0 (tCons (tVar 4) (tCons (tVar 5) tNil))) (tOp (rIx K) (tOrT K (tVar 7) (tLst (tCons (tC .non) tNil))) (tC (.int 0)))))) (tRet (tC (.bl false))) tNext))))))))
  (tRet (tC (.bl true))))
end TD
namespace TD
open PySem PySem.Spec PyProof.Rows L2
section
variable {K : PySem.W.Frag}
/-- the law: the script, its numbers not too great -/
def sp_law (K : PySem.W.Frag) : Sp := fun vs H Q _ => ∃ (a : Addr) (ns : List Int) (l : List (Addr × MO)) (ds : List (V × D)), vs = [.ref a] ∧ S K H l ds ∧ Kn ds (.ref a) (.lst (ns.map .int)) ∧ (∀ z ∈ ns, CB z) ∧ ∀ H', Q (.bl true) H'
theorem len_law : ∀ vs H Q E, sp_law K vs H Q E → vs.length = 1 := by walk_at "td len"
theorem law_start {H : Hp} {a : Addr} {ns : List Int} (hl : ns.length ≤ 63) (hb : ∀ z ∈ ns, Builtin.Int.intBits z ≤ 1048576) (hO : Only H) (hS : SqL K H a (ns.map V.int)) : sp_law K [.ref a] H (fun v _ => v = .bl true) fun _ _ _ => False :=
  ⟨a, ns, [], [(.ref a, .lst (ns.map .int))], rfl, start_S hS, kn_ix 0 rfl, fun z hz => cb_of_bits (hb z hz), fun _ => rfl⟩
theorem same_self {d : D} (h : D.ok 60 d = true) : D.same d d = true := D.same_refl d 60 h
theorem com_ok {a0 a1 o0 o1 : Int} {d : D} (h : ComOk a0 a1 o0 o1 d) : D.ok 60 d = true := by
  rcases h with ⟨rfl, _⟩ | ⟨f, e, rfl, _⟩ <;> rfl
theorem lcm_dvd' {a b z : Int} (h1 : 1 ≤ a) (ha : a ∣ z) (hb : b ∣ z) : a / (Int.gcd a b : Int) * b ∣ z := by
  have g0 := gcd_pos_of (a := a) (b := b) h1
  obtain ⟨x, hx⟩ := gcd_dl a b
  obtain ⟨y, hy⟩ := gcd_dr a b
  have gq := gcd_quot (a := a) (b := b) h1
  have e1 : a / (Int.gcd a b : Int) = x := Int.ediv_eq_of_eq_mul_right (by omega) hx
  have e2 : b / (Int.gcd a b : Int) = y := Int.ediv_eq_of_eq_mul_right (by omega) hy
  rw [e1, e2] at gq
  rw [e1]
  obtain ⟨k, hk⟩ := hb
  rw [hk, Int.mul_comm x b]
  refine Int.mul_dvd_mul_left b ?_
  have h3 : (Int.gcd a b : Int) * x ∣ (Int.gcd a b : Int) * (y * k) := by
    rw [← Int.mul_assoc, ← hy, ← hk, ← hx]
    exact ha
  have h4 : x ∣ y * k := Int.dvd_of_mul_dvd_mul_left (by omega) h3
  have h5 : x.natAbs ∣ y.natAbs * k.natAbs := by
    rw [← Int.natAbs_mul]
    exact Int.natAbs_dvd_natAbs.mpr h4
  exact Int.natAbs_dvd_natAbs.mp (Nat.Coprime.dvd_of_dvd_mul_left (show Nat.Coprime x.natAbs y.natAbs from gq) h5)
/-- two answers are one -/
theorem com_uni {a0 a1 o0 o1 : Int} {d e : D} (h1 : 1 ≤ a1) (h2 : 1 ≤ o1) (hd : ComOk a0 a1 o0 o1 d) (he : ComOk a0 a1 o0 o1 e) : e = d := by
  rcases hd with ⟨rfl, n1⟩ | ⟨f, x, rfl, n1, e1, l1, u1, a1', b1'⟩
  · rcases he with ⟨rfl, n2⟩ | ⟨g, y, rfl, n2, _⟩
    · rfl
    · exact absurd n2 n1
  · rcases he with ⟨rfl, n2⟩ | ⟨g, y, rfl, n2, e2, l2, u2, a2', b2'⟩
    · exact absurd n1 n2
    · have exy : x = y := e1.trans e2.symm
      subst exy
      have d1 : a1 ∣ f - g := by
        have := Int.dvd_sub a1' a2'
        rwa [show f - a0 - (g - a0) = f - g by omega] at this
      have d2 : o1 ∣ f - g := by
        have := Int.dvd_sub b1' b2'
        rwa [show f - o0 - (g - o0) = f - g by omega] at this
      have d3 := lcm_dvd' h1 d1 d2
      rw [← e1] at d3
      have hz : f - g = 0 := Int.eq_zero_of_dvd_of_natAbs_lt_natAbs d3 (by omega)
      have hfg : f = g := by omega
      rw [hfg]
theorem com_turn {a0 a1 o0 o1 : Int} {d : D} (h1 : 1 ≤ a1) (h2 : 1 ≤ o1) (hd : ComOk o0 o1 a0 a1 d) : ComOk a0 a1 o0 o1 d := by
  have g0 := gcd_pos_of (a := a1) (b := o1) h1
  have neg : (Int.gcd a1 o1 : Int) ∣ o0 - a0 ↔ (Int.gcd a1 o1 : Int) ∣ a0 - o0 := by
    have e : o0 - a0 = -(a0 - o0) := by omega
    rw [e, Int.dvd_neg]
  have ee : o1 / (Int.gcd a1 o1 : Int) * a1 = a1 / (Int.gcd a1 o1 : Int) * o1 := by
    obtain ⟨x, hx⟩ := gcd_dl a1 o1
    obtain ⟨y, hy⟩ := gcd_dr a1 o1
    have e1 : a1 / (Int.gcd a1 o1 : Int) = x := Int.ediv_eq_of_eq_mul_right (by omega) hx
    have e2 : o1 / (Int.gcd a1 o1 : Int) = y := Int.ediv_eq_of_eq_mul_right (by omega) hy
    rw [e1, e2]
    conv => lhs; rw [hx]
    conv => rhs; rw [hy]
    rw [Int.mul_left_comm, Int.mul_left_comm x, Int.mul_comm y]
  unfold ComOk at *
  rw [Int.gcd_comm o1 a1] at hd
  rcases hd with ⟨rfl, n1⟩ | ⟨f, x, rfl, n1, e1, l1, u1, a1', b1'⟩
  · exact .inl ⟨rfl, fun z => n1 (neg.mp z)⟩
  · exact .inr ⟨f, x, rfl, neg.mpr n1, e1.trans ee, by omega, by omega, b1', a1'⟩
def PairD (e : D) : Prop := ∃ p k : Int, e = .tup [.int p, .int k] ∧ 0 ≤ p ∧ p < 10 ^ 40 ∧ 1 ≤ k ∧ k < 10 ^ 40
theorem sem_law (vs : List V) (H : Hp) (Q : VK) (E : XK) (h : sp_law K vs H Q E) : t_law K (EndsOf Q) (stN 8 vs) H := by
  obtain ⟨a, ns, l, ds, rfl, hs, hk, hc, q⟩ := h
  have hbig : (10 : Int) ^ 200 < big := big_ge
  show t_law K (EndsOf Q) [some (.ref a), none, none, none, none, none, none, none] H
  unfold t_law
  walk_at "td rd"
  refine w_len hs hk ?_
  walk_at "td rd"
  refine w_for (fun i σ H' => ∃ z1 z2 z3 z4 z5 z6 z7, σ = [some (.ref a), z1, z2, z3, z4, z5, z6, z7] ∧ S K H' l ds) ⟨none, none, none, none, none, none, none, rfl, hs⟩ ?_ ?_
  · rintro i σ H' hi ⟨z1, z2, z3, z4, z5, z6, z7, rfl, hs⟩
    walk_at "td rd"
    refine ⟨a, ns, i, l, ds, by simp, hs, hk, hc, by omega, fun p mo H1 hm hs1 => ?_⟩
    walk_at "td rd"
    refine ⟨p, 10 ^ 9, 0, mo, 0, _, _, rfl, hs1, rfl, hm, by omega, by omega, by omega, fun r1 mo1 H2 r10 r11 hm1 hs2 => ?_⟩
    walk_at "td rd"
    refine ⟨p, 10 ^ 6, 0, mo1, _, _, _, rfl, hs2, rfl, hm1, by omega, by omega, by omega, fun r2 mo2 H3 r20 r21 hm2 hs3 => ?_⟩
    walk_at "td rd"
    refine d_lst (es := [.int 1, .int 2, .int 6, .int (1 + r1), .int (10 ^ 18 + r2)]) hs3 (by walk_at "td kna") (by show 5 ≤ 1000000; decide) fun p2 H4 hs4 => ?_
    refine ⟨p, 5, 0, mo2, _, _, _, rfl, hs4, rfl, hm2, by omega, by omega, by omega, fun r3 mo3 H5 r30 r31 hm3 hs5 => ?_⟩
    have : ∃ m : Int, 1 ≤ m ∧ m < 10 ^ 20 ∧ ([.int 1, .int 2, .int 6, .int (1 + r1), .int (10 ^ 18 + r2)] : List D)[r3.toNat]? = some (.int m) := by
      have h3 : r3 = 0 ∨ r3 = 1 ∨ r3 = 2 ∨ r3 = 3 ∨ r3 = 4 := by omega
      rcases h3 with rfl | rfl | rfl | rfl | rfl
      · exact ⟨_, by omega, by omega, rfl⟩
      · exact ⟨_, by omega, by omega, rfl⟩
      · exact ⟨_, by omega, by omega, rfl⟩
      · exact ⟨_, by omega, by omega, rfl⟩
      · exact ⟨_, by omega, by omega, rfl⟩
    obtain ⟨m, m1, m2, hmm⟩ := this
    refine w_ixLi hs5 (kn_ix 0 rfl) (k := r3.toNat) (by omega) hmm ?_
    walk_at "td rd"
    refine w_compR (l := (p, mo3) :: l) (ds := ds) hs5.forget (fun _ => rfl) (fun r i H' acc => ∃ mo, Src (3 + 20 * i) mo ∧ S K H' ((r, .dl acc) :: (p, mo) :: l) ds ∧ acc.length = i ∧ ∀ e ∈ acc, PairD e) (fun r H' h => ⟨mo3, hm3.mono (by omega), h, rfl, fun e he => nomatch he⟩) ?_ ?_
    · rintro r i H' acc hi ⟨mo, hm, hs, hl, hp⟩
      have hi2 : i < 2 := hi
      rw [e_yes, if_pos rfl]
      walk_at "td rd"
      refine ⟨p, m, mo, _, _, _, rfl, hs.swap, hm, by omega, by omega, m1, m2, fun v ph k mo' H2 p0 p1 k0 k1 hm' hs' => ?_⟩
      have hl2 : acc.length < 1000000 := by rw [hl]; omega
      refine item_push hs'.swap (kn_ix 0 rfl) hl2 fun H5 hs5 => ⟨_, mo', hm'.mono (by omega), hs5.forget, by simp [hl], fun e he => ?_⟩
      rcases List.mem_append.mp he with he | he
      · exact hp e he
      · have e1 : e = .tup [.int ph, .int k] := by simpa using he
        exact ⟨ph, k, e1, p0, p1, k0, k1⟩
    · rintro r H' acc ⟨mo, hm, hs, hl, hp⟩
      obtain ⟨e1, e2, rfl⟩ := dlen2 hl
      obtain ⟨a0, a1, rfl, b1, b2, b3, b4⟩ := hp e1 (by simp)
      obtain ⟨o0, o1, rfl, c1, c2, c3, c4⟩ := hp e2 (by simp)
      refine w_unL2 hs (i := 0) rfl fun v1 v2 hs => ?_
      have hs := hs.drop
      walk_at "td rd"
      refine ⟨fun σ H => ∃ (v2 : V) (o1 : Int) (mo : MO), σ = [some (.ref a), some (.int (0 + i)), some (.ref p), some (.int m), some v1, some v2, z6, z7] ∧ Src 1000 mo ∧ 1 ≤ o1 ∧ o1 < 10 ^ 40 ∧ S K H ((p, mo) :: l) ((v2, .tup [.int o0, .int o1]) :: (v1, .tup [.int a0, .int a1]) :: ds), ?_, ?_⟩
      · walk_at "td rd"
        refine ⟨p, 6, 0, mo, _, _, _, rfl, hs, rfl, hm, by simp, by omega, by omega, fun r6 mo6 H6 r60 r61 hm6 hs6 => ?_⟩
        have hm6 : Src 1000 mo6 := hm6.mono (by simp)
        walk_at "td rd"
        obtain ⟨x1, rfl⟩ := Kn.ref_tup hs (kn_ix 0 rfl)
        obtain ⟨x2, rfl⟩ := Kn.ref_tup hs (kn_ix 1 rfl)
        refine ite2 (fun h => ?_) (fun h => ?_)
        · refine w_ixTn hs6 (kn_ix 1 rfl) rfl ?_
          walk_at "td rd"
          refine w_ixTn hs6 (kn_ix 0 rfl) rfl ?_
          walk_at "td rd"
          refine d_tup (es := [.int o0, .int a1]) hs6 (by walk_at "td kna") (by show 2 ≤ 1000000; decide) fun p9 H9 hs9 => ?_
          exact ⟨_, a1, mo6, rfl, hm6, b3, b4, hs9.facts fun q hq => by
            rcases List.mem_cons.mp hq with e | hq
            · exact .inr (e ▸ List.mem_cons_self)
            · rcases List.mem_cons.mp hq with e | hq
              · exact .inr (by rw [e]; simp)
              · exact .inr (by simp [hq])⟩
        · exact ⟨_, o1, mo6, rfl, hm6, c3, c4, hs6.facts fun q hq => by
            rcases List.mem_cons.mp hq with e | hq
            · exact .inr (by rw [e]; simp)
            · rcases List.mem_cons.mp hq with e | hq
              · exact .inr (by rw [e]; simp)
              · exact .inr (by simp [hq])⟩
      · rintro σ H ⟨v2, o1, mo, rfl, hm, c3, c4, hs⟩
        have hc0 : 0 ≤ o0 ∧ o0 < 10 ^ 70 := by omega
        have kv : Kn ((v2, D.tup [.int o0, .int o1]) :: (v1, .tup [.int a0, .int a1]) :: ds) v1 (.tup [.int a0, .int a1]) := kn_ix 1 rfl
        have kw : Kn ((v2, D.tup [.int o0, .int o1]) :: (v1, .tup [.int a0, .int a1]) :: ds) v2 (.tup [.int o0, .int o1]) := kn_ix 0 rfl
        obtain ⟨x1, rfl⟩ := Kn.ref_tup hs kv
        obtain ⟨x2, rfl⟩ := Kn.ref_tup hs kw
        walk_at "td rd"
        refine ⟨_, _, a0, a1, o0, o1, _, _, rfl, hs, kv, kw, by omega, by omega, by omega, by omega, by omega, by omega, by omega, by omega, fun v3 d H1 hcom hs1 => ?_⟩
        have up : ∀ {v : V} {e : D}, Kn ((V.ref x2, D.tup [.int o0, .int o1]) :: (V.ref x1, .tup [.int a0, .int a1]) :: ds) v e → Kn ((v3, d) :: (V.ref x2, D.tup [.int o0, .int o1]) :: (V.ref x1, .tup [.int a0, .int a1]) :: ds) v e := fun h => h.imp (fun z => z) fun z => List.mem_cons_of_mem _ z
        walk_at "td rd"
        refine ⟨_, _, _, a0, a1, o0, o1, d, _, _, rfl, hs1, up kv, up kw, kn_ix 0 rfl, by omega, by omega, by omega, by omega, hcom, ?_⟩
        walk_at "td rd"
        refine ⟨_, _, o0, o1, a0, a1, _, _, rfl, hs1, up kw, up kv, by omega, by omega, by omega, by omega, by omega, by omega, by omega, by omega, fun v4 d4 H2 hcom4 hs2 => ?_⟩
        have e4 : d4 = d := com_uni b3 c3 hcom (com_turn b3 c3 hcom4)
        subst e4
        refine w_neD hs2 (kn_ix 0 rfl) (kn_ix 1 rfl) (com_ok hcom) (com_ok hcom) ?_
        rw [same_self (com_ok hcom)]
        have hs2 := hs2.forget
        walk_at "td rd"
        refine ⟨_, _, a0, a1, o0, o1, _, _, rfl, hs2, up kv, up kw, by omega, by omega, by omega, by omega, by omega, by omega, by omega, by omega, fun v5 d5 H3 hcom5 hs3 => ?_⟩
        have e5 : d5 = d4 := com_uni b3 c3 hcom hcom5
        subst e5
        refine w_neD hs3 (kn_ix 0 rfl) (kn_ix 1 rfl) (com_ok hcom) (com_ok hcom) ?_
        rw [same_self (com_ok hcom)]
        have hs3 := hs3.forget
        walk_at "td rd"
        have hend : ∀ {ds' H}, S K H ((p, mo) :: l) ds' → (∀ q ∈ ds, q ∈ ds') → S K H l ds := fun h h2 => h.drop.facts fun q hq => .inr (h2 q hq)
        refine w_ixTn hs3 (up kv) rfl ?_
        walk_at "td rd"
        refine w_ixTn hs3 (up kw) rfl ?_
        walk_at "td rd"
        refine ⟨cm (by omega) (by omega) (by omega) (by omega), ite2 (fun h => ?_) (fun h => ?_)⟩
        · refine ⟨_, _, a0, a1, o0, o1, _, _, rfl, hs3, up kv, up kw, by omega, by omega, by omega, by omega, fun t h1 h2 h3 h4 h5 => ?_, fun hno => ?_⟩
          · rcases hcom with ⟨rfl, n1⟩ | ⟨f, e, rfl, n1, e1, l1, u1, a1', b1'⟩
            · refine absurd ?_ n1
              have g1 := Int.dvd_trans (gcd_dl a1 o1) h3
              have g2 := Int.dvd_trans (gcd_dr a1 o1) h4
              have g3 := Int.dvd_sub g1 g2
              rwa [show t - a0 - (t - o0) = o0 - a0 by omega] at g3
            · have ht : t = f := by
                by_cases hlt : f < t
                · exact absurd b1' (h5 f l1 hlt a1')
                · have d1 := Int.dvd_sub a1' h3
                  have d2 := Int.dvd_sub b1' h4
                  rw [show f - a0 - (t - a0) = f - t by omega] at d1
                  rw [show f - o0 - (t - o0) = f - t by omega] at d2
                  have d3 := lcm_dvd' b3 d1 d2
                  rw [← e1] at d3
                  have hz : f - t = 0 := Int.eq_zero_of_dvd_of_natAbs_lt_natAbs d3 (by omega)
                  omega
              subst ht
              obtain ⟨x3, rfl⟩ := Kn.ref_tup hs3 (kn_ix 0 rfl)
              refine ⟨true, tru_tup hs3 (kn_ix 0 rfl), ?_⟩
              walk_at "td rd"
              refine .inr (.inl (w_ixTn hs3 (kn_ix 0 rfl) rfl ?_))
              refine w_neD hs3 kn_int kn_int rfl rfl ?_
              rw [same_int]
              walk_at "td rd"
              exact ⟨_, _, _, _, _, _, _, rfl, hend hs3 (by simp +contextual)⟩
          · rcases hcom with ⟨rfl, n1⟩ | ⟨f, e, rfl, n1, e1, l1, u1, a1', b1'⟩
            · have e3 : v3 = .non := by
                have r := hs3.rp (v := v3) (d := .non) (kn_ix 0 rfl)
                cases r
                rfl
              subst e3
              refine ⟨false, tru_non, ?_⟩
              walk_at "td rd"
              refine d_lst (es := [.non]) hs3 (by walk_at "td kna") (by show 1 ≤ 1000000; decide) fun p9 H9 hs9 => ?_
              refine .inl (w_ixL (k := 0) hs9 (kn_ix 0 rfl) rfl rfl fun v9 hs9 => ?_)
              refine w_neD hs9 kn_non (kn_ix 0 rfl) rfl rfl ?_
              rw [same_non]
              walk_at "td rd"
              exact ⟨_, _, _, _, _, _, _, rfl, hend hs9 (by simp +contextual)⟩
            · refine absurd b1' (hno f l1 ?_ a1')
              have g0 := gcd_pos_of (a := a1) (b := o1) b3
              have q1 : a1 / (Int.gcd a1 o1 : Int) ≤ a1 := Int.ediv_le_self _ (by omega)
              have q2 : a1 / (Int.gcd a1 o1 : Int) * o1 ≤ a1 * o1 := Int.mul_le_mul_of_nonneg_right q1 (by omega)
              omega
        · exact ⟨_, _, _, _, _, _, _, rfl, hend hs3 (by simp +contextual)⟩
  · rintro σ H' ⟨z1, z2, z3, z4, z5, z6, z7, rfl, hs⟩
    walk_at "td rd"
    exact q _
end
end TD

namespace TD
open PySem PySem.Spec PyProof.Rows L2
def topS (i : Nat) : Stmt := PySem.Challenge.pw_timerdeque_k20_common_ticks.main.body.getD i (.Pass ⟨0, 0, 0, 0⟩)

abbrev s_is_whole : Stmt := (topS 4)
abbrev n_is_whole : List Str := ["thing", "least"]
theorem sc_is_whole : FnScope n_is_whole ["thing", "least"] (defScope s_is_whole) := ⟨rfl, rfl, rfl, by decide +kernel, rfl, by decide +kernel, by decide +kernel⟩
theorem d_is_whole {P : Program} {w : World} {K : PySem.W.Frag} {mg : Str → Option Value} {base : Heap} (b_isinstance : mg "isinstance" = none) (b_bool : mg "bool" = none) (b_int : mg "int" = none) {f : Addr} {cdv : Value} {A : Around} {outer : List Env} {s : Shared} {H : Hp} {E : XK} (hr : Room 0 (A.deeper (envOfC "is_whole" (defScope s_is_whole) s.heap.objs.size f cdv))) : PSs (cxOf CX0 P w K mg base n_is_whole "is_whole" (defScope s_is_whole) f cdv A outer s H E).nox (defBody s_is_whole) (t_is_whole K) :=
  (pss_one (ps_ret (pe_and (pe_callB call_isi (by rfl) b_isinstance (by decide +kernel) (pa_cons (pv 0) (pa_cons (pe_bltn (v := .ty "int") (by rfl) b_int (by decide +kernel) rfl) pa_nil))) (pe_and (pe_not (pe_callB call_isi (by rfl) b_isinstance (by decide +kernel) (pa_cons (pv 0) (pa_cons (pe_bltn (v := .ty "bool") (by rfl) b_bool (by decide +kernel) rfl) pa_nil)))) (pe_one (pe_cmpR op_ge (pv 0) (pv 1) (nomark _)))))))
theorem ok_is_whole {P : Program} {w : World} {K : PySem.W.Frag} {mg : Str → Option Value} {base : Heap} (b_isinstance : mg "isinstance" = none) (b_bool : mg "bool" = none) (b_int : mg "int" = none) {f : Addr} {fd : FuncData} (F : FunD K "is_whole" "is_whole" (defArgs s_is_whole) (defBody s_is_whole) (defScope s_is_whole) [.int 0] [] f fd) : FnOk P w K mg base CX0 1 f fd ["thing", "least"] (sp_is_whole K) :=
  F.ok sc_is_whole len_is_whole (fun cdv A outer s H vs Q E hr h => ⟨t_is_whole K, PSs.nox (d_is_whole b_isinstance b_bool b_int hr), sem_is_whole vs H Q E h⟩)
abbrev s_check_periodic : Stmt := (topS 6)
abbrev n_check_periodic : List Str := ["thing"]
theorem sc_check_periodic : FnScope n_check_periodic ["thing"] (defScope s_check_periodic) := ⟨rfl, rfl, rfl, by decide +kernel, rfl, by decide +kernel, by decide +kernel⟩
theorem d_check_periodic {P : Program} {w : World} {K : PySem.W.Frag} {mg : Str → Option Value} {base : Heap} (C_is_whole_2 : Cal P w K mg base CX0 1 "is_whole" ["thing", "least"] [] (sp_is_whole K)) (C_is_whole_1 : Cal P w K mg base CX0 1 "is_whole" ["thing", "least"] [.int 0] (sp_is_whole K)) (b_len : mg "len" = none) (b_isinstance : mg "isinstance" = none) (b_tuple : mg "tuple" = none) {f : Addr} {cdv : Value} {A : Around} {outer : List Env} {s : Shared} {H : Hp} {E : XK} (hr : Room 1 (A.deeper (envOfC "check_periodic" (defScope s_check_periodic) s.heap.objs.size f cdv))) : PSs (cxOf CX0 P w K mg base n_check_periodic "check_periodic" (defScope s_check_periodic) f cdv A outer s H E).nox (defBody s_check_periodic) (t_check_periodic K) :=
  (pss_one (ps_if (PW.pt (pw_or (pt_not (pt_val (pe_callB call_isi (by rfl) b_isinstance (by decide +kernel) (pa_cons (pv 0) (pa_cons (pe_bltn (v := .ty "tuple") (by rfl) b_tuple (by decide +kernel) rfl) pa_nil))))) (pw_or (pt_cmpR op_ne (pe_callB call_len_seq (by rfl) b_len PySem.boot_len (pa_cons (pv 0) pa_nil)) pe_int (nomark _)) (pw_or (pt_not (pt_val (pe_callC C_is_whole_1 (hr.mono (by decide)) (by rfl) (pa_cons (pe_ix ix_tup (pv 0) pe_int (fun _ _ => rfl)) pa_nil)))) (pw_or1 (pt_not (pt_val (pe_callC C_is_whole_2 (hr.mono (by decide)) (by rfl) (pa_cons (pe_ix ix_tup (pv 0) pe_int (fun _ _ => rfl)) (pa_cons pe_int pa_nil)))))))))) (pss_one ps_never) pss_nil))
theorem ok_check_periodic {P : Program} {w : World} {K : PySem.W.Frag} {mg : Str → Option Value} {base : Heap} (C_is_whole_2 : Cal P w K mg base CX0 1 "is_whole" ["thing", "least"] [] (sp_is_whole K)) (C_is_whole_1 : Cal P w K mg base CX0 1 "is_whole" ["thing", "least"] [.int 0] (sp_is_whole K)) (b_len : mg "len" = none) (b_isinstance : mg "isinstance" = none) (b_tuple : mg "tuple" = none) {f : Addr} {fd : FuncData} (F : FunD K "check_periodic" "check_periodic" (defArgs s_check_periodic) (defBody s_check_periodic) (defScope s_check_periodic) [] [] f fd) : FnOk P w K mg base CX0 2 f fd ["thing"] (sp_check_periodic K) :=
  F.ok sc_check_periodic len_check_periodic (fun cdv A outer s H vs Q E hr h => ⟨t_check_periodic K, PSs.nox (d_check_periodic C_is_whole_2 C_is_whole_1 b_len b_isinstance b_tuple hr), sem_check_periodic vs H Q E h⟩)
abbrev s_common_divisor : Stmt := (topS 7)
abbrev n_common_divisor : List Str := ["one", "other"]
theorem sc_common_divisor : FnScope n_common_divisor ["one", "other"] (defScope s_common_divisor) := ⟨rfl, rfl, rfl, by decide +kernel, rfl, by decide +kernel, by decide +kernel⟩
theorem d_common_divisor {P : Program} {w : World} {K : PySem.W.Frag} {mg : Str → Option Value} {base : Heap}  {f : Addr} {cdv : Value} {A : Around} {outer : List Env} {s : Shared} {H : Hp} {E : XK} (hr : Room 0 (A.deeper (envOfC "common_divisor" (defScope s_common_divisor) s.heap.objs.size f cdv))) : PSs (cxOf CX0 P w K mg base n_common_divisor "common_divisor" (defScope s_common_divisor) f cdv A outer s H E).nox (defBody s_common_divisor) (t_common_divisor K) :=
  (pss_cons (ps_while PassesOwn.never (pt_cmpR op_ne (pv 1) pe_int (nomark _)) (pss_one (ps_par (i := 0) (j := 1) rfl sc_common_divisor.nd rfl rfl (by decide) rfl rfl (pa_cons (pv 1) (pa_cons (pe_op op_mod (pv 0) (pv 1)) pa_nil)) (by rfl))))
  (pss_one (ps_ret (pv 0))))
theorem ok_common_divisor {P : Program} {w : World} {K : PySem.W.Frag} {mg : Str → Option Value} {base : Heap}  {f : Addr} {fd : FuncData} (F : FunD K "common_divisor" "common_divisor" (defArgs s_common_divisor) (defBody s_common_divisor) (defScope s_common_divisor) [] [] f fd) : FnOk P w K mg base CX0 1 f fd ["one", "other"] (sp_common_divisor K) :=
  F.ok sc_common_divisor len_common_divisor (fun cdv A outer s H vs Q E hr h => ⟨t_common_divisor K, PSs.nox (d_common_divisor  hr), sem_common_divisor vs H Q E h⟩)
abbrev s_inverse : Stmt := (topS 8)
abbrev n_inverse : List Str := ["number", "by", "found", "other", "left", "right", "many"]
theorem sc_inverse : FnScope n_inverse ["number", "by"] (defScope s_inverse) := ⟨rfl, rfl, rfl, by decide +kernel, rfl, by decide +kernel, by decide +kernel⟩
theorem d_inverse {P : Program} {w : World} {K : PySem.W.Frag} {mg : Str → Option Value} {base : Heap}  {f : Addr} {cdv : Value} {A : Around} {outer : List Env} {s : Shared} {H : Hp} {E : XK} (hr : Room 0 (A.deeper (envOfC "inverse" (defScope s_inverse) s.heap.objs.size f cdv))) : PSs (cxOf CX0 P w K mg base n_inverse "inverse" (defScope s_inverse) f cdv A outer s H E).nox (defBody s_inverse) (t_inverse K) :=
  (pss_cons (ps_asg (pe_tup (pa_cons pe_int (pa_cons pe_int (pa_cons (pe_op op_mod (pv 0) (pv 1)) (pa_cons (pv 1) pa_nil))))) (pg_tup rfl (pgs_cons (pg_name (i := 2) sc_inverse.nd rfl (by first | exact Or.inl rfl | exact Or.inr rfl)) (pgs_cons (pg_name (i := 3) sc_inverse.nd rfl (by first | exact Or.inl rfl | exact Or.inr rfl)) (pgs_cons (pg_name (i := 4) sc_inverse.nd rfl (by first | exact Or.inl rfl | exact Or.inr rfl)) (pgs_cons (pg_name (i := 5) sc_inverse.nd rfl (by first | exact Or.inl rfl | exact Or.inr rfl)) pgs_nil))))))
  (pss_cons (ps_while PassesOwn.never (pt_cmpR op_ne (pv 5) pe_int (nomark _)) (pss_cons (ps_set (i := 6) sc_inverse.nd rfl (by first | exact Or.inl rfl | exact Or.inr rfl) (pe_op op_fdivW (pv 4) (pv 5)))
  (pss_cons (ps_par (i := 4) (j := 5) rfl sc_inverse.nd rfl rfl (by decide) rfl rfl (pa_cons (pv 5) (pa_cons (pe_op op_mod (pv 4) (pv 5)) pa_nil)) (by rfl))
  (pss_one (ps_par (i := 2) (j := 3) rfl sc_inverse.nd rfl rfl (by decide) rfl rfl (pa_cons (pv 3) (pa_cons (pe_op op_sub (pv 2) (pe_op op_mulZ (pv 6) (pv 3))) pa_nil)) (by rfl))))))
  (pss_one (ps_ret (pe_op op_mod (pv 2) (pv 1))))))
theorem ok_inverse {P : Program} {w : World} {K : PySem.W.Frag} {mg : Str → Option Value} {base : Heap}  {f : Addr} {fd : FuncData} (F : FunD K "inverse" "inverse" (defArgs s_inverse) (defBody s_inverse) (defScope s_inverse) [] [] f fd) : FnOk P w K mg base CX0 1 f fd ["number", "by"] (sp_inverse K) :=
  F.ok sc_inverse len_inverse (fun cdv A outer s H vs Q E hr h => ⟨t_inverse K, PSs.nox (d_inverse  hr), sem_inverse vs H Q E h⟩)
abbrev s_common : Stmt := (topS 9)
abbrev n_common : List Str := ["one", "other", "measure", "every", "rest", "times", "first", "least"]
theorem sc_common : FnScope n_common ["one", "other"] (defScope s_common) := ⟨rfl, rfl, rfl, by decide +kernel, rfl, by decide +kernel, by decide +kernel⟩
theorem d_common {P : Program} {w : World} {K : PySem.W.Frag} {mg : Str → Option Value} {base : Heap} (C_check_periodic_1 : Cal P w K mg base CX0 2 "check_periodic" ["thing"] [] (sp_check_periodic K)) (C_common_divisor_2 : Cal P w K mg base CX0 1 "common_divisor" ["one", "other"] [] (sp_common_divisor K)) (C_inverse_2 : Cal P w K mg base CX0 1 "inverse" ["number", "by"] [] (sp_inverse K)) (b_max : mg "max" = none) {f : Addr} {cdv : Value} {A : Around} {outer : List Env} {s : Shared} {H : Hp} {E : XK} (hr : Room 2 (A.deeper (envOfC "common" (defScope s_common) s.heap.objs.size f cdv))) : PSs (cxOf CX0 P w K mg base n_common "common" (defScope s_common) f cdv A outer s H E).nox (defBody s_common) (t_common K) :=
  (pss_cons (ps_expr (pe_callC C_check_periodic_1 (hr.mono (by decide)) (by rfl) (pa_cons (pv 0) pa_nil)))
  (pss_cons (ps_expr (pe_callC C_check_periodic_1 (hr.mono (by decide)) (by rfl) (pa_cons (pv 1) pa_nil)))
  (pss_cons (ps_set (i := 2) sc_common.nd rfl (by first | exact Or.inl rfl | exact Or.inr rfl) (pe_callC C_common_divisor_2 (hr.mono (by decide)) (by rfl) (pa_cons (pe_ix ix_tup (pv 0) pe_int (fun _ _ => rfl)) (pa_cons (pe_ix ix_tup (pv 1) pe_int (fun _ _ => rfl)) pa_nil))))
  (pss_cons (ps_if (pt_cmpR op_ne (pe_op op_mod (pe_op op_sub (pe_ix ix_tup (pv 1) pe_int (fun _ _ => rfl)) (pe_ix ix_tup (pv 0) pe_int (fun _ _ => rfl))) (pv 2)) pe_int (nomark _)) (pss_one (ps_ret pe_non)) pss_nil)
  (pss_cons (ps_set (i := 3) sc_common.nd rfl (by first | exact Or.inl rfl | exact Or.inr rfl) (pe_op op_mulZ (pe_op op_fdivW (pe_ix ix_tup (pv 0) pe_int (fun _ _ => rfl)) (pv 2)) (pe_ix ix_tup (pv 1) pe_int (fun _ _ => rfl))))
  (pss_cons (ps_set (i := 4) sc_common.nd rfl (by first | exact Or.inl rfl | exact Or.inr rfl) (pe_op op_fdivW (pe_ix ix_tup (pv 1) pe_int (fun _ _ => rfl)) (pv 2)))
  (pss_cons (ps_set (i := 5) sc_common.nd rfl (by first | exact Or.inl rfl | exact Or.inr rfl) (pe_ifExp (pt_cmpR op_gt (pv 4) pe_int (nomark _)) (pe_op op_mod (pe_op op_mulZ (pe_op op_fdivW (pe_op op_sub (pe_ix ix_tup (pv 1) pe_int (fun _ _ => rfl)) (pe_ix ix_tup (pv 0) pe_int (fun _ _ => rfl))) (pv 2)) (pe_callC C_inverse_2 (hr.mono (by decide)) (by rfl) (pa_cons (pe_op op_fdivW (pe_ix ix_tup (pv 0) pe_int (fun _ _ => rfl)) (pv 2)) (pa_cons (pv 4) pa_nil)))) (pv 4)) pe_int))
  (pss_cons (ps_set (i := 6) sc_common.nd rfl (by first | exact Or.inl rfl | exact Or.inr rfl) (pe_op op_add (pe_ix ix_tup (pv 0) pe_int (fun _ _ => rfl)) (pe_op op_mulZ (pv 5) (pe_ix ix_tup (pv 0) pe_int (fun _ _ => rfl)))))
  (pss_cons (ps_set (i := 7) sc_common.nd rfl (by first | exact Or.inl rfl | exact Or.inr rfl) (pe_callB (call_max2 rfl) (by rfl) b_max (by decide +kernel) (pa_cons (pe_ix ix_tup (pv 0) pe_int (fun _ _ => rfl)) (pa_cons (pe_ix ix_tup (pv 1) pe_int (fun _ _ => rfl)) pa_nil))))
  (pss_one (ps_ret (pe_tup (pa_cons (pe_op op_add (pv 7) (pe_op op_mod (pe_op op_sub (pv 6) (pv 7)) (pv 3))) (pa_cons (pv 3) pa_nil))))))))))))))
theorem ok_common {P : Program} {w : World} {K : PySem.W.Frag} {mg : Str → Option Value} {base : Heap} (C_check_periodic_1 : Cal P w K mg base CX0 2 "check_periodic" ["thing"] [] (sp_check_periodic K)) (C_common_divisor_2 : Cal P w K mg base CX0 1 "common_divisor" ["one", "other"] [] (sp_common_divisor K)) (C_inverse_2 : Cal P w K mg base CX0 1 "inverse" ["number", "by"] [] (sp_inverse K)) (b_max : mg "max" = none) {f : Addr} {fd : FuncData} (F : FunD K "common" "common" (defArgs s_common) (defBody s_common) (defScope s_common) [] [] f fd) : FnOk P w K mg base CX0 3 f fd ["one", "other"] (sp_common K) :=
  F.ok sc_common len_common (fun cdv A outer s H vs Q E hr h => ⟨t_common K, PSs.nox (d_common C_check_periodic_1 C_common_divisor_2 C_inverse_2 b_max hr), sem_common vs H Q E h⟩)
abbrev s_law_cell_at : Stmt := (topS 11)
abbrev n_law_cell_at : List Str := ["_law_script", "_law_k"]
theorem sc_law_cell_at : FnScope n_law_cell_at ["_law_script", "_law_k"] (defScope s_law_cell_at) := ⟨rfl, rfl, rfl, by decide +kernel, rfl, by decide +kernel, by decide +kernel⟩
theorem d_law_cell_at {P : Program} {w : World} {K : PySem.W.Frag} {mg : Str → Option Value} {base : Heap} (b_len : mg "len" = none) {f : Addr} {cdv : Value} {A : Around} {outer : List Env} {s : Shared} {H : Hp} {E : XK} (hr : Room 0 (A.deeper (envOfC "_law_cell_at" (defScope s_law_cell_at) s.heap.objs.size f cdv))) : PSs (cxOf CX0 P w K mg base n_law_cell_at "_law_cell_at" (defScope s_law_cell_at) f cdv A outer s H E).nox (defBody s_law_cell_at) (t_law_cell_at K) :=
  (pss_cons (ps_if (pt_cmpR op_lt (pv 1) (pe_callB call_len_seq (by rfl) b_len PySem.boot_len (pa_cons (pv 0) pa_nil)) (nomark _)) (pss_one (ps_ret (pe_ix ix_list (pv 0) (pv 1) (fun _ _ => rfl)))) pss_nil)
  (pss_one (ps_ret pe_int)))
theorem ok_law_cell_at {P : Program} {w : World} {K : PySem.W.Frag} {mg : Str → Option Value} {base : Heap} (b_len : mg "len" = none) {f : Addr} {fd : FuncData} (F : FunD K "_law_cell_at" "_law_cell_at" (defArgs s_law_cell_at) (defBody s_law_cell_at) (defScope s_law_cell_at) [] [] f fd) : FnOk P w K mg base CX0 1 f fd ["_law_script", "_law_k"] (sp_law_cell_at K) :=
  F.ok sc_law_cell_at len_law_cell_at (fun cdv A outer s H vs Q E hr h => ⟨t_law_cell_at K, PSs.nox (d_law_cell_at b_len hr), sem_law_cell_at vs H Q E h⟩)
abbrev s_law_mixed : Stmt := (topS 12)
abbrev n_law_mixed : List Str := ["_law_cell", "_law_k", "_law_low"]
theorem sc_law_mixed : FnScope n_law_mixed ["_law_cell", "_law_k"] (defScope s_law_mixed) := ⟨rfl, rfl, rfl, by decide +kernel, rfl, by decide +kernel, by decide +kernel⟩
theorem d_law_mixed {P : Program} {w : World} {K : PySem.W.Frag} {mg : Str → Option Value} {base : Heap}  {f : Addr} {cdv : Value} {A : Around} {outer : List Env} {s : Shared} {H : Hp} {E : XK} (hr : Room 0 (A.deeper (envOfC "_law_mixed" (defScope s_law_mixed) s.heap.objs.size f cdv))) : PSs (cxOf CX0 P w K mg base n_law_mixed "_law_mixed" (defScope s_law_mixed) f cdv A outer s H E).nox (defBody s_law_mixed) (t_law_mixed K) :=
  (pss_cons (ps_set (i := 2) sc_law_mixed.nd rfl (by first | exact Or.inl rfl | exact Or.inr rfl) (pe_op op_add (pe_op op_mod (pv 0) pe_int) (pe_op op_mulZ (pe_op op_fdivW (pv 0) pe_int) pe_int)))
  (pss_cons (ps_set (i := 2) sc_law_mixed.nd rfl (by first | exact Or.inl rfl | exact Or.inr rfl) (pe_op op_mod (pe_op op_mulZ (pe_op op_add (pe_op op_add (pv 2) (pe_op op_mulZ pe_int (pv 1))) pe_int) pe_int) pe_int))
  (pss_cons (ps_set (i := 2) sc_law_mixed.nd rfl (by first | exact Or.inl rfl | exact Or.inr rfl) (pe_op op_mod (pe_op op_mulZ (pv 2) (pe_op op_add (pe_op op_add (pe_op op_fdivW (pv 2) pe_int) pe_int) (pv 1))) pe_int))
  (pss_one (ps_ret (pe_op op_mod (pe_op op_mulZ (pv 2) (pe_op op_add (pe_op op_fdivW (pv 2) pe_int) pe_int)) pe_int))))))
theorem ok_law_mixed {P : Program} {w : World} {K : PySem.W.Frag} {mg : Str → Option Value} {base : Heap}  {f : Addr} {fd : FuncData} (F : FunD K "_law_mixed" "_law_mixed" (defArgs s_law_mixed) (defBody s_law_mixed) (defScope s_law_mixed) [] [] f fd) : FnOk P w K mg base CX0 1 f fd ["_law_cell", "_law_k"] (sp_law_mixed K) :=
  F.ok sc_law_mixed len_law_mixed (fun cdv A outer s H vs Q E hr h => ⟨t_law_mixed K, PSs.nox (d_law_mixed  hr), sem_law_mixed vs H Q E h⟩)
abbrev s_law_source : Stmt := (topS 13)
abbrev n_law_source : List Str := ["_law_script", "_law_k", "_law_cell"]
theorem sc_law_source : FnScope n_law_source ["_law_script", "_law_k"] (defScope s_law_source) := ⟨rfl, rfl, rfl, by decide +kernel, rfl, by decide +kernel, by decide +kernel⟩
theorem d_law_source {P : Program} {w : World} {K : PySem.W.Frag} {mg : Str → Option Value} {base : Heap} (C_law_mixed_2 : Cal P w K mg base CX0 1 "_law_mixed" ["_law_cell", "_law_k"] [] (sp_law_mixed K)) (C_law_cell_at_2 : Cal P w K mg base CX0 1 "_law_cell_at" ["_law_script", "_law_k"] [] (sp_law_cell_at K)) (b_len : mg "len" = none) {f : Addr} {cdv : Value} {A : Around} {outer : List Env} {s : Shared} {H : Hp} {E : XK} (hr : Room 1 (A.deeper (envOfC "_law_source" (defScope s_law_source) s.heap.objs.size f cdv))) : PSs (cxOf CX0 P w K mg base n_law_source "_law_source" (defScope s_law_source) f cdv A outer s H E).nox (defBody s_law_source) (t_law_source K) :=
  (pss_cons (ps_if (pt_cmpR op_lt (pv 1) (pe_callB call_len_seq (by rfl) b_len PySem.boot_len (pa_cons (pv 0) pa_nil)) (nomark _)) (pss_one (ps_ret (pe_lst (pa_cons (pe_ix ix_list (pv 0) (pv 1) (fun _ _ => rfl)) (pa_cons (pe_ix ix_list (pv 0) (pv 1) (fun _ _ => rfl)) (pa_cons pe_int pa_nil)))))) pss_nil)
  (pss_cons (ps_set (i := 2) sc_law_source.nd rfl (by first | exact Or.inl rfl | exact Or.inr rfl) (pe_callC C_law_mixed_2 (hr.mono (by decide)) (by rfl) (pa_cons (pe_callC C_law_cell_at_2 (hr.mono (by decide)) (by rfl) (pa_cons (pv 0) (pa_cons pe_int pa_nil))) (pa_cons (pe_op op_add pe_int (pv 1)) pa_nil))))
  (pss_one (ps_ret (pe_lst (pa_cons (pv 2) (pa_cons (pv 2) (pa_cons pe_int pa_nil))))))))
theorem ok_law_source {P : Program} {w : World} {K : PySem.W.Frag} {mg : Str → Option Value} {base : Heap} (C_law_mixed_2 : Cal P w K mg base CX0 1 "_law_mixed" ["_law_cell", "_law_k"] [] (sp_law_mixed K)) (C_law_cell_at_2 : Cal P w K mg base CX0 1 "_law_cell_at" ["_law_script", "_law_k"] [] (sp_law_cell_at K)) (b_len : mg "len" = none) {f : Addr} {fd : FuncData} (F : FunD K "_law_source" "_law_source" (defArgs s_law_source) (defBody s_law_source) (defScope s_law_source) [] [] f fd) : FnOk P w K mg base CX0 2 f fd ["_law_script", "_law_k"] (sp_law_source K) :=
  F.ok sc_law_source len_law_source (fun cdv A outer s H vs Q E hr h => ⟨t_law_source K, PSs.nox (d_law_source C_law_mixed_2 C_law_cell_at_2 b_len hr), sem_law_source vs H Q E h⟩)
abbrev s_law_next : Stmt := (topS 14)
abbrev n_law_next : List Str := ["_law_source_here", "_law_many", "_law_found"]
theorem sc_law_next : FnScope n_law_next ["_law_source_here", "_law_many"] (defScope s_law_next) := ⟨rfl, rfl, rfl, by decide +kernel, rfl, by decide +kernel, by decide +kernel⟩
theorem d_law_next {P : Program} {w : World} {K : PySem.W.Frag} {mg : Str → Option Value} {base : Heap} (C_law_mixed_2 : Cal P w K mg base CX0 1 "_law_mixed" ["_law_cell", "_law_k"] [] (sp_law_mixed K)) {f : Addr} {cdv : Value} {A : Around} {outer : List Env} {s : Shared} {H : Hp} {E : XK} (hr : Room 1 (A.deeper (envOfC "_law_next" (defScope s_law_next) s.heap.objs.size f cdv))) : PSs (cxOf CX0 P w K mg base n_law_next "_law_next" (defScope s_law_next) f cdv A outer s H E).nox (defBody s_law_next) (t_law_next K) :=
  (pss_cons (ps_if (pt_cmpR op_ge (pe_ix ix_list (pv 0) pe_int (fun _ _ => rfl)) (pe_op op_pow pe_int pe_int) (nomark _)) (pss_cons (ps_set (i := 2) sc_law_next.nd rfl (by first | exact Or.inl rfl | exact Or.inr rfl) (pe_op op_mod (pe_ix ix_list (pv 0) pe_int (fun _ _ => rfl)) (pv 1)))
  (pss_cons (ps_asg (pe_op op_fdivW (pe_ix ix_list (pv 0) pe_int (fun _ _ => rfl)) (pv 1)) (pg_sub (pv 0) pe_int set_list))
  (pss_one (ps_ret (pv 2))))) pss_nil)
  (pss_cons (ps_asg (pe_op op_add (pe_ix ix_list (pv 0) pe_int (fun _ _ => rfl)) pe_int) (pg_sub (pv 0) pe_int set_list))
  (pss_one (ps_ret (pe_op op_mod (pe_callC C_law_mixed_2 (hr.mono (by decide)) (by rfl) (pa_cons (pe_ix ix_list (pv 0) pe_int (fun _ _ => rfl)) (pa_cons (pe_ix ix_list (pv 0) pe_int (fun _ _ => rfl)) pa_nil))) (pv 1))))))
theorem ok_law_next {P : Program} {w : World} {K : PySem.W.Frag} {mg : Str → Option Value} {base : Heap} (C_law_mixed_2 : Cal P w K mg base CX0 1 "_law_mixed" ["_law_cell", "_law_k"] [] (sp_law_mixed K)) {f : Addr} {fd : FuncData} (F : FunD K "_law_next" "_law_next" (defArgs s_law_next) (defBody s_law_next) (defScope s_law_next) [] [] f fd) : FnOk P w K mg base CX0 2 f fd ["_law_source_here", "_law_many"] (sp_law_next K) :=
  F.ok sc_law_next len_law_next (fun cdv A outer s H vs Q E hr h => ⟨t_law_next K, PSs.nox (d_law_next C_law_mixed_2 hr), sem_law_next vs H Q E h⟩)
abbrev s_law_pair : Stmt := (topS 15)
abbrev n_law_pair : List Str := ["_law_source_here", "_law_measure_here", "_law_most", "_law_far"]
theorem sc_law_pair : FnScope n_law_pair ["_law_source_here", "_law_measure_here"] (defScope s_law_pair) := ⟨rfl, rfl, rfl, by decide +kernel, rfl, by decide +kernel, by decide +kernel⟩
theorem d_law_pair {P : Program} {w : World} {K : PySem.W.Frag} {mg : Str → Option Value} {base : Heap} (C_law_next_2 : Cal P w K mg base CX0 2 "_law_next" ["_law_source_here", "_law_many"] [] (sp_law_next K)) {f : Addr} {cdv : Value} {A : Around} {outer : List Env} {s : Shared} {H : Hp} {E : XK} (hr : Room 2 (A.deeper (envOfC "_law_pair" (defScope s_law_pair) s.heap.objs.size f cdv))) : PSs (cxOf CX0 P w K mg base n_law_pair "_law_pair" (defScope s_law_pair) f cdv A outer s H E).nox (defBody s_law_pair) (t_law_pair_5a478e K) :=
  (pss_cons (ps_set (i := 2) sc_law_pair.nd rfl (by first | exact Or.inl rfl | exact Or.inr rfl) (pe_ix ix_list (pe_lst (pa_cons pe_int (pa_cons pe_int (pa_cons (pe_op op_pow pe_int pe_int) pa_nil)))) (pe_callC C_law_next_2 (hr.mono (by decide)) (by rfl) (pa_cons (pv 0) (pa_cons pe_int pa_nil))) (fun _ _ => rfl)))
  (pss_cons (ps_set (i := 3) sc_law_pair.nd rfl (by first | exact Or.inl rfl | exact Or.inr rfl) (pe_lst (pa_cons (pe_callC C_law_next_2 (hr.mono (by decide)) (by rfl) (pa_cons (pv 0) (pa_cons pe_int pa_nil))) (pa_cons (pe_callC C_law_next_2 (hr.mono (by decide)) (by rfl) (pa_cons (pv 0) (pa_cons pe_int pa_nil))) (pa_cons (pe_op op_add (pe_op op_mulZ (pv 1) (pe_callC C_law_next_2 (hr.mono (by decide)) (by rfl) (pa_cons (pv 0) (pa_cons (pe_op op_pow pe_int pe_int) pa_nil)))) (pe_callC C_law_next_2 (hr.mono (by decide)) (by rfl) (pa_cons (pv 0) (pa_cons pe_int pa_nil)))) pa_nil)))))
  (pss_cons (ps_expr (pe_bm PySem.F.plainAttrs_list PySem.F.slot_list_append PySem.F.type_list_append mt_append (pv 3) (pa_cons (pe_op op_add (pe_op op_pow pe_int pe_int) (pe_callC C_law_next_2 (hr.mono (by decide)) (by rfl) (pa_cons (pv 0) (pa_cons (pe_op op_pow pe_int pe_int) pa_nil)))) pa_nil)))
  (pss_one (ps_ret (pe_tup (pa_cons (pe_ix ix_list (pv 3) (pe_callC C_law_next_2 (hr.mono (by decide)) (by rfl) (pa_cons (pv 0) (pa_cons pe_int pa_nil))) (fun _ _ => rfl)) (pa_cons (pe_op op_mulZ (pv 1) (pe_op op_add pe_int (pe_callC C_law_next_2 (hr.mono (by decide)) (by rfl) (pa_cons (pv 0) (pa_cons (pv 2) pa_nil))))) pa_nil))))))))
theorem ok_law_pair {P : Program} {w : World} {K : PySem.W.Frag} {mg : Str → Option Value} {base : Heap} (C_law_next_2 : Cal P w K mg base CX0 2 "_law_next" ["_law_source_here", "_law_many"] [] (sp_law_next K)) {f : Addr} {fd : FuncData} (F : FunD K "_law_pair" "_law_pair" (defArgs s_law_pair) (defBody s_law_pair) (defScope s_law_pair) [] [] f fd) : FnOk P w K mg base CX0 3 f fd ["_law_source_here", "_law_measure_here"] (sp_law_pair_5a478e K) :=
  F.ok sc_law_pair len_law_pair_5a478e (fun cdv A outer s H vs Q E hr h => ⟨t_law_pair_5a478e K, PSs.nox (d_law_pair C_law_next_2 hr), sem_law_pair_5a478e vs H Q E h⟩)
abbrev s_law_measure : Stmt := (topS 16)
abbrev n_law_measure : List Str := ["_law_one", "_law_two"]
theorem sc_law_measure : FnScope n_law_measure ["_law_one", "_law_two"] (defScope s_law_measure) := ⟨rfl, rfl, rfl, by decide +kernel, rfl, by decide +kernel, by decide +kernel⟩
theorem d_law_measure {P : Program} {w : World} {K : PySem.W.Frag} {mg : Str → Option Value} {base : Heap}  {f : Addr} {cdv : Value} {A : Around} {outer : List Env} {s : Shared} {H : Hp} {E : XK} (hr : Room 0 (A.deeper (envOfC "_law_measure" (defScope s_law_measure) s.heap.objs.size f cdv))) : PSs (cxOf CX0 P w K mg base n_law_measure "_law_measure" (defScope s_law_measure) f cdv A outer s H E).nox (defBody s_law_measure) (t_law_measure K) :=
  (pss_cons (ps_while PassesOwn.never (pt_cmpR op_gt (pv 1) pe_int (nomark _)) (pss_one (ps_par (i := 0) (j := 1) rfl sc_law_measure.nd rfl rfl (by decide) rfl rfl (pa_cons (pv 1) (pa_cons (pe_op op_mod (pv 0) (pv 1)) pa_nil)) (by rfl))))
  (pss_one (ps_ret (pv 0))))
theorem ok_law_measure {P : Program} {w : World} {K : PySem.W.Frag} {mg : Str → Option Value} {base : Heap}  {f : Addr} {fd : FuncData} (F : FunD K "_law_measure" "_law_measure" (defArgs s_law_measure) (defBody s_law_measure) (defScope s_law_measure) [] [] f fd) : FnOk P w K mg base CX0 1 f fd ["_law_one", "_law_two"] (sp_law_measure K) :=
  F.ok sc_law_measure len_law_measure (fun cdv A outer s H vs Q E hr h => ⟨t_law_measure K, PSs.nox (d_law_measure  hr), sem_law_measure vs H Q E h⟩)
abbrev s_law_gone_through : Stmt := (topS 17)
abbrev n_law_gone_through : List Str := ["_law_one", "_law_two", "_law_begin", "_law_tick"]
theorem sc_law_gone_through : FnScope n_law_gone_through ["_law_one", "_law_two"] (defScope s_law_gone_through) := ⟨rfl, rfl, rfl, by decide +kernel, rfl, by decide +kernel, by decide +kernel⟩
theorem d_law_gone_through {P : Program} {w : World} {K : PySem.W.Frag} {mg : Str → Option Value} {base : Heap} (b_max : mg "max" = none) (b_range : mg "range" = none) {f : Addr} {cdv : Value} {A : Around} {outer : List Env} {s : Shared} {H : Hp} {E : XK} (hr : Room 0 (A.deeper (envOfC "_law_gone_through" (defScope s_law_gone_through) s.heap.objs.size f cdv))) : PSs (cxOf CX0 P w K mg base n_law_gone_through "_law_gone_through" (defScope s_law_gone_through) f cdv A outer s H E).nox (defBody s_law_gone_through) (t_law_gone_through_5e40cc K) :=
  (pss_cons (ps_set (i := 2) sc_law_gone_through.nd rfl (by first | exact Or.inl rfl | exact Or.inr rfl) (pe_callB (call_max2 rfl) (by rfl) b_max (by decide +kernel) (pa_cons (pe_ix ix_tup (pv 0) pe_int (fun _ _ => rfl)) (pa_cons (pe_ix ix_tup (pv 1) pe_int (fun _ _ => rfl)) pa_nil))))
  (pss_cons (ps_for PassesOwn.never rfl (pi_rangeB2 (by rfl) b_range (pa_cons (pv 2) (pa_cons (pe_op op_add (pv 2) (pe_op op_mulZ (pe_ix ix_tup (pv 0) pe_int (fun _ _ => rfl)) (pe_ix ix_tup (pv 1) pe_int (fun _ _ => rfl)))) pa_nil))) (pg_name (i := 3) sc_law_gone_through.nd rfl (by first | exact Or.inl rfl | exact Or.inr rfl)) (pss_one (ps_if (PW.pt (pw_and (pt_cmpR op_eq (pe_op op_mod (pe_op op_sub (pv 3) (pe_ix ix_tup (pv 0) pe_int (fun _ _ => rfl))) (pe_ix ix_tup (pv 0) pe_int (fun _ _ => rfl))) pe_int (nomark _)) (pw_and1 (pt_cmpR op_eq (pe_op op_mod (pe_op op_sub (pv 3) (pe_ix ix_tup (pv 1) pe_int (fun _ _ => rfl))) (pe_ix ix_tup (pv 1) pe_int (fun _ _ => rfl))) pe_int (nomark _))))) (pss_one (ps_ret (pv 3))) pss_nil)))
  (pss_one (ps_ret pe_non))))
theorem ok_law_gone_through {P : Program} {w : World} {K : PySem.W.Frag} {mg : Str → Option Value} {base : Heap} (b_max : mg "max" = none) (b_range : mg "range" = none) {f : Addr} {fd : FuncData} (F : FunD K "_law_gone_through" "_law_gone_through" (defArgs s_law_gone_through) (defBody s_law_gone_through) (defScope s_law_gone_through) [] [] f fd) : FnOk P w K mg base CX0 1 f fd ["_law_one", "_law_two"] (sp_law_gone_through_5e40cc K) :=
  F.ok sc_law_gone_through len_law_gone_through_5e40cc (fun cdv A outer s H vs Q E hr h => ⟨t_law_gone_through_5e40cc K, PSs.nox (d_law_gone_through b_max b_range hr), sem_law_gone_through_5e40cc vs H Q E h⟩)
abbrev s_law_right : Stmt := (topS 18)
abbrev n_law_right : List Str := ["_law_one", "_law_two", "_law_told", "_law_measure_here", "_law_first", "_law_distance"]
theorem sc_law_right : FnScope n_law_right ["_law_one", "_law_two", "_law_told"] (defScope s_law_right) := ⟨rfl, rfl, rfl, by decide +kernel, rfl, by decide +kernel, by decide +kernel⟩
theorem d_law_right {P : Program} {w : World} {K : PySem.W.Frag} {mg : Str → Option Value} {base : Heap} (C_law_measure_2 : Cal P w K mg base CX0 1 "_law_measure" ["_law_one", "_law_two"] [] (sp_law_measure K)) (b_isinstance : mg "isinstance" = none) (b_bool : mg "bool" = none) (b_len : mg "len" = none) (b_tuple : mg "tuple" = none) (b_max : mg "max" = none) {f : Addr} {cdv : Value} {A : Around} {outer : List Env} {s : Shared} {H : Hp} {E : XK} (hr : Room 1 (A.deeper (envOfC "_law_right" (defScope s_law_right) s.heap.objs.size f cdv))) : PSs (cxOf CX0 P w K mg base n_law_right "_law_right" (defScope s_law_right) f cdv A outer s H E).nox (defBody s_law_right) (t_law_right_a91a20 K) :=
  (pss_cons (ps_set (i := 3) sc_law_right.nd rfl (by first | exact Or.inl rfl | exact Or.inr rfl) (pe_callC C_law_measure_2 (hr.mono (by decide)) (by rfl) (pa_cons (pe_ix ix_tup (pv 0) pe_int (fun _ _ => rfl)) (pa_cons (pe_ix ix_tup (pv 1) pe_int (fun _ _ => rfl)) pa_nil))))
  (pss_cons (ps_if (pt_cmpR op_ne (pe_op op_mod (pe_op op_sub (pe_ix ix_tup (pv 0) pe_int (fun _ _ => rfl)) (pe_ix ix_tup (pv 1) pe_int (fun _ _ => rfl))) (pv 3)) pe_int (nomark _)) (pss_one (ps_ret (pe_cmpR op_isN1 (pv 2) pe_non (nomark _)))) pss_nil)
  (pss_cons (ps_if (PW.pt (pw_or (pt_not (pt_val (pe_callB call_isi (by rfl) b_isinstance (by decide +kernel) (pa_cons (pv 2) (pa_cons (pe_bltn (v := .ty "tuple") (by rfl) b_tuple (by decide +kernel) rfl) pa_nil))))) (pw_or (pt_cmpR op_ne (pe_callB call_len_seq (by rfl) b_len PySem.boot_len (pa_cons (pv 2) pa_nil)) pe_int (nomark _)) (pw_or (pt_val (pe_callB call_isi (by rfl) b_isinstance (by decide +kernel) (pa_cons (pe_ix ix_tup (pv 2) pe_int (fun _ _ => rfl)) (pa_cons (pe_bltn (v := .ty "bool") (by rfl) b_bool (by decide +kernel) rfl) pa_nil)))) (pw_or1 (pt_val (pe_callB call_isi (by rfl) b_isinstance (by decide +kernel) (pa_cons (pe_ix ix_tup (pv 2) pe_int (fun _ _ => rfl)) (pa_cons (pe_bltn (v := .ty "bool") (by rfl) b_bool (by decide +kernel) rfl) pa_nil))))))))) (pss_one (ps_ret pe_bl)) pss_nil)
  (pss_cons (ps_asg (pv 2) (pg_tup rfl (pgs_cons (pg_name (i := 4) sc_law_right.nd rfl (by first | exact Or.inl rfl | exact Or.inr rfl)) (pgs_cons (pg_name (i := 5) sc_law_right.nd rfl (by first | exact Or.inl rfl | exact Or.inr rfl)) pgs_nil))))
  (pss_cons (ps_if (PW.pt (pw_or (pt_cmpR op_ne (pv 5) (pe_op op_fdivW (pe_op op_mulZ (pe_ix ix_tup (pv 0) pe_int (fun _ _ => rfl)) (pe_ix ix_tup (pv 1) pe_int (fun _ _ => rfl))) (pv 3)) (nomark _)) (pw_or1 (pt_not (pt_chain op_le op_lt pe_int (pe_op op_sub (pv 4) (pe_callB (call_max2 rfl) (by rfl) b_max (by decide +kernel) (pa_cons (pe_ix ix_tup (pv 0) pe_int (fun _ _ => rfl)) (pa_cons (pe_ix ix_tup (pv 1) pe_int (fun _ _ => rfl)) pa_nil)))) (pv 5)))))) (pss_one (ps_ret pe_bl)) pss_nil)
  (pss_one (ps_ret (pe_and (pe_cmpR op_eq (pe_op op_mod (pe_op op_sub (pv 4) (pe_ix ix_tup (pv 0) pe_int (fun _ _ => rfl))) (pe_ix ix_tup (pv 0) pe_int (fun _ _ => rfl))) pe_int (nomark _)) (pe_one (pe_cmpR op_eq (pe_op op_mod (pe_op op_sub (pv 4) (pe_ix ix_tup (pv 1) pe_int (fun _ _ => rfl))) (pe_ix ix_tup (pv 1) pe_int (fun _ _ => rfl))) pe_int (nomark _)))))))))))
theorem ok_law_right {P : Program} {w : World} {K : PySem.W.Frag} {mg : Str → Option Value} {base : Heap} (C_law_measure_2 : Cal P w K mg base CX0 1 "_law_measure" ["_law_one", "_law_two"] [] (sp_law_measure K)) (b_isinstance : mg "isinstance" = none) (b_bool : mg "bool" = none) (b_len : mg "len" = none) (b_tuple : mg "tuple" = none) (b_max : mg "max" = none) {f : Addr} {fd : FuncData} (F : FunD K "_law_right" "_law_right" (defArgs s_law_right) (defBody s_law_right) (defScope s_law_right) [] [] f fd) : FnOk P w K mg base CX0 2 f fd ["_law_one", "_law_two", "_law_told"] (sp_law_right_a91a20 K) :=
  F.ok sc_law_right len_law_right_a91a20 (fun cdv A outer s H vs Q E hr h => ⟨t_law_right_a91a20 K, PSs.nox (d_law_right C_law_measure_2 b_isinstance b_bool b_len b_tuple b_max hr), sem_law_right_a91a20 vs H Q E h⟩)
abbrev s_law : Stmt := (topS 19)
abbrev n_law : List Str := ["_law_script", "_law_k", "_law_source_here", "_law_measure_here", "_law_one", "_law_two", "_law_time", "_law_told"]
theorem sc_law : FnScope n_law ["_law_script"] (defScope s_law) := ⟨rfl, rfl, rfl, by decide +kernel, rfl, by decide +kernel, by decide +kernel⟩
theorem d_law {P : Program} {w : World} {K : PySem.W.Frag} {mg : Str → Option Value} {base : Heap} (C_law_source_2 : Cal P w K mg base CX0 2 "_law_source" ["_law_script", "_law_k"] [] (sp_law_source K)) (C_law_next_2 : Cal P w K mg base CX0 2 "_law_next" ["_law_source_here", "_law_many"] [] (sp_law_next K)) (C_law_pair_2 : Cal P w K mg base CX0 3 "_law_pair" ["_law_source_here", "_law_measure_here"] [] (sp_law_pair_5a478e K)) (C_common_2 : Cal P w K mg base CX0 3 "common" ["one", "other"] [] (sp_common K)) (C_law_right_3 : Cal P w K mg base CX0 2 "_law_right" ["_law_one", "_law_two", "_law_told"] [] (sp_law_right_a91a20 K)) (C_law_gone_through_2 : Cal P w K mg base CX0 1 "_law_gone_through" ["_law_one", "_law_two"] [] (sp_law_gone_through_5e40cc K)) (b_range : mg "range" = none) (b_max : mg "max" = none) (b_min : mg "min" = none) (b_len : mg "len" = none) {f : Addr} {cdv : Value} {A : Around} {outer : List Env} {s : Shared} {H : Hp} {E : XK} (hr : Room 3 (A.deeper (envOfC "law" (defScope s_law) s.heap.objs.size f cdv))) : PSs (cxOf CX0 P w K mg base n_law "law" (defScope s_law) f cdv A outer s H E).nox (defBody s_law) (t_law K) :=
  (pss_cons (ps_for PassesOwn.never rfl (pi_rangeB1 (by rfl) b_range (pa_cons (pe_callB (call_max2 rfl) (by rfl) b_max (by decide +kernel) (pa_cons pe_int (pa_cons (pe_callB (call_min2 rfl) (by rfl) b_min (by decide +kernel) (pa_cons pe_int (pa_cons (pe_callB call_len_seq (by rfl) b_len PySem.boot_len (pa_cons (pv 0) pa_nil)) pa_nil))) pa_nil))) pa_nil)) (pg_name (i := 1) sc_law.nd rfl (by first | exact Or.inl rfl | exact Or.inr rfl)) (pss_cons (ps_set (i := 2) sc_law.nd rfl (by first | exact Or.inl rfl | exact Or.inr rfl) (pe_callC C_law_source_2 (hr.mono (by decide)) (by rfl) (pa_cons (pv 0) (pa_cons (pv 1) pa_nil))))
  (pss_cons (ps_set (i := 3) sc_law.nd rfl (by first | exact Or.inl rfl | exact Or.inr rfl) (pe_ix ix_list (pe_lst (pa_cons pe_int (pa_cons pe_int (pa_cons pe_int (pa_cons (pe_op op_add pe_int (pe_callC C_law_next_2 (hr.mono (by decide)) (by rfl) (pa_cons (pv 2) (pa_cons (pe_op op_pow pe_int pe_int) pa_nil)))) (pa_cons (pe_op op_add (pe_op op_pow pe_int pe_int) (pe_callC C_law_next_2 (hr.mono (by decide)) (by rfl) (pa_cons (pv 2) (pa_cons (pe_op op_pow pe_int pe_int) pa_nil)))) pa_nil)))))) (pe_callC C_law_next_2 (hr.mono (by decide)) (by rfl) (pa_cons (pv 2) (pa_cons pe_int pa_nil))) (fun _ _ => rfl)))
  (pss_cons (ps_asg (pe_lc (own := [("_law_time", 6)]) (g := (gName 6)) (tt := tYes) (te := (tCall (sp_law_pair_5a478e K) [] E0 (tCons (tVar 2) (tCons (tVar 3) tNil)))) rfl sc_law.nd (pi_rangeB1 (by rfl) b_range (pa_cons pe_int pa_nil)) (blkOk_by (N := n_law) (sc := defScope s_law) (by decide +kernel)) (fun _ _ _ _ _ => (pg_name (i := 6) sc_law.nd rfl (by first | exact Or.inl rfl | exact Or.inr rfl))) (fun _ _ _ _ _ => pts_nil) (fun _ _ _ _ _ => (pe_callC C_law_pair_2 (hr.mono (by decide)) (by rfl) (pa_cons (pv 2) (pa_cons (pv 3) pa_nil))))) (pg_lst rfl (pgs_cons (pg_name (i := 4) sc_law.nd rfl (by first | exact Or.inl rfl | exact Or.inr rfl)) (pgs_cons (pg_name (i := 5) sc_law.nd rfl (by first | exact Or.inl rfl | exact Or.inr rfl)) pgs_nil))))
  (pss_cut (ps_if (pt_cmpR op_eq (pe_callC C_law_next_2 (hr.mono (by decide)) (by rfl) (pa_cons (pv 2) (pa_cons pe_int pa_nil))) pe_int (nomark _)) (pss_one (ps_set (i := 5) sc_law.nd rfl (by first | exact Or.inl rfl | exact Or.inr rfl) (pe_tup (pa_cons (pe_ix ix_tup (pv 5) pe_int (fun _ _ => rfl)) (pa_cons (pe_ix ix_tup (pv 4) pe_int (fun _ _ => rfl)) pa_nil))))) pss_nil)
  (pss_cons (ps_set (i := 7) sc_law.nd rfl (by first | exact Or.inl rfl | exact Or.inr rfl) (pe_callC C_common_2 (hr.mono (by decide)) (by rfl) (pa_cons (pv 4) (pa_cons (pv 5) pa_nil))))
  (pss_cons (ps_if (PW.pt (pw_or (pt_not (pt_val (pe_callC C_law_right_3 (hr.mono (by decide)) (by rfl) (pa_cons (pv 4) (pa_cons (pv 5) (pa_cons (pv 7) pa_nil)))))) (pw_or (pt_cmpR (op_neD hr.units) (pe_callC C_common_2 (hr.mono (by decide)) (by rfl) (pa_cons (pv 5) (pa_cons (pv 4) pa_nil))) (pv 7) (nomark _)) (pw_or1 (pt_cmpR (op_neD hr.units) (pe_callC C_common_2 (hr.mono (by decide)) (by rfl) (pa_cons (pv 4) (pa_cons (pv 5) pa_nil))) (pv 7) (nomark _)))))) (pss_one (ps_ret pe_bl)) pss_nil)
  (pss_one (ps_if (PW.pt (pw_and (pt_cmpR op_lt (pe_op op_mulZ (pe_ix ix_tup (pv 4) pe_int (fun _ _ => rfl)) (pe_ix ix_tup (pv 5) pe_int (fun _ _ => rfl))) pe_int (nomark _)) (pw_and1 (pt_cmpR (op_neD hr.units) (pe_callC C_law_gone_through_2 (hr.mono (by decide)) (by rfl) (pa_cons (pv 4) (pa_cons (pv 5) pa_nil))) (pe_ix ix_seq (pe_orT (pv 7) (pe_one (pe_lst (pa_cons pe_non pa_nil)))) pe_int (fun _ _ => rfl)) (nomark _))))) (pss_one (ps_ret pe_bl)) pss_nil)))))))))
  (pss_one (ps_ret pe_bl)))
theorem ok_law {P : Program} {w : World} {K : PySem.W.Frag} {mg : Str → Option Value} {base : Heap} (C_law_source_2 : Cal P w K mg base CX0 2 "_law_source" ["_law_script", "_law_k"] [] (sp_law_source K)) (C_law_next_2 : Cal P w K mg base CX0 2 "_law_next" ["_law_source_here", "_law_many"] [] (sp_law_next K)) (C_law_pair_2 : Cal P w K mg base CX0 3 "_law_pair" ["_law_source_here", "_law_measure_here"] [] (sp_law_pair_5a478e K)) (C_common_2 : Cal P w K mg base CX0 3 "common" ["one", "other"] [] (sp_common K)) (C_law_right_3 : Cal P w K mg base CX0 2 "_law_right" ["_law_one", "_law_two", "_law_told"] [] (sp_law_right_a91a20 K)) (C_law_gone_through_2 : Cal P w K mg base CX0 1 "_law_gone_through" ["_law_one", "_law_two"] [] (sp_law_gone_through_5e40cc K)) (b_range : mg "range" = none) (b_max : mg "max" = none) (b_min : mg "min" = none) (b_len : mg "len" = none) {f : Addr} {fd : FuncData} (F : FunD K "law" "law" (defArgs s_law) (defBody s_law) (defScope s_law) [] [] f fd) : FnOk P w K mg base CX0 4 f fd ["_law_script"] (sp_law K) :=
  F.ok sc_law len_law (fun cdv A outer s H vs Q E hr h => ⟨t_law K, PSs.nox (d_law C_law_source_2 C_law_next_2 C_law_pair_2 C_common_2 C_law_right_3 C_law_gone_through_2 b_range b_max b_min b_len hr), sem_law vs H Q E h⟩)
end TD
namespace TD
open PySem PySem.Spec PyProof.Rows L2

def de_is_whole : He.DefD := ⟨("is_whole", none), "is_whole", "is_whole", defArgs s_is_whole, defBody s_is_whole, defScope s_is_whole, [.int 0], []⟩
def de_check_periodic : He.DefD := ⟨("check_periodic", none), "check_periodic", "check_periodic", defArgs s_check_periodic, defBody s_check_periodic, defScope s_check_periodic, [], []⟩
def de_common_divisor : He.DefD := ⟨("common_divisor", none), "common_divisor", "common_divisor", defArgs s_common_divisor, defBody s_common_divisor, defScope s_common_divisor, [], []⟩
def de_inverse : He.DefD := ⟨("inverse", none), "inverse", "inverse", defArgs s_inverse, defBody s_inverse, defScope s_inverse, [], []⟩
def de_common : He.DefD := ⟨("common", none), "common", "common", defArgs s_common, defBody s_common, defScope s_common, [], []⟩
def de_law_cell_at : He.DefD := ⟨("_law_cell_at", none), "_law_cell_at", "_law_cell_at", defArgs s_law_cell_at, defBody s_law_cell_at, defScope s_law_cell_at, [], []⟩
def de_law_mixed : He.DefD := ⟨("_law_mixed", none), "_law_mixed", "_law_mixed", defArgs s_law_mixed, defBody s_law_mixed, defScope s_law_mixed, [], []⟩
def de_law_source : He.DefD := ⟨("_law_source", none), "_law_source", "_law_source", defArgs s_law_source, defBody s_law_source, defScope s_law_source, [], []⟩
def de_law_next : He.DefD := ⟨("_law_next", none), "_law_next", "_law_next", defArgs s_law_next, defBody s_law_next, defScope s_law_next, [], []⟩
def de_law_pair : He.DefD := ⟨("_law_pair", none), "_law_pair", "_law_pair", defArgs s_law_pair, defBody s_law_pair, defScope s_law_pair, [], []⟩
def de_law_measure : He.DefD := ⟨("_law_measure", none), "_law_measure", "_law_measure", defArgs s_law_measure, defBody s_law_measure, defScope s_law_measure, [], []⟩
def de_law_gone_through : He.DefD := ⟨("_law_gone_through", none), "_law_gone_through", "_law_gone_through", defArgs s_law_gone_through, defBody s_law_gone_through, defScope s_law_gone_through, [], []⟩
def de_law_right : He.DefD := ⟨("_law_right", none), "_law_right", "_law_right", defArgs s_law_right, defBody s_law_right, defScope s_law_right, [], []⟩
def de_law : He.DefD := ⟨("law", none), "law", "law", defArgs s_law, defBody s_law, defScope s_law, [], []⟩
def fn : List He.DefD := [de_is_whole, de_check_periodic, de_common_divisor, de_inverse, de_common, de_law_cell_at, de_law_mixed, de_law_source, de_law_next, de_law_pair, de_law_measure, de_law_gone_through, de_law_right, de_law]
def fa : List He.Fa := [.glo "is_whole", .glo "check_periodic", .glo "common_divisor", .glo "inverse", .glo "common", .glo "_law_cell_at", .glo "_law_mixed", .glo "_law_source", .glo "_law_next", .glo "_law_pair", .glo "_law_measure", .glo "_law_gone_through", .glo "_law_right", .glo "law", .free "isinstance", .free "bool", .free "int", .free "len", .free "tuple", .free "max", .free "range", .free "min"]
abbrev RR : PySem.W.OpenRow := PySem.W.OpenLaw.row PySem.Challenge.rw_timerdeque_k20_common_ticks
abbrev hk : PySem.W.Hook := He.hookD 5 fa fn
def ob (s : PySem.W.SharedT) : He.AlD := He.obsDG 5 fa fn (HandSHeadRun.getT s)
theorem ob_eq (s : PySem.W.SharedT) : ob s = hk.obs s.abs := He.obsDG_eq (HandSHeadRun.getT_eq s)
def loose : List Str := (["TimerError", "NoPeriod", "is_whole", "check_periodic", "common_divisor", "inverse", "common", "_law_cell_at", "_law_mixed", "_law_source", "_law_next", "_law_pair", "_law_measure", "_law_gone_through", "_law_right"] : List Str)
theorem run (w : World) : HandSHeadRun.RunEq RR (PySem.W.view RR.prog [19]) hk ob 6000 loose w := by
  intro os
  kernel_rfl
theorem facts {P : Program} {w : World} {K : PySem.W.Frag} {h : Heap} {mg : Str → Option Value} {f : Addr} (X : K.In h) (G : h.Ns mainGlobals mg) (hfa : mg ("law" : Str) = some (.ref f)) (c : He.SaysD fa fn K) :
    ∃ fd : FuncData, (∀ (s : Shared) (v : Value), BindsTo s fd ⟨[v], []⟩ [("_law_script", v)]) ∧ ∀ base : Heap, K.In base → base.Ns mainGlobals mg → FnOk P w K mg base CX0 4 f fd ["_law_script"] (sp_law K) := by
  obtain ⟨fd_is_whole, F_is_whole⟩ := c.def_ 0 (d := de_is_whole) rfl
  have g_is_whole := He.glo_ok X G (c.fact 0 (f := .glo "is_whole") rfl)
  obtain ⟨fd_check_periodic, F_check_periodic⟩ := c.def_ 1 (d := de_check_periodic) rfl
  have g_check_periodic := He.glo_ok X G (c.fact 1 (f := .glo "check_periodic") rfl)
  obtain ⟨fd_common_divisor, F_common_divisor⟩ := c.def_ 2 (d := de_common_divisor) rfl
  have g_common_divisor := He.glo_ok X G (c.fact 2 (f := .glo "common_divisor") rfl)
  obtain ⟨fd_inverse, F_inverse⟩ := c.def_ 3 (d := de_inverse) rfl
  have g_inverse := He.glo_ok X G (c.fact 3 (f := .glo "inverse") rfl)
  obtain ⟨fd_common, F_common⟩ := c.def_ 4 (d := de_common) rfl
  have g_common := He.glo_ok X G (c.fact 4 (f := .glo "common") rfl)
  obtain ⟨fd_law_cell_at, F_law_cell_at⟩ := c.def_ 5 (d := de_law_cell_at) rfl
  have g_law_cell_at := He.glo_ok X G (c.fact 5 (f := .glo "_law_cell_at") rfl)
  obtain ⟨fd_law_mixed, F_law_mixed⟩ := c.def_ 6 (d := de_law_mixed) rfl
  have g_law_mixed := He.glo_ok X G (c.fact 6 (f := .glo "_law_mixed") rfl)
  obtain ⟨fd_law_source, F_law_source⟩ := c.def_ 7 (d := de_law_source) rfl
  have g_law_source := He.glo_ok X G (c.fact 7 (f := .glo "_law_source") rfl)
  obtain ⟨fd_law_next, F_law_next⟩ := c.def_ 8 (d := de_law_next) rfl
  have g_law_next := He.glo_ok X G (c.fact 8 (f := .glo "_law_next") rfl)
  obtain ⟨fd_law_pair, F_law_pair⟩ := c.def_ 9 (d := de_law_pair) rfl
  have g_law_pair := He.glo_ok X G (c.fact 9 (f := .glo "_law_pair") rfl)
  obtain ⟨fd_law_measure, F_law_measure⟩ := c.def_ 10 (d := de_law_measure) rfl
  have g_law_measure := He.glo_ok X G (c.fact 10 (f := .glo "_law_measure") rfl)
  obtain ⟨fd_law_gone_through, F_law_gone_through⟩ := c.def_ 11 (d := de_law_gone_through) rfl
  have g_law_gone_through := He.glo_ok X G (c.fact 11 (f := .glo "_law_gone_through") rfl)
  obtain ⟨fd_law_right, F_law_right⟩ := c.def_ 12 (d := de_law_right) rfl
  have g_law_right := He.glo_ok X G (c.fact 12 (f := .glo "_law_right") rfl)
  obtain ⟨fd_law, F_law⟩ := c.def_ 13 (d := de_law) rfl
  have g_law := He.glo_ok X G (c.fact 13 (f := .glo "law") rfl)
  have b_isinstance := He.free_ok X G (c.fact 14 (f := .free "isinstance") rfl)
  have b_bool := He.free_ok X G (c.fact 15 (f := .free "bool") rfl)
  have b_int := He.free_ok X G (c.fact 16 (f := .free "int") rfl)
  have b_len := He.free_ok X G (c.fact 17 (f := .free "len") rfl)
  have b_tuple := He.free_ok X G (c.fact 18 (f := .free "tuple") rfl)
  have b_max := He.free_ok X G (c.fact 19 (f := .free "max") rfl)
  have b_range := He.free_ok X G (c.fact 20 (f := .free "range") rfl)
  have b_min := He.free_ok X G (c.fact 21 (f := .free "min") rfl)
  have e := hfa.symm.trans g_law
  cases e
  have b := FunD.bindsA (ps := ["_law_script"]) F_law fun _ _ _ _ _ _ us hl => match us, hl with | [_], _ => rfl
  refine ⟨fd_law, fun s v => b s [v] rfl, fun base _ _ => ?_⟩
  have O_is_whole := ok_is_whole (P := P) (w := w) (mg := mg) (base := base) b_isinstance b_bool b_int F_is_whole
  have C_is_whole_1 : Cal P w K mg base CX0 1 "is_whole" ["thing", "least"] [.int 0] (sp_is_whole K) := by
    obtain ⟨ds, hv, hb⟩ := F_is_whole.binds1 (ps := ["thing", "least"]) 1 0 (by simp [He.DefD.dvs, de_is_whole]) rfl fun _ _ _ _ _ _ _ us its h1 h2 => match us, its, h1, h2 with | [_], [_], _, _ => ⟨_, rfl, by rfl⟩
    exact ⟨_, _, ds, O_is_whole, g_is_whole, F_is_whole.kp, hb, hv⟩
  have C_is_whole_2 : Cal P w K mg base CX0 1 "is_whole" ["thing", "least"] [] (sp_is_whole K) := by
    obtain ⟨ds, hv, hb⟩ := F_is_whole.binds1 (ps := ["thing", "least"]) 2 1 (by simp [He.DefD.dvs, de_is_whole]) rfl fun _ _ _ _ _ _ _ us its h1 h2 => match us, its, h1, h2 with | [_, _], [_], _, _ => ⟨_, rfl, by rfl⟩
    exact ⟨_, _, ds, O_is_whole, g_is_whole, F_is_whole.kp, hb, hv⟩
  have O_check_periodic := ok_check_periodic (P := P) (w := w) (mg := mg) (base := base) C_is_whole_2 C_is_whole_1 b_len b_isinstance b_tuple F_check_periodic
  have C_check_periodic_1 : Cal P w K mg base CX0 2 "check_periodic" ["thing"] [] (sp_check_periodic K) := ⟨_, _, [], O_check_periodic, g_check_periodic, F_check_periodic.kp, F_check_periodic.bindsN fun _ _ _ _ _ _ us hl => match us, hl with | [_], _ => rfl, .nil⟩
  have O_common_divisor := ok_common_divisor (P := P) (w := w) (mg := mg) (base := base)  F_common_divisor
  have C_common_divisor_2 : Cal P w K mg base CX0 1 "common_divisor" ["one", "other"] [] (sp_common_divisor K) := ⟨_, _, [], O_common_divisor, g_common_divisor, F_common_divisor.kp, F_common_divisor.bindsN fun _ _ _ _ _ _ us hl => match us, hl with | [_, _], _ => rfl, .nil⟩
  have O_inverse := ok_inverse (P := P) (w := w) (mg := mg) (base := base)  F_inverse
  have C_inverse_2 : Cal P w K mg base CX0 1 "inverse" ["number", "by"] [] (sp_inverse K) := ⟨_, _, [], O_inverse, g_inverse, F_inverse.kp, F_inverse.bindsN fun _ _ _ _ _ _ us hl => match us, hl with | [_, _], _ => rfl, .nil⟩
  have O_common := ok_common (P := P) (w := w) (mg := mg) (base := base) C_check_periodic_1 C_common_divisor_2 C_inverse_2 b_max F_common
  have C_common_2 : Cal P w K mg base CX0 3 "common" ["one", "other"] [] (sp_common K) := ⟨_, _, [], O_common, g_common, F_common.kp, F_common.bindsN fun _ _ _ _ _ _ us hl => match us, hl with | [_, _], _ => rfl, .nil⟩
  have O_law_cell_at := ok_law_cell_at (P := P) (w := w) (mg := mg) (base := base) b_len F_law_cell_at
  have C_law_cell_at_2 : Cal P w K mg base CX0 1 "_law_cell_at" ["_law_script", "_law_k"] [] (sp_law_cell_at K) := ⟨_, _, [], O_law_cell_at, g_law_cell_at, F_law_cell_at.kp, F_law_cell_at.bindsN fun _ _ _ _ _ _ us hl => match us, hl with | [_, _], _ => rfl, .nil⟩
  have O_law_mixed := ok_law_mixed (P := P) (w := w) (mg := mg) (base := base)  F_law_mixed
  have C_law_mixed_2 : Cal P w K mg base CX0 1 "_law_mixed" ["_law_cell", "_law_k"] [] (sp_law_mixed K) := ⟨_, _, [], O_law_mixed, g_law_mixed, F_law_mixed.kp, F_law_mixed.bindsN fun _ _ _ _ _ _ us hl => match us, hl with | [_, _], _ => rfl, .nil⟩
  have O_law_source := ok_law_source (P := P) (w := w) (mg := mg) (base := base) C_law_mixed_2 C_law_cell_at_2 b_len F_law_source
  have C_law_source_2 : Cal P w K mg base CX0 2 "_law_source" ["_law_script", "_law_k"] [] (sp_law_source K) := ⟨_, _, [], O_law_source, g_law_source, F_law_source.kp, F_law_source.bindsN fun _ _ _ _ _ _ us hl => match us, hl with | [_, _], _ => rfl, .nil⟩
  have O_law_next := ok_law_next (P := P) (w := w) (mg := mg) (base := base) C_law_mixed_2 F_law_next
  have C_law_next_2 : Cal P w K mg base CX0 2 "_law_next" ["_law_source_here", "_law_many"] [] (sp_law_next K) := ⟨_, _, [], O_law_next, g_law_next, F_law_next.kp, F_law_next.bindsN fun _ _ _ _ _ _ us hl => match us, hl with | [_, _], _ => rfl, .nil⟩
  have O_law_pair := ok_law_pair (P := P) (w := w) (mg := mg) (base := base) C_law_next_2 F_law_pair
  have C_law_pair_2 : Cal P w K mg base CX0 3 "_law_pair" ["_law_source_here", "_law_measure_here"] [] (sp_law_pair_5a478e K) := ⟨_, _, [], O_law_pair, g_law_pair, F_law_pair.kp, F_law_pair.bindsN fun _ _ _ _ _ _ us hl => match us, hl with | [_, _], _ => rfl, .nil⟩
  have O_law_measure := ok_law_measure (P := P) (w := w) (mg := mg) (base := base)  F_law_measure
  have C_law_measure_2 : Cal P w K mg base CX0 1 "_law_measure" ["_law_one", "_law_two"] [] (sp_law_measure K) := ⟨_, _, [], O_law_measure, g_law_measure, F_law_measure.kp, F_law_measure.bindsN fun _ _ _ _ _ _ us hl => match us, hl with | [_, _], _ => rfl, .nil⟩
  have O_law_gone_through := ok_law_gone_through (P := P) (w := w) (mg := mg) (base := base) b_max b_range F_law_gone_through
  have C_law_gone_through_2 : Cal P w K mg base CX0 1 "_law_gone_through" ["_law_one", "_law_two"] [] (sp_law_gone_through_5e40cc K) := ⟨_, _, [], O_law_gone_through, g_law_gone_through, F_law_gone_through.kp, F_law_gone_through.bindsN fun _ _ _ _ _ _ us hl => match us, hl with | [_, _], _ => rfl, .nil⟩
  have O_law_right := ok_law_right (P := P) (w := w) (mg := mg) (base := base) C_law_measure_2 b_isinstance b_bool b_len b_tuple b_max F_law_right
  have C_law_right_3 : Cal P w K mg base CX0 2 "_law_right" ["_law_one", "_law_two", "_law_told"] [] (sp_law_right_a91a20 K) := ⟨_, _, [], O_law_right, g_law_right, F_law_right.kp, F_law_right.bindsN fun _ _ _ _ _ _ us hl => match us, hl with | [_, _, _], _ => rfl, .nil⟩
  have O_law := ok_law (P := P) (w := w) (mg := mg) (base := base) C_law_source_2 C_law_next_2 C_law_pair_2 C_common_2 C_law_right_3 C_law_gone_through_2 b_range b_max b_min b_len F_law
  exact O_law
end TD
open PySem PySem.W PySem.Calls PyProof.Rows
set_option maxHeartbeats 0
theorem PySem.Challenge.cw_timerdeque_k20_common_ticks_holds : PySem.Challenge.rw_timerdeque_k20_common_ticks.Holds := by
  w_on; o_law
  refine HandSHeadRun.head_any (r := OpenLaw.row PySem.Challenge.rw_timerdeque_k20_common_ticks) (q := view (OpenLaw.row PySem.Challenge.rw_timerdeque_k20_common_ticks).prog [19]) (H := TD.hk) (ob := TD.ob) (M := 6000) (loose := TD.loose) (d := HandSHeadRun.topDef (OpenLaw.row PySem.Challenge.rw_timerdeque_k20_common_ticks).prog 19) (kwd := []) TD.ob_eq
    (by kernel_rfl) (fun s => by kernel_rfl) TD.run (by kernel_rfl) (by kernel_rfl) (by kernel_rfl) (by rfl) (by first | assumption | decide +kernel) (by decide +kernel) ⟨rfl, rfl, rfl, rfl, rfl, by decide +kernel⟩ ?hw ?hc
  case hw => w_witness2
  case hc =>
    refine TD.walk_ofM (l := PySem.Challenge.rw_timerdeque_k20_common_ticks) (n := 63) (k := 4) (x := "_law_script") (CX := fun _ => L2.CX0) rfl (by decide) (by kernel_rfl) ⟨rfl, by decide, by decide⟩ ?F (fun _ _ _ _ _ z => z)
    intro w mg fa h Y G hmg0
    obtain ⟨K, KX, c⟩ := Y
    have hmg : mg ("law" : PySem.Str) = some (.ref fa) := by
      have e : (HandSHeadRun.topDef (OpenLaw.row PySem.Challenge.rw_timerdeque_k20_common_ticks).prog 19).name = ("law" : PySem.Str) := by kernel_rfl
      rw [← e]
      exact hmg0
    obtain ⟨fd, hb, hF⟩ := TD.facts (P := (PySem.Challenge.rw_timerdeque_k20_common_ticks).prog) (w := w) KX G hmg c
    exact ⟨K, fd, TD.sp_law K, KX, hb, fun H a ns hl hb2 hO hS => TD.law_start hl hb2 hO hS, hF⟩
