import PyProof.Rows.All
import Wide.All
import OpenK.AllK
import Wide.FinOn
import HandS.ForExc
import HandS.Comp
import HandS.Iter
import HandS.Text
import HandS.IsInst
import HandS.TryMany
import HandS.ExcIs
import HandS.Wide
import HandS.WideBits
import HandS.SortInts
import HandS.CallSlots
import HandS.Style
import HandS.TupAny
import HandS.Flow
import HandS.Conv
import HandS.HeadNt
import HandS.HeadHook2
import HandS.HeadEnd
import HandS.Head2
import PySem.Challenge.RW_ringofall_k23_shows_period
import KE.BitLaws
import KE.KEqSeq
import KE.KEqDeep
import KE.KStateDown

set_option Elab.async false
set_option linter.all false
set_option maxRecDepth 100000
set_option maxHeartbeats 4000000
/-! RB1: the data layer: values are data (PyData), lists that a def makes are its own until they are handed on, the store of draws is opaque -/
namespace RB
open PySem PySem.Spec PyProof.Rows L2

abbrev D := PyData
abbrev St := L2.St
/-! ### data at a value, over the frozen heap G -/
mutual
inductive Dt (K : PySem.W.Frag) (G : Hp) : V → D → Prop
  | non : Dt K G .non .none
  | bl (b : Bool) : Dt K G (.bl b) (.bool b)
  | int (i : Int) : Dt K G (.int i) (.int i)
  | str (x : Str) : Dt K G (.str x) (.str x)
  | lst {a : Addr} {xs : List V} {ds : List D} : G a = some (.lst xs) → DtA K G xs ds → Dt K G (.ref a) (.list ds)
  | tup {a : Addr} {xs : List V} {ds : List D} : SqT K G a xs → DtA K G xs ds → Dt K G (.ref a) (.tuple ds)
inductive DtA (K : PySem.W.Frag) (G : Hp) : List V → List D → Prop
  | nil : DtA K G [] []
  | cons {v : V} {vs : List V} {d : D} {ds : List D} : Dt K G v d → DtA K G vs ds → DtA K G (v :: vs) (d :: ds)
end
theorem same_sqT {K : PySem.W.Frag} {H H' : Hp} {a : Addr} {xs : List V} (e : Same H H') (h : SqT K H a xs) : SqT K H' a xs := by
  rcases h with (h | ⟨o, h⟩) | h
  · exact .inl (.inl (e _ _ h))
  · exact .inl (.inr ⟨o, e _ _ h⟩)
  · exact .inr h
section
variable {K : PySem.W.Frag} {G G' : Hp}
mutual
theorem Dt.mono (e : Same G G') : ∀ {d : D} {v : V}, Dt K G v d → Dt K G' v d
  | .none, _, h => by cases h; exact .non
  | .bool b, _, h => by cases h; exact .bl b
  | .int i, _, h => by cases h; exact .int i
  | .str x, _, h => by cases h; exact .str x
  | .list ds, _, h => by
    cases h with
    | lst h1 h2 => exact .lst (e _ _ h1) (DtA.mono e h2)
  | .tuple ds, _, h => by
    cases h with
    | tup h1 h2 => exact .tup (same_sqT e h1) (DtA.mono e h2)
  | .dict _, _, h => by cases h
theorem DtA.mono (e : Same G G') : ∀ {ds : List D} {vs : List V}, DtA K G vs ds → DtA K G' vs ds
  | [], _, h => by cases h; exact .nil
  | d :: ds, _, h => by
    cases h with
    | cons h1 h2 => exact .cons (Dt.mono e h1) (DtA.mono e h2)
end
mutual
theorem Dt.dp (e : Same G G') : ∀ {d : D} {v : V}, Dt K G v d → Dp K G' v d
  | .none, _, h => by cases h; exact .non
  | .bool b, _, h => by cases h; exact .bl b
  | .int i, _, h => by cases h; exact .int i
  | .str x, _, h => by cases h; exact .str x
  | .list ds, _, h => by
    cases h with
    | lst h1 h2 => exact .lst (SqL.of (e _ _ h1)) (DtA.dp e h2)
  | .tuple ds, _, h => by
    cases h with
    | tup h1 h2 => exact .tup (same_sqT e h1) (DtA.dp e h2)
  | .dict _, _, h => by cases h
theorem DtA.dp (e : Same G G') : ∀ {ds : List D} {vs : List V}, DtA K G vs ds → DpAll K G' vs ds
  | [], _, h => by cases h; exact .nil
  | d :: ds, _, h => by
    cases h with
    | cons h1 h2 => exact .cons (Dt.dp e h1) (DtA.dp e h2)
end
theorem DtA.length : ∀ {ds : List D} {vs : List V}, DtA K G vs ds → vs.length = ds.length
  | [], _, h => by cases h; rfl
  | d :: ds, _, h => by
    cases h with
    | cons h1 h2 => rw [List.length_cons, List.length_cons, DtA.length h2]
theorem DtA.get : ∀ {ds : List D} {vs : List V} {i : Nat} {d : D}, DtA K G vs ds → ds[i]? = some d → ∃ v, vs[i]? = some v ∧ Dt K G v d
  | [], _, i, d, h, e => by simp at e
  | c :: ds, _, 0, d, h, e => by
    cases h with
    | cons h1 h2 =>
      simp at e
      subst e
      exact ⟨_, rfl, h1⟩
  | c :: ds, _, i + 1, d, h, e => by
    cases h with
    | cons h1 h2 =>
      obtain ⟨v, q, z⟩ := DtA.get (i := i) h2 (by simpa using e)
      exact ⟨v, by simpa using q, z⟩
theorem DtA.getV : ∀ {ds : List D} {vs : List V} {i : Nat} {v : V}, DtA K G vs ds → vs[i]? = some v → ∃ d, ds[i]? = some d ∧ Dt K G v d
  | [], _, i, d, h, e => by cases h; simp at e
  | c :: ds, _, 0, d, h, e => by
    cases h with
    | cons h1 h2 =>
      simp at e
      subst e
      exact ⟨_, rfl, h1⟩
  | c :: ds, _, i + 1, d, h, e => by
    cases h with
    | cons h1 h2 =>
      obtain ⟨v, q, z⟩ := DtA.getV (i := i) h2 (by simpa using e)
      exact ⟨v, by simpa using q, z⟩
theorem DtA.append : ∀ {ds es : List D} {vs us : List V}, DtA K G vs ds → DtA K G us es → DtA K G (vs ++ us) (ds ++ es)
  | [], _, _, _, h, k => by cases h; exact k
  | d :: ds, _, _, _, h, k => by
    cases h with
    | cons h1 h2 => exact .cons h1 (DtA.append h2 k)
theorem DtA.set {d : D} {v : V} (q : Dt K G v d) : ∀ {ds : List D} {vs : List V} (i : Nat), DtA K G vs ds → DtA K G (vs.set i v) (ds.set i d)
  | [], _, i, h => by cases h; exact .nil
  | c :: ds, _, 0, h => by
    cases h with
    | cons h1 h2 => exact .cons q h2
  | c :: ds, _, i + 1, h => by
    cases h with
    | cons h1 h2 => exact .cons h1 (DtA.set q i h2)
theorem DtA.take : ∀ {ds : List D} {vs : List V} (n : Nat), DtA K G vs ds → DtA K G (vs.take n) (ds.take n)
  | _, _, 0, h => .nil
  | [], _, n + 1, h => by cases h; exact .nil
  | c :: ds, _, n + 1, h => by
    cases h with
    | cons h1 h2 => exact .cons h1 (DtA.take n h2)
theorem DtA.drop : ∀ {ds : List D} {vs : List V} (n : Nat), DtA K G vs ds → DtA K G (vs.drop n) (ds.drop n)
  | _, _, 0, h => h
  | [], _, n + 1, h => by cases h; exact .nil
  | c :: ds, _, n + 1, h => by
    cases h with
    | cons h1 h2 => exact DtA.drop n h2
theorem DtA.flat {ds : List D} {vs : List V} (h : DtA K G vs ds) : ∀ n : Nat, DtA K G (List.replicate n vs).flatten (List.replicate n ds).flatten
  | 0 => .nil
  | n + 1 => by
    rw [List.replicate_succ, List.replicate_succ, List.flatten_cons, List.flatten_cons]
    exact DtA.append h (DtA.flat h n)
theorem DtA.rev : ∀ {ds : List D} {vs : List V}, DtA K G vs ds → DtA K G vs.reverse ds.reverse
  | [], _, h => by cases h; exact .nil
  | d :: ds, _, h => by
    cases h with
    | cons h1 h2 =>
      rw [List.reverse_cons, List.reverse_cons]
      exact DtA.append (DtA.rev h2) (.cons h1 .nil)
theorem DtA.ints : ∀ ns : List Int, DtA K G (ns.map V.int) (ns.map PyData.int)
  | [] => .nil
  | n :: r => .cons (.int n) (DtA.ints r)
theorem DtA.intsV : ∀ {ns : List Int} {vs : List V}, DtA K G vs (ns.map PyData.int) → vs = ns.map V.int
  | [], _, h => by cases h; rfl
  | n :: r, _, h => by
    cases h with
    | cons h1 h2 =>
      cases h1
      rw [DtA.intsV h2]
      rfl
end

/-! ### data whose lists are new since the heap HB -/
mutual
inductive Nw (K : PySem.W.Frag) (HB G : Hp) : V → D → Prop
  | non : Nw K HB G .non .none
  | bl (b : Bool) : Nw K HB G (.bl b) (.bool b)
  | int (i : Int) : Nw K HB G (.int i) (.int i)
  | str (x : Str) : Nw K HB G (.str x) (.str x)
  | lst {a : Addr} {xs : List V} {ds : List D} : HB a = none → G a = some (.lst xs) → NwA K HB G xs ds → Nw K HB G (.ref a) (.list ds)
  | tup {a : Addr} {xs : List V} {ds : List D} : SqT K G a xs → NwA K HB G xs ds → Nw K HB G (.ref a) (.tuple ds)
inductive NwA (K : PySem.W.Frag) (HB G : Hp) : List V → List D → Prop
  | nil : NwA K HB G [] []
  | cons {v : V} {vs : List V} {d : D} {ds : List D} : Nw K HB G v d → NwA K HB G vs ds → NwA K HB G (v :: vs) (d :: ds)
end
/-- no list within -/
inductive NoL : D → Prop
  | non : NoL .none
  | bl (b : Bool) : NoL (.bool b)
  | int (i : Int) : NoL (.int i)
  | str (x : Str) : NoL (.str x)
  | tup {ds : List D} : (∀ d ∈ ds, NoL d) → NoL (.tuple ds)
section
variable {K : PySem.W.Frag} {HB HB' G G' : Hp}
mutual
theorem Nw.dt : ∀ {d : D} {v : V}, Nw K HB G v d → Dt K G v d
  | .none, _, h => by cases h; exact .non
  | .bool b, _, h => by cases h; exact .bl b
  | .int i, _, h => by cases h; exact .int i
  | .str x, _, h => by cases h; exact .str x
  | .list ds, _, h => by
    cases h with
    | lst h0 h1 h2 => exact .lst h1 (NwA.dt h2)
  | .tuple ds, _, h => by
    cases h with
    | tup h1 h2 => exact .tup h1 (NwA.dt h2)
  | .dict _, _, h => by cases h
theorem NwA.dt : ∀ {ds : List D} {vs : List V}, NwA K HB G vs ds → DtA K G vs ds
  | [], _, h => by cases h; exact .nil
  | d :: ds, _, h => by
    cases h with
    | cons h1 h2 => exact .cons (Nw.dt h1) (NwA.dt h2)
end
mutual
theorem Nw.mono (e : Same G G') (k : ∀ b, HB b = none → HB' b = none) : ∀ {d : D} {v : V}, Nw K HB G v d → Nw K HB' G' v d
  | .none, _, h => by cases h; exact .non
  | .bool b, _, h => by cases h; exact .bl b
  | .int i, _, h => by cases h; exact .int i
  | .str x, _, h => by cases h; exact .str x
  | .list ds, _, h => by
    cases h with
    | lst h0 h1 h2 => exact .lst (k _ h0) (e _ _ h1) (NwA.mono e k h2)
  | .tuple ds, _, h => by
    cases h with
    | tup h1 h2 => exact .tup (same_sqT e h1) (NwA.mono e k h2)
  | .dict _, _, h => by cases h
theorem NwA.mono (e : Same G G') (k : ∀ b, HB b = none → HB' b = none) : ∀ {ds : List D} {vs : List V}, NwA K HB G vs ds → NwA K HB' G' vs ds
  | [], _, h => by cases h; exact .nil
  | d :: ds, _, h => by
    cases h with
    | cons h1 h2 => exact .cons (Nw.mono e k h1) (NwA.mono e k h2)
end
mutual
theorem Nw.of : ∀ {d : D} {v : V}, Dt K G v d → NoL d → Nw K HB G v d
  | .none, _, h, _ => by cases h; exact .non
  | .bool b, _, h, _ => by cases h; exact .bl b
  | .int i, _, h, _ => by cases h; exact .int i
  | .str x, _, h, _ => by cases h; exact .str x
  | .list ds, _, h, n => nomatch n
  | .tuple ds, _, h, n => by
    cases n with
    | tup n =>
      cases h with
      | tup h1 h2 => exact .tup h1 (NwA.of h2 n)
  | .dict _, _, h, _ => by cases h
theorem NwA.of : ∀ {ds : List D} {vs : List V}, DtA K G vs ds → (∀ d ∈ ds, NoL d) → NwA K HB G vs ds
  | [], _, h, _ => by cases h; exact .nil
  | d :: ds, _, h, n => by
    cases h with
    | cons h1 h2 => exact .cons (Nw.of h1 (n _ List.mem_cons_self)) (NwA.of h2 fun c m => n c (List.mem_cons_of_mem _ m))
end
end

/-! ### the store of draws: opaque -/
structure StoOk (G H : Hp) (st : Addr) : Prop where
  ex : ∃ (c : Addr) (ns : List Int) (a1 a2 a3 a4 a5 a6 : Int), H st = some (.lst [.ref c, .int a1, .int a2, .int a3, .int a4, .int a5, .int a6]) ∧ G c = some (.lst (ns.map V.int)) ∧ 0 ≤ a1
  fr : G st = none

/-- G: what never changes any more; M: the stores -/
structure Wd (M : Addr → Prop) (G H : Hp) : Prop where
  sub : Same G H
  sto : ∀ a, M a → StoOk G H a
structure Ext (M : Addr → Prop) (G H G' H' : Hp) : Prop where
  hh : ∀ b o, ¬ M b → H b = some o → H' b = some o
  gg : Same G G'
  fr : ∀ b, H b ≠ none → G b = none → G' b = none
  hm : ∀ b, H b ≠ none → H' b ≠ none
section
variable {M : Addr → Prop} {G H G' H' G2 H2 : Hp}
theorem Ext.refl : Ext M G H G H := ⟨fun _ _ _ h => h, fun _ _ h => h, fun _ _ h => h, fun _ h => h⟩
theorem Ext.trans (a : Ext M G H G' H') (b : Ext M G' H' G2 H2) : Ext M G H G2 H2 :=
  ⟨fun c o m h => b.hh c o m (a.hh c o m h), fun c o h => b.gg c o (a.gg c o h), fun c h g => b.fr c (a.hm c h) (a.fr c h g), fun c h => b.hm c (a.hm c h)⟩
theorem Wd.noG (w : Wd M G H) {p : Addr} (h : H p = none) : G p = none := by
  cases e : G p with
  | none => rfl
  | some o => rw [w.sub _ _ e] at h; cases h
theorem StoOk.there {st : Addr} (s : StoOk G H st) : H st ≠ none := by
  obtain ⟨_, _, _, _, _, _, _, _, e, _⟩ := s.ex
  rw [e]
  exact fun z => nomatch z
theorem Wd.nm (w : Wd M G H) {p : Addr} (h : H p = none) : ¬ M p := fun m => (w.sto p m).there h
/-- a new own object -/
theorem Ext.alloc {p : Addr} {o : HO} (h : H p = none) : Ext M G H G (upd H p o) :=
  ⟨fun b u m e => by rw [upd_ne (ne_of_none e h)]; exact e, fun _ _ z => z, fun _ _ z => z, fun b z => by
    by_cases e : b = p
    · subst e; exact absurd h z
    · rw [upd_ne e]; exact z⟩
theorem Wd.alloc {p : Addr} {o : HO} (w : Wd M G H) (h : H p = none) : Wd M G (upd H p o) :=
  ⟨fun b u e => by rw [upd_ne (ne_of_none (w.sub _ _ e) h)]; exact w.sub _ _ e, fun a m => by
    obtain ⟨⟨c, ns, a1, a2, a3, a4, a5, a6, e1, e2, e3⟩, f⟩ := w.sto a m
    exact ⟨⟨c, ns, a1, a2, a3, a4, a5, a6, by rw [upd_ne (ne_of_none e1 h)]; exact e1, e2, e3⟩, f⟩⟩
/-- a new frozen object -/
theorem same_upd {p : Addr} {o : HO} (h : G p = none) : Same G (upd G p o) := fun b u e => by rw [upd_ne (ne_of_none e h)]; exact e
theorem Ext.allocG {p : Addr} {o : HO} (w : Wd M G H) (h : H p = none) : Ext M G H (upd G p o) (upd H p o) :=
  ⟨fun b u m e => by rw [upd_ne (ne_of_none e h)]; exact e, same_upd (w.noG h), fun b z g => by
    have e : b ≠ p := fun e => z (by rw [e]; exact h)
    rw [upd_ne e]; exact g, fun b z => by
    by_cases e : b = p
    · subst e; exact absurd h z
    · rw [upd_ne e]; exact z⟩
theorem StoOk.mono {st : Addr} (s : StoOk G H st) (g : Same G G') (f : G' st = none) (e : H' st = H st) : StoOk G' H' st := by
  obtain ⟨⟨c, ns, a1, a2, a3, a4, a5, a6, e1, e2, e3⟩, _⟩ := s
  exact ⟨⟨c, ns, a1, a2, a3, a4, a5, a6, e.trans e1, g _ _ e2, e3⟩, f⟩
theorem Wd.allocG {p : Addr} {o : HO} (w : Wd M G H) (h : H p = none) : Wd M (upd G p o) (upd H p o) :=
  ⟨fun b u e => by
    by_cases z : b = p
    · subst z; rw [upd_same] at e ⊢; exact e
    · rw [upd_ne z] at e ⊢; exact w.sub _ _ e, fun a m => by
    have s := w.sto a m
    have ne : a ≠ p := fun z => s.there (by rw [z]; exact h)
    exact s.mono (same_upd (w.noG h)) (by rw [upd_ne ne]; exact s.fr) (upd_ne ne)⟩
/-- an own list is frozen -/
theorem Wd.freeze {p : Addr} {o : HO} (w : Wd M G H) (h : H p = some o) (g : G p = none) (m : ¬ M p) : Wd M (upd G p o) H :=
  ⟨fun b u e => by
    by_cases z : b = p
    · subst z; rw [upd_same] at e; rw [h]; exact e
    · rw [upd_ne z] at e; exact w.sub _ _ e, fun a ma => by
    have ne : a ≠ p := fun z => m (z ▸ ma)
    exact (w.sto a ma).mono (same_upd g) (by rw [upd_ne ne]; exact (w.sto a ma).fr) rfl⟩
/-- behind a call that knows no store -/
theorem Ext.weak (e : Ext (fun _ => False) G H G' H') : Ext M G H G' H' := ⟨fun b o _ h => e.hh b o (fun z => z) h, e.gg, e.fr, e.hm⟩
theorem Wd.weak (w : Wd M G H) (e : Ext (fun _ => False) G H G' H') (s : Same G' H') : Wd M G' H' := ⟨s, fun a m => by
  have q := w.sto a m
  obtain ⟨c, ns, a1, a2, a3, a4, a5, a6, e1, e2, e3⟩ := q.ex
  exact ⟨⟨c, ns, a1, a2, a3, a4, a5, a6, e.hh _ _ (fun z => z) e1, e.gg _ _ e2, e3⟩, e.fr _ q.there q.fr⟩⟩
end

/-! ### slots, results -/
inductive RV where
  | dat (d : D) | new (d : D) | own (ds : List D) | view (ds : List D) | raw (v : V) | sto
inductive Sl where
  | no | dat (d : D) | new (d : D) | own (ds : List D) | raw (v : V) | sto
abbrev DSt := List Sl
structure Base where
  M : Addr → Prop
  G : Hp
  H : Hp
def SlOk (K : PySem.W.Frag) (B : Base) (G H : Hp) (x : Option V) : Sl → Prop
  | .no => True
  | .dat d => ∃ v, x = some v ∧ Dt K G v d
  | .new d => ∃ v, x = some v ∧ Nw K B.H G v d
  | .own ds => ∃ a xs, x = some (.ref a) ∧ B.H a = none ∧ G a = none ∧ ¬ B.M a ∧ H a = some (.lst xs) ∧ DtA K G xs ds
  | .raw v => x = some v
  | .sto => ∃ a, x = some (.ref a) ∧ B.M a
/-- HB: the heap at the def's entry; H0: the heap ahead of the expression -/
def RvOk (K : PySem.W.Frag) (M : Addr → Prop) (HB H0 G H : Hp) (v : V) : RV → Prop
  | .dat d => Dt K G v d
  | .new d => Nw K HB G v d
  | .own ds => ∃ a xs, v = .ref a ∧ H0 a = none ∧ G a = none ∧ ¬ M a ∧ H a = some (.lst xs) ∧ DtA K G xs ds
  | .view ds => ∃ a xs, v = .ref a ∧ ¬ M a ∧ H a = some (.lst xs) ∧ DtA K G xs ds
  | .raw w => v = w
  | .sto => ∃ a, v = .ref a ∧ M a
structure Rel (K : PySem.W.Frag) (B : Base) (δ : DSt) (σ : St) (G H : Hp) : Prop where
  wd : Wd B.M G H
  ext : Ext B.M B.G B.H G H
  len : δ.length = σ.length
  sl : ∀ (i : Nat) (s : Sl) (x : Option V), δ[i]? = some s → σ[i]? = some x → SlOk K B G H x s
  sep : ∀ (i j : Nat) (a : Addr) (ds es : List D), δ[i]? = some (.own ds) → δ[j]? = some (.own es) → σ[i]? = some (some (.ref a)) → σ[j]? = some (some (.ref a)) → i = j
theorem none_early {H0 H1 : Hp} (t : ∀ b, H0 b ≠ none → H1 b ≠ none) : ∀ b, H1 b = none → H0 b = none := fun b e => by
  cases z : H0 b with
  | none => rfl
  | some o => exact absurd e (t b (by rw [z]; exact fun y => nomatch y))
section
variable {K : PySem.W.Frag} {B : Base} {δ : DSt} {σ : St} {G H G' H' H0 HB HB' : Hp} {M : Addr → Prop}
theorem SlOk.mono {x : Option V} : ∀ {s : Sl}, SlOk K B G H x s → Ext B.M G H G' H' → SlOk K B G' H' x s
  | .no, _, _ => trivial
  | .dat d, ⟨v, e, h⟩, t => ⟨v, e, h.mono t.gg⟩
  | .new d, ⟨v, e, h⟩, t => ⟨v, e, h.mono t.gg fun _ z => z⟩
  | .own ds, ⟨a, xs, e, b, g, m, h, q⟩, t => ⟨a, xs, e, b, t.fr _ (by rw [h]; exact fun z => nomatch z) g, m, t.hh _ _ m h, q.mono t.gg⟩
  | .raw v, e, _ => e
  | .sto, e, _ => e
theorem RvOk.mono {v : V} : ∀ {r : RV}, RvOk K M HB H0 G H v r → Ext M G H G' H' → RvOk K M HB H0 G' H' v r
  | .dat d, h, t => Dt.mono t.gg h
  | .new d, h, t => Nw.mono t.gg (fun _ z => z) h
  | .own ds, ⟨a, xs, e, b, g, m, h, q⟩, t => ⟨a, xs, e, b, t.fr _ (by rw [h]; exact fun z => nomatch z) g, m, t.hh _ _ m h, q.mono t.gg⟩
  | .view ds, ⟨a, xs, e, m, h, q⟩, t => ⟨a, xs, e, m, t.hh _ _ m h, q.mono t.gg⟩
  | .raw v, e, _ => e
  | .sto, e, _ => e
theorem RvOk.early {H1 : Hp} {v : V} : ∀ {r : RV}, RvOk K M HB H1 G H v r → (∀ b, H0 b ≠ none → H1 b ≠ none) → RvOk K M HB H0 G H v r
  | .dat d, h, t => h
  | .new d, h, t => h
  | .own ds, ⟨a, xs, e, b, g, m, h, q⟩, t => ⟨a, xs, e, none_early t a b, g, m, h, q⟩
  | .view ds, h, t => h
  | .raw v, e, _ => e
  | .sto, e, _ => e
theorem RvOk.base {v : V} : ∀ {r : RV}, RvOk K M HB' H0 G H v r → (∀ b, HB b ≠ none → HB' b ≠ none) → RvOk K M HB H0 G H v r
  | .dat d, h, t => h
  | .new d, h, t => Nw.mono (fun _ _ z => z) (none_early t) h
  | .own ds, h, t => h
  | .view ds, h, t => h
  | .raw v, e, _ => e
  | .sto, e, _ => e
theorem Rel.step (R : Rel K B δ σ G H) (w : Wd B.M G' H') (t : Ext B.M G H G' H') : Rel K B δ σ G' H' :=
  ⟨w, R.ext.trans t, R.len, fun i s x h1 h2 => (R.sl i s x h1 h2).mono t, R.sep⟩
theorem Rel.at (R : Rel K B δ σ G H) {i : Nat} {s : Sl} (h : δ[i]? = some s) : ∃ x, σ[i]? = some x ∧ SlOk K B G H x s := by
  have hi : i < δ.length := (List.getElem?_eq_some_iff.mp h).1
  have hj : i < σ.length := by rw [← R.len]; exact hi
  exact ⟨_, List.getElem?_eq_getElem hj, R.sl i s _ h (List.getElem?_eq_getElem hj)⟩
/-- a slot is stored; an own list is new since H -/
theorem Rel.set (R : Rel K B δ σ G H) (w : Wd B.M G' H') (t : Ext B.M G H G' H') {i : Nat} {v : V} {s : Sl} (h : SlOk K B G' H' (some v) s) (hn : ∀ a ds, s = .own ds → v = .ref a → H a = none) : Rel K B (δ.set i s) (σ.set i (some v)) G' H' := by
  have S := R.step w t
  have nw : ∀ (j : Nat) (a : Addr) (ds es : List D), s = .own ds → δ[j]? = some (.own es) → σ[j]? = some (some (.ref a)) → v = .ref a → False := fun j a ds es es1 e2 e3 e4 => by
    obtain ⟨b, xs, eb, _, _, _, q, _⟩ := R.sl j _ _ e2 e3
    cases eb
    rw [hn a ds es1 e4] at q
    cases q
  refine ⟨w, R.ext.trans t, by rw [List.length_set, List.length_set]; exact R.len, fun j s' x e1 e2 => ?_, fun j k a ds es e1 e2 e3 e4 => ?_⟩
  · by_cases hj : i = j
    · subst hj
      rw [List.getElem?_set] at e1 e2
      rw [if_pos rfl] at e1 e2
      split at e1
      · split at e2
        · cases e1; cases e2; exact h
        · cases e2
      · cases e1
    · rw [List.getElem?_set_ne hj] at e1 e2
      exact S.sl j s' x e1 e2
  · by_cases hj : i = j
    · by_cases hk : i = k
      · exact hj.symm.trans hk
      · subst hj
        rw [List.getElem?_set_ne hk] at e2 e4
        rw [List.getElem?_set, if_pos rfl] at e1 e3
        split at e1
        · split at e3
          · cases e1; cases e3; exact (nw k a ds es rfl e2 e4 rfl).elim
          · cases e3
        · cases e1
    · rw [List.getElem?_set_ne hj] at e1 e3
      by_cases hk : i = k
      · subst hk
        rw [List.getElem?_set, if_pos rfl] at e2 e4
        split at e2
        · split at e4
          · cases e2; cases e4; exact (nw j a es ds rfl e1 e3 rfl).elim
          · cases e4
        · cases e2
      · rw [List.getElem?_set_ne hk] at e2 e4
        exact R.sep j k a ds es e1 e2 e3 e4
/-- a slot is said less of -/
theorem Rel.say (R : Rel K B δ σ G H) {i : Nat} {s : Sl} (h : ∀ x, σ[i]? = some x → SlOk K B G H x s) (hn : ∀ ds, s ≠ .own ds) : Rel K B (δ.set i s) σ G H := by
  refine ⟨R.wd, R.ext, by rw [List.length_set]; exact R.len, fun j s' x e1 e2 => ?_, fun j k a ds es e1 e2 e3 e4 => ?_⟩
  · by_cases hj : i = j
    · subst hj
      rw [List.getElem?_set, if_pos rfl] at e1
      split at e1
      · cases e1; exact h x e2
      · cases e1
    · rw [List.getElem?_set_ne hj] at e1
      exact R.sl j s' x e1 e2
  · have ne : ∀ {j : Nat} {ds : List D}, (δ.set i s)[j]? = some (.own ds) → δ[j]? = some (.own ds) := fun {j ds} e => by
      by_cases hj : i = j
      · subst hj
        rw [List.getElem?_set, if_pos rfl] at e
        split at e
        · cases e; exact absurd rfl (hn ds)
        · cases e
      · rw [List.getElem?_set_ne hj] at e
        exact e
    exact R.sep j k a ds es (ne e1) (ne e2) e3 e4
end
/-- the data of a result -/
def RV.d? : RV → Option D
  | .dat d => some d
  | .new d => some d
  | .own ds => some (.list ds)
  | .view ds => some (.list ds)
  | _ => none
def D.lst? : D → Option (List D)
  | .list ds => some ds
  | _ => none
def RV.lst? (r : RV) : Option (List D) := match r.d? with
  | some (.list ds) => some ds
  | _ => none
theorem RvOk.lst {K : PySem.W.Frag} {M : Addr → Prop} {HB H0 G H : Hp} {v : V} {ds : List D} (s : Same G H) : ∀ {r : RV}, RvOk K M HB H0 G H v r → r.d? = some (.list ds) → ∃ a xs, v = .ref a ∧ H a = some (.lst xs) ∧ DtA K G xs ds
  | .dat d, h, e => by
    cases e
    cases (show Dt K G v (.list ds) from h) with
    | lst h1 h2 => exact ⟨_, _, rfl, s _ _ h1, h2⟩
  | .new d, h, e => by
    cases e
    cases Nw.dt h with
    | lst h1 h2 => exact ⟨_, _, rfl, s _ _ h1, h2⟩
  | .own es, ⟨a, xs, e1, _, _, _, h, q⟩, e => by cases e; exact ⟨a, xs, e1, h, q⟩
  | .view es, ⟨a, xs, e1, _, h, q⟩, e => by cases e; exact ⟨a, xs, e1, h, q⟩
  | .raw _, _, e => nomatch e
  | .sto, _, e => nomatch e
theorem RvOk.dp {K : PySem.W.Frag} {M : Addr → Prop} {HB H0 G H : Hp} {v : V} {d : D} (s : Same G H) : ∀ {r : RV}, RvOk K M HB H0 G H v r → r.d? = some d → Dp K H v d
  | .dat c, h, e => by cases e; exact Dt.dp s h
  | .new c, h, e => by cases e; exact Dt.dp s (Nw.dt h)
  | .own es, ⟨a, xs, e1, _, _, _, h, q⟩, e => by cases e; subst e1; exact .lst (SqL.of h) (q.dp s)
  | .view es, ⟨a, xs, e1, _, h, q⟩, e => by cases e; subst e1; exact .lst (SqL.of h) (q.dp s)
  | .raw _, _, e => nomatch e
  | .sto, _, e => nomatch e
/-- what is no list is frozen data as it stands -/
theorem RvOk.dt {K : PySem.W.Frag} {M : Addr → Prop} {HB H0 G H : Hp} {v : V} {d : D} (n : ∀ ds, d ≠ .list ds) : ∀ {r : RV}, RvOk K M HB H0 G H v r → r.d? = some d → Dt K G v d
  | .dat c, h, e => by cases e; exact h
  | .new c, h, e => by cases e; exact Nw.dt h
  | .own es, _, e => by cases e; exact absurd rfl (n es)
  | .view es, _, e => by cases e; exact absurd rfl (n es)
  | .raw _, _, e => nomatch e
  | .sto, _, e => nomatch e
/-- a result as an argument, an item: frozen data, or a value as it stands -/
def RV.fz : RV → Option RV
  | .dat d => some (.dat d)
  | .new d => some (.new d)
  | .own ds => some (.dat (.list ds))
  | .view _ => none
  | .raw v => some (.raw v)
  | .sto => some .sto
def AOk (K : PySem.W.Frag) (M : Addr → Prop) (HB G : Hp) (v : V) : RV → Prop
  | .dat d => Dt K G v d
  | .new d => Nw K HB G v d
  | .raw w => v = w
  | .sto => ∃ a, v = .ref a ∧ M a
  | _ => False
theorem AOk.mono {K : PySem.W.Frag} {M : Addr → Prop} {HB G G' : Hp} {v : V} (s : Same G G') : ∀ {r : RV}, AOk K M HB G v r → AOk K M HB G' v r
  | .dat d, h => Dt.mono s h
  | .new d, h => Nw.mono s (fun _ z => z) h
  | .raw v, h => h
  | .sto, h => h
  | .own _, h => h.elim
  | .view _, h => h.elim
/-- an own new list is frozen -/
theorem RvOk.fz {K : PySem.W.Frag} {M : Addr → Prop} {HB G1 H1 G H : Hp} {v : V} (w : Wd M G H) (t : Ext M G1 H1 G H) : ∀ {r r' : RV}, RvOk K M HB H1 G H v r → r.fz = some r' →
    ∃ G', Wd M G' H ∧ Ext M G1 H1 G' H ∧ Same G G' ∧ AOk K M HB G' v r'
  | .dat c, _, h, e => by cases e; exact ⟨G, w, t, fun _ _ z => z, h⟩
  | .new c, _, h, e => by cases e; exact ⟨G, w, t, fun _ _ z => z, h⟩
  | .own es, _, ⟨a, xs, e1, b, g, m, h, q⟩, e => by
    cases e
    subst e1
    have s1 : Same G (upd G a (.lst xs)) := same_upd g
    refine ⟨upd G a (.lst xs), w.freeze h g m, ⟨t.hh, fun c o z => s1 _ _ (t.gg c o z), fun c z z2 => ?_, t.hm⟩, s1, .lst upd_same (q.mono s1)⟩
    have ne : c ≠ a := fun z3 => z (by rw [z3]; exact b)
    rw [upd_ne ne]
    exact t.fr c z z2
  | .view _, _, _, e => nomatch e
  | .raw _, _, h, e => by cases e; exact ⟨G, w, t, fun _ _ z => z, h⟩
  | .sto, _, h, e => by cases e; exact ⟨G, w, t, fun _ _ z => z, h⟩
end RB

set_option Elab.async false
set_option linter.all false
set_option maxRecDepth 100000
set_option maxHeartbeats 4000000
/-! RB2: expressions over data -/
namespace RB
open PySem PySem.Spec PyProof.Rows L2
abbrev DTE := DSt → (RV → Prop) → (Addr → Prop) → Prop
abbrev DTT := DSt → (Bool → Prop) → (Addr → Prop) → Prop
abbrev DTA := DSt → (List RV → Prop) → (Addr → Prop) → Prop
/-- what is wished of an own error's class -/
def XOk (K : PySem.W.Frag) (W : WX) (B : Base) (δ : DSt) (σ : St) (X2 : Addr → Prop) : Prop := ∀ C G' H', Rel K B δ σ G' H' → X2 C → W (.ref C) none σ H'
def lE (K : PySem.W.Frag) (W : WX) (de : DTE) : TE := fun σ H Q => ∃ (B : Base) (δ : DSt) (G : Hp) (Q2 : RV → Prop) (X2 : Addr → Prop), Rel K B δ σ G H ∧ de δ Q2 X2 ∧
  (∀ r v G' H', Wd B.M G' H' → Ext B.M G H G' H' → RvOk K B.M B.H H G' H' v r → Q2 r → Q v H') ∧ XOk K W B δ σ X2
def lT (K : PySem.W.Frag) (W : WX) (dt : DTT) : TT := fun σ H Q => ∃ (B : Base) (δ : DSt) (G : Hp) (Q2 : Bool → Prop) (X2 : Addr → Prop), Rel K B δ σ G H ∧ dt δ Q2 X2 ∧
  (∀ b G' H', Wd B.M G' H' → Ext B.M G H G' H' → Q2 b → Q b H') ∧ XOk K W B δ σ X2
def lA (K : PySem.W.Frag) (W : WX) (da : DTA) : TA := fun σ H Q => ∃ (B : Base) (δ : DSt) (G : Hp) (Q2 : List RV → Prop) (X2 : Addr → Prop), Rel K B δ σ G H ∧ da δ Q2 X2 ∧
  (∀ rs vs G' H', Wd B.M G' H' → Ext B.M G H G' H' → Paired (fun v r => AOk K B.M B.H G' v r) vs rs → Q2 rs → Q vs H') ∧ XOk K W B δ σ X2
theorem _root_.L2.PE.imp {X : Cx} {e : Expr} {t t' : TE} (h : PE X e t) (i : ∀ σ H Q, t' σ H Q → t σ H Q) : PE X e t' := ⟨fun pins s σ H Q I q => h.run pins s σ H Q I (i _ _ _ q)⟩
theorem _root_.L2.PT.imp {X : Cx} {e : Expr} {t t' : TT} (h : PT X e t) (i : ∀ σ H Q, t' σ H Q → t σ H Q) : PT X e t' := ⟨fun pins s σ H Q I q => h.run pins s σ H Q I (i _ _ _ q)⟩
theorem _root_.L2.PW.imp {X : Cx} {e : Expr} {t t' : TT} (h : PW X e t) (i : ∀ σ H Q, t' σ H Q → t σ H Q) : PW X e t' := ⟨fun wh pins s σ H Q I q => h.run wh pins s σ H Q I (i _ _ _ q)⟩
theorem _root_.L2.PA.imp {X : Cx} {e : List Expr} {t t' : TA} (h : PA X e t) (i : ∀ σ H Q, t' σ H Q → t σ H Q) : PA X e t' := ⟨fun pos pins s σ H Q I q => h.run pos pins s σ H Q I (i _ _ _ q)⟩

/-- a fork -/
structure Br (b : Bool) (A B : Prop) : Prop where
  y : b = true → A
  n : b = false → B
theorem Br.ite {b : Bool} {A B : Prop} (h : Br b A B) : if b = true then A else B := by
  cases b with
  | true => rw [if_pos rfl]; exact h.y rfl
  | false => rw [if_neg Bool.false_ne_true]; exact h.n rfl
def isB (r : RV) (Q : Bool → Prop) : Prop := match r with
  | .dat (.bool b) => Q b
  | _ => False
theorem isB_ok {K : PySem.W.Frag} {M : Addr → Prop} {HB H0 G H : Hp} {v : V} {Q : Bool → Prop} : ∀ {r : RV}, RvOk K M HB H0 G H v r → isB r Q → ∃ b, v = .bl b ∧ Q b
  | .dat (.bool b), h, q => by
    cases (show Dt K G v (.bool b) from h)
    exact ⟨b, rfl, q⟩
  | .dat .none, _, q => q.elim
  | .dat (.int _), _, q => q.elim
  | .dat (.str _), _, q => q.elim
  | .dat (.list _), _, q => q.elim
  | .dat (.tuple _), _, q => q.elim
  | .dat (.dict _), _, q => q.elim
  | .new _, _, q => q.elim
  | .own _, _, q => q.elim
  | .view _, _, q => q.elim
  | .raw _, _, q => q.elim
  | .sto, _, q => q.elim

section
variable {X : Cx} {W : WX} {a b c e : Expr} {es : List Expr} {da db dc de : DTE} {pos pos' p p2 : Pos} {x : Str}
/-! ### names, constants -/
def slR (s : Sl) (Q : RV → Prop) : Prop := match s with
  | .no => False
  | .dat d => Q (.dat d)
  | .new d => Q (.new d)
  | .own ds => Q (.view ds)
  | .raw v => Q (.raw v)
  | .sto => Q .sto
def dVar (i : Nat) : DTE := fun δ Q _ => slR (δ.getD i .no) Q
def dK (d : D) : DTE := fun _ Q _ => Q (.dat d)
theorem getD_some {δ : DSt} {i : Nat} {s : Sl} (h : δ.getD i .no = s) (n : s ≠ .no) : δ[i]? = some s := by
  rw [List.getD_eq_getElem?_getD] at h
  cases e : δ[i]? with
  | none => rw [e] at h; exact absurd h.symm n
  | some t => rw [e] at h; rw [← h]; rfl
theorem var_ok {K : PySem.W.Frag} {B : Base} {δ : DSt} {σ : St} {G H : Hp} {i : Nat} {Q2 : RV → Prop} (R : Rel K B δ σ G H) (h : slR (δ.getD i .no) Q2) : ∃ v r, σ[i]? = some (some v) ∧ RvOk K B.M B.H H G H v r ∧ Q2 r := by
  generalize e : δ.getD i .no = s at h
  cases s with
  | no => exact h.elim
  | dat d =>
    obtain ⟨x, e1, v, rfl, k⟩ := R.at (getD_some e fun z => nomatch z)
    exact ⟨v, .dat d, e1, k, h⟩
  | new d =>
    obtain ⟨x, e1, v, rfl, k⟩ := R.at (getD_some e fun z => nomatch z)
    exact ⟨v, .new d, e1, k, h⟩
  | own ds =>
    obtain ⟨x, e1, a, xs, rfl, k1, k2, k3, k4, k5⟩ := R.at (getD_some e fun z => nomatch z)
    exact ⟨_, .view ds, e1, ⟨a, xs, rfl, k3, k4, k5⟩, h⟩
  | raw v =>
    obtain ⟨x, e1, k⟩ := R.at (getD_some e fun z => nomatch z)
    cases (show x = some v from k)
    exact ⟨v, .raw v, e1, rfl, h⟩
  | sto =>
    obtain ⟨x, e1, a, rfl, k⟩ := R.at (getD_some e fun z => nomatch z)
    exact ⟨_, .sto, e1, ⟨a, rfl, k⟩, h⟩
theorem de_var (i : Nat) (hN : X.N[i]? = some x := by rfl) (hv : Vis X.env.scope x := by first | exact Or.inl rfl | exact Or.inr (Or.inl rfl) | exact Or.inr (Or.inr rfl)) (hd : (x == ("__debug__" : Str)) = false := by decide)
    (hcd : (x == ("__classdict__" : Str)) = false := by decide) : PE X (.Name x pos) (lE X.K W (dVar i)) := by
  refine (pe_var hN hv hd hcd).imp fun σ H Q h => ?_
  obtain ⟨B, δ, G, Q2, X2, R, h, k, kx⟩ := h
  obtain ⟨v, r, e, o, q⟩ := var_ok R h
  exact ⟨v, e, k r v G H R.wd .refl o q⟩
theorem lE_K {K : PySem.W.Frag} {σ : St} {H : Hp} {Q : VK} {d : D} {v : V} (hd : ∀ G, Dt K G v d) (h : lE K W (dK d) σ H Q) : tC v σ H Q := by
  obtain ⟨B, δ, G, Q2, X2, R, h, k, kx⟩ := h
  exact k (.dat d) v G H R.wd .refl (hd G) h
theorem de_int {i : Int} {j} : PE X (.Constant (.int i) j pos) (lE X.K W (dK (.int i))) := pe_int.imp fun _ _ _ h => lE_K (fun _ => .int i) h
theorem de_bl {i : Bool} {j} : PE X (.Constant (.bool i) j pos) (lE X.K W (dK (.bool i))) := pe_bl.imp fun _ _ _ h => lE_K (fun _ => .bl i) h
theorem de_non {j} : PE X (.Constant .none j pos) (lE X.K W (dK .none)) := pe_non.imp fun _ _ _ h => lE_K (fun _ => .non) h
theorem de_str {z : Str} {j} : PE X (.Constant (.str z) j pos) (lE X.K W (dK (.str z))) := pe_str.imp fun _ _ _ h => lE_K (fun _ => .str z) h
/-- a constant of the module -/
theorem de_glob {d : D} {v : V} {u : Value} (hm : X.mg x = some u) (r : RelV v u) (hd : ∀ G, Dt X.K G v d) (hg : Gl X x := by rfl) (hdb : (x == ("__debug__" : Str)) = false := by decide) : PE X (.Name x pos) (lE X.K W (dK d)) :=
  (pe_glob hg hm r hdb).imp fun _ _ _ h => lE_K hd h
theorem de_globI {i : Int} (hm : ∃ t, X.mg x = some (.int i t)) (hg : Gl X x := by rfl) (hdb : (x == ("__debug__" : Str)) = false := by decide) : PE X (.Name x pos) (lE X.K W (dK (.int i))) := by
  obtain ⟨t, hm⟩ := hm
  exact de_glob (v := .int i) hm ⟨_, rfl⟩ (fun _ => .int i) hg hdb

/-! ### operations by data -/
def Op2 (K : PySem.W.Frag) (r : R2) (f : RV → RV → (RV → Prop) → Prop) : Prop := ∀ (M : Addr → Prop) (HB H0 G H : Hp) (x y : V) (r1 r2 : RV) (Q2 : RV → Prop) (Q : VK), Wd M G H → RvOk K M HB H0 G H x r1 → RvOk K M HB H0 G H y r2 → f r1 r2 Q2 →
  (∀ q v G' H', Wd M G' H' → Ext M G H G' H' → RvOk K M HB H G' H' v q → Q2 q → Q v H') → r x y H Q
def dBin (f : RV → RV → (RV → Prop) → Prop) (da db : DTE) : DTE := fun δ Q X => da δ (fun r1 => db δ (fun r2 => f r1 r2 Q) X) X
theorem lE_bin {K : PySem.W.Frag} {r : R2} {f : RV → RV → (RV → Prop) → Prop} (hr : Op2 K r f) {σ : St} {H : Hp} {Q : VK} (h : lE K W (dBin f da db) σ H Q) : tOp r (lE K W da) (lE K W db) σ H Q := by
  obtain ⟨B, δ, G, Q2, X2, R, h, k, kx⟩ := h
  refine ⟨B, δ, G, _, X2, R, h, fun r1 x G1 H1 w1 t1 o1 q1 => ?_, kx⟩
  refine ⟨B, δ, G1, _, X2, R.step w1 t1, q1, fun r2 y G2 H2 w2 t2 o2 q2 => ?_, kx⟩
  exact hr B.M B.H H G2 H2 x y r1 r2 Q2 Q w2 (o1.mono t2) (o2.early t1.hm) q2 fun q v G3 H3 w3 t3 o3 q3 => k q v G3 H3 w3 ((t1.trans t2).trans t3) (o3.early (t1.trans t2).hm) q3
theorem de_bin {op : Operator} {r : R2} {f : RV → RV → (RV → Prop) → Prop} (ho : OpR X (binaryOp op) r) (hr : Op2 X.K r f) (ha : PE X a (lE X.K W da)) (hb : PE X b (lE X.K W db)) : PE X (.BinOp a op b pos) (lE X.K W (dBin f da db)) :=
  (pe_op ho ha hb).imp fun _ _ _ h => lE_bin hr h
theorem de_cmp {op : CmpOp} {r : R2} {f : RV → RV → (RV → Prop) → Prop} (ho : OpR X (compareOp op) r) (hr : Op2 X.K r f) (ha : PE X a (lE X.K W da)) (hb : PE X b (lE X.K W db)) (hm : behindInMarks op b = false) : PE X (.Compare a [op] [b] pos) (lE X.K W (dBin f da db)) :=
  (pe_cmpR ho ha hb hm).imp fun _ _ _ h => lE_bin hr h
/-- a test of a value that is a bool -/
def dB (de : DTE) : DTT := fun δ Q X => de δ (fun r => isB r Q) X
theorem lT_of {K : PySem.W.Frag} {t : TE} (i : ∀ σ H Q, lE K W de σ H Q → t σ H Q) {σ : St} {H : Hp} {Q : Bool → Hp → Prop} (h : lT K W (dB de) σ H Q) : tTest t σ H Q := by
  obtain ⟨B, δ, G, Q2, X2, R, h, k, kx⟩ := h
  refine i _ _ _ ⟨B, δ, G, _, X2, R, h, fun r v G1 H1 w1 t1 o1 q1 => ?_, kx⟩
  obtain ⟨b, rfl, q⟩ := isB_ok o1 q1
  exact ⟨b, rfl, k b G1 H1 w1 t1 q⟩
theorem dt_cmp {op : CmpOp} {r : R2} {f : RV → RV → (RV → Prop) → Prop} (ho : OpR X (compareOp op) r) (hr : Op2 X.K r f) (ha : PE X a (lE X.K W da)) (hb : PE X b (lE X.K W db)) (hm : behindInMarks op b = false) : PT X (.Compare a [op] [b] pos) (lT X.K W (dB (dBin f da db))) :=
  (pt_cmpR ho ha hb hm).imp fun _ _ _ h => lT_of (fun _ _ _ h => lE_bin hr h) h
theorem dt_val (h : PE X e (lE X.K W de)) (he : ∀ whole, isTrue e X.env whole = (do let v ← whole; standAt e.pos; holding [v] (truthy v)) := by intro _; rfl) : PT X e (lT X.K W (dB de)) :=
  (pt_val h he).imp fun _ _ _ h => lT_of (fun _ _ _ h => h) h

/-! ### and, or, not -/
variable {dt du : DTT} {rest : List Expr}
def dAnd (t u : DTT) : DTT := fun δ Q X => t δ (fun b => Br b (u δ Q X) (Q false)) X
def dOr (t u : DTT) : DTT := fun δ Q X => t δ (fun b => Br b (Q true) (u δ Q X)) X
def dNot (t : DTT) : DTT := fun δ Q X => t δ (fun b => Q (!b)) X
theorem dw_and1 (ha : PT X a (lT X.K W dt)) : PW X (.BoolOp .And [a] pos) (lT X.K W dt) := pw_and1 ha
theorem dw_or1 (ha : PT X a (lT X.K W dt)) : PW X (.BoolOp .Or [a] pos) (lT X.K W dt) := pw_or1 ha
theorem dw_and (ha : PT X a (lT X.K W dt)) (hb : PW X (.BoolOp .And (b :: rest) pos) (lT X.K W du)) : PW X (.BoolOp .And (a :: b :: rest) pos) (lT X.K W (dAnd dt du)) := by
  refine (pw_and ha hb).imp fun σ H Q h => ?_
  obtain ⟨B, δ, G, Q2, X2, R, h, k, kx⟩ := h
  refine ⟨B, δ, G, _, X2, R, h, fun b G1 H1 w1 t1 q1 => ?_, kx⟩
  exact Br.ite ⟨fun e => ⟨B, δ, G1, _, X2, R.step w1 t1, q1.y e, fun b2 G2 H2 w2 t2 q2 => k b2 G2 H2 w2 (t1.trans t2) q2, kx⟩, fun e => k false G1 H1 w1 t1 (q1.n e)⟩
theorem dw_or (ha : PT X a (lT X.K W dt)) (hb : PW X (.BoolOp .Or (b :: rest) pos) (lT X.K W du)) : PW X (.BoolOp .Or (a :: b :: rest) pos) (lT X.K W (dOr dt du)) := by
  refine (pw_or ha hb).imp fun σ H Q h => ?_
  obtain ⟨B, δ, G, Q2, X2, R, h, k, kx⟩ := h
  refine ⟨B, δ, G, _, X2, R, h, fun b G1 H1 w1 t1 q1 => ?_, kx⟩
  exact Br.ite ⟨fun e => k true G1 H1 w1 t1 (q1.y e), fun e => ⟨B, δ, G1, _, X2, R.step w1 t1, q1.n e, fun b2 G2 H2 w2 t2 q2 => k b2 G2 H2 w2 (t1.trans t2) q2, kx⟩⟩
theorem dt_not (ha : PT X a (lT X.K W dt)) : PT X (.UnaryOp .Not a pos) (lT X.K W (dNot dt)) := by
  refine (pt_not ha).imp fun σ H Q h => ?_
  obtain ⟨B, δ, G, Q2, X2, R, h, k, kx⟩ := h
  exact ⟨B, δ, G, _, X2, R, h, fun b G1 H1 w1 t1 q1 => k (!b) G1 H1 w1 t1 q1, kx⟩
def dAndV (da db : DTE) : DTE := fun δ Q X => da δ (fun r => isB r fun b => Br b (db δ Q X) (Q (.dat (.bool false)))) X
def dOrV (da db : DTE) : DTE := fun δ Q X => da δ (fun r => isB r fun b => Br b (Q (.dat (.bool true))) (db δ Q X)) X
def dNotV (da : DTE) : DTE := fun δ Q X => da δ (fun r => isB r fun b => Q (.dat (.bool (!b)))) X
theorem de_one {op} (h : PE X a (lE X.K W da)) : PE X (.BoolOp op [a] pos) (lE X.K W da) := pe_one h
theorem de_and (ha : PE X a (lE X.K W da)) (hb : PE X (.BoolOp .And (b :: rest) pos) (lE X.K W db)) : PE X (.BoolOp .And (a :: b :: rest) pos) (lE X.K W (dAndV da db)) := by
  refine (pe_and ha hb).imp fun σ H Q h => ?_
  obtain ⟨B, δ, G, Q2, X2, R, h, k, kx⟩ := h
  refine ⟨B, δ, G, _, X2, R, h, fun r v G1 H1 w1 t1 o1 q1 => ?_, kx⟩
  obtain ⟨b, rfl, q⟩ := isB_ok o1 q1
  refine ⟨b, rfl, Br.ite ⟨fun e => ⟨B, δ, G1, _, X2, R.step w1 t1, q.y e, fun r2 v2 G2 H2 w2 t2 o2 q2 => k r2 v2 G2 H2 w2 (t1.trans t2) (o2.early t1.hm) q2, kx⟩, fun e => k (.dat (.bool false)) (.bl false) G1 H1 w1 t1 (Dt.bl false) (q.n e)⟩⟩
theorem de_or (ha : PE X a (lE X.K W da)) (hb : PE X (.BoolOp .Or (b :: rest) pos) (lE X.K W db)) : PE X (.BoolOp .Or (a :: b :: rest) pos) (lE X.K W (dOrV da db)) := by
  refine (pe_or ha hb).imp fun σ H Q h => ?_
  obtain ⟨B, δ, G, Q2, X2, R, h, k, kx⟩ := h
  refine ⟨B, δ, G, _, X2, R, h, fun r v G1 H1 w1 t1 o1 q1 => ?_, kx⟩
  obtain ⟨b, rfl, q⟩ := isB_ok o1 q1
  refine ⟨b, rfl, Br.ite ⟨fun e => k (.dat (.bool true)) (.bl true) G1 H1 w1 t1 (Dt.bl true) (q.y e), fun e => ⟨B, δ, G1, _, X2, R.step w1 t1, q.n e, fun r2 v2 G2 H2 w2 t2 o2 q2 => k r2 v2 G2 H2 w2 (t1.trans t2) (o2.early t1.hm) q2, kx⟩⟩⟩
theorem de_not (ha : PE X a (lE X.K W da)) : PE X (.UnaryOp .Not a pos) (lE X.K W (dNotV da)) := by
  refine (pe_not ha).imp fun σ H Q h => ?_
  obtain ⟨B, δ, G, Q2, X2, R, h, k, kx⟩ := h
  refine ⟨B, δ, G, _, X2, R, h, fun r v G1 H1 w1 t1 o1 q1 => ?_, kx⟩
  obtain ⟨b, rfl, q⟩ := isB_ok o1 q1
  exact ⟨b, rfl, k (.dat (.bool (!b))) (.bl (!b)) G1 H1 w1 t1 (Dt.bl _) q⟩
def dIfE (t : DTT) (da db : DTE) : DTE := fun δ Q X => t δ (fun b => Br b (da δ Q X) (db δ Q X)) X
theorem de_if (hc : PT X c (lT X.K W dt)) (ha : PE X a (lE X.K W da)) (hb : PE X b (lE X.K W db)) : PE X (.IfExp c a b pos) (lE X.K W (dIfE dt da db)) := by
  refine (pe_ifExp hc ha hb).imp fun σ H Q h => ?_
  obtain ⟨B, δ, G, Q2, X2, R, h, k, kx⟩ := h
  refine ⟨B, δ, G, _, X2, R, h, fun b G1 H1 w1 t1 q1 => ?_, kx⟩
  exact Br.ite ⟨fun e => ⟨B, δ, G1, _, X2, R.step w1 t1, q1.y e, fun r2 v2 G2 H2 w2 t2 o2 q2 => k r2 v2 G2 H2 w2 (t1.trans t2) (o2.early t1.hm) q2, kx⟩,
    fun e => ⟨B, δ, G1, _, X2, R.step w1 t1, q1.n e, fun r2 v2 G2 H2 w2 t2 o2 q2 => k r2 v2 G2 H2 w2 (t1.trans t2) (o2.early t1.hm) q2, kx⟩⟩
/-- a op b op' c -/
def dChain (f f' : RV → RV → (RV → Prop) → Prop) (da db dc : DTE) : DTE := fun δ Q X => da δ (fun r1 => db δ (fun r2 => f r1 r2 fun q => isB q fun b => Br b (dc δ (fun r3 => f' r2 r3 Q) X) (Q (.dat (.bool false)))) X) X
theorem lE_chain {K : PySem.W.Frag} {r r' : R2} {f f' : RV → RV → (RV → Prop) → Prop} (hr : Op2 K r f) (hr' : Op2 K r' f') {σ : St} {H : Hp} {Q : VK} (h : lE K W (dChain f f' da db dc) σ H Q) : tChain r r' (lE K W da) (lE K W db) (lE K W dc) σ H Q := by
  obtain ⟨B, δ, G, Q2, X2, R, h, k, kx⟩ := h
  refine ⟨B, δ, G, _, X2, R, h, fun r1 x G1 H1 w1 t1 o1 q1 => ?_, kx⟩
  refine ⟨B, δ, G1, _, X2, R.step w1 t1, q1, fun r2 y G2 H2 w2 t2 o2 q2 => ?_, kx⟩
  refine hr B.M B.H H G2 H2 x y r1 r2 _ _ w2 (o1.mono t2) (o2.early t1.hm) q2 fun q v G3 H3 w3 t3 o3 q3 => ?_
  obtain ⟨b, rfl, q⟩ := isB_ok o3 q3
  refine ⟨b, rfl, Br.ite ⟨fun e => ?_, fun e => k (.dat (.bool false)) (.bl false) G3 H3 w3 ((t1.trans t2).trans t3) (Dt.bl false) (q.n e)⟩⟩
  refine ⟨B, δ, G3, _, X2, ((R.step w1 t1).step w2 t2).step w3 t3, q.y e, fun r3 z G4 H4 w4 t4 o4 q4 => ?_, kx⟩
  have t14 := ((t1.trans t2).trans t3).trans t4
  exact hr' B.M B.H H1 G4 H4 y z r2 r3 Q2 Q w4 (o2.mono (t3.trans t4)) (o4.early (t2.trans t3).hm) q4 fun q5 v G5 H5 w5 t5 o5 q6 => k q5 v G5 H5 w5 (t14.trans t5) (o5.early t14.hm) q6
theorem de_chain {op op' : CmpOp} {r r' : R2} {f f' : RV → RV → (RV → Prop) → Prop} (ho : OpR X (compareOp op) r) (ho' : OpR X (compareOp op') r') (hr : Op2 X.K r f) (hr' : Op2 X.K r' f') (ha : PE X a (lE X.K W da)) (hb : PE X b (lE X.K W db)) (hc : PE X c (lE X.K W dc))
    (hm : lastMarks [op, op'] [b, c] = false := by with_unfolding_all rfl) : PE X (.Compare a [op, op'] [b, c] pos) (lE X.K W (dChain f f' da db dc)) := (pe_chain ho ho' ha hb hc hm).imp fun _ _ _ h => lE_chain hr hr' h
theorem dt_chain {op op' : CmpOp} {r r' : R2} {f f' : RV → RV → (RV → Prop) → Prop} (ho : OpR X (compareOp op) r) (ho' : OpR X (compareOp op') r') (hr : Op2 X.K r f) (hr' : Op2 X.K r' f') (ha : PE X a (lE X.K W da)) (hb : PE X b (lE X.K W db)) (hc : PE X c (lE X.K W dc))
    (hm : lastMarks [op, op'] [b, c] = false := by with_unfolding_all rfl) : PT X (.Compare a [op, op'] [b, c] pos) (lT X.K W (dB (dChain f f' da db dc))) := (pt_chain ho ho' ha hb hc hm).imp fun _ _ _ h => lT_of (fun _ _ _ h => lE_chain hr hr' h) h

/-! ### arguments, displays -/
variable {dA : DTA}
def dNil : DTA := fun _ Q _ => Q []
def fzQ (r : RV) (Q : RV → Prop) : Prop := match r.fz with
  | some r' => Q r'
  | none => False
def dCons (de : DTE) (dA : DTA) : DTA := fun δ Q X => de δ (fun r => fzQ r fun r' => dA δ (fun rs => Q (r' :: rs)) X) X
theorem fzQ_some {r : RV} {Q : RV → Prop} (h : fzQ r Q) : ∃ r', r.fz = some r' ∧ Q r' := by
  unfold fzQ at h
  cases e : r.fz with
  | none => rw [e] at h; exact h.elim
  | some r' => rw [e] at h; exact ⟨r', rfl, h⟩
theorem da_nil : PA X [] (lA X.K W dNil) := pa_nil.imp fun σ H Q h => by
  obtain ⟨B, δ, G, Q2, X2, R, h, k, kx⟩ := h
  exact k [] [] G H R.wd .refl .nil h
theorem pairedImp {α β : Type} {F F' : α → β → Prop} (i : ∀ x y, F x y → F' x y) : ∀ {l : List α} {l' : List β}, Paired F l l' → Paired F' l l'
  | _, _, .nil => .nil
  | _, _, .cons h t => .cons (i _ _ h) (pairedImp i t)
theorem da_cons (he : PE X e (lE X.K W de)) (hs : PA X es (lA X.K W dA)) (hst : starEach (e :: es) X.env = (false, eval e X.env) :: starEach es X.env := by rfl) : PA X (e :: es) (lA X.K W (dCons de dA)) := by
  refine (pa_cons he hs hst).imp fun σ H Q h => ?_
  obtain ⟨B, δ, G, Q2, X2, R, h, k, kx⟩ := h
  refine ⟨B, δ, G, _, X2, R, h, fun r v G1 H1 w1 t1 o1 q1 => ?_, kx⟩
  obtain ⟨r', e1, q1⟩ := fzQ_some q1
  obtain ⟨G2, w2, t2, s2, o2⟩ := o1.fz w1 t1 e1
  refine ⟨B, δ, G2, _, X2, R.step w2 t2, q1, fun rs vs G3 H3 w3 t3 o3 q3 => ?_, kx⟩
  exact k _ _ G3 H3 w3 (t2.trans t3) (.cons (o2.mono t3.gg) o3) q3
/-- the items of a display: all data -/
def datas : List RV → Option (List D)
  | [] => some []
  | .dat d :: rs => (datas rs).map (d :: ·)
  | .new d :: rs => (datas rs).map (d :: ·)
  | _ :: _ => none
theorem datas_ok {K : PySem.W.Frag} {M : Addr → Prop} {HB G : Hp} : ∀ {rs : List RV} {vs : List V} {ds : List D}, Paired (fun v r => AOk K M HB G v r) vs rs → datas rs = some ds → DtA K G vs ds
  | [], _, _, .nil, e => by cases e; exact .nil
  | .dat d :: rs, _, _, .cons h t, e => by
    unfold datas at e
    cases z : datas rs with
    | none => rw [z] at e; cases e
    | some es => rw [z] at e; cases e; exact .cons h (datas_ok t z)
  | .new d :: rs, _, _, .cons h t, e => by
    unfold datas at e
    cases z : datas rs with
    | none => rw [z] at e; cases e
    | some es => rw [z] at e; cases e; exact .cons (Nw.dt h) (datas_ok t z)
  | .own _ :: _, _, _, _, e => nomatch e
  | .view _ :: _, _, _, _, e => nomatch e
  | .raw _ :: _, _, _, _, e => nomatch e
  | .sto :: _, _, _, _, e => nomatch e
def dsQ (rs : List RV) (Q : List D → Prop) : Prop := match datas rs with
  | some ds => ds.length ≤ sizeLine ∧ Q ds
  | none => False
theorem dsQ_some {rs : List RV} {Q : List D → Prop} (h : dsQ rs Q) : ∃ ds, datas rs = some ds ∧ ds.length ≤ sizeLine ∧ Q ds := by
  unfold dsQ at h
  cases e : datas rs with
  | none => rw [e] at h; exact h.elim
  | some ds => rw [e] at h; exact ⟨ds, rfl, h.1, h.2⟩
def dTup (dA : DTA) : DTE := fun δ Q X => dA δ (fun rs => dsQ rs fun ds => Q (.dat (.tuple ds))) X
def dLst (dA : DTA) : DTE := fun δ Q X => dA δ (fun rs => dsQ rs fun ds => Q (.own ds)) X
theorem de_tup {k : Nat} (hs : PA X es (lA X.K W dA)) : PE X (.Tuple es k pos) (lE X.K W (dTup dA)) := by
  refine (pe_tup hs).imp fun σ H Q h => ?_
  obtain ⟨B, δ, G, Q2, X2, R, h, k, kx⟩ := h
  refine ⟨B, δ, G, _, X2, R, h, fun rs vs G1 H1 w1 t1 o1 q1 => ?_, kx⟩
  obtain ⟨ds, e, hz, q⟩ := dsQ_some q1
  have dt := datas_ok o1 e
  refine ⟨by rw [dt.length]; exact hz, fun p hp => ?_⟩
  have s : Same G1 (upd G1 p (.tup vs)) := same_upd (w1.noG hp)
  exact k (.dat (.tuple ds)) _ (upd G1 p (.tup vs)) _ (w1.allocG hp) (t1.trans (Ext.allocG w1 hp)) (Dt.tup (SqT.of upd_same) (dt.mono s)) q
theorem de_lst (hs : PA X es (lA X.K W dA)) : PE X (.List es pos) (lE X.K W (dLst dA)) := by
  refine (pe_lst hs).imp fun σ H Q h => ?_
  obtain ⟨B, δ, G, Q2, X2, R, h, k, kx⟩ := h
  refine ⟨B, δ, G, _, X2, R, h, fun rs vs G1 H1 w1 t1 o1 q1 => ?_, kx⟩
  obtain ⟨ds, e, hz, q⟩ := dsQ_some q1
  have dt := datas_ok o1 e
  refine ⟨by rw [dt.length]; exact hz, fun p hp => ?_⟩
  exact k (.own ds) _ G1 _ (w1.alloc hp) (t1.trans (Ext.alloc hp)) ⟨p, vs, rfl, none_early t1.hm p hp, w1.noG hp, w1.nm hp, upd_same, dt⟩ q
end
end RB

set_option Elab.async false
set_option linter.all false
set_option maxRecDepth 100000
set_option maxHeartbeats 4000000
/-! RB3: operators, subscripts, built-ins, calls over data -/
namespace RB
open PySem PySem.Spec PyProof.Rows L2
def isNone (d : D) : Bool := match d with
  | .none => true
  | _ => false
section
variable {K : PySem.W.Frag} {M : Addr → Prop} {HB H0 G H : Hp} {v : V} {r : RV}
theorem RvOk.int {i : Int} (h : RvOk K M HB H0 G H v r) (e : r.d? = some (.int i)) : v = .int i := by
  have q := RvOk.dt (by intro _ z; cases z) h e
  cases q
  rfl
theorem RvOk.bool {i : Bool} (h : RvOk K M HB H0 G H v r) (e : r.d? = some (.bool i)) : v = .bl i := by
  have q := RvOk.dt (by intro _ z; cases z) h e
  cases q
  rfl
theorem RvOk.str {i : Str} (h : RvOk K M HB H0 G H v r) (e : r.d? = some (.str i)) : v = .str i := by
  have q := RvOk.dt (by intro _ z; cases z) h e
  cases q
  rfl
theorem RvOk.tup {ds : List D} (h : RvOk K M HB H0 G H v r) (e : r.d? = some (.tuple ds)) : ∃ a xs, v = .ref a ∧ SqT K G a xs ∧ DtA K G xs ds := by
  have q := RvOk.dt (by intro _ z; cases z) h e
  cases q with
  | tup h1 h2 => exact ⟨_, _, rfl, h1, h2⟩
theorem RvOk.non {d : D} (h : RvOk K M HB H0 G H v r) (e : r.d? = some d) : decide (v = .non) = isNone d := by
  cases d with
  | none =>
    have q := RvOk.dt (by intro _ z; cases z) h e
    cases q
    rfl
  | bool b => rw [h.bool e]; rfl
  | int b => rw [h.int e]; rfl
  | str b => rw [h.str e]; rfl
  | list ds =>
    cases r with
    | dat d => cases e; cases h; rfl
    | new d => cases e; cases Nw.dt h; rfl
    | own es => obtain ⟨a, xs, rfl, _⟩ := h; rfl
    | view es => obtain ⟨a, xs, rfl, _⟩ := h; rfl
    | raw _ => cases e
    | sto => cases e
  | tuple ds => obtain ⟨a, xs, rfl, _⟩ := h.tup e; rfl
  | dict _ =>
    have q := RvOk.dt (by intro _ z; cases z) h e
    cases q
end
/-! ### arithmetic -/
def MulOk (i j : Int) : Prop := CMul i j ∨ CMulX i j
def DivOk (j : Int) : Prop := 0 < j ∧ j.natAbs.log2 < 9000
def PowOk (i j : Int) : Prop := 0 ≤ j ∧ (Builtin.Int.intBits i : Int) * j ≤ 2 ^ 27
def bAdd (r1 r2 : RV) (Q : RV → Prop) : Prop := match r1.d?, r2.d? with
  | some (.int i), some (.int j) => Q (.dat (.int (i + j)))
  | some (.list xs), some (.list ys) => xs.length + ys.length ≤ sizeLine ∧ Q (.own (xs ++ ys))
  | some (.tuple xs), some (.tuple ys) => xs.length + ys.length ≤ sizeLine ∧ Q (.dat (.tuple (xs ++ ys)))
  | some (.str x), some (.str y) => x.length + y.length ≤ sizeLine ∧ Q (.dat (.str (x ++ y)))
  | _, _ => False
def bSub (r1 r2 : RV) (Q : RV → Prop) : Prop := match r1.d?, r2.d? with
  | some (.int i), some (.int j) => Q (.dat (.int (i - j)))
  | _, _ => False
def bMul (r1 r2 : RV) (Q : RV → Prop) : Prop := match r1.d?, r2.d? with
  | some (.int i), some (.int j) => MulOk i j ∧ Q (.dat (.int (i * j)))
  | some (.list xs), some (.int k) => (-(2 ^ 63) ≤ k ∧ k < 2 ^ 63 ∧ xs.length * k.toNat ≤ sizeLine) ∧ Q (.own (List.replicate k.toNat xs).flatten)
  | _, _ => False
def bDiv (r1 r2 : RV) (Q : RV → Prop) : Prop := match r1.d?, r2.d? with
  | some (.int i), some (.int j) => DivOk j ∧ Q (.dat (.int (i / j)))
  | _, _ => False
def bMod (r1 r2 : RV) (Q : RV → Prop) : Prop := match r1.d?, r2.d? with
  | some (.int i), some (.int j) => 0 < j ∧ Q (.dat (.int (i % j)))
  | _, _ => False
def bPow (r1 r2 : RV) (Q : RV → Prop) : Prop := match r1.d?, r2.d? with
  | some (.int i), some (.int j) => PowOk i j ∧ Q (.dat (.int (i ^ j.toNat)))
  | _, _ => False
def bI2 (g : Int → Int → Int) (r1 r2 : RV) (Q : RV → Prop) : Prop := match r1.d?, r2.d? with
  | some (.int i), some (.int j) => Q (.dat (.int (g i j)))
  | _, _ => False
def bShr (r1 r2 : RV) (Q : RV → Prop) : Prop := match r1.d?, r2.d? with
  | some (.int i), some (.int j) => 0 ≤ j ∧ Q (.dat (.int (i / 2 ^ j.toNat)))
  | _, _ => False
def bC2 (g : Int → Int → Bool) (r1 r2 : RV) (Q : RV → Prop) : Prop := match r1.d?, r2.d? with
  | some (.int i), some (.int j) => Q (.dat (.bool (g i j)))
  | _, _ => False
abbrev bLt := bC2 fun i j => decide (i < j)
abbrev bLe := bC2 fun i j => decide (i ≤ j)
abbrev bGt := bC2 fun i j => decide (j < i)
abbrev bGe := bC2 fun i j => decide (j ≤ i)
def shp (d : D) : Prop := SeqAt.shaped d = true
def bEq (r1 r2 : RV) (Q : RV → Prop) : Prop := match r1.d?, r2.d? with
  | some (.int i), some (.int j) => Q (.dat (.bool (decide (i = j))))
  | some (.str i), some (.str j) => Q (.dat (.bool (decide (i = j))))
  | some d, some e => (shp d ∧ shp e) ∧ Q (.dat (.bool (PyData.eqv d e)))
  | _, _ => False
def bNe (r1 r2 : RV) (Q : RV → Prop) : Prop := match r1.d?, r2.d? with
  | some (.int i), some (.int j) => Q (.dat (.bool (!decide (i = j))))
  | some (.str i), some (.str j) => Q (.dat (.bool (!decide (i = j))))
  | some d, some e => (shp d ∧ shp e) ∧ Q (.dat (.bool (!PyData.eqv d e)))
  | _, _ => False
def bIsN (r1 r2 : RV) (Q : RV → Prop) : Prop := match r1.d?, r2.d? with
  | some d, some .none => Q (.dat (.bool (isNone d)))
  | _, _ => False
def bNotN (r1 r2 : RV) (Q : RV → Prop) : Prop := match r1.d?, r2.d? with
  | some d, some .none => Q (.dat (.bool (!isNone d)))
  | _, _ => False
def bIn (neg : Bool) (r1 r2 : RV) (Q : RV → Prop) : Prop := match r1.d?, r2.d? with
  | some (.int i), some (.list ds) => ∃ ns : List Int, ds = ns.map PyData.int ∧ Q (.dat (.bool (if neg then !decide (i ∈ ns) else decide (i ∈ ns))))
  | _, _ => False
section
variable {K : PySem.W.Frag}
theorem op2_I {C : Int → Int → Prop} {g : Int → Int → Int} {f : RV → RV → (RV → Prop) → Prop} (h : ∀ r1 r2 Q, f r1 r2 Q → ∃ i j, r1.d? = some (.int i) ∧ r2.d? = some (.int j) ∧ C i j ∧ Q (.dat (.int (g i j)))) : Op2 K (rI C fun i j => .int (g i j)) f := by
  intro M HB H0 G H x y r1 r2 Q2 Q w o1 o2 hf k
  obtain ⟨i, j, e1, e2, c, q⟩ := h _ _ _ hf
  exact ⟨i, j, o1.int e1, o2.int e2, c, k (.dat (.int (g i j))) _ G H w .refl (Dt.int _) q⟩
theorem op2_B {g : Int → Int → Bool} : Op2 K (rI0 fun i j => .bl (g i j)) (bC2 g) := by
  intro M HB H0 G H x y r1 r2 Q2 Q w o1 o2 hf k
  unfold bC2 at hf
  split at hf
  · rename_i i j e1 e2
    exact ⟨i, j, o1.int e1, o2.int e2, k (.dat (.bool (g i j))) _ G H w .refl (Dt.bl _) hf⟩
  · exact hf.elim
theorem op2_I0 {g : Int → Int → Int} : Op2 K (rI0 fun i j => .int (g i j)) (bI2 g) := by
  intro M HB H0 G H x y r1 r2 Q2 Q w o1 o2 hf k
  unfold bI2 at hf
  split at hf
  · rename_i i j e1 e2
    exact ⟨i, j, o1.int e1, o2.int e2, k (.dat (.int (g i j))) _ G H w .refl (Dt.int _) hf⟩
  · exact hf.elim
def rAddA (K : PySem.W.Frag) : R2 := fun x y H Q => rI0 (fun i j => .int (i + j)) x y H Q ∨ (rCat x y H Q ∨ (rCatA K x y H Q ∨ (∃ i j, x = .str i ∧ y = .str j ∧ i.length + j.length ≤ sizeLine ∧ Q (.str (i ++ j)) H)))
theorem op_addA {X : Cx} : OpR X (binaryOp .Add) (rAddA X.K) := OpR.or op_add (OpR.or op_cat (OpR.or op_catA op_add_str))
theorem o2_add : Op2 K (rAddA K) bAdd := by
  intro M HB H0 G H x y r1 r2 Q2 Q w o1 o2 hf k
  unfold bAdd at hf
  split at hf
  · rename_i i j e1 e2
    exact .inl ⟨i, j, o1.int e1, o2.int e2, k (.dat (.int (i + j))) _ G H w .refl (Dt.int _) hf⟩
  · rename_i xs ys e1 e2
    obtain ⟨a, us, rfl, h1, d1⟩ := o1.lst w.sub e1
    obtain ⟨b, vs, rfl, h2, d2⟩ := o2.lst w.sub e2
    refine .inr (.inl ⟨a, b, us, vs, rfl, rfl, h1, h2, by rw [d1.length, d2.length]; exact hf.1, fun p hp => ?_⟩)
    exact k (.own (xs ++ ys)) _ G _ (w.alloc hp) (Ext.alloc hp) ⟨p, _, rfl, hp, w.noG hp, w.nm hp, upd_same, d1.append d2⟩ hf.2
  · rename_i xs ys e1 e2
    obtain ⟨a, us, rfl, h1, d1⟩ := o1.tup e1
    obtain ⟨b, vs, rfl, h2, d2⟩ := o2.tup e2
    refine .inr (.inr (.inl ⟨a, b, us, vs, rfl, rfl, same_sqT w.sub h1, same_sqT w.sub h2, by rw [d1.length, d2.length]; exact hf.1, fun e => ?_, fun _ e => ?_, fun _ _ p hp => ?_⟩))
    · subst e
      cases d1
      exact k (.dat (.tuple ([] ++ ys))) _ G H w .refl (Dt.tup h2 d2) hf.2
    · subst e
      cases d2
      refine k (.dat (.tuple (xs ++ []))) _ G H w .refl ?_ hf.2
      rw [List.append_nil]
      exact Dt.tup h1 d1
    · have s : Same G (upd G p (.tup (us ++ vs))) := same_upd (w.noG hp)
      exact k (.dat (.tuple (xs ++ ys))) _ _ _ (w.allocG hp) (Ext.allocG w hp) (Dt.tup (SqT.of upd_same) ((d1.append d2).mono s)) hf.2
  · rename_i xs ys e1 e2
    exact .inr (.inr (.inr ⟨xs, ys, o1.str e1, o2.str e2, hf.1, k (.dat (.str (xs ++ ys))) _ G H w .refl (Dt.str _) hf.2⟩))
  · exact hf.elim
theorem o2_sub : Op2 K (rI0 fun i j => .int (i - j)) bSub := op2_I0 (g := fun i j => i - j)
def rMulA : R2 := fun x y H Q => rI CMul (fun i j => .int (i * j)) x y H Q ∨ (rI CMulX (fun i j => .int (i * j)) x y H Q ∨ rRep x y H Q)
theorem op_mulA {X : Cx} : OpR X (binaryOp .Mult) rMulA := OpR.or op_mul (OpR.or op_mulX op_rep)
theorem o2_mul : Op2 K rMulA bMul := by
  intro M HB H0 G H x y r1 r2 Q2 Q w o1 o2 hf k
  unfold bMul at hf
  split at hf
  · rename_i i j e1 e2
    have q := k (.dat (.int (i * j))) _ G H w .refl (Dt.int _) hf.2
    rcases hf.1 with c | c
    · exact .inl ⟨i, j, o1.int e1, o2.int e2, c, q⟩
    · exact .inr (.inl ⟨i, j, o1.int e1, o2.int e2, c, q⟩)
  · rename_i xs n e1 e2
    obtain ⟨a, us, rfl, h1, d1⟩ := o1.lst w.sub e1
    refine .inr (.inr ⟨a, n, us, rfl, o2.int e2, h1, hf.1.1, hf.1.2.1, by rw [d1.length]; exact hf.1.2.2, fun p hp => ?_⟩)
    exact k (.own _) _ G _ (w.alloc hp) (Ext.alloc hp) ⟨p, _, rfl, hp, w.noG hp, w.nm hp, upd_same, d1.flat n.toNat⟩ hf.2
  · exact hf.elim
theorem o2_div : Op2 K (rI CDivW fun i j => .int (i / j)) bDiv := op2_I (g := fun i j => i / j) fun r1 r2 Q h => by
  unfold bDiv at h
  split at h
  · rename_i i j e1 e2
    exact ⟨i, j, e1, e2, h.1, h.2⟩
  · exact h.elim
theorem o2_mod : Op2 K (rI (fun _ j => 0 < j) fun i j => .int (i % j)) bMod := op2_I (g := fun i j => i % j) fun r1 r2 Q h => by
  unfold bMod at h
  split at h
  · rename_i i j e1 e2
    exact ⟨i, j, e1, e2, h.1, h.2⟩
  · exact h.elim
theorem op_powW {X : Cx} : OpR X (binaryOp .Pow) (rI PowOk fun i j => .int (i ^ j.toNat)) := opI fun _ _ _ _ _ _ _ hc q => pow_int hc.1 hc.2 q
theorem o2_pow : Op2 K (rI PowOk fun i j => .int (i ^ j.toNat)) bPow := op2_I (g := fun i j => i ^ j.toNat) fun r1 r2 Q h => by
  unfold bPow at h
  split at h
  · rename_i i j e1 e2
    exact ⟨i, j, e1, e2, h.1, h.2⟩
  · exact h.elim
theorem o2_shr : Op2 K (rI (fun _ j => 0 ≤ j) fun i j => .int (i / 2 ^ j.toNat)) bShr := op2_I (g := fun i j => i / 2 ^ j.toNat) fun r1 r2 Q h => by
  unfold bShr at h
  split at h
  · rename_i i j e1 e2
    exact ⟨i, j, e1, e2, h.1, h.2⟩
  · exact h.elim
def rEqA (K : PySem.W.Frag) : R2 := fun x y H Q => rEq x y H Q ∨ rEqD K x y H Q
theorem op_eqA {X : Cx} (hu : X.A.units + 64 < cLine) : OpR X (compareOp .Eq) (rEqA X.K) := OpR.or op_eq (op_eqD hu)
def rNeA (K : PySem.W.Frag) : R2 := fun x y H Q => rNe x y H Q ∨ rNeD K x y H Q
theorem op_neA {X : Cx} (hu : X.A.units + 64 < cLine) : OpR X (compareOp .NotEq) (rNeA X.K) := OpR.or op_ne (op_neD hu)
theorem dec_int (i j : Int) : decide (V.int i = V.int j) = decide (i = j) := by
  by_cases h : i = j
  · subst h; rw [decide_eq_true rfl, decide_eq_true rfl]
  · rw [decide_eq_false h, decide_eq_false fun e => h (V.int.inj e)]
theorem dec_str (i j : Str) : decide (V.str i = V.str j) = decide (i = j) := by
  by_cases h : i = j
  · subst h; rw [decide_eq_true rfl, decide_eq_true rfl]
  · rw [decide_eq_false h, decide_eq_false fun e => h (V.str.inj e)]
theorem o2_eq : Op2 K (rEqA K) bEq := by
  intro M HB H0 G H x y r1 r2 Q2 Q w o1 o2 hf k
  unfold bEq at hf
  split at hf
  · rename_i i j e1 e2
    have ex := o1.int e1
    have ey := o2.int e2
    subst ex ey
    refine .inl ⟨rfl, ?_⟩
    rw [dec_int]
    exact k (.dat (.bool _)) _ G H w .refl (Dt.bl _) hf
  · rename_i i j e1 e2
    have ex := o1.str e1
    have ey := o2.str e2
    subst ex ey
    refine .inl ⟨rfl, ?_⟩
    rw [dec_str]
    exact k (.dat (.bool _)) _ G H w .refl (Dt.bl _) hf
  · rename_i d e _ _ e1 e2
    exact .inr ⟨d, e, o1.dp w.sub e1, o2.dp w.sub e2, hf.1.1, hf.1.2, k (.dat (.bool _)) _ G H w .refl (Dt.bl _) hf.2⟩
  · exact hf.elim
theorem o2_ne : Op2 K (rNeA K) bNe := by
  intro M HB H0 G H x y r1 r2 Q2 Q w o1 o2 hf k
  unfold bNe at hf
  split at hf
  · rename_i i j e1 e2
    have ex := o1.int e1
    have ey := o2.int e2
    subst ex ey
    refine .inl ⟨rfl, ?_⟩
    rw [dec_int]
    exact k (.dat (.bool _)) _ G H w .refl (Dt.bl _) hf
  · rename_i i j e1 e2
    have ex := o1.str e1
    have ey := o2.str e2
    subst ex ey
    refine .inl ⟨rfl, ?_⟩
    rw [dec_str]
    exact k (.dat (.bool _)) _ G H w .refl (Dt.bl _) hf
  · rename_i d e _ _ e1 e2
    exact .inr ⟨d, e, o1.dp w.sub e1, o2.dp w.sub e2, hf.1.1, hf.1.2, k (.dat (.bool _)) _ G H w .refl (Dt.bl _) hf.2⟩
  · exact hf.elim
theorem o2_isN : Op2 K (fun x y H Q => y = .non ∧ Q (.bl (decide (x = .non))) H) bIsN := by
  intro M HB H0 G H x y r1 r2 Q2 Q w o1 o2 hf k
  unfold bIsN at hf
  split at hf
  · rename_i d e1 e2
    have e := o2.non e2
    refine ⟨of_decide_eq_true e, ?_⟩
    rw [o1.non e1]
    exact k (.dat (.bool (isNone d))) _ G H w .refl (Dt.bl _) hf
  · exact hf.elim
theorem o2_notN : Op2 K (fun x y H Q => y = .non ∧ Q (.bl (!decide (x = .non))) H) bNotN := by
  intro M HB H0 G H x y r1 r2 Q2 Q w o1 o2 hf k
  unfold bNotN at hf
  split at hf
  · rename_i d e1 e2
    have e := o2.non e2
    refine ⟨of_decide_eq_true e, ?_⟩
    rw [o1.non e1]
    exact k (.dat (.bool (!isNone d))) _ G H w .refl (Dt.bl _) hf
  · exact hf.elim
theorem inV_ints (i : Int) (ns : List Int) : inV (.int i) (ns.map V.int) = decide (i ∈ ns) := by
  unfold inV
  induction ns with
  | nil => rfl
  | cons n r ih =>
    rw [List.map_cons, List.any_cons, ih]
    have e : eqV (V.int n) (V.int i) = decide (n = i) := by
      unfold eqV
      by_cases h : n = i
      · subst h; simp
      · simp [h]
    rw [e]
    by_cases h : n = i
    · subst h; simp
    · by_cases h2 : i ∈ r
      · simp [h2]
      · simp [h, h2, Ne.symm h]
theorem o2_in {neg : Bool} : Op2 K (rIn K neg) (bIn neg) := by
  intro M HB H0 G H x y r1 r2 Q2 Q w o1 o2 hf k
  unfold bIn at hf
  split at hf
  · rename_i i ds e1 e2
    obtain ⟨ns, rfl, q⟩ := hf
    obtain ⟨a, us, rfl, h1, d1⟩ := o2.lst w.sub e2
    have eu := DtA.intsV d1
    have ex := o1.int e1
    subst eu ex
    refine ⟨a, _, rfl, .inl (SqL.of h1), rfl, by rw [List.all_eq_true]; intro v hv; obtain ⟨n, _, rfl⟩ := List.mem_map.mp hv; rfl, ?_⟩
    rw [inV_ints]
    exact k (.dat (.bool _)) _ G H w .refl (Dt.bl _) q
  · exact hf.elim
end
section
variable {X : Cx} {W : WX} {a b c e : Expr} {es : List Expr} {da db dc de : DTE} {pos pos' p p2 : Pos} {x : Str}
theorem de_add (ha : PE X a (lE X.K W da)) (hb : PE X b (lE X.K W db)) : PE X (.BinOp a .Add b pos) (lE X.K W (dBin bAdd da db)) := de_bin op_addA o2_add ha hb
theorem de_sub (ha : PE X a (lE X.K W da)) (hb : PE X b (lE X.K W db)) : PE X (.BinOp a .Sub b pos) (lE X.K W (dBin bSub da db)) := de_bin op_sub o2_sub ha hb
theorem de_mul (ha : PE X a (lE X.K W da)) (hb : PE X b (lE X.K W db)) : PE X (.BinOp a .Mult b pos) (lE X.K W (dBin bMul da db)) := de_bin op_mulA o2_mul ha hb
theorem de_div (ha : PE X a (lE X.K W da)) (hb : PE X b (lE X.K W db)) : PE X (.BinOp a .FloorDiv b pos) (lE X.K W (dBin bDiv da db)) := de_bin op_fdivW o2_div ha hb
theorem de_mod (ha : PE X a (lE X.K W da)) (hb : PE X b (lE X.K W db)) : PE X (.BinOp a .Mod b pos) (lE X.K W (dBin bMod da db)) := de_bin op_mod o2_mod ha hb
theorem de_pow (ha : PE X a (lE X.K W da)) (hb : PE X b (lE X.K W db)) : PE X (.BinOp a .Pow b pos) (lE X.K W (dBin bPow da db)) := de_bin op_powW o2_pow ha hb
theorem de_xor (ha : PE X a (lE X.K W da)) (hb : PE X b (lE X.K W db)) : PE X (.BinOp a .BitXor b pos) (lE X.K W (dBin (bI2 Builtin.bitXor) da db)) := de_bin op_xor op2_I0 ha hb
theorem de_or_ (ha : PE X a (lE X.K W da)) (hb : PE X b (lE X.K W db)) : PE X (.BinOp a .BitOr b pos) (lE X.K W (dBin (bI2 Builtin.bitOr) da db)) := de_bin op_or op2_I0 ha hb
theorem de_shr (ha : PE X a (lE X.K W da)) (hb : PE X b (lE X.K W db)) : PE X (.BinOp a .RShift b pos) (lE X.K W (dBin bShr da db)) := de_bin op_shr o2_shr ha hb
theorem de_lt (ha : PE X a (lE X.K W da)) (hb : PE X b (lE X.K W db)) : PE X (.Compare a [.Lt] [b] pos) (lE X.K W (dBin bLt da db)) := de_cmp op_lt op2_B ha hb (nomark _)
theorem de_le (ha : PE X a (lE X.K W da)) (hb : PE X b (lE X.K W db)) : PE X (.Compare a [.LtE] [b] pos) (lE X.K W (dBin bLe da db)) := de_cmp op_le op2_B ha hb (nomark _)
theorem de_gt (ha : PE X a (lE X.K W da)) (hb : PE X b (lE X.K W db)) : PE X (.Compare a [.Gt] [b] pos) (lE X.K W (dBin bGt da db)) := de_cmp op_gt op2_B ha hb (nomark _)
theorem de_ge (ha : PE X a (lE X.K W da)) (hb : PE X b (lE X.K W db)) : PE X (.Compare a [.GtE] [b] pos) (lE X.K W (dBin bGe da db)) := de_cmp op_ge op2_B ha hb (nomark _)
theorem dt_lt (ha : PE X a (lE X.K W da)) (hb : PE X b (lE X.K W db)) : PT X (.Compare a [.Lt] [b] pos) (lT X.K W (dB (dBin bLt da db))) := dt_cmp op_lt op2_B ha hb (nomark _)
theorem dt_le (ha : PE X a (lE X.K W da)) (hb : PE X b (lE X.K W db)) : PT X (.Compare a [.LtE] [b] pos) (lT X.K W (dB (dBin bLe da db))) := dt_cmp op_le op2_B ha hb (nomark _)
theorem dt_gt (ha : PE X a (lE X.K W da)) (hb : PE X b (lE X.K W db)) : PT X (.Compare a [.Gt] [b] pos) (lT X.K W (dB (dBin bGt da db))) := dt_cmp op_gt op2_B ha hb (nomark _)
theorem dt_ge (ha : PE X a (lE X.K W da)) (hb : PE X b (lE X.K W db)) : PT X (.Compare a [.GtE] [b] pos) (lT X.K W (dB (dBin bGe da db))) := dt_cmp op_ge op2_B ha hb (nomark _)
theorem de_eq (hu : X.A.units + 64 < cLine) (ha : PE X a (lE X.K W da)) (hb : PE X b (lE X.K W db)) : PE X (.Compare a [.Eq] [b] pos) (lE X.K W (dBin bEq da db)) := de_cmp (op_eqA hu) o2_eq ha hb (nomark _)
theorem dt_eq (hu : X.A.units + 64 < cLine) (ha : PE X a (lE X.K W da)) (hb : PE X b (lE X.K W db)) : PT X (.Compare a [.Eq] [b] pos) (lT X.K W (dB (dBin bEq da db))) := dt_cmp (op_eqA hu) o2_eq ha hb (nomark _)
theorem de_ne (hu : X.A.units + 64 < cLine) (ha : PE X a (lE X.K W da)) (hb : PE X b (lE X.K W db)) : PE X (.Compare a [.NotEq] [b] pos) (lE X.K W (dBin bNe da db)) := de_cmp (op_neA hu) o2_ne ha hb (nomark _)
theorem dt_ne (hu : X.A.units + 64 < cLine) (ha : PE X a (lE X.K W da)) (hb : PE X b (lE X.K W db)) : PT X (.Compare a [.NotEq] [b] pos) (lT X.K W (dB (dBin bNe da db))) := dt_cmp (op_neA hu) o2_ne ha hb (nomark _)
theorem de_isN (ha : PE X a (lE X.K W da)) (hb : PE X b (lE X.K W db)) : PE X (.Compare a [.Is] [b] pos) (lE X.K W (dBin bIsN da db)) := de_cmp op_isN o2_isN ha hb (nomark _)
theorem dt_isN (ha : PE X a (lE X.K W da)) (hb : PE X b (lE X.K W db)) : PT X (.Compare a [.Is] [b] pos) (lT X.K W (dB (dBin bIsN da db))) := dt_cmp op_isN o2_isN ha hb (nomark _)
theorem de_notN (ha : PE X a (lE X.K W da)) (hb : PE X b (lE X.K W db)) : PE X (.Compare a [.IsNot] [b] pos) (lE X.K W (dBin bNotN da db)) := de_cmp op_notN o2_notN ha hb (nomark _)
theorem dt_notN (ha : PE X a (lE X.K W da)) (hb : PE X b (lE X.K W db)) : PT X (.Compare a [.IsNot] [b] pos) (lT X.K W (dB (dBin bNotN da db))) := dt_cmp op_notN o2_notN ha hb (nomark _)
theorem de_in (ha : PE X a (lE X.K W da)) (hb : PE X b (lE X.K W db)) (hm : behindInMarks .In b = false) : PE X (.Compare a [.In] [b] pos) (lE X.K W (dBin (bIn false) da db)) := de_cmp op_in_seq o2_in ha hb hm
theorem dt_in (ha : PE X a (lE X.K W da)) (hb : PE X b (lE X.K W db)) (hm : behindInMarks .In b = false) : PT X (.Compare a [.In] [b] pos) (lT X.K W (dB (dBin (bIn false) da db))) := dt_cmp op_in_seq o2_in ha hb hm
theorem de_notin (ha : PE X a (lE X.K W da)) (hb : PE X b (lE X.K W db)) (hm : behindInMarks .NotIn b = false) : PE X (.Compare a [.NotIn] [b] pos) (lE X.K W (dBin (bIn true) da db)) := de_cmp op_notIn_seq o2_in ha hb hm
theorem dt_notin (ha : PE X a (lE X.K W da)) (hb : PE X b (lE X.K W db)) (hm : behindInMarks .NotIn b = false) : PT X (.Compare a [.NotIn] [b] pos) (lT X.K W (dB (dBin (bIn true) da db))) := dt_cmp op_notIn_seq o2_in ha hb hm
theorem de_lele (ha : PE X a (lE X.K W da)) (hb : PE X b (lE X.K W db)) (hc : PE X c (lE X.K W dc)) (hm : lastMarks [.LtE, .LtE] [b, c] = false := by with_unfolding_all rfl) : PE X (.Compare a [.LtE, .LtE] [b, c] pos) (lE X.K W (dChain bLe bLe da db dc)) := de_chain op_le op_le op2_B op2_B ha hb hc hm
theorem dt_lele (ha : PE X a (lE X.K W da)) (hb : PE X b (lE X.K W db)) (hc : PE X c (lE X.K W dc)) (hm : lastMarks [.LtE, .LtE] [b, c] = false := by with_unfolding_all rfl) : PT X (.Compare a [.LtE, .LtE] [b, c] pos) (lT X.K W (dB (dChain bLe bLe da db dc))) := dt_chain op_le op_le op2_B op2_B ha hb hc hm
/-- -a -/
def bNeg (r : RV) (Q : RV → Prop) : Prop := match r.d? with
  | some (.int i) => Q (.dat (.int (-i)))
  | _ => False
def dUn (f : RV → (RV → Prop) → Prop) (da : DTE) : DTE := fun δ Q X => da δ (fun r => f r Q) X
theorem de_neg (ha : PE X a (lE X.K W da)) : PE X (.UnaryOp .USub a pos) (lE X.K W (dUn bNeg da)) := by
  refine (pe_un un_neg ha).imp fun σ H Q h => ?_
  obtain ⟨B, δ, G, Q2, X2, R, h, k, kx⟩ := h
  refine ⟨B, δ, G, _, X2, R, h, fun r v G1 H1 w1 t1 o1 q1 => ?_, kx⟩
  unfold bNeg at q1
  split at q1
  · rename_i i e
    exact ⟨i, o1.int e, k (.dat (.int (-i))) _ G1 H1 w1 t1 (Dt.int _) q1⟩
  · exact q1.elim
end
end RB

set_option Elab.async false
set_option linter.all false
set_option maxRecDepth 100000
set_option maxHeartbeats 4000000
/-! RB4: subscripts, slices, built-in functions, calls, what is walked, comprehensions -/
namespace RB
open PySem PySem.Spec PyProof.Rows L2
/-! ### places, slices -/
theorem DtA.atI {K : PySem.W.Frag} {G : Hp} {ds : List D} {vs : List V} {i : Int} {d : D} (h : DtA K G vs ds) (e : L2.atI ds i = some d) : ∃ v, L2.atI vs i = some v ∧ Dt K G v d := by
  unfold L2.atI at e ⊢
  rw [h.length]
  cases z : ixN ds.length i with
  | none => rw [z] at e; cases e
  | some j => rw [z] at e; exact h.get e
def bIx (r1 r2 : RV) (Q : RV → Prop) : Prop := match r1.d?, r2.d? with
  | some (.list ds), some (.int i) => ∃ d, L2.atI ds i = some d ∧ Q (.dat d)
  | some (.tuple ds), some (.int i) => ∃ d, L2.atI ds i = some d ∧ Q (.dat d)
  | some (.str z), some (.int i) => ∃ c, z.length ≤ sizeLine ∧ L2.atI z.cps.toList i = some c ∧ Q (.dat (.str ⟨#[c]⟩))
  | _, _ => False
section
variable {K : PySem.W.Frag}
theorem o2_ix : Op2 K (rIx K) bIx := by
  intro M HB H0 G H x y r1 r2 Q2 Q w o1 o2 hf k
  unfold bIx at hf
  split at hf
  · rename_i ds i e1 e2
    obtain ⟨d, e, q⟩ := hf
    obtain ⟨a, us, rfl, h1, d1⟩ := o1.lst w.sub e1
    obtain ⟨v, ev, dv⟩ := d1.atI e
    exact .inl ⟨a, us, i, v, rfl, o2.int e2, SqL.of h1, ev, k (.dat d) v G H w .refl dv q⟩
  · rename_i ds i e1 e2
    obtain ⟨d, e, q⟩ := hf
    obtain ⟨a, us, rfl, h1, d1⟩ := o1.tup e1
    obtain ⟨v, ev, dv⟩ := d1.atI e
    exact .inr (.inl ⟨a, us, i, v, rfl, o2.int e2, same_sqT w.sub h1, ev, k (.dat d) v G H w .refl dv q⟩)
  · rename_i z i e1 e2
    obtain ⟨c, hz, e, q⟩ := hf
    exact .inr (.inr ⟨z, i, c, o1.str e1, o2.int e2, hz, e, k (.dat (.str _)) _ G H w .refl (Dt.str _) q⟩)
  · exact hf.elim
end
abbrev DTO := DSt → (Option Int → Prop) → (Addr → Prop) → Prop
def lO (K : PySem.W.Frag) (W : WX) (dp : DTO) : TO := fun σ H Q => ∃ (B : Base) (δ : DSt) (G : Hp) (Q2 : Option Int → Prop) (X2 : Addr → Prop), Rel K B δ σ G H ∧ dp δ Q2 X2 ∧
  (∀ o G' H', Wd B.M G' H' → Ext B.M G H G' H' → Q2 o → Q o H') ∧ XOk K W B δ σ X2
def dNoP : DTO := fun _ Q _ => Q none
def isI (r : RV) (Q : Int → Prop) : Prop := match r.d? with
  | some (.int i) => Q i
  | _ => False
def dPart (de : DTE) : DTO := fun δ Q X => de δ (fun r => isI r fun i => Q (some i)) X
def cutD (ds : List D) (lo hi : Option Int) : List D := (ds.drop (HT.sIx ds.length 0 lo)).take (HT.sIx ds.length ds.length hi - HT.sIx ds.length 0 lo)
theorem DtA.cut {K : PySem.W.Frag} {G : Hp} {ds : List D} {vs : List V} {lo hi : Option Int} (h : DtA K G vs ds) : DtA K G (cutV vs lo hi) (cutD ds lo hi) := by
  unfold cutV cutD
  rw [h.length]
  exact (h.drop _).take _
def bSl (lo hi : Option Int) (r : RV) (Q : RV → Prop) : Prop := match r.d? with
  | some (.list ds) => Q (.own (cutD ds lo hi))
  | some (.tuple ds) => Q (.dat (.tuple (cutD ds lo hi)))
  | some (.str z) => z.length ≤ sizeLine ∧ Q (.dat (.str (cutS z lo hi)))
  | _ => False
def dSl (de : DTE) (dl du : DTO) : DTE := fun δ Q X => de δ (fun r => dl δ (fun lo => du δ (fun hi => bSl lo hi r Q) X) X) X
def rSlAll (K : PySem.W.Frag) : V → Option Int → Option Int → Hp → VK → Prop := fun x lo hi H Q => rSlL K x lo hi H Q ∨ (rSlA K x lo hi H Q ∨ rSlS x lo hi H Q)
theorem sl_all {X : Cx} : SlR X (rSlAll X.K) := SlR.or sl_list (SlR.or sl_tupA sl_str)
/-! ### built-in functions of one and two arguments -/
def Op1 (K : PySem.W.Frag) (r : List V → Hp → VK → Prop) (f : RV → (RV → Prop) → Prop) : Prop := ∀ (M : Addr → Prop) (HB H0 G H : Hp) (x : V) (r1 : RV) (Q2 : RV → Prop) (Q : VK), Wd M G H → RvOk K M HB H0 G H x r1 → f r1 Q2 →
  (∀ q v G' H', Wd M G' H' → Ext M G H G' H' → RvOk K M HB H G' H' v q → Q2 q → Q v H') → r [x] H Q
section
variable {X : Cx} {W : WX} {a b c e : Expr} {es : List Expr} {da db dc de : DTE} {dl du : DTO} {lo hi : Option Expr} {pos pos' p p2 : Pos} {x : Str} {id T : String} {r : List V → Hp → VK → Prop}
theorem de_ix (ha : PE X a (lE X.K W da)) (hb : PE X b (lE X.K W db)) (hs : PlainIx b) : PE X (.Subscript a b pos) (lE X.K W (dBin bIx da db)) := (pe_ix ix_seq ha hb hs).imp fun _ _ _ h => lE_bin o2_ix h
theorem do_none : PO X none (lO X.K W dNoP) := ⟨fun pins s σ H Q I h => by
  obtain ⟨B, δ, G, Q2, X2, R, h, k, kx⟩ := h
  exact po_none.run pins s σ H Q I (k none G H R.wd .refl h)⟩
theorem do_some (he : PE X e (lE X.K W de)) : PO X (some e) (lO X.K W (dPart de)) := ⟨fun pins s σ H Q I h => by
  obtain ⟨B, δ, G, Q2, X2, R, h, k, kx⟩ := h
  refine (po_some he).run pins s σ H Q I ⟨B, δ, G, _, X2, R, h, fun r v G1 H1 w1 t1 o1 q1 => ?_, kx⟩
  unfold isI at q1
  split at q1
  · rename_i i e
    exact ⟨i, o1.int e, k (some i) G1 H1 w1 t1 q1⟩
  · exact q1.elim⟩
theorem de_sl (he : PE X e (lE X.K W de)) (hl : PO X lo (lO X.K W dl)) (hu : PO X hi (lO X.K W du)) : PE X (.Subscript e (.Slice lo hi none p2) pos) (lE X.K W (dSl de dl du)) := by
  refine (pe_slice sl_all he hl hu).imp fun σ H Q h => ?_
  obtain ⟨B, δ, G, Q2, X2, R, h, k, kx⟩ := h
  refine ⟨B, δ, G, _, X2, R, h, fun r v G1 H1 w1 t1 o1 q1 => ?_, kx⟩
  refine ⟨B, δ, G1, _, X2, R.step w1 t1, q1, fun l G2 H2 w2 t2 q2 => ?_, kx⟩
  refine ⟨B, δ, G2, _, X2, (R.step w1 t1).step w2 t2, q2, fun u G3 H3 w3 t3 q3 => ?_, kx⟩
  have o3 := (o1.mono t2).mono t3
  have t13 := (t1.trans t2).trans t3
  unfold bSl at q3
  split at q3
  · rename_i ds e
    obtain ⟨a, us, rfl, h1, d1⟩ := o3.lst w3.sub e
    exact .inl ⟨a, us, rfl, SqL.of h1, fun p hp => k (.own _) _ G3 _ (w3.alloc hp) (t13.trans (Ext.alloc hp)) ⟨p, _, rfl, none_early t13.hm p hp, w3.noG hp, w3.nm hp, upd_same, d1.cut⟩ q3⟩
  · rename_i ds e
    obtain ⟨a, us, rfl, h1, d1⟩ := o3.tup e
    refine .inr (.inl ⟨a, us, rfl, same_sqT w3.sub h1, fun e => ?_, fun _ p hp => ?_⟩)
    · have ec : cutD ds l u = ds := by
        unfold cutD
        rw [d1.length] at e
        rw [e.1, e.2]
        simp
      refine k (.dat (.tuple (cutD ds l u))) _ G3 H3 w3 t13 ?_ q3
      rw [ec]
      exact Dt.tup h1 d1
    · have s : Same G3 (upd G3 p (.tup (cutV us l u))) := same_upd (w3.noG hp)
      exact k (.dat (.tuple _)) _ _ _ (w3.allocG hp) (t13.trans (Ext.allocG w3 hp)) (Dt.tup (SqT.of upd_same) (d1.cut.mono s)) q3
  · rename_i z e
    exact .inr (.inr ⟨z, o3.str e, q3.1, k (.dat (.str _)) _ G3 H3 w3 t13 (Dt.str _) q3.2⟩)
  · exact q3.elim
def bRev (r : RV) (Q : RV → Prop) : Prop := match r.d? with
  | some (.list ds) => Q (.own ds.reverse)
  | _ => False
theorem de_rev {k : Nat} {p1 p3 : Pos} (he : PE X e (lE X.K W de)) : PE X (.Subscript e (.Slice none none (some (.UnaryOp .USub (.Constant (.int 1) k p1) p2)) p3) pos) (lE X.K W (dUn bRev de)) := by
  refine (pe_revL he).imp fun σ H Q h => ?_
  obtain ⟨B, δ, G, Q2, X2, R, h, k, kx⟩ := h
  refine ⟨B, δ, G, _, X2, R, h, fun r v G1 H1 w1 t1 o1 q1 => ?_, kx⟩
  unfold bRev at q1
  split at q1
  · rename_i ds e
    obtain ⟨a, us, rfl, h1, d1⟩ := o1.lst w1.sub e
    exact ⟨a, us, rfl, SqL.of h1, fun p hp => k (.own _) _ G1 _ (w1.alloc hp) (t1.trans (Ext.alloc hp)) ⟨p, _, rfl, none_early t1.hm p hp, w1.noG hp, w1.nm hp, upd_same, d1.rev⟩ q1⟩
  · exact q1.elim
theorem lE_un {f : RV → (RV → Prop) → Prop} {K : PySem.W.Frag} (hr : Op1 K r f) {σ : St} {H : Hp} {Q : VK} (h : lE K W (dUn f da) σ H Q) : tCB r (tCons (lE K W da) tNil) σ H Q := by
  obtain ⟨B, δ, G, Q2, X2, R, h, k, kx⟩ := h
  refine ⟨B, δ, G, _, X2, R, h, fun r1 x G1 H1 w1 t1 o1 q1 => ?_, kx⟩
  exact hr B.M B.H H G1 H1 x r1 Q2 Q w1 o1 q1 fun q v G2 H2 w2 t2 o2 q2 => k q v G2 H2 w2 (t1.trans t2) (o2.early t1.hm) q2
theorem de_b1 {f : RV → (RV → Prop) → Prop} (hc : CallR X (.builtin id) r) (hv : bootBuiltins x = some (.builtin id)) (hr : Op1 X.K r f) (hm : X.mg x = none) (ha : PE X a (lE X.K W da)) (hg : Gl X x := by rfl) (hn : x ≠ "__name__" := by decide) (hdb : (x == ("__debug__" : Str)) = false := by decide)
    (he : starEach [a] X.env = (false, eval a X.env) :: starEach [] X.env := by rfl) (hpl : (backTo pos (starEach [] X.env)).any (·.1) = false := by rfl) : PE X (.Call (.Name x p) [a] [] pos) (lE X.K W (dUn f da)) :=
  (pe_callB hc hg hm hv (pa_cons ha pa_nil he) hn hdb he hpl).imp fun _ _ _ h => lE_un hr h
theorem de_t1 {f : RV → (RV → Prop) → Prop} (hc : CallR X (.type T) r) (hv : bootBuiltins x = some (.type T)) (hr : Op1 X.K r f) (hm : X.mg x = none) (ha : PE X a (lE X.K W da)) (hg : Gl X x := by rfl) (hn : x ≠ "__name__" := by decide) (hdb : (x == ("__debug__" : Str)) = false := by decide)
    (he : starEach [a] X.env = (false, eval a X.env) :: starEach [] X.env := by rfl) (hpl : (backTo pos (starEach [] X.env)).any (·.1) = false := by rfl) : PE X (.Call (.Name x p) [a] [] pos) (lE X.K W (dUn f da)) :=
  (pe_callTy hc hg hm hv (pa_cons ha pa_nil he) hn hdb he hpl).imp fun _ _ _ h => lE_un hr h
/-- of two arguments -/
def Opl2 (K : PySem.W.Frag) (r : List V → Hp → VK → Prop) (f : RV → RV → (RV → Prop) → Prop) : Prop := Op2 K (fun x y H Q => r [x, y] H Q) f
theorem lE_un2 {f : RV → RV → (RV → Prop) → Prop} {K : PySem.W.Frag} (hr : Opl2 K r f) {σ : St} {H : Hp} {Q : VK} (h : lE K W (dBin f da db) σ H Q) : tCB r (tCons (lE K W da) (tCons (lE K W db) tNil)) σ H Q := lE_bin (r := fun x y H Q => r [x, y] H Q) hr h
theorem de_b2 {f : RV → RV → (RV → Prop) → Prop} (hc : CallR X (.builtin id) r) (hv : bootBuiltins x = some (.builtin id)) (hr : Opl2 X.K r f) (hm : X.mg x = none) (ha : PE X a (lE X.K W da)) (hb : PE X b (lE X.K W db)) (hg : Gl X x := by rfl) (hn : x ≠ "__name__" := by decide) (hdb : (x == ("__debug__" : Str)) = false := by decide)
    (he : starEach [a, b] X.env = (false, eval a X.env) :: starEach [b] X.env := by rfl) (he2 : starEach [b] X.env = (false, eval b X.env) :: starEach [] X.env := by rfl) (hpl : (backTo pos (starEach [b] X.env)).any (·.1) = false := by rfl) : PE X (.Call (.Name x p) [a, b] [] pos) (lE X.K W (dBin f da db)) :=
  (pe_callB hc hg hm hv (pa_cons ha (pa_cons hb pa_nil he2) he) hn hdb he hpl).imp fun _ _ _ h => lE_un2 hr h
end
section
variable {K : PySem.W.Frag}
def bLen (r : RV) (Q : RV → Prop) : Prop := match r.d? with
  | some (.list ds) => Q (.dat (.int ds.length))
  | some (.tuple ds) => Q (.dat (.int ds.length))
  | some (.str z) => z.length ≤ sizeLine ∧ Q (.dat (.int z.length))
  | _ => False
theorem o1_len : Op1 K (fun xs H Q => ∃ x n, xs = [x] ∧ LenV K x H n ∧ Q (.int n) H) bLen := by
  intro M HB H0 G H x r1 Q2 Q w o1 hf k
  unfold bLen at hf
  split at hf
  · rename_i ds e
    obtain ⟨a, us, rfl, h1, d1⟩ := o1.lst w.sub e
    exact ⟨_, ds.length, rfl, .inl ⟨us, SqL.of h1, d1.length.symm⟩, k (.dat (.int _)) _ G H w .refl (Dt.int _) hf⟩
  · rename_i ds e
    obtain ⟨a, us, rfl, h1, d1⟩ := o1.tup e
    exact ⟨_, ds.length, rfl, .inr ⟨us, same_sqT w.sub h1, d1.length.symm⟩, k (.dat (.int _)) _ G H w .refl (Dt.int _) hf⟩
  · rename_i z e
    have ez := o1.str e
    subst ez
    exact ⟨_, z.length, rfl, ⟨hf.1, rfl⟩, k (.dat (.int _)) _ G H w .refl (Dt.int _) hf.2⟩
  · exact hf.elim
def bInt (r : RV) (Q : RV → Prop) : Prop := match r.d? with
  | some (.int i) => Q (.dat (.int i))
  | some (.bool b) => Q (.dat (.int (if b then 1 else 0)))
  | _ => False
theorem o1_int : Op1 K (fun xs H Q => (∃ i, xs = [.int i] ∧ Q (.int i) H) ∨ ∃ k, xs = [.bl k] ∧ Q (.int (if k then 1 else 0)) H) bInt := by
  intro M HB H0 G H x r1 Q2 Q w o1 hf k
  unfold bInt at hf
  split at hf
  · rename_i i e
    have ez := o1.int e
    subst ez
    exact .inl ⟨i, rfl, k (.dat (.int _)) _ G H w .refl (Dt.int _) hf⟩
  · rename_i i e
    have ez := o1.bool e
    subst ez
    exact .inr ⟨i, rfl, k (.dat (.int _)) _ G H w .refl (Dt.int _) hf⟩
  · exact hf.elim
def bAbs (r : RV) (Q : RV → Prop) : Prop := match r.d? with
  | some (.int i) => Q (.dat (.int (if i < 0 then -i else i)))
  | _ => False
theorem o1_abs : Op1 K (fun xs H Q => ∃ i, xs = [.int i] ∧ Q (.int (if i < 0 then -i else i)) H) bAbs := by
  intro M HB H0 G H x r1 Q2 Q w o1 hf k
  unfold bAbs at hf
  split at hf
  · rename_i i e
    have ez := o1.int e
    subst ez
    exact ⟨i, rfl, k (.dat (.int _)) _ G H w .refl (Dt.int _) hf⟩
  · exact hf.elim
def bStr (r : RV) (Q : RV → Prop) : Prop := match r.d? with
  | some (.int i) => i.natAbs.log2 < 1920 ∧ Q (.dat (.str (toString i)))
  | _ => False
theorem o1_str : Op1 K (fun xs H Q => ∃ i, xs = [.int i] ∧ i.natAbs.log2 < 1920 ∧ Q (.str (toString i)) H) bStr := by
  intro M HB H0 G H x r1 Q2 Q w o1 hf k
  unfold bStr at hf
  split at hf
  · rename_i i e
    have ez := o1.int e
    subst ez
    exact ⟨i, rfl, hf.1, k (.dat (.str _)) _ G H w .refl (Dt.str _) hf.2⟩
  · exact hf.elim
def bList (r : RV) (Q : RV → Prop) : Prop := match r.d? with
  | some (.list ds) => Q (.own ds)
  | some (.tuple ds) => Q (.own ds)
  | _ => False
theorem o1_list : Op1 K (fun xs H Q => ∃ p ys, xs = [.ref p] ∧ (SqL K H p ys ∨ SqT K H p ys) ∧ ∀ l, H l = none → Q (.ref l) (upd H l (.lst ys))) bList := by
  intro M HB H0 G H x r1 Q2 Q w o1 hf k
  unfold bList at hf
  split at hf
  · rename_i ds e
    obtain ⟨a, us, rfl, h1, d1⟩ := o1.lst w.sub e
    exact ⟨a, us, rfl, .inl (SqL.of h1), fun p hp => k (.own _) _ G _ (w.alloc hp) (Ext.alloc hp) ⟨p, _, rfl, hp, w.noG hp, w.nm hp, upd_same, d1⟩ hf⟩
  · rename_i ds e
    obtain ⟨a, us, rfl, h1, d1⟩ := o1.tup e
    exact ⟨a, us, rfl, .inr (same_sqT w.sub h1), fun p hp => k (.own _) _ G _ (w.alloc hp) (Ext.alloc hp) ⟨p, _, rfl, hp, w.noG hp, w.nm hp, upd_same, d1⟩ hf⟩
  · exact hf.elim
def bTuple (r : RV) (Q : RV → Prop) : Prop := match r.d? with
  | some (.list ds) => Q (.dat (.tuple ds))
  | some (.tuple ds) => Q (.dat (.tuple ds))
  | _ => False
theorem o1_tuple : Op1 K (fun xs H Q => ∃ p ys, xs = [.ref p] ∧ ((SqL K H p ys ∧ ∀ l, H l = none → Q (.ref l) (upd H l (.tup ys))) ∨ (SqT K H p ys ∧ Q (.ref p) H))) bTuple := by
  intro M HB H0 G H x r1 Q2 Q w o1 hf k
  unfold bTuple at hf
  split at hf
  · rename_i ds e
    obtain ⟨a, us, rfl, h1, d1⟩ := o1.lst w.sub e
    refine ⟨a, us, rfl, .inl ⟨SqL.of h1, fun p hp => ?_⟩⟩
    have s : Same G (upd G p (.tup us)) := same_upd (w.noG hp)
    exact k (.dat (.tuple _)) _ _ _ (w.allocG hp) (Ext.allocG w hp) (Dt.tup (SqT.of upd_same) (d1.mono s)) hf
  · rename_i ds e
    obtain ⟨a, us, rfl, h1, d1⟩ := o1.tup e
    exact ⟨a, us, rfl, .inr ⟨same_sqT w.sub h1, k (.dat (.tuple _)) _ G H w .refl (Dt.tup h1 d1) hf⟩⟩
  · exact hf.elim
def bSorted (r : RV) (Q : RV → Prop) : Prop := match r.d? with
  | some (.list ds) => ∃ ns : List Int, ds = ns.map PyData.int ∧ ∀ ns' : List Int, ns'.Perm ns → ns'.Pairwise (· ≤ ·) → Q (.own (ns'.map PyData.int))
  | _ => False
theorem o1_sorted : Op1 K (rSortedI K) bSorted := by
  intro M HB H0 G H x r1 Q2 Q w o1 hf k
  unfold bSorted at hf
  split at hf
  · rename_i ds e
    obtain ⟨ns, rfl, q⟩ := hf
    obtain ⟨a, us, rfl, h1, d1⟩ := o1.lst w.sub e
    have eu := DtA.intsV d1
    subst eu
    exact ⟨a, ns, rfl, SqL.of h1, fun ns' p hP hS hp => k (.own _) _ G _ (w.alloc hp) (Ext.alloc hp) ⟨p, _, rfl, hp, w.noG hp, w.nm hp, upd_same, DtA.ints ns'⟩ (q ns' hP hS)⟩
  · exact hf.elim
def bSum (r : RV) (Q : RV → Prop) : Prop := match r.d? with
  | some (.list ds) => ∃ ns : List Int, ds = ns.map PyData.int ∧ Q (.dat (.int ns.sum))
  | _ => False
theorem o1_sum : Op1 K (rSum K) bSum := by
  intro M HB H0 G H x r1 Q2 Q w o1 hf k
  unfold bSum at hf
  split at hf
  · rename_i ds e
    obtain ⟨ns, rfl, q⟩ := hf
    obtain ⟨a, us, rfl, h1, d1⟩ := o1.lst w.sub e
    have eu := DtA.intsV d1
    subst eu
    exact ⟨a, ns, rfl, SqL.of h1, k (.dat (.int _)) _ G H w .refl (Dt.int _) q⟩
  · exact hf.elim
theorem o2_max : Opl2 K (fun xs H Q => ∃ i j, xs = [.int i, .int j] ∧ Q (.int (if j > i then j else i)) H) (bI2 fun i j => if j > i then j else i) := by
  intro M HB H0 G H x y r1 r2 Q2 Q w o1 o2 hf k
  unfold bI2 at hf
  split at hf
  · rename_i i j e1 e2
    exact ⟨i, j, by rw [o1.int e1, o2.int e2], k (.dat (.int _)) _ G H w .refl (Dt.int _) hf⟩
  · exact hf.elim
theorem o2_min : Opl2 K (fun xs H Q => ∃ i j, xs = [.int i, .int j] ∧ Q (.int (if j < i then j else i)) H) (bI2 fun i j => if j < i then j else i) := by
  intro M HB H0 G H x y r1 r2 Q2 Q w o1 o2 hf k
  unfold bI2 at hf
  split at hf
  · rename_i i j e1 e2
    exact ⟨i, j, by rw [o1.int e1, o2.int e2], k (.dat (.int _)) _ G H w .refl (Dt.int _) hf⟩
  · exact hf.elim
/-! ### isinstance of data, by a built-in class -/
inductive Ty0 where
  | int | bool | str | list | tuple | dict
def Ty0.s : Ty0 → String
  | .int => "int"
  | .bool => "bool"
  | .str => "str"
  | .list => "list"
  | .tuple => "tuple"
  | .dict => "dict"
def tyN : D → String
  | .none => "NoneType"
  | .bool _ => "bool"
  | .int _ => "int"
  | .str _ => "str"
  | .list _ => "list"
  | .tuple _ => "tuple"
  | .dict _ => "dict"
def isiD : Ty0 → D → Bool
  | .int, .int _ => true
  | .int, .bool _ => true
  | .bool, .bool _ => true
  | .str, .str _ => true
  | .list, .list _ => true
  | .tuple, .tuple _ => true
  | .dict, .dict _ => true
  | _, _ => false
theorem kitB_isi : ∀ (T : Ty0) (d : D), kitB (tyN d) T.s = some (isiD T d)
  | .int, .none => by show kitB "NoneType" "int" = some false; decide +kernel
  | .int, .bool _ => by show kitB "bool" "int" = some true; decide +kernel
  | .int, .int _ => by show kitB "int" "int" = some true; decide +kernel
  | .int, .str _ => by show kitB "str" "int" = some false; decide +kernel
  | .int, .list _ => by show kitB "list" "int" = some false; decide +kernel
  | .int, .tuple _ => by show kitB "tuple" "int" = some false; decide +kernel
  | .int, .dict _ => by show kitB "dict" "int" = some false; decide +kernel
  | .bool, .none => by show kitB "NoneType" "bool" = some false; decide +kernel
  | .bool, .bool _ => by show kitB "bool" "bool" = some true; decide +kernel
  | .bool, .int _ => by show kitB "int" "bool" = some false; decide +kernel
  | .bool, .str _ => by show kitB "str" "bool" = some false; decide +kernel
  | .bool, .list _ => by show kitB "list" "bool" = some false; decide +kernel
  | .bool, .tuple _ => by show kitB "tuple" "bool" = some false; decide +kernel
  | .bool, .dict _ => by show kitB "dict" "bool" = some false; decide +kernel
  | .str, .none => by show kitB "NoneType" "str" = some false; decide +kernel
  | .str, .bool _ => by show kitB "bool" "str" = some false; decide +kernel
  | .str, .int _ => by show kitB "int" "str" = some false; decide +kernel
  | .str, .str _ => by show kitB "str" "str" = some true; decide +kernel
  | .str, .list _ => by show kitB "list" "str" = some false; decide +kernel
  | .str, .tuple _ => by show kitB "tuple" "str" = some false; decide +kernel
  | .str, .dict _ => by show kitB "dict" "str" = some false; decide +kernel
  | .list, .none => by show kitB "NoneType" "list" = some false; decide +kernel
  | .list, .bool _ => by show kitB "bool" "list" = some false; decide +kernel
  | .list, .int _ => by show kitB "int" "list" = some false; decide +kernel
  | .list, .str _ => by show kitB "str" "list" = some false; decide +kernel
  | .list, .list _ => by show kitB "list" "list" = some true; decide +kernel
  | .list, .tuple _ => by show kitB "tuple" "list" = some false; decide +kernel
  | .list, .dict _ => by show kitB "dict" "list" = some false; decide +kernel
  | .tuple, .none => by show kitB "NoneType" "tuple" = some false; decide +kernel
  | .tuple, .bool _ => by show kitB "bool" "tuple" = some false; decide +kernel
  | .tuple, .int _ => by show kitB "int" "tuple" = some false; decide +kernel
  | .tuple, .str _ => by show kitB "str" "tuple" = some false; decide +kernel
  | .tuple, .list _ => by show kitB "list" "tuple" = some false; decide +kernel
  | .tuple, .tuple _ => by show kitB "tuple" "tuple" = some true; decide +kernel
  | .tuple, .dict _ => by show kitB "dict" "tuple" = some false; decide +kernel
  | .dict, .none => by show kitB "NoneType" "dict" = some false; decide +kernel
  | .dict, .bool _ => by show kitB "bool" "dict" = some false; decide +kernel
  | .dict, .int _ => by show kitB "int" "dict" = some false; decide +kernel
  | .dict, .str _ => by show kitB "str" "dict" = some false; decide +kernel
  | .dict, .list _ => by show kitB "list" "dict" = some false; decide +kernel
  | .dict, .tuple _ => by show kitB "tuple" "dict" = some false; decide +kernel
  | .dict, .dict _ => by show kitB "dict" "dict" = some true; decide +kernel
theorem sqT_ty {G : Hp} {a : Addr} {xs : List V} (h : SqT K G a xs) : TyX K G (.ref a) (.type "tuple") := by
  rcases h with (h | ⟨o, h⟩) | ⟨o, its, n, h, c, _⟩
  · exact .base (.tup h)
  · exact .fTuple h
  · exact .kTuple h c
theorem rv_ty {M : Addr → Prop} {HB H0 G H : Hp} {v : V} {r : RV} {d : D} (s : Same G H) (o : RvOk K M HB H0 G H v r) (e : r.d? = some d) : TyX K H v (.type (tyN d)) := by
  cases d with
  | none =>
    have q := RvOk.dt (by intro _ z; cases z) o e
    cases q
    exact .base .non
  | bool b => rw [o.bool e]; exact .base (.bl _)
  | int b => rw [o.int e]; exact .base (.int _)
  | str b => rw [o.str e]; exact .base (.str _)
  | list ds =>
    obtain ⟨a, xs, rfl, h, _⟩ := o.lst s e
    exact .base (.lst h)
  | tuple ds =>
    obtain ⟨a, xs, rfl, h, _⟩ := o.tup e
    exact sqT_ty (same_sqT s h)
  | dict _ =>
    have q := RvOk.dt (by intro _ z; cases z) o e
    cases q
def bIsi (T : Ty0) (r : RV) (Q : RV → Prop) : Prop := match r.d? with
  | some d => Q (.dat (.bool (isiD T d)))
  | none => False
def bIsi2 (T U : Ty0) (r : RV) (Q : RV → Prop) : Prop := match r.d? with
  | some d => Q (.dat (.bool (isiD T d || isiD U d)))
  | none => False
end
section
variable {X : Cx} {W : WX} {a : Expr} {da : DTE} {pos p p2 p3 : Pos} {x y : Str}
theorem de_isi (T : Ty0) (hv : bootBuiltins y = some (.type T.s)) (hmy : X.mg y = none) (hm : X.mg "isinstance" = none) (ha : PE X a (lE X.K W da)) (hgy : Gl X y := by rfl) (hny : y ≠ "__name__" := by decide) (hdby : (y == ("__debug__" : Str)) = false := by decide) (hg : Gl X "isinstance" := by rfl)
    (he : starEach [a, .Name y p2] X.env = (false, eval a X.env) :: starEach [.Name y p2] X.env := by rfl) (he2 : starEach [.Name y p2] X.env = (false, eval (.Name y p2) X.env) :: starEach [] X.env := by rfl) (hpl : (backTo pos (starEach [.Name y p2] X.env)).any (·.1) = false := by rfl) :
    PE X (.Call (.Name "isinstance" p) [a, .Name y p2] [] pos) (lE X.K W (dUn (bIsi T) da)) := by
  refine (pe_callB call_isi hg hm boot_isinstance (pa_cons ha (pa_cons (pe_bltn (v := .ty T.s) hgy hmy hv rfl hny hdby) pa_nil he2) he) (by decide) (by decide) he hpl).imp fun σ H Q h => ?_
  obtain ⟨B, δ, G, Q2, X2, R, h, k, kx⟩ := h
  refine ⟨B, δ, G, _, X2, R, h, fun r1 x G1 H1 w1 t1 o1 q1 => ?_, kx⟩
  unfold bIsi at q1
  split at q1
  · rename_i d e
    exact ⟨x, _, _, _, isiD T d, rfl, .ty _, rv_ty w1.sub o1 e, kit_ty (kitB_isi T d), k (.dat (.bool _)) _ G1 H1 w1 t1 (Dt.bl _) q1⟩
  · exact q1.elim
theorem de_isi2 (T U : Ty0) {z : Str} {k0 : Nat} {p4 : Pos} (hv : bootBuiltins y = some (.type T.s)) (hz : bootBuiltins z = some (.type U.s)) (hmy : X.mg y = none) (hmz : X.mg z = none) (hm : X.mg "isinstance" = none) (ha : PE X a (lE X.K W da)) (hgy : Gl X y := by rfl) (hgz : Gl X z := by rfl) (hny : y ≠ "__name__" := by decide) (hdby : (y == ("__debug__" : Str)) = false := by decide) (hnz : z ≠ "__name__" := by decide) (hdbz : (z == ("__debug__" : Str)) = false := by decide) (hg : Gl X "isinstance" := by rfl)
    (he : starEach [a, .Tuple [.Name y p2, .Name z p3] k0 p4] X.env = (false, eval a X.env) :: starEach [.Tuple [.Name y p2, .Name z p3] k0 p4] X.env := by rfl) (he2 : starEach [.Tuple [.Name y p2, .Name z p3] k0 p4] X.env = (false, eval (.Tuple [.Name y p2, .Name z p3] k0 p4) X.env) :: starEach [] X.env := by rfl) (hpl : (backTo pos (starEach [.Tuple [.Name y p2, .Name z p3] k0 p4] X.env)).any (·.1) = false := by rfl)
    (he3 : starEach [.Name y p2, .Name z p3] X.env = (false, eval (.Name y p2) X.env) :: starEach [.Name z p3] X.env := by rfl) (he4 : starEach [.Name z p3] X.env = (false, eval (.Name z p3) X.env) :: starEach [] X.env := by rfl) :
    PE X (.Call (.Name "isinstance" p) [a, .Tuple [.Name y p2, .Name z p3] k0 p4] [] pos) (lE X.K W (dUn (bIsi2 T U) da)) := by
  refine (pe_callB call_isiT hg hm boot_isinstance (pa_cons ha (pa_cons (pe_tup (pa_cons (pe_bltn (v := .ty T.s) hgy hmy hv rfl hny hdby) (pa_cons (pe_bltn (v := .ty U.s) hgz hmz hz rfl hnz hdbz) pa_nil he4) he3)) pa_nil he2) he) (by decide) (by decide) he hpl).imp fun σ H Q h => ?_
  obtain ⟨B, δ, G, Q2, X2, R, h, k, kx⟩ := h
  refine ⟨B, δ, G, _, X2, R, h, fun r1 x G1 H1 w1 t1 o1 q1 => ?_, kx⟩
  unfold bIsi2 at q1
  split at q1
  · rename_i d e
    refine ⟨by show 2 ≤ sizeLine; decide, fun tp hp => ⟨x, tp, _, _, _, isiD T d || isiD U d, rfl, upd_same, .cons (.ty _) (.cons (.ty _) .nil), rv_ty (w1.alloc hp).sub (o1.mono (Ext.alloc hp)) e, ?_, k (.dat (.bool _)) _ G1 _ (w1.alloc hp) (t1.trans (Ext.alloc hp)) (Dt.bl _) q1⟩⟩
    refine kitAny_cons (kit_ty (kitB_isi T d)) (fun e1 => ?_) (fun e1 => ?_)
    · rw [e1, Bool.false_or]
      exact kitAny_cons (kit_ty (kitB_isi U d)) (fun e2 => by rw [e2]; exact kitAny_nil) (fun e2 => e2)
    · rw [e1, Bool.true_or]
  · exact q1.elim
end
end RB

set_option Elab.async false
set_option linter.all false
set_option maxRecDepth 100000
set_option maxHeartbeats 4000000
/-! RB5: calls of defs, what is walked, comprehensions, statements, a def's rule -/
namespace RB
open PySem PySem.Spec PyProof.Rows L2
/-! ### a def's promise by data -/
abbrev DSp := List RV → (RV → Prop) → (Addr → Prop) → Prop
def spD (K : PySem.W.Frag) (n : Nat) (dsp : DSp) : Sp := fun vs H Q E => ∃ (M : Addr → Prop) (HB G : Hp) (rs : List RV) (Q2 : RV → Prop) (X2 : Addr → Prop), Wd M G H ∧ Paired (fun v r => AOk K M HB G v r) vs rs ∧ rs.length = n ∧ dsp rs Q2 X2 ∧
  (∀ r v G' H', Wd M G' H' → Ext M G H G' H' → RvOk K M H H G' H' v r → Q2 r → Q v H') ∧ ∀ C G' H', Wd M G' H' → Ext M G H G' H' → X2 C → E (.ref C) none H'
theorem pairedLen {α β : Type} {F : α → β → Prop} : ∀ {l : List α} {l' : List β}, Paired F l l' → l.length = l'.length
  | _, _, .nil => rfl
  | _, _, .cons _ t => by rw [List.length_cons, List.length_cons, pairedLen t]
theorem spD_len {K : PySem.W.Frag} {n : Nat} {dsp : DSp} {ps : List Str} (e : ps.length = n) (vs : List V) (H : Hp) (Q : VK) (E : XK) (h : spD K n dsp vs H Q E) : vs.length = ps.length := by
  obtain ⟨M, HB, G, rs, Q2, X2, w, a, l, _⟩ := h
  rw [pairedLen a, l, e]
/-- a new list is, for the one that is called, data as other data -/
def RV.old : RV → RV
  | .new d => .dat d
  | r => r
theorem AOk.old {K : PySem.W.Frag} {M : Addr → Prop} {HB HB' G : Hp} {v : V} : ∀ {r : RV}, AOk K M HB G v r → AOk K M HB' G v r.old
  | .dat d, h => h
  | .new d, h => Nw.dt h
  | .raw v, h => h
  | .sto, h => h
  | .own _, h => h.elim
  | .view _, h => h.elim
theorem olds {K : PySem.W.Frag} {M : Addr → Prop} {HB HB' G : Hp} : ∀ {rs : List RV} {vs : List V}, Paired (fun v r => AOk K M HB G v r) vs rs → Paired (fun v r => AOk K M HB' G v r) vs (rs.map RV.old)
  | [], _, .nil => .nil
  | r :: rs, _, .cons h t => .cons h.old (olds t)
/-- the call of a def -/
structure Cal (dsp : DSp) (n : Nat) (rs : List RV) (Q : RV → Prop) (X : Addr → Prop) : Prop where
  len : rs.length = n
  h : dsp (rs.map RV.old) Q X
def dCall (n : Nat) (dsp : DSp) (dA : DTA) : DTE := fun δ Q X => dA δ (fun rs => Cal dsp n rs Q X) X
section
variable {X : Cx} {W : WX} {k : Nat} {f : Addr} {fd : FuncData} {ps : List Str} {dsp : DSp} {n : Nat} {x : Str} {p pos : Pos} {e : Expr} {es : List Expr} {dA : DTA} {de : DTE}
theorem lE_call {K : PySem.W.Frag} {σ : St} {H : Hp} {Q : VK} (h : lE K W (dCall n dsp dA) σ H Q) : tCallS (spD K n dsp) (WE W) (lA K W dA) σ H Q := by
  obtain ⟨B, δ, G, Q2, X2, R, h, kq, kx⟩ := h
  refine ⟨B, δ, G, _, X2, R, h, fun rs vs G1 H1 w1 t1 o1 q1 => ?_, kx⟩
  refine ⟨B.M, B.H, G1, rs.map RV.old, Q2, X2, w1, olds o1, by rw [List.length_map]; exact q1.len, q1.h, fun r v G2 H2 w2 t2 o2 q2 => ?_, fun C G2 H2 w2 t2 q2 => ?_⟩
  · exact kq r v G2 H2 w2 (t1.trans t2) ((o2.early t1.hm).base (R.ext.trans t1).hm) q2
  · exact kx C G2 H2 ((R.step w1 t1).step w2 t2) q2
theorem de_call (F : FnOk X.prog X.w X.K X.mg X.base (L2.CX X.prog X.w) k f fd ps (spD X.K n dsp)) (hr : Room k X.A) (hm : X.mg x = some (.ref f)) (hk : PySem.W.keepIn X.K (.ref f) = true) (hb : Binds X.K fd ps []) (tk : Takes X W)
    (ha : PA X (e :: es) (lA X.K W dA)) (hg : Gl X x := by rfl) (hdb : (x == ("__debug__" : Str)) = false := by decide) (he : starEach (e :: es) X.env = (false, eval e X.env) :: starEach es X.env := by rfl) (hpl : (backTo pos (starEach es X.env)).any (·.1) = false := by rfl) :
    PE X (.Call (.Name x p) (e :: es) [] pos) (lE X.K W (dCall n dsp dA)) := (pe_callS F hr hg hm hk hb (fun σ => passAt tk σ) ha hdb he hpl).imp fun _ _ _ h => lE_call h

/-! ### what is walked: its items as data -/
abbrev DSrc := DSt → (List D → Prop) → (Addr → Prop) → Prop
structure WalkD (K : PySem.W.Frag) (M : Addr → Prop) (G : Hp) (J : It) (ds : List D) : Prop where
  go : ∀ i G2 H2, Same G G2 → Wd M G2 H2 → i < ds.length → J.go i H2
  yld : ∀ i G2 H2 x H', Same G G2 → Wd M G2 H2 → i < ds.length → J.yld i H2 x H' → ∃ d G', ds[i]? = some d ∧ Wd M G' H' ∧ Ext M G2 H2 G' H' ∧ Dt K G' x d
  stop : ∀ i G2 H2, Same G G2 → Wd M G2 H2 → ds.length ≤ i → J.stop i H2
def lI (K : PySem.W.Frag) (W : WX) (dr : DSrc) : TI := fun σ H R => ∃ (B : Base) (δ : DSt) (G : Hp) (Q2 : List D → Prop) (X2 : Addr → Prop), Rel K B δ σ G H ∧ dr δ Q2 X2 ∧
  (∀ J ds G' H', Wd B.M G' H' → Ext B.M G H G' H' → WalkD K B.M G' J ds → Q2 ds → R J H') ∧ XOk K W B δ σ X2
theorem walk_list {K : PySem.W.Frag} {M : Addr → Prop} {G : Hp} {a : Addr} {xs : List V} {ds : List D} (h : G a = some (.lst xs)) (q : DtA K G xs ds) : WalkD K M G (Itl K a) ds where
  go := fun i G2 H2 s w hi => by
    obtain ⟨v, e, _⟩ := q.get (List.getElem?_eq_getElem hi)
    exact ⟨xs, v, SqL.of (w.sub _ _ (s _ _ h)), e⟩
  yld := fun i G2 H2 x H' s w hi y => by
    obtain ⟨e, y⟩ := y
    subst e
    obtain ⟨d, ed, dd⟩ := q.getV (y xs (SqL.of (w.sub _ _ (s _ _ h))))
    exact ⟨d, G2, ed, w, .refl, dd.mono s⟩
  stop := fun i G2 H2 s w hi => ⟨xs, SqL.of (w.sub _ _ (s _ _ h)), by rw [q.length]; exact hi⟩
theorem walk_tup {K : PySem.W.Frag} {M : Addr → Prop} {G : Hp} {a : Addr} {xs : List V} {ds : List D} (h : SqT K G a xs) (q : DtA K G xs ds) : WalkD K M G (Itt K a) ds where
  go := fun i G2 H2 s w hi => by
    obtain ⟨v, e, _⟩ := q.get (List.getElem?_eq_getElem hi)
    exact ⟨xs, v, same_sqT w.sub (same_sqT s h), e⟩
  yld := fun i G2 H2 x H' s w hi y => by
    obtain ⟨e, y⟩ := y
    subst e
    obtain ⟨d, ed, dd⟩ := q.getV (y xs (same_sqT w.sub (same_sqT s h)))
    exact ⟨d, G2, ed, w, .refl, dd.mono s⟩
  stop := fun i G2 H2 s w hi => ⟨xs, same_sqT w.sub (same_sqT s h), by rw [q.length]; exact hi⟩
/-- the ints lo, lo + 1, .. -/
def rngD (lo : Int) (n : Nat) : List D := (List.range n).map fun i => .int (lo + (i : Nat))
theorem rngD_length (lo : Int) (n : Nat) : (rngD lo n).length = n := by unfold rngD; rw [List.length_map, List.length_range]
theorem rngD_get {lo : Int} {n i : Nat} {d : D} (h : (rngD lo n)[i]? = some d) : i < n ∧ d = .int (lo + i) := by
  have hi : i < n := by
    have := (List.getElem?_eq_some_iff.mp h).1
    rwa [rngD_length] at this
  unfold rngD at h
  rw [List.getElem?_map, List.getElem?_range hi] at h
  exact ⟨hi, (Option.some.inj h).symm⟩
theorem rngD_at {lo : Int} {n i : Nat} (h : i < n) : (rngD lo n)[i]? = some (.int (lo + i)) := by
  unfold rngD
  rw [List.getElem?_map, List.getElem?_range h]
  rfl
theorem walk_rng {K : PySem.W.Frag} {M : Addr → Prop} {G : Hp} {lo : Int} {n : Nat} : WalkD K M G (Itr lo n) (rngD lo n) where
  go := fun i G2 H2 s w hi => by rw [rngD_length] at hi; exact hi
  yld := fun i G2 H2 x H' s w hi y => by
    obtain ⟨e, y⟩ := y
    subst e y
    rw [rngD_length] at hi
    exact ⟨_, G2, rngD_at hi, w, .refl, Dt.int _⟩
  stop := fun i G2 H2 s w hi => by rw [rngD_length] at hi; exact hi
theorem PI.or {tg l : Expr} {t u : TI} (h1 : PI X tg l t) (h2 : PI X tg l u) : PI X tg l (fun σ H R => t σ H R ∨ u σ H R) := ⟨fun pins s σ H R I h => h.elim (h1.run pins s σ H R I) (h2.run pins s σ H R I)⟩
theorem _root_.L2.PI.imp {tg l : Expr} {t u : TI} (h : PI X tg l t) (i : ∀ σ H R, u σ H R → t σ H R) : PI X tg l u := ⟨fun pins s σ H R I q => h.run pins s σ H R I (i _ _ _ q)⟩
/-- a list or a tuple; the value decides: told by lE twice is one evaluation -/
def isSq (r : RV) (Q : List D → Prop) : Prop := match r with
  | .dat (.list ds) => Q ds
  | .dat (.tuple ds) => Q ds
  | .new (.list ds) => Q ds
  | .new (.tuple ds) => Q ds
  | .own ds => Q ds
  | _ => False
def sLst (de : DTE) : DSrc := fun δ Q X => de δ (fun r => fzQ r fun r' => match r'.d? with
  | some (.list ds) => Q ds
  | _ => False) X
def sTup (de : DTE) : DSrc := fun δ Q X => de δ (fun r => match r.d? with
  | some (.tuple ds) => Q ds
  | _ => False) X
theorem di_lst {tg : Expr} (he : PE X e (lE X.K W de)) : PI X tg e (lI X.K W (sLst de)) := by
  refine (pi_list he).imp fun σ H R h => ?_
  obtain ⟨B, δ, G, Q2, X2, R', h, kq, kx⟩ := h
  refine ⟨B, δ, G, _, X2, R', h, fun r v G1 H1 w1 t1 o1 q1 => ?_, kx⟩
  obtain ⟨r', e1, q1⟩ := fzQ_some q1
  obtain ⟨G2, w2, t2, s2, o2⟩ := o1.fz w1 t1 e1
  have fin : ∀ ds : List D, Dt X.K G2 v (.list ds) → Q2 ds → ∃ a, v = .ref a ∧ (∃ xs, SqL X.K H1 a xs) ∧ R (Itl X.K a) H1 := fun ds dd q => by
    cases dd with
    | lst h1 h2 => exact ⟨_, rfl, ⟨_, SqL.of (w2.sub _ _ h1)⟩, kq _ ds G2 H1 w2 t2 (walk_list h1 h2) q⟩
  cases r' with
  | dat d =>
    cases d with
    | list ds => exact fin ds o2 q1
    | _ => exact q1.elim
  | new d =>
    cases d with
    | list ds => exact fin ds (Nw.dt o2) q1
    | _ => exact q1.elim
  | own ds => exact o2.elim
  | view ds => exact o2.elim
  | raw _ => exact q1.elim
  | sto => exact q1.elim
theorem di_tup {tg : Expr} (he : PE X e (lE X.K W de)) : PI X tg e (lI X.K W (sTup de)) := by
  refine (pi_tup he).imp fun σ H R h => ?_
  obtain ⟨B, δ, G, Q2, X2, R', h, kq, kx⟩ := h
  refine ⟨B, δ, G, _, X2, R', h, fun r v G1 H1 w1 t1 o1 q1 => ?_, kx⟩
  split at q1
  · rename_i ds e1
    obtain ⟨a, xs, rfl, h1, d1⟩ := o1.tup e1
    exact ⟨_, rfl, ⟨_, same_sqT w1.sub h1⟩, kq _ ds G1 H1 w1 t1 (walk_tup h1 d1) q1⟩
  · exact q1.elim
def RgI (i : Int) : Prop := -(2 ^ 62) ≤ i ∧ i < 2 ^ 62
def sRng1 (de : DTE) : DSrc := fun δ Q X => de δ (fun r => isI r fun j => RgI j ∧ Q (rngD 0 j.toNat)) X
def sRng2 (da db : DTE) : DSrc := fun δ Q X => da δ (fun r => isI r fun i => db δ (fun s => isI s fun j => (RgI i ∧ RgI j) ∧ Q (rngD i (j - i).toNat)) X) X
theorem isI_ok {K : PySem.W.Frag} {M : Addr → Prop} {HB H0 G H : Hp} {v : V} {r : RV} {Q : Int → Prop} (o : RvOk K M HB H0 G H v r) (q : isI r Q) : ∃ i, v = .int i ∧ Q i := by
  unfold isI at q
  split at q
  · rename_i i e
    exact ⟨i, o.int e, q⟩
  · exact q.elim
theorem di_rng1 {tg a : Expr} (hm : X.mg "range" = none) (ha : PE X a (lE X.K W de)) (hg : Gl X "range" := by rfl) (hs : starEach [a] X.env = [(false, eval a X.env)] := by rfl) (hs2 : starEach [a] X.env = (false, eval a X.env) :: starEach [] X.env := by rfl) : PI X tg (.Call (.Name "range" p) [a] [] pos) (lI X.K W (sRng1 de)) := by
  refine (pi_range1 hg hm (pa_cons ha pa_nil hs2) hs).imp fun σ H R h => ?_
  obtain ⟨B, δ, G, Q2, X2, R', h, kq, kx⟩ := h
  refine ⟨B, δ, G, _, X2, R', h, fun r v G1 H1 w1 t1 o1 q1 => ?_, kx⟩
  obtain ⟨j, rfl, ⟨b1, b2⟩, q⟩ := isI_ok o1 q1
  exact ⟨j, rfl, b1, b2, kq _ _ G1 H1 w1 t1 walk_rng q⟩
theorem di_rng2 {tg a b : Expr} {da db : DTE} (hm : X.mg "range" = none) (ha : PE X a (lE X.K W da)) (hb : PE X b (lE X.K W db)) (hg : Gl X "range" := by rfl) (hs : starEach [a, b] X.env = [(false, eval a X.env), (false, eval b X.env)] := by rfl) (hs2 : starEach [b] X.env = [(false, eval b X.env)] := by rfl)
    (hs3 : starEach [a, b] X.env = (false, eval a X.env) :: starEach [b] X.env := by rfl) (hs4 : starEach [b] X.env = (false, eval b X.env) :: starEach [] X.env := by rfl) : PI X tg (.Call (.Name "range" p) [a, b] [] pos) (lI X.K W (sRng2 da db)) := by
  refine (pi_range2 hg hm (pa_cons ha (pa_cons hb pa_nil hs4) hs3) hs hs2).imp fun σ H R h => ?_
  obtain ⟨B, δ, G, Q2, X2, R', h, kq, kx⟩ := h
  refine ⟨B, δ, G, _, X2, R', h, fun r v G1 H1 w1 t1 o1 q1 => ?_, kx⟩
  obtain ⟨i, rfl, q1⟩ := isI_ok o1 q1
  refine ⟨B, δ, G1, _, X2, R'.step w1 t1, q1, fun r2 v2 G2 H2 w2 t2 o2 q2 => ?_, kx⟩
  obtain ⟨j, rfl, ⟨⟨b1, b2⟩, b3, b4⟩, q⟩ := isI_ok o2 q2
  exact ⟨i, j, rfl, ⟨b1, b2, b3, b4⟩, kq _ _ G2 H2 w2 (t1.trans t2) walk_rng q⟩
/-- list(range(..)) -/
theorem rgV_ints (a b : Int) : rgV a b = ((List.range (b - a).toNat).map fun i => a + ((i : Nat) : Int)).map V.int := by
  unfold rgV
  rw [List.map_map]
  rfl
def rngI (a : Int) (n : Nat) : List Int := (List.range n).map fun i => a + ((i : Nat) : Int)
theorem rngD_ints (a : Int) (n : Nat) : rngD a n = (rngI a n).map PyData.int := by
  unfold rngD rngI
  rw [List.map_map]
  rfl
def dLr1 (de : DTE) : DTE := fun δ Q X => de δ (fun r => isI r fun j => (0 ≤ j ∧ j ≤ 16777216) ∧ Q (.own (rngD 0 j.toNat))) X
theorem de_listrng1 {a : Expr} {p2 : Pos} {pos2 : Pos} (hc : X.calm = true) (hml : X.mg "list" = none) (hm : X.mg "range" = none) (ha : PE X a (lE X.K W de)) (hgl : Gl X "list" := by rfl) (hg : Gl X "range" := by rfl) (na : starEach [a] X.env = (false, eval a X.env) :: starEach [] X.env := by rfl)
    (na2 : starEach [.Call (.Name "range" p2) [a] [] pos2] X.env = (false, eval (.Call (.Name "range" p2) [a] [] pos2) X.env) :: starEach [] X.env := by rfl) : PE X (.Call (.Name "list" p) [.Call (.Name "range" p2) [a] [] pos2] [] pos) (lE X.K W (dLr1 de)) := by
  refine (pe_listRg hc hgl hml (prg_1 hg hm ha na) na2).imp fun σ H Q h => ?_
  obtain ⟨B, δ, G, Q2, X2, R', h, kq, kx⟩ := h
  refine ⟨B, δ, G, _, X2, R', h, fun r v G1 H1 w1 t1 o1 q1 => ?_, kx⟩
  obtain ⟨j, rfl, ⟨b1, b2⟩, q⟩ := isI_ok o1 q1
  refine ⟨j, rfl, RgOk.of_le (by omega) b2 (by omega) b1, fun p hp => ?_⟩
  refine kq (.own _) _ G1 _ (w1.alloc hp) (t1.trans (Ext.alloc hp)) ⟨p, _, rfl, none_early t1.hm p hp, w1.noG hp, w1.nm hp, upd_same, ?_⟩ q
  rw [rgV_ints, rngD_ints, Int.sub_zero]
  exact DtA.ints _
end
/-! ### targets -/
inductive Tg0 where
  | nm (i : Nat) | tp (is : List Nat)
def gNs : List Nat → TGs
  | [] => gNil
  | i :: is => gCons (gName i) (gNs is)
def gTg (K : PySem.W.Frag) : Tg0 → TG
  | .nm i => gName i
  | .tp is => gTup K is.length (gNs is)
def setD (tg : Tg0) (d : D) (δ : DSt) (N : DSt → Prop) : Prop := match tg with
  | .nm i => N (δ.set i (.dat d))
  | .tp is => match d with
    | .tuple ds => ds.length = is.length ∧ N ((is.zip ds).foldl (fun s p => s.set p.1 (.dat p.2)) δ)
    | _ => False
theorem rel_sets {K : PySem.W.Frag} {B : Base} {G H : Hp} {Q : St → Hp → Prop} {N : DSt → Prop} (kq : ∀ δ σ, Rel K B δ σ G H → N δ → Q σ H) : ∀ (is : List Nat) (ds : List D) (vs : List V) (δ : DSt) (σ : St), Rel K B δ σ G H → DtA K G vs ds → ds.length = is.length → N ((is.zip ds).foldl (fun s p => s.set p.1 (.dat p.2)) δ) → gNs is vs σ H Q
  | [], [], _, δ, σ, R, h, _, n => by cases h; exact ⟨rfl, kq δ σ R n⟩
  | [], d :: ds, _, δ, σ, R, h, e, n => by simp at e
  | i :: is, [], _, δ, σ, R, h, e, n => by simp at e
  | i :: is, d :: ds, _, δ, σ, R, h, e, n => by
    cases h with
    | cons h1 h2 =>
      refine ⟨_, _, rfl, ?_⟩
      exact rel_sets kq is ds _ _ _ (R.set R.wd .refl (i := i) (s := .dat d) ⟨_, rfl, h1⟩ (fun _ _ z => nomatch z)) h2 (by simpa using e) n
theorem tg_ok {K : PySem.W.Frag} {B : Base} {G H : Hp} {Q : St → Hp → Prop} {N : DSt → Prop} (kq : ∀ δ σ, Rel K B δ σ G H → N δ → Q σ H) {tg : Tg0} {d : D} {v : V} {δ : DSt} {σ : St} (R : Rel K B δ σ G H) (h : Dt K G v d) (n : setD tg d δ N) : gTg K tg v σ H Q := by
  cases tg with
  | nm i => exact kq _ _ (R.set R.wd .refl (i := i) (s := .dat d) ⟨_, rfl, h⟩ (fun _ _ z => nomatch z)) n
  | tp is =>
    cases d with
    | tuple ds =>
      obtain ⟨e, n⟩ := n
      cases h with
      | tup h1 h2 => exact ⟨_, _, rfl, same_sqT R.wd.sub h1, by rw [h2.length]; exact e, rel_sets kq is ds _ δ σ R h2 e n⟩
    | _ => exact n.elim
end RB

set_option Elab.async false
set_option linter.all false
set_option maxRecDepth 100000
set_option maxHeartbeats 4000000
/-! RB6: comprehensions, statements, a def's rule -/
namespace RB
open PySem PySem.Spec PyProof.Rows L2
/-! ### statements -/
structure DE2 where
  nx : DSt → Prop
  rt : RV → DSt → Prop
  bk : DSt → Prop
  ct : DSt → Prop
  ex : Addr → DSt → Prop
abbrev DTS := DE2 → DSt → Prop
structure EndsOk (K : PySem.W.Frag) (B : Base) (W : WX) (D : Ends) (D2 : DE2) : Prop where
  nx : ∀ δ σ G H, Rel K B δ σ G H → D2.nx δ → D.nx σ H
  bk : ∀ δ σ G H, Rel K B δ σ G H → D2.bk δ → D.bk σ H
  ct : ∀ δ σ G H, Rel K B δ σ G H → D2.ct δ → D.ct σ H
  rt : ∀ r v δ σ G H, Rel K B δ σ G H → RvOk K B.M B.H B.H G H v r → D2.rt r δ → D.rt v H
  ex : ∀ C δ σ G H, Rel K B δ σ G H → D2.ex C δ → W (.ref C) none σ H
def lS (K : PySem.W.Frag) (W : WX) (ds : DTS) : TS := fun D σ H => ∃ (B : Base) (δ : DSt) (G : Hp) (D2 : DE2), Rel K B δ σ G H ∧ EndsOk K B W D D2 ∧ ds D2 δ
theorem _root_.L2.PS.imp {X : Cx} {e : Stmt} {t u : TS} (h : PS X e t) (i : ∀ D σ H, u D σ H → t D σ H) : PS X e u := ⟨fun pins s σ H D I q => h.run pins s σ H D I (i _ _ _ q)⟩
theorem _root_.L2.PSs.imp {X : Cx} {e : List Stmt} {t u : TS} (h : PSs X e t) (i : ∀ D σ H, u D σ H → t D σ H) : PSs X e u := ⟨fun pins s σ H D I q => h.run pins s σ H D I (i _ _ _ q)⟩
theorem Ext.up {M : Addr → Prop} {G0 H0 G H G' H' : Hp} (a : Ext M G0 H0 G H) (t : Ext M G H0 G' H') : Ext M G0 H0 G' H' :=
  ⟨t.hh, fun c o z => t.gg c o (a.gg c o z), fun c z g => t.fr c z (a.fr c z g), t.hm⟩
theorem Rel.up {K : PySem.W.Frag} {B : Base} {δ : DSt} {σ : St} {G H : Hp} (R : Rel K B δ σ G H) : Rel K ⟨B.M, G, B.H⟩ δ σ G H :=
  ⟨R.wd, ⟨R.ext.hh, fun _ _ z => z, fun _ _ g => g, R.ext.hm⟩, R.len, fun i s x e1 e2 => by
    have z := R.sl i s x e1 e2
    cases s <;> exact z, R.sep⟩
theorem Rel.down {K : PySem.W.Frag} {B : Base} {δ δ' : DSt} {σ σ' : St} {G H G' H' : Hp} (R : Rel K B δ σ G H) (Q : Rel K ⟨B.M, G, B.H⟩ δ' σ' G' H') : Rel K B δ' σ' G' H' ∧ Same G G' :=
  ⟨⟨Q.wd, R.ext.up Q.ext, Q.len, fun i s x e1 e2 => by
    have z := Q.sl i s x e1 e2
    cases s <;> exact z, Q.sep⟩, Q.ext.gg⟩
def dSeq (s t : DTS) : DTS := fun D δ => s { D with nx := t D } δ
def dSkip : DTS := fun D δ => D.nx δ
def dBrk : DTS := fun D δ => D.bk δ
def dCnt : DTS := fun D δ => D.ct δ
def dRet (de : DTE) : DTS := fun D δ => de δ (fun r => D.rt r δ) (fun C => D.ex C δ)
def dRetN : DTS := fun D δ => D.rt (.dat .none) δ
/-- return of an own list by its name -/
def dRetO (i : Nat) : DTS := fun D δ => match δ.getD i .no with
  | .own ds => D.rt (.own ds) δ
  | _ => False
def dDrop (de : DTE) : DTS := fun D δ => de δ (fun _ => D.nx δ) (fun C => D.ex C δ)
def dIf (t : DTT) (s u : DTS) : DTS := fun D δ => t δ (fun b => Br b (s D δ) (u D δ)) (fun C => D.ex C δ)
/-- the assigned name is never changed in place: a new list is frozen -/
def asgF (i : Nat) (δ : DSt) (N : DSt → Prop) (r : RV) : Prop := match r with
  | .dat d => N (δ.set i (.dat d))
  | .new d => N (δ.set i (.new d))
  | .own ds => N (δ.set i (.dat (.list ds)))
  | .raw v => N (δ.set i (.raw v))
  | _ => False
/-- .. is changed in place -/
def asgO (i : Nat) (δ : DSt) (N : DSt → Prop) (r : RV) : Prop := match r with
  | .dat d => N (δ.set i (.dat d))
  | .new d => N (δ.set i (.new d))
  | .own ds => N (δ.set i (.own ds))
  | .raw v => N (δ.set i (.raw v))
  | _ => False
def dSet (i : Nat) (de : DTE) : DTS := fun D δ => de δ (asgF i δ D.nx) (fun C => D.ex C δ)
def dSetO (i : Nat) (de : DTE) : DTS := fun D δ => de δ (asgO i δ D.nx) (fun C => D.ex C δ)
/-- name, name .. = a tuple -/
def dSetT (is : List Nat) (de : DTE) : DTS := fun D δ => de δ (fun r => match r.d? with
  | some d => setD (.tp is) d δ D.nx
  | none => False) (fun C => D.ex C δ)
/-- a, b = x, y -/
def dPar (i j : Nat) (dA : DTA) : DTS := fun D δ => dA δ (fun rs => match rs with
  | [.dat d, .dat e] => D.nx ((δ.set i (.dat d)).set j (.dat e))
  | _ => False) (fun C => D.ex C δ)
/-- name += an int -/
def dAugI (f : Int → Int → Int) (i : Nat) (de : DTE) : DTS := fun D δ => match δ.getD i .no with
  | .dat (.int n) => de δ (fun r => isI r fun m => D.nx (δ.set i (.dat (.int (f n m))))) (fun C => D.ex C δ)
  | _ => False
/-- own.append(e) -/
def dApp (i : Nat) (de : DTE) : DTS := fun D δ => match δ.getD i .no with
  | .own ds => de δ (fun r => fzQ r fun r' => match r'.d? with
    | some d => ds.length < sizeLine ∧ D.nx (δ.set i (.own (ds ++ [d])))
    | none => False) (fun C => D.ex C δ)
  | _ => False
/-- own[j] = e -/
def dStore (i : Nat) (dj de : DTE) : DTS := fun D δ => match δ.getD i .no with
  | .own ds => de δ (fun r => fzQ r fun r' => match r'.d? with
    | some d => dj δ (fun q => isI q fun j => ∃ n, ixN ds.length j = some n ∧ D.nx (δ.set i (.own (ds.set n d)))) (fun C => D.ex C δ)
    | none => False) (fun C => D.ex C δ)
  | _ => False
/-- an own list is frozen: nothing is done -/
def dFrz (i : Nat) (s : DTS) : DTS := fun D δ => match δ.getD i .no with
  | .own ds => s D (δ.set i (.dat (.list ds)))
  | _ => s D δ
/-- .. and it is known to be new -/
def dFrzN (i : Nat) (s : DTS) : DTS := fun D δ => match δ.getD i .no with
  | .own ds => (∀ d ∈ ds, NoL d) ∧ s D (δ.set i (.new (.list ds)))
  | _ => s D δ
structure Whl (t : DTT) (s : DTS) (D : DE2) (δ : DSt) : Prop where
  h : ∃ I : Nat → DSt → Prop, (∃ m, I m δ) ∧ ∀ m δ, I m δ → t δ (fun b => Br b (s { D with nx := fun δ' => ∃ m', m' < m ∧ I m' δ', ct := fun δ' => ∃ m', m' < m ∧ I m' δ', bk := D.nx } δ) (D.nx δ)) (fun C => D.ex C δ)
def dWhile (t : DTT) (s : DTS) : DTS := fun D δ => Whl t s D δ
structure For (ds : List D) (tg : Tg0) (s : DTS) (D : DE2) (δ : DSt) : Prop where
  h : ∃ I : Nat → DSt → Prop, I 0 δ ∧ (∀ i d δ, ds[i]? = some d → I i δ → setD tg d δ fun δ' => s { D with nx := I (i + 1), ct := I (i + 1), bk := D.nx } δ') ∧ ∀ δ, I ds.length δ → D.nx δ
def dFor (dr : DSrc) (tg : Tg0) (s : DTS) : DTS := fun D δ => dr δ (fun ds => For ds tg s D δ) (fun C => D.ex C δ)
section
variable {X : Cx} {W : WX} {st : Stmt} {rest : List Stmt} {s u : DTS} {e : Expr} {de dj : DTE} {dA : DTA} {dt : DTT} {pos pos' : Pos} {x : Str}
theorem dss_nil : PSs X [] (lS X.K W dSkip) := pss_nil.imp fun D σ H h => by
  obtain ⟨B, δ, G, D2, R, k, h⟩ := h
  exact k.nx δ σ G H R h
theorem dss_cons (h1 : PS X st (lS X.K W s)) (h2 : PSs X rest (lS X.K W u)) : PSs X (st :: rest) (lS X.K W (dSeq s u)) := (pss_cons h1 h2).imp fun D σ H h => by
  obtain ⟨B, δ, G, D2, R, k, h⟩ := h
  exact ⟨B, δ, G, { D2 with nx := u D2 }, R, ⟨fun δ' σ' G' H' R' q => ⟨B, δ', G', D2, R', k, q⟩, k.bk, k.ct, k.rt, k.ex⟩, h⟩
theorem dss_one (h1 : PS X st (lS X.K W s)) : PSs X [st] (lS X.K W s) := pss_one h1
theorem ds_pass : PS X (.Pass pos) (lS X.K W dSkip) := ps_pass.imp fun D σ H h => by
  obtain ⟨B, δ, G, D2, R, k, h⟩ := h
  exact k.nx δ σ G H R h
theorem ds_brk : PS X (.Break pos) (lS X.K W dBrk) := ps_break.imp fun D σ H h => by
  obtain ⟨B, δ, G, D2, R, k, h⟩ := h
  exact k.bk δ σ G H R h
theorem ds_cnt : PS X (.Continue pos) (lS X.K W dCnt) := ps_continue.imp fun D σ H h => by
  obtain ⟨B, δ, G, D2, R, k, h⟩ := h
  exact k.ct δ σ G H R h
theorem EndsOk.xok {B : Base} {D : Ends} {D2 : DE2} {δ : DSt} {σ : St} {K : PySem.W.Frag} (k : EndsOk K B W D D2) : XOk K W B δ σ (fun C => D2.ex C δ) := fun C G' H' R q => k.ex C δ σ G' H' R q
theorem ds_ret (he : PE X e (lE X.K W de)) : PS X (.Return (some e) pos) (lS X.K W (dRet de)) := (ps_ret he).imp fun D σ H h => by
  obtain ⟨B, δ, G, D2, R, k, h⟩ := h
  exact ⟨B, δ, G, _, _, R, h, fun r v G1 H1 w1 t1 o1 q1 => k.rt r v δ σ G1 H1 (R.step w1 t1) (o1.early R.ext.hm) q1, k.xok⟩
theorem ds_retN : PS X (.Return none pos) (lS X.K W dRetN) := ps_retN.imp fun D σ H h => by
  obtain ⟨B, δ, G, D2, R, k, h⟩ := h
  exact k.rt (.dat .none) .non δ σ G H R Dt.non h
theorem ds_retO (i : Nat) (hN : X.N[i]? = some x := by rfl) (hv : Vis X.env.scope x := by first | exact Or.inl rfl | exact Or.inr (Or.inl rfl) | exact Or.inr (Or.inr rfl)) (hd : (x == ("__debug__" : Str)) = false := by decide)
    (hcd : (x == ("__classdict__" : Str)) = false := by decide) : PS X (.Return (some (.Name x pos')) pos) (lS X.K W (dRetO i)) := (ps_ret (pe_var hN hv hd hcd)).imp fun D σ H h => by
  obtain ⟨B, δ, G, D2, R, k, h⟩ := h
  unfold dRetO at h
  split at h
  · rename_i ds e
    obtain ⟨y, e1, a, xs, rfl, b1, b2, b3, b4, b5⟩ := R.at (getD_some e fun z => nomatch z)
    exact ⟨_, e1, k.rt (.own ds) _ δ σ G H R ⟨a, xs, rfl, b1, b2, b3, b4, b5⟩ h⟩
  · exact h.elim
theorem ds_drop (he : PE X e (lE X.K W de)) (hs : swapsWith e none pos.line X.env = pure false := by rfl) : PS X (.Expr e pos) (lS X.K W (dDrop de)) := (ps_expr he hs).imp fun D σ H h => by
  obtain ⟨B, δ, G, D2, R, k, h⟩ := h
  exact ⟨B, δ, G, _, _, R, h, fun r v G1 H1 w1 t1 o1 q1 => k.nx δ σ G1 H1 (R.step w1 t1) q1, k.xok⟩
theorem ds_if {c : Expr} {a b : List Stmt} (hc : PT X c (lT X.K W dt)) (ha : PSs X a (lS X.K W s)) (hb : PSs X b (lS X.K W u)) : PS X (.If c a b pos) (lS X.K W (dIf dt s u)) := (ps_if hc ha hb).imp fun D σ H h => by
  obtain ⟨B, δ, G, D2, R, k, h⟩ := h
  exact ⟨B, δ, G, _, _, R, h, fun b G1 H1 w1 t1 q1 => Br.ite ⟨fun e => ⟨B, δ, G1, D2, R.step w1 t1, k, q1.y e⟩, fun e => ⟨B, δ, G1, D2, R.step w1 t1, k, q1.n e⟩⟩, k.xok⟩
theorem asgF_ok {K : PySem.W.Frag} {B : Base} {δ : DSt} {σ : St} {G H G1 H1 : Hp} {i : Nat} {r : RV} {v : V} {N : DSt → Prop} {Q : St → Hp → Prop} (R : Rel K B δ σ G H) (w : Wd B.M G1 H1) (t : Ext B.M G H G1 H1) (o : RvOk K B.M B.H H G1 H1 v r) (h : asgF i δ N r)
    (kq : ∀ δ σ G H, Rel K B δ σ G H → N δ → Q σ H) : Q (σ.set i (some v)) H1 := by
  cases r with
  | dat d => exact kq _ _ _ _ (R.set w t (i := i) (s := .dat d) ⟨v, rfl, o⟩ fun _ _ z => nomatch z) h
  | new d => exact kq _ _ _ _ (R.set w t (i := i) (s := .new d) ⟨v, rfl, o⟩ fun _ _ z => nomatch z) h
  | own ds =>
    obtain ⟨G2, w2, t2, s2, o2⟩ := RvOk.fz w t o rfl
    exact kq _ _ _ _ (R.set w2 t2 (i := i) (s := .dat (.list ds)) ⟨v, rfl, o2⟩ fun _ _ z => nomatch z) h
  | view ds => exact h.elim
  | raw z =>
    cases (show v = z from o)
    exact kq _ _ _ _ (R.set w t (i := i) (s := .raw v) rfl fun _ _ z => nomatch z) h
  | sto => exact h.elim
theorem asgO_ok {K : PySem.W.Frag} {B : Base} {δ : DSt} {σ : St} {G H G1 H1 : Hp} {i : Nat} {r : RV} {v : V} {N : DSt → Prop} {Q : St → Hp → Prop} (R : Rel K B δ σ G H) (w : Wd B.M G1 H1) (t : Ext B.M G H G1 H1) (o : RvOk K B.M B.H H G1 H1 v r) (h : asgO i δ N r)
    (kq : ∀ δ σ G H, Rel K B δ σ G H → N δ → Q σ H) : Q (σ.set i (some v)) H1 := by
  cases r with
  | dat d => exact kq _ _ _ _ (R.set w t (i := i) (s := .dat d) ⟨v, rfl, o⟩ fun _ _ z => nomatch z) h
  | new d => exact kq _ _ _ _ (R.set w t (i := i) (s := .new d) ⟨v, rfl, o⟩ fun _ _ z => nomatch z) h
  | own ds =>
    obtain ⟨a, xs, rfl, b1, b2, b3, b4, b5⟩ := o
    exact kq _ _ _ _ (R.set w t (i := i) (s := .own ds) ⟨a, xs, rfl, none_early R.ext.hm a b1, b2, b3, b4, b5⟩ fun c es _ e => by cases e; exact b1) h
  | view ds => exact h.elim
  | raw z =>
    cases (show v = z from o)
    exact kq _ _ _ _ (R.set w t (i := i) (s := .raw v) rfl fun _ _ z => nomatch z) h
  | sto => exact h.elim
theorem ds_set {i : Nat} (hN : X.N.Nodup) (he : PE X e (lE X.K W de)) (hi : X.N[i]? = some x := by rfl) (hx : Loc X.env.scope x := by first | exact Or.inl rfl | exact Or.inr rfl) (hs : swapsWith e (some (.Name x pos')) pos.line X.env = pure false := by rfl) (hf : X.fn x = true ∨ X.env.scope.names.lookup x = some .local := by first | exact .inl rfl | exact .inr rfl | assumption) :
    PS X (.Assign [.Name x pos'] e pos) (lS X.K W (dSet i de)) := (ps_set hN hi hx he hs hf).imp fun D σ H h => by
  obtain ⟨B, δ, G, D2, R, k, h⟩ := h
  exact ⟨B, δ, G, _, _, R, h, fun r v G1 H1 w1 t1 o1 q1 => asgF_ok (Q := D.nx) R w1 t1 o1 q1 k.nx, k.xok⟩
theorem ds_setO {i : Nat} (hN : X.N.Nodup) (he : PE X e (lE X.K W de)) (hi : X.N[i]? = some x := by rfl) (hx : Loc X.env.scope x := by first | exact Or.inl rfl | exact Or.inr rfl) (hs : swapsWith e (some (.Name x pos')) pos.line X.env = pure false := by rfl) (hf : X.fn x = true ∨ X.env.scope.names.lookup x = some .local := by first | exact .inl rfl | exact .inr rfl | assumption) :
    PS X (.Assign [.Name x pos'] e pos) (lS X.K W (dSetO i de)) := (ps_set hN hi hx he hs hf).imp fun D σ H h => by
  obtain ⟨B, δ, G, D2, R, k, h⟩ := h
  exact ⟨B, δ, G, _, _, R, h, fun r v G1 H1 w1 t1 o1 q1 => asgO_ok (Q := D.nx) R w1 t1 o1 q1 k.nx, k.xok⟩
theorem ds_setT {es : List Expr} {kk : Nat} {is : List Nat} {pt : Pos} (hc : X.calm = true) (he : PE X e (lE X.K W de)) (hg : PGs X es (gNs is)) (hn : (assignEach es X.env).length = is.length := by rfl) (hst : (assignEach es X.env).findIdx? (·.1) = none := by rfl)
    (hs : swapsWithSole [.Tuple es kk pt] e pos.line X.env = pure false := by rfl) (hw : swappedStores [.Tuple es kk pt] e X.env = pure none := by rfl)
    (h1 : (assignEach [.Tuple es kk pt] X.env).map (·.2) = [assign (.Tuple es kk pt) X.env] := by rfl) : PS X (.Assign [.Tuple es kk pt] e pos) (lS X.K W (dSetT is de)) := (ps_asg he (pg_tup hc hg hn hst) hs hw h1).imp fun D σ H h => by
  obtain ⟨B, δ, G, D2, R, k, h⟩ := h
  refine ⟨B, δ, G, _, _, R, h, fun r v G1 H1 w1 t1 o1 q1 => ?_, k.xok⟩
  split at q1
  · rename_i d e1
    have R1 := R.step w1 t1
    cases d with
    | tuple ds =>
      have o2 := o1.dt (by intro _ z; cases z) e1
      exact tg_ok (tg := .tp is) (fun δ' σ' R' n => k.nx δ' σ' G1 H1 R' n) R1 o2 q1
    | _ => exact q1.elim
  · exact q1.elim
theorem ds_par {i j : Nat} {y : Str} {a b : Expr} {px py pt : Pos} {kt k2 pt2} (hc : X.calm = true) (hN : X.N.Nodup) (ha : PA X [a, b] (lA X.K W dA)) (hw : swappedStores [.Tuple [.Name x px, .Name y py] kt pt] (.Tuple [a, b] k2 pt2) X.env = pure (some [x, y]) := by rfl) (hi : X.N[i]? = some x := by rfl) (hj : X.N[j]? = some y := by rfl) (hij : i ≠ j := by decide)
    (hx : X.env.scope.names.lookup x = some .local := by rfl) (hy : X.env.scope.names.lookup y = some .local := by rfl) (hs : starEach [a, b] X.env = (false, eval a X.env) :: starEach [b] X.env := by rfl) : PS X (.Assign [.Tuple [.Name x px, .Name y py] kt pt] (.Tuple [a, b] k2 pt2) pos) (lS X.K W (dPar i j dA)) := (ps_par hc hN hi hj hij hx hy ha hw).imp fun D σ H h => by
  obtain ⟨B, δ, G, D2, R, k, h⟩ := h
  refine ⟨B, δ, G, _, _, R, h, fun rs vs G1 H1 w1 t1 o1 q1 => ?_, k.xok⟩
  split at q1
  · rename_i d e
    cases o1 with
    | cons h1 h2 =>
      cases h2 with
      | cons h2 h3 =>
        cases h3
        refine ⟨_, _, rfl, k.nx _ _ G1 H1 ?_ q1⟩
        have R1 := R.set w1 t1 (i := i) (s := .dat d) ⟨_, rfl, h1⟩ (fun _ _ z => nomatch z)
        exact R1.set w1 .refl (i := j) (s := .dat e) ⟨_, rfl, h2⟩ (fun _ _ z => nomatch z)
  · exact q1.elim
theorem ds_aug {i : Nat} {op : Operator} {f : Int → Int → Int} (hN : X.N.Nodup) (he : PE X e (lE X.K W de)) (ho : PIp X op (ipI f)) (hi : X.N[i]? = some x := by rfl) (hx : Loc X.env.scope x := by first | exact Or.inl rfl | exact Or.inr rfl) (hf : X.fn x = true ∨ X.env.scope.names.lookup x = some .local := by first | exact .inl rfl | exact .inr rfl | assumption) :
    PS X (.AugAssign (.Name x pos') op e pos) (lS X.K W (dAugI f i de)) := (ps_aug hN hi hx he ho hf).imp fun D σ H h => by
  obtain ⟨B, δ, G, D2, R, k, h⟩ := h
  unfold dAugI at h
  split at h
  · rename_i n e
    obtain ⟨y, e1, v, rfl, dv⟩ := R.at (getD_some e fun z => nomatch z)
    cases dv
    refine ⟨_, e1, B, δ, G, _, _, R, h, fun r v G1 H1 w1 t1 o1 q1 => ?_, k.xok⟩
    obtain ⟨m, rfl, q⟩ := isI_ok o1 q1
    exact ⟨n, m, rfl, rfl, k.nx _ _ G1 H1 (R.set w1 t1 (i := i) (s := .dat _) ⟨_, rfl, Dt.int _⟩ (fun _ _ z => nomatch z)) q⟩
  · exact h.elim
theorem fz_d {K : PySem.W.Frag} {M : Addr → Prop} {HB G : Hp} {v : V} {d : D} : ∀ {r : RV}, AOk K M HB G v r → r.d? = some d → Dt K G v d
  | .dat c, h, e => by cases e; exact h
  | .new c, h, e => by cases e; exact Nw.dt h
  | .own _, h, _ => h.elim
  | .view _, h, _ => h.elim
  | .raw _, _, e => nomatch e
  | .sto, _, e => nomatch e
theorem sto_upd {M : Addr → Prop} {G H : Hp} {a : Addr} {o : HO} (w : Wd M G H) (m : ¬ M a) (g : G a = none) (h : H a ≠ none) : Wd M G (upd H a o) ∧ ∀ b, M b → (upd H a o) b = H b :=
  ⟨⟨fun b u e => by
    have ne : b ≠ a := fun z => by rw [z, g] at e; cases e
    rw [upd_ne ne]; exact w.sub _ _ e, fun b mb => (w.sto b mb).mono (fun _ _ z => z) (w.sto b mb).fr (upd_ne fun z => m (z ▸ mb))⟩, fun b mb => upd_ne fun z => m (z ▸ mb)⟩
/-- an own slot's list is changed -/
theorem Rel.chg {K : PySem.W.Frag} {B : Base} {δ : DSt} {σ : St} {G H : Hp} (R : Rel K B δ σ G H) {i : Nat} {a : Addr} {ds es : List D} {ys : List V} (e1 : δ[i]? = some (.own ds)) (e2 : σ[i]? = some (some (.ref a))) (q : DtA K G ys es) : Rel K B (δ.set i (.own es)) σ G (upd H a (.lst ys)) := by
  obtain ⟨b, xs, eb, b1, b2, b3, b4, b5⟩ := R.sl i _ _ e1 e2
  cases eb
  have hn : H a ≠ none := by rw [b4]; exact fun z => nomatch z
  refine ⟨(sto_upd R.wd b3 b2 hn).1, ⟨fun b o m h => ?_, R.ext.gg, R.ext.fr, fun b h => ?_⟩, by rw [List.length_set]; exact R.len, fun j s' x f1 f2 => ?_, fun j l c us vs f1 f2 f3 f4 => ?_⟩
  · have ne : b ≠ a := fun z => by rw [z, b1] at h; cases h
    rw [upd_ne ne]
    exact R.ext.hh b o m h
  · by_cases z : b = a
    · subst z; rw [upd_same]; exact fun y => nomatch y
    · rw [upd_ne z]; exact R.ext.hm b h
  · by_cases hj : i = j
    · subst hj
      rw [e2] at f2
      cases f2
      rw [List.getElem?_set, if_pos rfl] at f1
      split at f1
      · cases f1
        exact ⟨a, ys, rfl, b1, b2, b3, upd_same, q⟩
      · cases f1
    · rw [List.getElem?_set_ne hj] at f1
      have z := R.sl j s' x f1 f2
      cases s' with
      | own us =>
        obtain ⟨c, zs, rfl, c1, c2, c3, c4, c5⟩ := z
        have ne : c ≠ a := fun z => hj (R.sep i j a ds us e1 f1 e2 (by rw [f2, z]))
        exact ⟨c, zs, rfl, c1, c2, c3, by rw [upd_ne ne]; exact c4, c5⟩
      | no => exact z
      | dat d => exact z
      | new d => exact z
      | raw v => exact z
      | sto => exact z
  · have back : ∀ {j : Nat} {us : List D}, (δ.set i (.own es))[j]? = some (.own us) → ∃ ws, δ[j]? = some (.own ws) := fun {j us} f => by
      by_cases hj : i = j
      · subst hj; exact ⟨ds, e1⟩
      · rw [List.getElem?_set_ne hj] at f; exact ⟨us, f⟩
    obtain ⟨w1, g1⟩ := back f1
    obtain ⟨w2, g2⟩ := back f2
    exact R.sep j l c w1 w2 g1 g2 f3 f4
theorem ds_app {i : Nat} {p1 p2 p3 : Pos} (he : PE X e (lE X.K W de)) (hN : X.N[i]? = some x := by rfl) (hv : Vis X.env.scope x := by first | exact Or.inl rfl | exact Or.inr (Or.inl rfl) | exact Or.inr (Or.inr rfl)) (hd : (x == ("__debug__" : Str)) = false := by decide)
    (hcd : (x == ("__classdict__" : Str)) = false := by decide) (hcall : ∀ {t1 : TE} {t2 : TA}, PE X (.Name x p1) t1 → PA X [e] t2 → PE X (.Call (.Attribute (.Name x p1) "append" p2) [e] [] p3) (tBM X.K "list" rAppend t1 t2))
    (hs : swapsWith (.Call (.Attribute (.Name x p1) "append" p2) [e] [] p3) none pos.line X.env = pure false := by rfl) (hst : starEach [e] X.env = (false, eval e X.env) :: starEach [] X.env := by rfl) : PS X (.Expr (.Call (.Attribute (.Name x p1) "append" p2) [e] [] p3) pos) (lS X.K W (dApp i de)) :=
  (ps_expr (hcall (pe_var hN hv hd hcd) (pa_cons he pa_nil hst)) hs).imp fun D σ H h => by
  obtain ⟨B, δ, G, D2, R, k, h⟩ := h
  unfold dApp at h
  split at h
  · rename_i ds e
    have ed := getD_some e fun z => nomatch z
    obtain ⟨y, e1, a, xs, rfl, b1, b2, b3, b4, b5⟩ := R.at ed
    refine ⟨_, e1, .inl ⟨rfl, _, SqL.of b4⟩, B, δ, G, _, _, R, h, fun r v G1 H1 w1 t1 o1 q1 => ?_, k.xok⟩
    obtain ⟨r', f1, q1⟩ := fzQ_some q1
    obtain ⟨G2, w2, t2, s2, o2⟩ := o1.fz w1 t1 f1
    split at q1
    · rename_i d f2
      have R2 := R.step w2 t2
      have hH := t2.hh a _ b3 b4
      refine ⟨a, xs, v, rfl, rfl, hH, by rw [b5.length]; exact q1.1, ?_⟩
      exact k.nx _ _ G2 _ (R2.chg ed e1 ((b5.mono t2.gg).append (.cons (fz_d o2 f2) .nil))) q1.2
    · exact q1.elim
  · exact h.elim
theorem ds_store {i : Nat} {ix : Expr} {p1 p2 : Pos} (he : PE X e (lE X.K W de)) (hj : PE X ix (lE X.K W dj)) (hN : X.N[i]? = some x := by rfl) (hv : Vis X.env.scope x := by first | exact Or.inl rfl | exact Or.inr (Or.inl rfl) | exact Or.inr (Or.inr rfl)) (hd : (x == ("__debug__" : Str)) = false := by decide)
    (hcd : (x == ("__classdict__" : Str)) = false := by decide) (ha : ∀ v, assign (.Subscript (.Name x p1) ix p2) X.env v = (do
      let ov ← holding [v] (eval (.Name x p1) X.env)
      let iv ← holding [v, ov] (eval ix X.env)
      standAt p2
      holding [v, ov, iv] (setItem ov iv v)
      release [v, ov, iv] []) := by intro _; rfl)
    (hs : swapsWithSole [.Subscript (.Name x p1) ix p2] e pos.line X.env = pure false := by rfl) (hw : swappedStores [.Subscript (.Name x p1) ix p2] e X.env = pure none := by rfl) (h1 : (assignEach [.Subscript (.Name x p1) ix p2] X.env).map (·.2) = [assign (.Subscript (.Name x p1) ix p2) X.env] := by rfl) :
    PS X (.Assign [.Subscript (.Name x p1) ix p2] e pos) (lS X.K W (dStore i dj de)) := (ps_asg he (pg_sub (pe_var hN hv hd hcd) hj set_list ha) hs hw h1).imp fun D σ H h => by
  obtain ⟨B, δ, G, D2, R, k, h⟩ := h
  unfold dStore at h
  split at h
  · rename_i ds e
    have ed := getD_some e fun z => nomatch z
    obtain ⟨y, e1, a, xs, rfl, b1, b2, b3, b4, b5⟩ := R.at ed
    refine ⟨B, δ, G, _, _, R, h, fun r v G1 H1 w1 t1 o1 q1 => ?_, k.xok⟩
    obtain ⟨r', f1, q1⟩ := fzQ_some q1
    obtain ⟨G2, w2, t2, s2, o2⟩ := o1.fz w1 t1 f1
    split at q1
    · rename_i d f2
      have R2 := R.step w2 t2
      refine ⟨_, e1, B, δ, G2, _, _, R2, q1, fun r3 v3 G3 H3 w3 t3 o3 q3 => ?_, k.xok⟩
      obtain ⟨j, rfl, n, en, q⟩ := isI_ok o3 q3
      have R3 := R2.step w3 t3
      have hH := t3.hh a _ b3 (t2.hh a _ b3 b4)
      refine ⟨a, xs, j, n, rfl, rfl, hH, by rw [b5.length]; exact en, ?_⟩
      exact k.nx _ _ G3 _ (R3.chg ed e1 (DtA.set ((fz_d o2 f2).mono t3.gg) n ((b5.mono t2.gg).mono t3.gg))) q
    · exact q1.elim
  · exact h.elim
theorem ds_frz {i : Nat} (h : PS X st (lS X.K W s)) : PS X st (lS X.K W (dFrz i s)) := h.imp fun D σ H h => by
  obtain ⟨B, δ, G, D2, R, k, h⟩ := h
  unfold dFrz at h
  split at h
  · rename_i ds e
    have ed := getD_some e fun z => nomatch z
    obtain ⟨y, e1, a, xs, rfl, b1, b2, b3, b4, b5⟩ := R.at ed
    have s1 : Same G (upd G a (.lst xs)) := same_upd b2
    have w1 := R.wd.freeze b4 b2 b3
    refine ⟨B, _, upd G a (.lst xs), D2, ?_, k, h⟩
    refine ⟨w1, ⟨R.ext.hh, fun c o z => s1 _ _ (R.ext.gg c o z), fun c z z2 => ?_, R.ext.hm⟩, by rw [List.length_set]; exact R.len, fun j s' x f1 f2 => ?_, fun j l c us vs f1 f2 f3 f4 => ?_⟩
    · have ne : c ≠ a := fun z3 => z (by rw [z3]; exact b1)
      rw [upd_ne ne]
      exact R.ext.fr c z z2
    · by_cases hj : i = j
      · subst hj
        rw [e1] at f2
        cases f2
        rw [List.getElem?_set, if_pos rfl] at f1
        split at f1
        · cases f1
          exact ⟨_, rfl, .lst upd_same (b5.mono s1)⟩
        · cases f1
      · rw [List.getElem?_set_ne hj] at f1
        have z := R.sl j s' x f1 f2
        cases s' with
        | own us =>
          obtain ⟨c, zs, rfl, c1, c2, c3, c4, c5⟩ := z
          have ne : c ≠ a := fun z => hj (R.sep i j a ds us ed f1 e1 (by rw [f2, z]))
          exact ⟨c, zs, rfl, c1, by rw [upd_ne ne]; exact c2, c3, c4, c5.mono s1⟩
        | no => exact z
        | dat d => obtain ⟨v, q1, q2⟩ := z; exact ⟨v, q1, q2.mono s1⟩
        | new d => obtain ⟨v, q1, q2⟩ := z; exact ⟨v, q1, q2.mono s1 fun _ z => z⟩
        | raw v => exact z
        | sto => exact z
    · have back : ∀ {j : Nat} {us : List PyData}, (δ.set i (.dat (.list ds)))[j]? = some (.own us) → δ[j]? = some (.own us) := fun {j us} f => by
        by_cases hj : i = j
        · subst hj
          rw [List.getElem?_set, if_pos rfl] at f
          split at f <;> cases f
        · rw [List.getElem?_set_ne hj] at f; exact f
      exact R.sep j l c us vs (back f1) (back f2) f3 f4
  · exact ⟨B, δ, G, D2, R, k, h⟩
theorem ds_while {c : Expr} {body : List Stmt} (hp : PassesOwn (model X.prog X.w) X.A X.env X.xe) (hc : PT X c (lT X.K W dt)) (hb : PSs X body (lS X.K W s)) : PS X (.While c body [] pos) (lS X.K W (dWhile dt s)) := (ps_while hp hc hb).imp fun D σ H h => by
  obtain ⟨B, δ, G, D2, R, k, ⟨I, ⟨m, i0⟩, turn⟩⟩ := h
  refine ⟨fun m σ H => ∃ δ G, Rel X.K B δ σ G H ∧ I m δ, ⟨m, δ, G, R, i0⟩, fun m σ H hw => ?_⟩
  obtain ⟨δ, G, R, im⟩ := hw
  refine ⟨B, δ, G, _, _, R, turn m δ im, fun b G1 H1 w1 t1 q1 => Br.ite ⟨fun e => ?_, fun e => k.nx δ σ G1 H1 (R.step w1 t1) (q1.n e)⟩, k.xok⟩
  refine ⟨fun σ' H' => ∃ δ' G', Rel X.K B δ' σ' G' H' ∧ ∃ m', m' < m ∧ I m' δ', fun σ' H' h => ?_, B, δ, G1, _, R.step w1 t1, ?_, q1.y e⟩
  · obtain ⟨δ', G', R', m', l, i'⟩ := h
    exact ⟨m', l, δ', G', R', i'⟩
  · exact ⟨fun δ σ G H R q => ⟨δ, G, R, q⟩, fun δ σ G H R q => k.nx δ σ G H R q, fun δ σ G H R q => ⟨δ, G, R, q⟩, k.rt, k.ex⟩
theorem ds_for {tg : Expr} {iter : Expr} {body : List Stmt} {dr : DSrc} {tg0 : Tg0} (hp : PassesOwn (model X.prog X.w) X.A X.env X.xe) (hc : X.calm = true) (hi : PI X tg iter (lI X.K W dr)) (hg : PG X tg (gTg X.K tg0)) (hb : PSs X body (lS X.K W s)) (hs : ∀ x, foldedSetIterable iter X.env x = pure x := by intro _; rfl) : PS X (.For tg iter body [] pos) (lS X.K W (dFor dr tg0 s)) := (ps_for hp hc hi hg hb hs).imp fun D σ H h => by
  obtain ⟨B, δ, G, D2, R, k, h⟩ := h
  refine ⟨B, δ, G, _, _, R, h, fun J ds G1 H1 w1 t1 wk q1 => ?_, k.xok⟩
  obtain ⟨I, i0, turn, fin⟩ := q1
  refine ⟨fun i m σ H => i ≤ ds.length ∧ m = ds.length - i ∧ ∃ δ G, Rel X.K B δ σ G H ∧ Same G1 G ∧ I i δ, ⟨ds.length, Nat.zero_le _, rfl, δ, G1, R.step w1 t1, fun _ _ z => z, i0⟩, fun i m σ H hw => ?_⟩
  obtain ⟨hi, rfl, δ, G2, R2, s2, ii⟩ := hw
  by_cases hlt : i < ds.length
  · refine .inr ⟨wk.go i G2 H s2 R2.wd hlt, fun σ' H' => ∃ δ' G', Rel X.K B δ' σ' G' H' ∧ Same G1 G' ∧ I (i + 1) δ', fun σ' H' h => ?_, fun x H' y => ?_⟩
    · obtain ⟨δ', G', R', s', i'⟩ := h
      exact ⟨ds.length - (i + 1), by omega, hlt, rfl, δ', G', R', s', i'⟩
    · obtain ⟨d, G3, ed, w3, t3, dd⟩ := wk.yld i G2 H x H' s2 R2.wd hlt y
      have R3 := R2.step w3 t3
      have s3 : Same G1 G3 := fun c o z => t3.gg c o (s2 c o z)
      refine tg_ok (fun δ' σ' R' n => ?_) R3 dd (turn i d δ ed ii)
      refine ⟨⟨B.M, G3, B.H⟩, δ', G3, { D2 with nx := I (i + 1), ct := I (i + 1), bk := D2.nx }, R'.up, ⟨fun δ σ G H Q q => ?_, fun δ σ G H Q q => k.nx δ σ G H (R'.down Q).1 q, fun δ σ G H Q q => ?_, fun r v δ σ G H Q o q => k.rt r v δ σ G H (R'.down Q).1 o q, fun C δ σ G H Q q => k.ex C δ σ G H (R'.down Q).1 q⟩, n⟩
      · exact ⟨δ, G, (R'.down Q).1, fun c o z => (R'.down Q).2 c o (s3 c o z), q⟩
      · exact ⟨δ, G, (R'.down Q).1, fun c o z => (R'.down Q).2 c o (s3 c o z), q⟩
  · have e : i = ds.length := by omega
    subst e
    exact .inl ⟨wk.stop _ G2 H s2 R2.wd (Nat.le_refl _), k.nx δ σ G2 H R2 (fin δ ii)⟩

/-! ### comprehensions -/
def wipeD (δ : DSt) : List Nat → DSt
  | [] => δ
  | v :: vs => (wipeD δ vs).set v .no
theorem wipe_len (σ : St) : ∀ vs : List Nat, (wipe σ vs).length = σ.length
  | [] => rfl
  | v :: vs => by
    show ((wipe σ vs).set v none).length = _
    rw [List.length_set, wipe_len σ vs]
/-- a slot is forgotten -/
theorem Rel.forget {K : PySem.W.Frag} {B : Base} {δ : DSt} {σ : St} {G H : Hp} (R : Rel K B δ σ G H) (i : Nat) (x : Option V) : Rel K B (δ.set i .no) (σ.set i x) G H := by
  refine ⟨R.wd, R.ext, by rw [List.length_set, List.length_set]; exact R.len, fun j s y e1 e2 => ?_, fun j k a ds es e1 e2 e3 e4 => ?_⟩
  · by_cases hj : i = j
    · subst hj
      rw [List.getElem?_set, if_pos rfl] at e1
      split at e1
      · cases e1; trivial
      · cases e1
    · rw [List.getElem?_set_ne hj] at e1 e2
      exact R.sl j s y e1 e2
  · have ne : ∀ {j : Nat} {us : List PyData} {y : Option V}, (δ.set i .no)[j]? = some (.own us) → (σ.set i x)[j]? = some y → δ[j]? = some (.own us) ∧ σ[j]? = some y := fun {j us y} f g => by
      by_cases hj : i = j
      · subst hj
        rw [List.getElem?_set, if_pos rfl] at f
        split at f <;> cases f
      · rw [List.getElem?_set_ne hj] at f g; exact ⟨f, g⟩
    exact R.sep j k a ds es (ne e1 e3).1 (ne e2 e4).1 (ne e1 e3).2 (ne e2 e4).2
theorem Rel.wipe {K : PySem.W.Frag} {B : Base} {δ : DSt} {σ : St} {G H : Hp} (R : Rel K B δ σ G H) : ∀ vs : List Nat, Rel K B (wipeD δ vs) (L2.wipe σ vs) G H
  | [] => R
  | v :: vs => (R.wipe vs).forget v none
theorem wipe_mem {σ : St} {i : Nat} : ∀ {vs : List Nat}, i ∈ vs → ∀ y, (L2.wipe σ vs)[i]? = some y → y = none
  | v :: vs, h, y, e => by
    have e' : ((L2.wipe σ vs).set v none)[i]? = some y := e
    by_cases hv : v = i
    · subst hv
      rw [List.getElem?_set, if_pos rfl] at e'
      split at e'
      · cases e'; rfl
      · cases e'
    · rw [List.getElem?_set_ne hv] at e'
      exact wipe_mem ((List.mem_cons.mp h).resolve_left fun z => hv z.symm) y e'
theorem wipe_again {σ : St} : ∀ (vs us : List Nat) (x : Option V) (i : Nat), i ∈ us → (∀ v ∈ vs, v ∈ us) → L2.wipe ((L2.wipe σ us).set i x) vs = (L2.wipe ((L2.wipe σ us)) vs).set i (if i ∈ vs then none else x)
  | [], us, x, i, hi, _ => rfl
  | v :: vs, us, x, i, hi, hs => by
    show (L2.wipe ((L2.wipe σ us).set i x) vs).set v none = ((L2.wipe (L2.wipe σ us) vs).set v none).set i _
    rw [wipe_again vs us x i hi fun w m => hs w (List.mem_cons_of_mem _ m)]
    by_cases hv : v = i
    · subst hv
      rw [List.set_set, List.set_set, if_pos List.mem_cons_self]
    · rw [List.set_comm _ _ (Ne.symm hv)]
      by_cases hm : i ∈ vs
      · rw [if_pos hm, if_pos (List.mem_cons_of_mem _ hm)]
      · rw [if_neg hm, if_neg (fun z => hm ((List.mem_cons.mp z).resolve_left fun q => hv q.symm))]
theorem wipe_none {σ : St} (us : List Nat) : ∀ vs : List Nat, (∀ v ∈ vs, v ∈ us) → L2.wipe (L2.wipe σ us) vs = L2.wipe σ us
  | [], _ => rfl
  | v :: vs, hs => by
    show (L2.wipe (L2.wipe σ us) vs).set v none = _
    rw [wipe_none us vs fun w m => hs w (List.mem_cons_of_mem _ m)]
    refine List.ext_getElem? fun j => ?_
    by_cases hj : v = j
    · subst hj
      rw [List.getElem?_set, if_pos rfl]
      split
      · cases e : (L2.wipe σ us)[v]? with
        | none => rename_i hl; rw [List.getElem?_eq_none_iff] at e; omega
        | some y => rw [wipe_mem (hs v List.mem_cons_self) y e]
      · rename_i hl
        rw [List.getElem?_eq_none_iff.mpr (by omega)]
    · rw [List.getElem?_set_ne hj]
theorem wipe_set {σ : St} {us : List Nat} {i : Nat} {x : Option V} (h : i ∈ us) : L2.wipe ((L2.wipe σ us).set i x) us = L2.wipe σ us := by
  rw [wipe_again us us x i h fun _ z => z, if_pos h, wipe_none us us fun _ z => z]
  refine List.ext_getElem? fun j => ?_
  by_cases hj : i = j
  · subst hj
    rw [List.getElem?_set, if_pos rfl]
    split
    · cases e : (L2.wipe σ us)[i]? with
      | none => rename_i hl; rw [List.getElem?_eq_none_iff] at e; omega
      | some y => rw [wipe_mem h y e]
    · rename_i hl
      rw [List.getElem?_eq_none_iff.mpr (by omega)]
  · rw [List.getElem?_set_ne hj]
/-- the slots of a target -/
def Tg0.ok (us : List Nat) : Tg0 → Bool
  | .nm i => us.contains i
  | .tp is => is.all us.contains
def sets (σ : St) : List Nat → List V → St
  | i :: is, v :: vs => sets (σ.set i (some v)) is vs
  | _, _ => σ
structure LcS (ds : List D) (tg : Tg0) (tt : DTT) (el : DTE) (δ : DSt) (Q : RV → Prop) : Prop where
  hz : ds.length ≤ sizeLine
  h : ∃ I : Nat → List D → Prop, I 0 [] ∧ (∀ k acc d, ds[k]? = some d → I k acc → acc.length ≤ k → setD tg d δ fun δ' => tt δ' (fun b => Br b (el δ' (fun r => fzQ r fun r' => match r'.d? with
    | some d' => I (k + 1) (acc ++ [d'])
    | none => False) (fun _ => False)) (I (k + 1) acc)) (fun _ => False)) ∧ ∀ acc, I ds.length acc → acc.length ≤ ds.length → Q (.own acc)
def dLc (dr : DSrc) (tg : Tg0) (vs : List Nat) (tt : DTT) (el : DTE) : DTE := fun δ Q X => dr δ (fun ds => LcS ds tg tt el (wipeD δ vs) Q) X
def dYes : DTT := fun _ Q _ => Q true
abbrev W0 : WX := fun _ _ _ _ => False
theorem gNs_wipe {K : PySem.W.Frag} {B : Base} {G H : Hp} {Q : St → Hp → Prop} {N : DSt → Prop} {σ0 : St} {us : List Nat} (kq : ∀ δ σ, Rel K B δ σ G H → L2.wipe σ us = L2.wipe σ0 us → N δ → Q σ H) : ∀ (is : List Nat) (ds : List D) (vs : List V) (δ : DSt) (σ : St), (∀ i ∈ is, i ∈ us) → (L2.wipe σ us = L2.wipe σ0 us) → (∃ τ, σ = τ) → Rel K B δ σ G H → DtA K G vs ds → ds.length = is.length → N ((is.zip ds).foldl (fun s p => s.set p.1 (.dat p.2)) δ) → gNs is vs σ H Q
  | [], [], _, δ, σ, _, hw, _, R, h, _, n => by cases h; exact ⟨rfl, kq δ σ R hw n⟩
  | [], d :: ds, _, δ, σ, _, _, _, R, h, e, n => by simp at e
  | i :: is, [], _, δ, σ, _, _, _, R, h, e, n => by simp at e
  | i :: is, d :: ds, _, δ, σ, hs, hw, hz, R, h, e, n => by
    cases h with
    | cons h1 h2 =>
      refine ⟨_, _, rfl, ?_⟩
      refine gNs_wipe kq is ds _ _ _ (fun j m => hs j (List.mem_cons_of_mem _ m)) ?_ ⟨_, rfl⟩ (R.set R.wd .refl (i := i) (s := .dat d) ⟨_, rfl, h1⟩ (fun _ _ z => nomatch z)) h2 (by simpa using e) n
      rw [← hw]
      have key : ∀ (vs : List Nat) (τ : St) (x : Option V), i ∈ vs → L2.wipe (τ.set i x) vs = L2.wipe τ vs := by
        intro vs
        induction vs with
        | nil => intro τ x hm; cases hm
        | cons v vs ih =>
          intro τ x hm
          show (L2.wipe (τ.set i x) vs).set v none = (L2.wipe τ vs).set v none
          by_cases hv : i ∈ vs
          · rw [ih τ x hv]
          · have e : i = v := (List.mem_cons.mp hm).resolve_right hv
            subst e
            have out : ∀ (ws : List Nat) (τ : St), i ∉ ws → L2.wipe (τ.set i x) ws = (L2.wipe τ ws).set i x := by
              intro ws
              induction ws with
              | nil => intro τ _; rfl
              | cons w ws ih2 =>
                intro τ hn
                show (L2.wipe (τ.set i x) ws).set w none = ((L2.wipe τ ws).set w none).set i x
                rw [ih2 τ fun z => hn (List.mem_cons_of_mem _ z), List.set_comm _ _ (fun z => hn (by rw [z]; exact List.mem_cons_self))]
            rw [out vs τ hv, List.set_set]
      exact key us σ (some _) (hs i List.mem_cons_self)
theorem tg_wipe {K : PySem.W.Frag} {B : Base} {G H : Hp} {Q : St → Hp → Prop} {N : DSt → Prop} {us : List Nat} {tg : Tg0} (hu : tg.ok us = true) {d : D} {v : V} {δ : DSt} {σ : St} (kq : ∀ δ' σ', Rel K B δ' σ' G H → L2.wipe σ' us = L2.wipe σ us → N δ' → Q σ' H) (R : Rel K B δ σ G H) (h : Dt K G v d) (n : setD tg d δ N) : gTg K tg v σ H Q := by
  have mem : ∀ i : Nat, us.contains i = true → i ∈ us := fun i e => by simpa using e
  cases tg with
  | nm i =>
    have hi : i ∈ us := mem i hu
    have q := gNs_wipe (K := K) (B := B) (G := G) (H := H) (Q := Q) (N := N) (σ0 := σ) (us := us) kq [i] [d] [v] δ σ (fun j m => by rw [List.mem_singleton.mp m]; exact hi) rfl ⟨_, rfl⟩ R (.cons h .nil) rfl n
    obtain ⟨w, r, e, q⟩ := q
    cases e
    exact q.2
  | tp is =>
    have hi : ∀ i ∈ is, i ∈ us := fun i m => mem i (List.all_eq_true.mp hu i m)
    cases d with
    | tuple ds =>
      obtain ⟨e, n⟩ := n
      cases h with
      | tup h1 h2 => exact ⟨_, _, rfl, same_sqT R.wd.sub h1, by rw [h2.length]; exact e, gNs_wipe kq is ds _ δ σ hi rfl ⟨_, rfl⟩ R h2 e n⟩
    | _ => exact n.elim
/-- what is walked within one expression: own lists too -/
structure WalkV (K : PySem.W.Frag) (M : Addr → Prop) (G H : Hp) (J : It) (ds : List D) : Prop where
  go : ∀ i G2 H2, Ext M G H G2 H2 → Wd M G2 H2 → i < ds.length → J.go i H2
  yld : ∀ i G2 H2 x H', Ext M G H G2 H2 → Wd M G2 H2 → i < ds.length → J.yld i H2 x H' → ∃ d G', ds[i]? = some d ∧ Wd M G' H' ∧ Ext M G2 H2 G' H' ∧ Dt K G' x d
  stop : ∀ i G2 H2, Ext M G H G2 H2 → Wd M G2 H2 → ds.length ≤ i → J.stop i H2
theorem WalkD.v {K : PySem.W.Frag} {M : Addr → Prop} {G H : Hp} {J : It} {ds : List D} (w : WalkD K M G J ds) : WalkV K M G H J ds :=
  ⟨fun i G2 H2 t => w.go i G2 H2 t.gg, fun i G2 H2 x H' t => w.yld i G2 H2 x H' t.gg, fun i G2 H2 t => w.stop i G2 H2 t.gg⟩
def lIV (K : PySem.W.Frag) (W : WX) (dr : DSrc) : TI := fun σ H R => ∃ (B : Base) (δ : DSt) (G : Hp) (Q2 : List D → Prop) (X2 : Addr → Prop), Rel K B δ σ G H ∧ dr δ Q2 X2 ∧
  (∀ J ds G' H', Wd B.M G' H' → Ext B.M G H G' H' → WalkV K B.M G' H' J ds → Q2 ds → R J H') ∧ XOk K W B δ σ X2
theorem lIV_of {tg iter : Expr} {dr : DSrc} (h : PI X tg iter (lI X.K W dr)) : PI X tg iter (lIV X.K W dr) := h.imp fun σ H R q => by
  obtain ⟨B, δ, G, Q2, X2, R', q, k, kx⟩ := q
  exact ⟨B, δ, G, Q2, X2, R', q, fun J ds G1 H1 w1 t1 wk => k J ds G1 H1 w1 t1 wk.v, kx⟩
/-- an own list by its name -/
def sV (i : Nat) : DSrc := fun δ Q _ => match δ.getD i .no with
  | .own ds => Q ds
  | _ => False
theorem di_view {tg : Expr} (i : Nat) (hN : X.N[i]? = some x := by rfl) (hv : Vis X.env.scope x := by first | exact Or.inl rfl | exact Or.inr (Or.inl rfl) | exact Or.inr (Or.inr rfl)) (hd : (x == ("__debug__" : Str)) = false := by decide) (hcd : (x == ("__classdict__" : Str)) = false := by decide) : PI X tg (.Name x pos) (lIV X.K W (sV i)) := by
  refine (pi_list (pe_var hN hv hd hcd)).imp fun σ H R h => ?_
  obtain ⟨B, δ, G, Q2, X2, R', h, k, kx⟩ := h
  unfold sV at h
  split at h
  · rename_i ds e
    obtain ⟨y, e1, a, xs, rfl, b1, b2, b3, b4, b5⟩ := R'.at (getD_some e fun z => nomatch z)
    refine ⟨_, e1, a, rfl, ⟨xs, SqL.of b4⟩, k (Itl X.K a) ds G H R'.wd .refl ⟨fun i G2 H2 t w hi => ?_, fun i G2 H2 x H' t w hi y => ?_, fun i G2 H2 t w hi => ?_⟩ h⟩
    · obtain ⟨v, ev, _⟩ := b5.get (List.getElem?_eq_getElem hi)
      exact ⟨xs, v, SqL.of (t.hh a _ b3 b4), ev⟩
    · obtain ⟨ey, y⟩ := y
      subst ey
      obtain ⟨d, ed, dd⟩ := b5.getV (y xs (SqL.of (t.hh a _ b3 b4)))
      exact ⟨d, G2, ed, w, .refl, dd.mono t.gg⟩
    · exact ⟨xs, SqL.of (t.hh a _ b3 b4), by rw [b5.length]; exact hi⟩
  · exact h.elim
theorem lE_lc {K : PySem.W.Frag} {dr : DSrc} {tg : Tg0} {vs : List Nat} {tt : DTT} {el : DTE} (hu : tg.ok vs = true) {σ : St} {H : Hp} {Q : VK} (h : lE K W (dLc dr tg vs tt el) σ H Q) : tLc (lIV K W dr) (gTg K tg) (lT K W0 tt) (lE K W0 el) vs σ H Q := by
  obtain ⟨B, δ, G, Q2, X2, R, h, k, kx⟩ := h
  refine ⟨B, δ, G, _, X2, R, h, fun J ds G1 H1 w1 t1 wk q1 => ?_, kx⟩
  obtain ⟨hz, I, i0, turn, fin⟩ := q1
  intro Dn hDn
  have g1 : G1 Dn = none := w1.noG hDn
  have m1 : ¬ B.M Dn := w1.nm hDn
  refine ⟨fun i m H2 => i ≤ ds.length ∧ m = ds.length - i ∧ ∃ G2 acc xs, Wd B.M G2 H2 ∧ Ext B.M G1 H1 G2 H2 ∧ G2 Dn = none ∧ H2 Dn = some (.lst xs) ∧ DtA K G2 xs acc ∧ acc.length ≤ i ∧ I i acc, ⟨ds.length, Nat.zero_le _, rfl, G1, [], [], w1.alloc hDn, Ext.alloc hDn, g1, upd_same, .nil, Nat.le_refl _, i0⟩, fun i m H2 hw => ?_⟩
  obtain ⟨hi, rfl, G2, acc, xs, w2, t2, g2, h2, d2, l2, ii⟩ := hw
  by_cases hlt : i < ds.length
  · refine .inr ⟨wk.go i G2 H2 t2 w2 hlt, fun H' => ∃ G' acc xs, Wd B.M G' H' ∧ Ext B.M G1 H1 G' H' ∧ G' Dn = none ∧ H' Dn = some (.lst xs) ∧ DtA K G' xs acc ∧ acc.length ≤ i + 1 ∧ I (i + 1) acc, fun H' h => ⟨ds.length - (i + 1), by omega, hlt, rfl, h⟩, fun x H' y => ?_⟩
    obtain ⟨d, G3, ed, w3, t3, dd⟩ := wk.yld i G2 H2 x H' t2 w2 hlt y
    have hn2 : H2 Dn ≠ none := by rw [h2]; exact fun z => nomatch z
    have R3 : Rel K B (wipeD δ vs) (L2.wipe σ vs) G3 H' := (((R.step w1 t1).wipe vs).step w3 ⟨fun b o mb e => ?_, fun c o z => t3.gg c o (t2.gg c o z), fun c z g => ?_, fun c z => t3.hm c (t2.hm c z)⟩)
    · refine tg_wipe hu (fun δ' σ' R4 ew n => ?_) R3 dd (turn i acc d ed ii l2)
      refine ⟨by rw [ew]; exact wipe_none vs vs fun _ z => z, ?_⟩
      refine ⟨B, δ', G3, _, _, R4, n, fun b G4 H4 w4 t4 q4 => Br.ite ⟨fun e => ?_, fun e => ?_⟩, fun _ _ _ _ z => z⟩
      · refine ⟨B, δ', G4, _, _, R4.step w4 t4, q4.y e, fun r v G5 H5 w5 t5 o5 q5 => ?_, fun _ _ _ _ z => z⟩
        obtain ⟨r', f1, q5⟩ := fzQ_some q5
        obtain ⟨G6, w6, t6, s6, o6⟩ := o5.fz w5 t5 f1
        split at q5
        · rename_i d' f2
          have hD' : H' Dn = some (.lst xs) := t3.hh Dn _ m1 h2
          have hD4 := t4.hh Dn _ m1 hD'
          have hD5 := t6.hh Dn _ m1 hD4
          have g3 : G3 Dn = none := t3.fr Dn hn2 g2
          have g4 : G4 Dn = none := t4.fr Dn (by rw [hD']; exact fun z => nomatch z) g3
          have g6 : G6 Dn = none := t6.fr Dn (by rw [hD4]; exact fun z => nomatch z) g4
          have su := sto_upd (o := .lst (xs ++ [v])) w6 m1 g6 (by rw [hD5]; exact fun z => nomatch z)
          have t46 := (t3.trans t4).trans t6
          have sz := d2.length
          refine ⟨xs, hD5, by omega, G6, acc ++ [d'], xs ++ [v], su.1, ⟨fun b o mb e => ?_, fun c o z => t46.gg c o (t2.gg c o z), fun c z g => ?_, fun c z => ?_⟩, g6, upd_same, (d2.mono t46.gg).append (.cons (fz_d o6 f2) .nil), by rw [List.length_append]; show acc.length + 1 ≤ i + 1; omega, q5⟩
          · have ne : b ≠ Dn := fun z => by rw [z, hDn] at e; cases e
            rw [upd_ne ne]
            exact t46.hh b o mb (t2.hh b o mb e)
          · exact t46.fr c (t2.hm c z) (t2.fr c z g)
          · by_cases zz : c = Dn
            · subst zz; rw [upd_same]; exact fun y => nomatch y
            · rw [upd_ne zz]; exact t46.hm c (t2.hm c z)
        · exact q5.elim
      · have t34 := t3.trans t4
        exact ⟨G4, acc, xs, w4, ⟨fun b o mb e => t34.hh b o mb (t2.hh b o mb e), fun c o z => t34.gg c o (t2.gg c o z), fun c z g => t34.fr c (t2.hm c z) (t2.fr c z g), fun c z => t34.hm c (t2.hm c z)⟩, t34.fr Dn hn2 g2, t34.hh Dn _ m1 h2, d2.mono t34.gg, by omega, q4.n e⟩
    · exact t3.hh b o mb (t2.hh b o mb e)
    · exact t3.fr c (t2.hm c z) (t2.fr c z g)
  · have e : i = ds.length := by omega
    subst e
    refine .inl ⟨wk.stop _ G2 H2 t2 w2 (Nat.le_refl _), ?_⟩
    exact k (.own acc) _ G2 H2 w2 (t1.trans t2) ⟨Dn, xs, rfl, none_early t1.hm Dn hDn, g2, m1, h2, d2⟩ (fin acc ii l2)
end
end RB

set_option Elab.async false
set_option linter.all false
set_option maxRecDepth 100000
set_option maxHeartbeats 4000000
/-! RB7: comprehensions as expressions, own errors, try, a def's rule -/
namespace RB
open PySem PySem.Spec PyProof.Rows L2
section
variable {X : Cx} {W : WX} {dr : DSrc} {tg0 : Tg0} {dt : DTT} {del : DTE} {elt tg iter : Expr} {ifs : List Expr} {scope : Scope} {own : List (Str × Nat)} {pos spos : Pos}
theorem dts_nil : PTs X [] (lT X.K W dYes) := ⟨fun pins s σ H Q I h => by
  obtain ⟨B, δ, G, Q2, X2, R, h, k, kx⟩ := h
  exact pts_nil.run pins s σ H Q I (k true G H R.wd .refl h)⟩
theorem dts_one {c : Expr} (h : PT X c (lT X.K W dt)) : PTs X [c] (lT X.K W dt) := pts_one h
theorem de_lc (hu : tg0.ok (own.map (·.2)) = true) (hc : X.calm = true) (hN : X.N.Nodup) (hi : PI X tg iter (lIV X.K W dr)) (ok : BlkOk X.N X.env.scope scope own)
    (hg : ∀ (s : Shared) (H : Hp) (C : Addr) (cl : List (Str × Addr)) (fp : List Addr), PG (X.blk s H scope (compEnvC scope cl C X.env) fp) tg (gTg X.K tg0)) (ht : ∀ (s : Shared) (H : Hp) (C : Addr) (cl : List (Str × Addr)) (fp : List Addr), PTs (X.blk s H scope (compEnvC scope cl C X.env) fp) ifs (lT X.K W0 dt))
    (he : ∀ (s : Shared) (H : Hp) (C : Addr) (cl : List (Str × Addr)) (fp : List Addr), PE (X.blk s H scope (compEnvC scope cl C X.env) fp) elt (lE X.K W0 del)) (hs : ∀ x, foldedSetIterable iter X.env x = pure x := by intro _; rfl) :
    PE X (.ListComp elt [⟨tg, iter, ifs, 0⟩] scope pos) (lE X.K W (dLc dr tg0 (own.map (·.2)) dt del)) := (pe_lc hc hN hi ok hg ht he hs).imp fun _ _ _ h => lE_lc hu h
theorem ds_setLc {i : Nat} {y : Str} {py : Pos} (hu : tg0.ok (own.map (·.2)) = true) (hc : X.calm = true) (hN : X.N.Nodup) (hsw : swapsWith (.ListComp elt [⟨tg, iter, ifs, 0⟩] scope pos) (some (.Name y py)) spos.line X.env = pure true) (hi : PI X tg iter (lIV X.K W dr)) (ok : BlkOk X.N X.env.scope scope own)
    (hg : ∀ (s : Shared) (H : Hp) (C : Addr) (cl : List (Str × Addr)) (fp : List Addr), PG (X.blk s H scope (compEnvC scope cl C X.env) fp) tg (gTg X.K tg0)) (ht : ∀ (s : Shared) (H : Hp) (C : Addr) (cl : List (Str × Addr)) (fp : List Addr), PTs (X.blk s H scope (compEnvC scope cl C X.env) fp) ifs (lT X.K W0 dt))
    (he : ∀ (s : Shared) (H : Hp) (C : Addr) (cl : List (Str × Addr)) (fp : List Addr), PE (X.blk s H scope (compEnvC scope cl C X.env) fp) elt (lE X.K W0 del)) (hy : X.N[i]? = some y := by rfl) (hyl : X.env.scope.names.lookup y = some .local := by rfl) (hs : ∀ x, foldedSetIterable iter X.env x = pure x := by intro _; rfl) :
    PS X (.Assign [.Name y py] (.ListComp elt [⟨tg, iter, ifs, 0⟩] scope pos) spos) (lS X.K W (dSet i (dLc dr tg0 (own.map (·.2)) dt del))) := (ps_setLc hc hN hy hyl hsw hi ok hg ht he hs).imp fun D σ H h => by
  obtain ⟨B, δ, G, D2, R, k, h⟩ := h
  exact lE_lc hu ⟨B, δ, G, _, _, R, h, fun r v G1 H1 w1 t1 o1 q1 => asgF_ok (Q := D.nx) R w1 t1 o1 q1 k.nx, k.xok⟩
theorem ds_setLcO {i : Nat} {y : Str} {py : Pos} (hu : tg0.ok (own.map (·.2)) = true) (hc : X.calm = true) (hN : X.N.Nodup) (hsw : swapsWith (.ListComp elt [⟨tg, iter, ifs, 0⟩] scope pos) (some (.Name y py)) spos.line X.env = pure true) (hi : PI X tg iter (lIV X.K W dr)) (ok : BlkOk X.N X.env.scope scope own)
    (hg : ∀ (s : Shared) (H : Hp) (C : Addr) (cl : List (Str × Addr)) (fp : List Addr), PG (X.blk s H scope (compEnvC scope cl C X.env) fp) tg (gTg X.K tg0)) (ht : ∀ (s : Shared) (H : Hp) (C : Addr) (cl : List (Str × Addr)) (fp : List Addr), PTs (X.blk s H scope (compEnvC scope cl C X.env) fp) ifs (lT X.K W0 dt))
    (he : ∀ (s : Shared) (H : Hp) (C : Addr) (cl : List (Str × Addr)) (fp : List Addr), PE (X.blk s H scope (compEnvC scope cl C X.env) fp) elt (lE X.K W0 del)) (hy : X.N[i]? = some y := by rfl) (hyl : X.env.scope.names.lookup y = some .local := by rfl) (hs : ∀ x, foldedSetIterable iter X.env x = pure x := by intro _; rfl) :
    PS X (.Assign [.Name y py] (.ListComp elt [⟨tg, iter, ifs, 0⟩] scope pos) spos) (lS X.K W (dSetO i (dLc dr tg0 (own.map (·.2)) dt del))) := (ps_setLc hc hN hy hyl hsw hi ok hg ht he hs).imp fun D σ H h => by
  obtain ⟨B, δ, G, D2, R, k, h⟩ := h
  exact lE_lc hu ⟨B, δ, G, _, _, R, h, fun r v G1 H1 w1 t1 o1 q1 => asgO_ok (Q := D.nx) R w1 t1 o1 q1 k.nx, k.xok⟩

/-! ### raise -/
def dRaise (C : Addr) : DTS := fun D δ => D.ex C δ
/-- an own class of errors that may be raised with a text -/
structure ExK (K : PySem.W.Frag) (mg : Str → Option Value) (x : Str) (C : Addr) : Prop where
  g : mg x = some (.ref C)
  q : PySem.W.excIn K C [.type "ValueError", .type "Exception", .type "BaseException", .type "object"] "ValueError.__new__" = true
  k : PySem.W.keepIn K (.ref C) = true
  b : PySem.W.subIn K (.ref C) (.type "BaseException") = some true
  t : PySem.W.typeIn K (.ref C) = some (.type "type")
theorem ds_raise {x m : Str} {j : Nat} {p p2 pos' : Pos} {C : Addr} (hc : X.calm = true) (tk : Takes X W) (e : ExK X.K X.mg x C) (hg : Gl X x := by rfl) (hdb : (x == ("__debug__" : Str)) = false := by decide) : PS X (.Raise (some (.Call (.Name x p) [.Constant (.str m) j p2] [] pos')) none pos) (lS X.K W (dRaise C)) :=
  (ps_raise hc tk (pmk_own PySem.F.excBase_ValueError e.q e.g e.k (raises_own e.b e.t) hg hdb)).imp fun D σ H h => by
  obtain ⟨B, δ, G, D2, R, k, h⟩ := h
  exact k.ex C δ σ G H R h
end

/-! ### try: several clauses, each with a name or without -/
abbrev Cl := Value × Option Nat × (Addr → Value → Option Addr → TS)
def goneD (n : Option Nat) (D : Ends) : Ends := match n with
  | none => D
  | some i => { nx := fun σ H => D.nx (σ.set i none) H, rt := D.rt, bk := fun σ H => D.bk (σ.set i none) H, ct := fun σ H => D.ct (σ.set i none) H }
def goneS (n : Option Nat) (a : Addr) (σ : St) : St := match n with
  | none => σ
  | some i => σ.set i (some (.ref a))
def wCls (K : PySem.W.Frag) (Wout : WX) (D : Ends) : List Cl → WX
  | [] => Wout
  | (c, n, ts) :: r => fun cls d σ H => ∃ b, PySem.W.exmOne K cls c = some b ∧ (b = true → ∀ a, H a = none → ts a cls d (goneD n D) (goneS n a σ) H) ∧ (b = false → wCls K Wout D r cls d σ H)
inductive ClsOk (X : Cx) : List ExceptHandler → List Cl → Prop
  | nil : ClsOk X [] []
  | plain {x : Str} {c : Value} {ts : Addr → Value → Option Addr → TS} {b₀ : Stmt} {suite : List Stmt} {np pos' : Pos} {hds : List ExceptHandler} {l : List Cl} (hc : Names X x c)
      (hsu : ∀ (a : Addr) (oe : Obj) (cls : Value) (d : Option Addr) (pn : List (Addr × Obj)), Zc cls d oe → (∃ vs, oe.data = .fields vs) → PSs (X.suite a ((a, oe) :: pn)) (b₀ :: suite) (ts a cls d)) (r : ClsOk X hds l) :
      ClsOk X (.ExceptHandler (some (.Name x np)) none (b₀ :: suite) pos' :: hds) ((c, none, ts) :: l)
  | named {x n : Str} {i : Nat} {c : Value} {ts : Addr → Value → Option Addr → TS} {b₀ : Stmt} {suite : List Stmt} {np pos' : Pos} {hds : List ExceptHandler} {l : List Cl} (hN : X.N.Nodup) (hi : X.N[i]? = some n) (hln : X.env.kindOf n = some .local) (hc : Names X x c)
      (hsu : ∀ (a : Addr) (oe : Obj) (cls : Value) (d : Option Addr) (pn : List (Addr × Obj)), Zc cls d oe → (∃ vs, oe.data = .fields vs) → PSs (X.suite a ((a, oe) :: pn)) (b₀ :: suite) (ts a cls d)) (r : ClsOk X hds l) :
      ClsOk X (.ExceptHandler (some (.Name x np)) (some n) (b₀ :: suite) pos' :: hds) ((c, some i, ts) :: l)
section
variable {X : Cx} {bdy : List Stmt} {h₀ : ExceptHandler} {hds : List ExceptHandler} {l : List Cl} {pos : Pos} {tb : WX → TS} {Wout : WX}
theorem ps_try_cls (hs : X.stack = X.env :: X.outer) (hf : X.env.frame = some X.env.locals) (tk : Takes X Wout)
    (hb : ∀ (W : WX) (pn : List (Addr × Obj)) (xe : Value → Shared → Prop), Takes (X.tr pn xe) W → PassesOwn (model X.prog X.w) X.A X.env xe → PSs (X.tr pn xe) bdy (tb W))
    (hh : ClsOk X (h₀ :: hds) l) : PS X (.Try bdy (h₀ :: hds) [] [] pos) (fun D σ H => tb (wCls X.K Wout D l) D σ H) := by
  refine ⟨fun pins s σ H D I h => ?_⟩
  have ok := I.ok; have hfr : X.A.frames = some (X.env :: X.outer) := by rw [ok.frames, hs]
  refine wpAny_Try_except ?_
  refine wpAny_mono ((hb (wCls X.K Wout D l) (X.pn ++ pins) (fun e s₁ => wpAny (model X.prog X.w) X.A (noteFrame e X.env) (fun _ s₂ => wpAny (model X.prog X.w) X.A (setFlight e none) (fun _ s₃ => wpAny (model X.prog X.w) X.A (handleBy e X.env (h₀ :: hds)) (SP X pins D) X.xe s₃) X.xe s₂) X.xe s₁)
    (fun u s' xx => ?ct) PassesOwn.looking).run [] s σ H D (I.toTry _) h) (fun f s1 hsp => ?_) (fun e s1 he => he)
  case ct =>
    obtain ⟨a, B, sI, pins', σ', H', cls, d, rfl, J', nb, up, sky, na, os, ag, w⟩ := xx
    have J : Inv X pins σ' H' sI := J'.ofTry ok
    have sky2 : Sky B (X.env :: X.outer) a (Zc cls d) X.env.locals s'.heap := by rw [← hs]; exact sky
    show wpAny (model X.prog X.w) X.A (noteFrame (.ref a) X.env) _ _ _
    refine Sky.land Zc.steady hfr hf sky2 fun h3 fl3 up3 => ?_
    have J3 : Inv X pins σ' H' { s' with heap := h3 } := J.landed nb fl3.1 (up.trans up3) os ag
    obtain ⟨oe3, vs3, he3, hz3, hd3⟩ := fl3.there
    have out : ∀ {h : Heap} {o : Obj} {vs : Array Value}, h.FunFrames B (X.env :: X.outer) → h.get? a = some o → o.data = .fields vs → a ∉ frs (X.env :: X.outer) := fun {h o vs} ff e dd hm => by
      obtain ⟨_, o', e', hnf⟩ := ff.mem hm; rw [e] at e'; cases e'; exact hnf _ dd
    have nfr := out fl3.2.2.1 he3 hd3
    have nL : a ≠ X.env.locals := fun z => nfr (List.mem_filterMap.mpr ⟨X.env, List.mem_cons_self, by rw [hf, z]⟩)
    have nF : a ∉ X.fs := fun hm => by
      obtain ⟨e, he, q⟩ := List.mem_filterMap.mp hm; exact nfr (List.mem_filterMap.mpr ⟨e, List.mem_cons_of_mem _ he, q⟩)
    have S3 := J3.suite he3 hd3 na nL nF
    have LT : PySem.W.Looks (model X.prog X.w) h3 (typeOf (.ref a)) cls := fun A Q E s k q => wpAny_typeOf_ref (k _ _ he3) (by rw [hz3.1]; exact q)
    have test : ∀ {x : Str} {c : Value} {np : Pos}, Names X x c → ∀ {Q : Value → Shared → Prop} {E : Value → Shared → Prop}, Q c { s' with heap := h3 } → wpAny (model X.prog X.w) (X.A.mark (some (.ref a))) (eval (.Name x np) X.env) Q E { s' with heap := h3 } := by
      intro x c np hc Q E q
      obtain ⟨hg1, hdbg1, hm1⟩ := hc
      rcases hm1 with hm1 | ⟨hm1, hv1, hnn1⟩
      · exact ld_glob (X := X.suite a ((a, oe3) :: (X.pn ++ pins))) S3 hg1 hm1 q hdbg1
      · exact ld_blt (X := X.suite a ((a, oe3) :: (X.pn ++ pins))) S3 hg1 hm1 hv1 q hnn1 hdbg1
    have go : ∀ {hds' : List ExceptHandler} {l' : List Cl}, ClsOk X hds' l' → wCls X.K Wout D l' cls d σ' H' → wpAny (model X.prog X.w) X.A (handleBy (.ref a) X.env hds') (SP X pins D) X.xe { s' with heap := h3 } := by
      intro hds' l' hk
      induction hk with
      | nil =>
        intro w; refine wpAny_handleBy_nil ?_
        obtain ⟨k1, k2, k3, oe, vs, T, oT, ts', he, hz, hd, h1, hr⟩ := id fl3
        unfold PySem.passOn
        refine wpAny_bind (wpAny_field he hd h1 ?_); rw [if_neg (show ¬ ((Value.ref T == Value.none) = true) from by simp)]
        have fin : wpAny (model X.prog X.w) X.A (setFlight (.ref a) X.env.frame) (fun _ s4 => wpAny (model X.prog X.w) X.A (throw (.ref a) : Sem Flow) (SP X pins D) X.xe s4) X.xe { s' with heap := h3 } := by
          rw [hf]; refine HandSPX.setFlight_upZ fl3 fun h4 hh4 up4 => wpAny_throw (tk _ _ ?_)
          exact ⟨a, B, sI, pins, σ', H', cls, d, rfl, J, nb, (up.trans up3).trans up4, .inr (.inr (by rw [hs]; exact hh4)), na, os, ag, w⟩
        first | exact wpAny_bind (wpAny_pure (wpAny_bind fin)) | exact wpAny_bind fin
      | @plain x c ts b₀ suite np pos' hds2 l2 hc hsu r ih =>
        intro w; obtain ⟨b, hb1, hyes, hno⟩ := w
        refine wpAny_handleBy_cons (codeAny_handlers_test ?_) (by intro q; cases q)
        refine test hc ((PySem.W.exm_one (M := model X.prog X.w) (J3.kIn) LT hb1).here ?_)
        cases b with
        | true =>
          refine codeAny_handlers_suite (HandSPX.lands_againZ fl3 fun h4 fl4 up4 => ?_)
          have J4 : Inv X pins σ' H' { s' with heap := h4 } := J.landed nb fl4.1 ((up.trans up3).trans up4) os ag
          obtain ⟨oe4, vs4, he4, hz4, hd4⟩ := fl4.there
          refine wpAny_mono ((hsu a oe4 cls d (X.pn ++ pins) hz4 ⟨_, hd4⟩).run [] _ _ H' _ (J4.suite he4 hd4 na nL nF) (hyes rfl a na)) (fun f s6 hsp => ?_) (fun _ _ z => False.elim z)
          cases f with
          | next => obtain ⟨σ6, H6, S6, q6⟩ := hsp; exact ⟨_, _, S6.unsuite ok, q6⟩
          | brk => obtain ⟨σ6, H6, S6, q6⟩ := hsp; exact ⟨_, _, S6.unsuite ok, q6⟩
          | cont => obtain ⟨σ6, H6, S6, q6⟩ := hsp; exact ⟨_, _, S6.unsuite ok, q6⟩
          | ret u => obtain ⟨v6, σ6, H6, S6, r6, q6⟩ := hsp; exact ⟨_, _, _, S6.unsuite ok, r6, q6⟩
        | false => exact ih (hno rfl)
      | @named x n i c ts b₀ suite np pos' hds2 l2 hN hi hln hc hsu r ih =>
        intro w; obtain ⟨b, hb1, hyes, hno⟩ := w
        refine wpAny_handleBy_cons (codeAny_handlers_test ?_) (by intro q; cases q)
        refine test hc ((PySem.W.exm_one (M := model X.prog X.w) (J3.kIn) LT hb1).here ?_)
        cases b with
        | true =>
          refine codeAny_handlers_suite_as (HandSPX.lands_againZ fl3 fun h4 fl4 up4 => ?_)
          have J4 : Inv X pins σ' H' { s' with heap := h4 } := J.landed nb fl4.1 ((up.trans up3).trans up4) os ag
          obtain ⟨oe4, vs4, he4, hz4, hd4⟩ := fl4.there
          refine store_ok (X := X.suite a ((a, oe4) :: (X.pn ++ pins))) (v := .ref a) (J4.suite he4 hd4 na nL nF) hN hi (.inl hln) rfl (fun s5 S5 => ?_) (.inr hln)
          refine wpAny_mono ((hsu a oe4 cls d (X.pn ++ pins) hz4 ⟨_, hd4⟩).run [] s5 _ H' _ S5 (hyes rfl a na)) (fun f s6 hsp => ?_) (fun _ _ z => False.elim z)
          have fin : ∀ {σ6 : St} {H6 : Hp} {Q : Shared → Prop}, Inv (X.suite a ((a, oe4) :: (X.pn ++ pins))) [] σ6 H6 s6 → (∀ s7, Inv X pins (σ6.set i none) H6 s7 → Q s7) → wpAny (model X.prog X.w) X.A (do bindName X.env n .none; unbindBehindTheSuite X.env n pos') (fun _ s7 => Q s7) X.xe s6 :=
            fun {σ6 H6 Q} S6 hq => gone_ok (S6.unsuite ok) hN hi hln hq
          cases f with
          | next => obtain ⟨σ6, H6, S6, q6⟩ := hsp; exact fin S6 fun s7 J7 => ⟨_, _, J7, q6⟩
          | brk => obtain ⟨σ6, H6, S6, q6⟩ := hsp; exact fin S6 fun s7 J7 => ⟨_, _, J7, q6⟩
          | cont => obtain ⟨σ6, H6, S6, q6⟩ := hsp; exact fin S6 fun s7 J7 => ⟨_, _, J7, q6⟩
          | ret u => obtain ⟨v6, σ6, H6, S6, r6, q6⟩ := hsp; exact fin S6 fun s7 J7 => ⟨_, _, _, J7, r6, q6⟩
        | false => exact ih (hno rfl)
    exact go hh w
  cases f with
  | next => obtain ⟨σ', H', J', q⟩ := hsp; exact wpAny_execs_nil ⟨σ', H', J'.ofTry ok, q⟩
  | brk => obtain ⟨σ', H', J', q⟩ := hsp; exact ⟨σ', H', J'.ofTry ok, q⟩
  | cont => obtain ⟨σ', H', J', q⟩ := hsp; exact ⟨σ', H', J'.ofTry ok, q⟩
  | ret u => obtain ⟨v, σ', H', J', r, q⟩ := hsp; exact ⟨v, σ', H', J'.ofTry ok, r, q⟩
end

/-! ### a def's rule -/
def slOf : RV → Sl
  | .dat d => .dat d
  | .raw v => .raw v
  | .sto => .sto
  | _ => .no
def startD (N : List Str) (rs : List RV) : DSt := rs.map slOf ++ List.replicate (N.length - rs.length) .no
theorem rel_start {K : PySem.W.Frag} {M : Addr → Prop} {HB G H : Hp} {N : List Str} {vs : List V} {rs : List RV} (w : Wd M G H) (a : Paired (fun v r => AOk K M HB G v r) vs rs) : Rel K ⟨M, G, H⟩ (startD N rs) (L2.start N vs) G H := by
  have hl := pairedLen a
  have get : ∀ {vs : List V} {rs : List RV}, Paired (fun v r => AOk K M HB G v r) vs rs → ∀ (i : Nat) (r : RV) (v : V), rs[i]? = some r → vs[i]? = some v → AOk K M HB G v r := by
    intro vs rs a
    induction a with
    | nil => intro i r v e; simp at e
    | cons h t ih =>
      intro i r v e1 e2
      cases i with
      | zero => simp at e1 e2; subst e1 e2; exact h
      | succ i => exact ih i r v (by simpa using e1) (by simpa using e2)
  refine ⟨w, .refl, by unfold startD L2.start; rw [List.length_append, List.length_append, List.length_map, List.length_map, List.length_replicate, List.length_replicate, hl], fun i s x e1 e2 => ?_, fun i j c ds es e1 => ?_⟩
  · unfold startD at e1
    unfold L2.start at e2
    by_cases hi : i < rs.length
    · rw [List.getElem?_append_left (by simpa using hi), List.getElem?_map] at e1
      rw [List.getElem?_append_left (by rw [List.length_map, hl]; exact hi), List.getElem?_map] at e2
      cases f1 : rs[i]? with
      | none => rw [f1] at e1; cases e1
      | some r =>
        cases f2 : vs[i]? with
        | none => rw [f2] at e2; cases e2
        | some v =>
          rw [f1] at e1; rw [f2] at e2
          cases e1; cases e2
          have q := get a i r v f1 f2
          cases r with
          | dat d => exact ⟨v, rfl, q⟩
          | raw z => cases (show v = z from q); rfl
          | sto => obtain ⟨c, rfl, m⟩ := q; exact ⟨c, rfl, m⟩
          | new d => trivial
          | own ds => trivial
          | view ds => trivial
    · rw [List.getElem?_append_right (by simpa using hi), List.getElem?_replicate] at e1
      split at e1
      · cases e1; trivial
      · cases e1
  · exfalso
    unfold startD at e1
    by_cases hi : i < rs.length
    · rw [List.getElem?_append_left (by simpa using hi), List.getElem?_map] at e1
      cases f1 : rs[i]? with
      | none => rw [f1] at e1; cases e1
      | some r => rw [f1] at e1; cases r <;> cases e1
    · rw [List.getElem?_append_right (by simpa using hi), List.getElem?_replicate] at e1
      split at e1 <;> cases e1
def endD (Q2 : RV → Prop) (X2 : Addr → Prop) : DE2 := ⟨fun _ => Q2 (.dat .none), fun r _ => Q2 r, fun _ => False, fun _ => False, fun C _ => X2 C⟩
section
variable {P : Program} {w : World} {K : PySem.W.Frag} {mg : Str → Option Value} {base : Heap}
abbrev cxD (P : Program) (w : World) (K : PySem.W.Frag) (mg : Str → Option Value) (base : Heap) (N : List Str) (qual : Str) (st : Stmt) (f : Addr) (cdv : Value) (A : Around) (outer : List Env) (s : Shared) (H : Hp) (E : XK) : Cx := cxOf (L2.CX P w) P w K mg base N qual (defScope st) f cdv A outer s H E
abbrev WE0 (E : XK) : WX := fun cls d _ H => E cls d H
theorem fnD {x qual : Str} {st : Stmt} {f : Addr} {fd : FuncData} {N ps : List Str} {k : Nat} {dsp : DSp} {body : DTS} (F : Fun K x qual st f fd) (S : FnScope N ps (defScope st))
    (hb : ∀ (cdv : Value) (A : Around) (outer : List Env) (s : Shared) (H : Hp) (E : XK), Room k (A.deeper (envOfC qual (defScope st) s.heap.objs.size f cdv)) → Takes (cxD P w K mg base N qual st f cdv A outer s H E) (WE0 E) → PassesOwn (model P w) (cxD P w K mg base N qual st f cdv A outer s H E).A (cxD P w K mg base N qual st f cdv A outer s H E).env (cxD P w K mg base N qual st f cdv A outer s H E).xe →
      PSs (cxD P w K mg base N qual st f cdv A outer s H E) (defBody st) (lS K (WE0 E) body))
    (hp : ∀ rs Q2 X2, rs.length = ps.length → dsp rs Q2 X2 → body (endD Q2 X2) (startD N rs)) : FnOk P w K mg base (L2.CX P w) (k + 1) f fd ps (spD K ps.length dsp) := by
  refine F.okX S (fun vs H Q E h => spD_len rfl vs H Q E h) fun cdv A outer s H vs Q E hr h => ⟨_, hb cdv A outer s H E hr (takes_of rfl rfl rfl rfl) (passes_of rfl), ?_⟩
  obtain ⟨M, HB, G, rs, Q2, X2, wd, a, l, hd, kq, kx⟩ := h
  refine ⟨⟨M, G, H⟩, startD N rs, G, endD Q2 X2, rel_start wd a, ⟨fun δ σ G' H' R q => kq (.dat .none) .non G' H' R.wd R.ext Dt.non q, fun _ _ _ _ _ q => q.elim, fun _ _ _ _ _ q => q.elim, fun r v δ σ G' H' R o' q' => kq r v G' H' R.wd R.ext o' q', fun C δ σ G' H' R q => kx C G' H' R.wd R.ext q⟩, hp rs Q2 X2 l hd⟩
end
end RB

set_option Elab.async false
set_option linter.all false
set_option maxRecDepth 100000
set_option maxHeartbeats 4000000
/-! RB8: facts of the head, try, isinstance of a caught error, the store -/
namespace RB
open PySem PySem.Spec PyProof.Rows L2
/-! ### constants of the module as data -/
mutual
def dvB (K : PySem.W.Frag) : D → Value → Bool
  | .none, u => match u with
    | .none => true
    | _ => false
  | .bool b, u => match u with
    | .bool c => b == c
    | _ => false
  | .int i, u => match u with
    | .int j _ => decide (i = j)
    | _ => false
  | .str x, u => match u with
    | .str y _ => decide (x = y)
    | _ => false
  | .tuple ds, u => match u with
    | .ref a => (match K.lookup a with
      | some ⟨.type c, _, .seq its _, _⟩ => decide (c = "tuple") && (decide (its.size ≤ sizeLine) && dvAll K ds its.toList)
      | _ => false)
    | _ => false
  | .list _, _ => false
  | .dict _, _ => false
def dvAll (K : PySem.W.Frag) : List D → List Value → Bool
  | [], us => us.isEmpty
  | d :: ds, us => match us with
    | u :: r => dvB K d u && dvAll K ds r
    | [] => false
end
mutual
theorem dvB_ok {K : PySem.W.Frag} : ∀ {d : D} {u : Value}, dvB K d u = true → ∃ v, RelV v u ∧ ∀ G, Dt K G v d
  | .none, u, h => by
    unfold dvB at h
    split at h
    · exact ⟨.non, rfl, fun _ => .non⟩
    · cases h
  | .bool b, u, h => by
    unfold dvB at h
    split at h
    · have e := eq_of_beq h
      subst e
      exact ⟨.bl b, rfl, fun _ => .bl b⟩
    · cases h
  | .int i, u, h => by
    unfold dvB at h
    split at h
    · have e := of_decide_eq_true h
      subst e
      exact ⟨.int i, ⟨_, rfl⟩, fun _ => .int i⟩
    · cases h
  | .str i, u, h => by
    unfold dvB at h
    split at h
    · have e := of_decide_eq_true h
      subst e
      exact ⟨.str i, ⟨_, rfl⟩, fun _ => .str i⟩
    · cases h
  | .tuple ds, u, h => by
    unfold dvB at h
    split at h
    · rename_i a
      split at h
      · rename_i c od its n osl q
        obtain ⟨h1, h2⟩ := He.ba h
        obtain ⟨h3, h4⟩ := He.ba h2
        obtain ⟨vs, rv, dv⟩ := dvAll_ok h4
        exact ⟨.ref a, rfl, fun G => .tup (.inr ⟨_, its, n, q, congrArg Value.type (of_decide_eq_true h1), rfl, of_decide_eq_true h3, rv⟩) (dv G)⟩
      · cases h
    · cases h
  | .list _, _, h => by unfold dvB at h; cases h
  | .dict _, _, h => by unfold dvB at h; cases h
theorem dvAll_ok {K : PySem.W.Frag} : ∀ {ds : List D} {us : List Value}, dvAll K ds us = true → ∃ vs, Vals vs us ∧ ∀ G, DtA K G vs ds
  | [], us, h => by
    unfold dvAll at h
    cases us with
    | nil => exact ⟨[], .nil, fun _ => .nil⟩
    | cons _ _ => cases h
  | d :: ds, us, h => by
    unfold dvAll at h
    split at h
    · rename_i u r
      obtain ⟨h1, h2⟩ := He.ba h
      obtain ⟨v, rv, dv⟩ := dvB_ok h1
      obtain ⟨vs, rvs, dvs⟩ := dvAll_ok h2
      exact ⟨v :: vs, .cons rv rvs, fun G => .cons (dv G) (dvs G)⟩
    · cases h
end
/-! ### facts -/
inductive Fb where
  | f (a : He.Fa) | dat (x : Str) (d : D) | cx (x : Str) | kit (x y : Str) (b : Bool)
def Fb.ok (K : PySem.W.Frag) : Fb → Bool
  | .f a => a.ok K
  | .dat x d => (match PySem.W.nsIn K mainGlobals x with
    | some (some u) => dvB K d u
    | _ => false)
  | .cx x => He.eqO (PySem.W.findIn K (.ref (He.ga K x)) "__getattribute__") (some (some (.builtin "BaseException.__getattribute__"))) && (He.eqO (PySem.W.findIn K (.ref (He.ga K x)) "__getattr__") (some none) &&
    (decide (PySem.W.subIn K (.ref (He.ga K x)) (.type "BaseException") = some true) && (PySem.W.hasDictIn K (He.ga K x) && (He.eqO (PySem.W.findIn K (.ref (He.ga K x)) "__class__") (some (some (.builtin "object.__class__"))) &&
    (He.eqO (PySem.W.specialIn K (.builtin "object.__class__") "__get__") (some (some (.builtin "getset_descriptor.__get__"))) && (decide (PySem.W.takesIn K (.builtin "object.__class__") = some true) && decide (PySem.W.mroIn K (He.ga K x) (.type "object") = some true)))))))
  | .kit x y b => decide (PySem.W.kitOne K (.ref (He.ga K x)) (.ref (He.ga K y)) = some b)
theorem cx_ok {K : PySem.W.Frag} {x : Str} (h : (Fb.cx x).ok K = true) : ExcC K (He.ga K x) := by
  obtain ⟨h1, h⟩ := He.ba h
  obtain ⟨h2, h⟩ := He.ba h
  obtain ⟨h3, h⟩ := He.ba h
  obtain ⟨h4, h⟩ := He.ba h
  obtain ⟨h5, h⟩ := He.ba h
  obtain ⟨h6, h⟩ := He.ba h
  obtain ⟨h7, h8⟩ := He.ba h
  exact ⟨He.eqO_ok h1, He.eqO_ok h2, of_decide_eq_true h3, h4, He.eqO_ok h5, He.eqO_ok h6, of_decide_eq_true h7, of_decide_eq_true h8⟩
theorem kit_ok {K : PySem.W.Frag} {x y : Str} {b : Bool} (h : (Fb.kit x y b).ok K = true) : PySem.W.kitOne K (.ref (He.ga K x)) (.ref (He.ga K y)) = some b := of_decide_eq_true h
structure GlD (K : PySem.W.Frag) (mg : Str → Option Value) (x : Str) (d : D) : Prop where
  ex : ∃ u v, mg x = some u ∧ RelV v u ∧ ∀ G, Dt K G v d
theorem dat_ok {K : PySem.W.Frag} {h : Heap} {mg : Str → Option Value} (X : K.In h) (G : h.Ns mainGlobals mg) {x : Str} {d : D} (c : (Fb.dat x d).ok K = true) : GlD K mg x d := by
  have c2 : (match PySem.W.nsIn K mainGlobals x with
    | some (some u) => dvB K d u
    | _ => false) = true := c
  cases e : PySem.W.nsIn K mainGlobals x with
  | none => rw [e] at c2; cases c2
  | some o =>
    rw [e] at c2
    cases o with
    | none => cases c2
    | some u =>
      obtain ⟨v, r, q⟩ := dvB_ok c2
      exact ⟨u, v, PySem.W.mg_of X G e, r, q⟩
theorem exk_ok {K : PySem.W.Frag} {h : Heap} {mg : Str → Option Value} (X : K.In h) (G : h.Ns mainGlobals mg) {x : Str} (g : (He.Fa.glo x).ok K = true) (c : (He.Fa.exc x).ok K = true) : ExK K mg x (He.ga K x) := by
  obtain ⟨c1, c2, c3, c4⟩ := He.exc_ok c
  exact ⟨He.glo_ok X G g, c1, c2, c3, c4⟩
section
variable {X : Cx} {W : WX} {x : Str} {pos : Pos}
theorem de_globD {d : D} (h : GlD X.K X.mg x d) (hg : Gl X x := by rfl) (hdb : (x == ("__debug__" : Str)) = false := by decide) : PE X (.Name x pos) (lE X.K W (dK d)) := by
  obtain ⟨u, v, h1, h2, h3⟩ := h.ex
  exact de_glob h1 h2 h3 hg hdb
end
/-! ### the Hook -/
def obsR (fa : List Fb) (fn : List He.DefD) (K : PySem.W.Frag) : He.AlD := ((fa.all fun f => f.ok K) && fn.all fun d => d.ok K, fn.map fun d => He.fnW K d.at_)
def SaysR (fa : List Fb) (fn : List He.DefD) (K : PySem.W.Frag) : Prop := obsR fa fn K = He.valD fn
def obsRG (n : Nat) (fa : List Fb) (fn : List He.DefD) (g : Addr → Option Obj) : He.AlD := obsR fa fn (He.frG g (He.asD g n))
def hookR (n : Nat) (fa : List Fb) (fn : List He.DefD) : PySem.W.Hook where
  α := He.AlD
  obs := fun s => obsRG n fa fn s.heap.get?
  val := fun _ => He.valD fn
  says := fun _ h => ∃ K : PySem.W.Frag, K.In h ∧ SaysR fa fn K
  of := fun _ _ e => ⟨_, He.frG_in, e⟩
  keeps := fun _ _ _ ⟨K, hK, c⟩ k => ⟨K, PySem.W.Frag.In.keeps hK k, c⟩
theorem obsRG_eq {n : Nat} {fa : List Fb} {fn : List He.DefD} {g : Addr → Option Obj} {s : Shared} (h : ∀ a, g a = s.heap.get? a) : obsRG n fa fn g = (hookR n fa fn).obs s := by
  have e : g = s.heap.get? := funext h
  rw [e] <;> rfl
section
variable {fa : List Fb} {fn : List He.DefD} {K : PySem.W.Frag}
theorem SaysR.fact (c : SaysR fa fn K) {f : Fb} (h : f ∈ fa) : f.ok K = true := by
  have c1 := (He.ba (show ((fa.all fun f => f.ok K) && fn.all fun d => d.ok K) = true from congrArg (fun z : He.AlD => z.1) c)).1
  exact List.all_eq_true.mp c1 f h
theorem SaysR.at (c : SaysR fa fn K) (i : Nat) {f : Fb} (h : fa[i]? = some f := by rfl) : f.ok K = true := c.fact (List.mem_of_getElem? h)
theorem SaysR.def_ (c : SaysR fa fn K) (i : Nat) {d : He.DefD} (h : fn[i]? = some d := by rfl) : ∃ fd, FunD K d.name d.qual d.params d.body d.scope (d.dvs K) (d.kws K) (He.fAd K d.at_) fd := by
  have c2 := (He.ba (show ((fa.all fun f => f.ok K) && fn.all fun d => d.ok K) = true from congrArg (fun z : He.AlD => z.1) c)).2
  have e : fn.map (fun d => He.fnW K d.at_) = fn.map He.DefD.val := congrArg (fun z : He.AlD => z.2) c
  have e2 : (fn.map fun d => He.fnW K d.at_)[i]? = (fn.map He.DefD.val)[i]? := by rw [e]
  rw [List.getElem?_map, List.getElem?_map, h] at e2
  exact He.DefD.funD (Option.some.inj e2) (List.all_eq_true.mp c2 d (List.mem_of_getElem? h))
end
/-- a def of the text's top, told by its statement -/
def dfd (x : Str) (st : Stmt) : He.DefD := ⟨(x, none), x, x, defArgs st, defBody st, defScope st, [], []⟩
theorem SaysR.fun_ {fa : List Fb} {fn : List He.DefD} {K : PySem.W.Frag} (c : SaysR fa fn K) (i : Nat) {x : Str} {st : Stmt} (h : fn[i]? = some (dfd x st) := by rfl) : ∃ fd, Fun K x x st (He.ga K x) fd ∧ FunD K x x (defArgs st) (defBody st) (defScope st) [] [] (He.ga K x) fd := by
  obtain ⟨fd, F⟩ := c.def_ i h
  exact ⟨fd, He5.fun_of (kws := []) F, F⟩

/-! ### try -/
abbrev DCl := Value × Option Nat × (Addr → Addr → DTS)
def goneDD (n : Option Nat) (D : DE2) : DE2 := match n with
  | none => D
  | some i => { nx := fun δ => D.nx (δ.set i .no), rt := D.rt, bk := fun δ => D.bk (δ.set i .no), ct := fun δ => D.ct (δ.set i .no), ex := fun _ _ => False }
def setR (n : Option Nat) (a : Addr) (δ : DSt) : DSt := match n with
  | none => δ
  | some i => δ.set i (.raw (.ref a))
/-- an exception's class is asked of the clauses, in their order -/
structure Exm (K : PySem.W.Frag) (C : Addr) (c : Value) (A B : Prop) : Prop where
  h : ∃ b, PySem.W.exmOne K (.ref C) c = some b ∧ Br b A B
def hxD (K : PySem.W.Frag) (D : DE2) : List DCl → Addr → DSt → Prop
  | [], C, δ => D.ex C δ
  | (c, n, s) :: r, C, δ => Exm K C c (∀ a, s a C { goneDD n D with ex := fun _ _ => False } (setR n a δ)) (hxD K D r C δ)
def dTry (K : PySem.W.Frag) (body : DTS) (cls : List DCl) : DTS := fun D δ => body { D with ex := hxD K D cls } δ
def suiteT (K : PySem.W.Frag) (s : Addr → Addr → DTS) : Addr → Value → Option Addr → TS := fun a cls d D σ H => ∃ C, cls = .ref C ∧ d = none ∧ lS K W0 (s a C) D σ H
def clsT (K : PySem.W.Frag) (l : List DCl) : List Cl := l.map fun c => (c.1, c.2.1, suiteT K c.2.2)
theorem hx_ok {K : PySem.W.Frag} {Wout : WX} {D : Ends} {D2 : DE2} {B : Base} (k : EndsOk K B Wout D D2) : ∀ (l : List DCl) (C : Addr) (δ : DSt) (σ : St) (G H : Hp), Rel K B δ σ G H → hxD K D2 l C δ → wCls K Wout D (clsT K l) (.ref C) none σ H
  | [], C, δ, σ, G, H, R, h => k.ex C δ σ G H R h
  | (c, n, s) :: r, C, δ, σ, G, H, R, h => by
    obtain ⟨b, e, br⟩ := h.h
    refine ⟨b, e, fun hb a _ => ⟨C, rfl, rfl, B, setR n a δ, G, { goneDD n D2 with ex := fun _ _ => False }, ?_, ?_, br.y hb a⟩, fun hb => hx_ok k r C δ σ G H R (br.n hb)⟩
    · cases n with
      | none => exact R
      | some i => exact R.set R.wd .refl (i := i) (s := .raw (.ref a)) rfl (fun _ _ z => nomatch z)
    · cases n with
      | none => exact ⟨k.nx, k.bk, k.ct, k.rt, fun _ _ _ _ _ _ z => z.elim⟩
      | some i => exact ⟨fun δ σ G H R q => k.nx _ _ G H (R.forget i none) q, fun δ σ G H R q => k.bk _ _ G H (R.forget i none) q, fun δ σ G H R q => k.ct _ _ G H (R.forget i none) q, k.rt, fun _ _ _ _ _ _ z => z.elim⟩
theorem pss_suite {X : Cx} {st : List Stmt} {K : PySem.W.Frag} {s : Addr → Addr → DTS} {a : Addr} {cls : Value} {d : Option Addr} (h : ∀ C, cls = .ref C → d = none → PSs X st (lS K W0 (s a C))) : PSs X st (suiteT K s a cls d) := ⟨fun pins s' σ H D I q => by
  obtain ⟨C, e1, e2, q⟩ := q
  exact (h C e1 e2).run pins s' σ H D I q⟩
theorem cl_nil {X : Cx} : ClsOk X [] (clsT X.K []) := .nil
theorem cl_plain {X : Cx} {x : Str} {c : Value} {s : DTS} {b₀ : Stmt} {suite : List Stmt} {np pos' : Pos} {hds : List ExceptHandler} {l : List DCl} (hc : Names X x c)
    (hsu : ∀ (a : Addr) (oe : Obj) (pn : List (Addr × Obj)), PSs (X.suite a ((a, oe) :: pn)) (b₀ :: suite) (lS X.K W0 s)) (r : ClsOk X hds (clsT X.K l)) :
    ClsOk X (.ExceptHandler (some (.Name x np)) none (b₀ :: suite) pos' :: hds) (clsT X.K ((c, none, fun _ _ => s) :: l)) :=
  .plain hc (fun a oe cls d pn hz hf => pss_suite fun C _ _ => hsu a oe pn) r
theorem cl_named {X : Cx} {x n : Str} {i : Nat} {c : Value} {s : Addr → Addr → DTS} {b₀ : Stmt} {suite : List Stmt} {np pos' : Pos} {hds : List ExceptHandler} {l : List DCl} (hN : X.N.Nodup) (hc : Names X x c)
    (hsu : ∀ (a : Addr) (oe : Obj) (C : Addr) (pn : List (Addr × Obj)), Zc (.ref C) none oe → (∃ vs, oe.data = .fields vs) → PSs (X.suite a ((a, oe) :: pn)) (b₀ :: suite) (lS X.K W0 (s a C))) (r : ClsOk X hds (clsT X.K l)) (hi : X.N[i]? = some n := by rfl) (hln : X.env.kindOf n = some .local := by rfl) :
    ClsOk X (.ExceptHandler (some (.Name x np)) (some n) (b₀ :: suite) pos' :: hds) (clsT X.K ((c, some i, s) :: l)) :=
  .named hN hi hln hc (fun a oe cls d pn hz hf => pss_suite fun C e1 e2 => by subst e1 e2; exact hsu a oe C pn hz hf) r
theorem ds_try {X : Cx} {bdy : List Stmt} {h₀ : ExceptHandler} {hds : List ExceptHandler} {l : List DCl} {pos : Pos} {db : DTS} {Wout : WX} (tk : Takes X Wout)
    (hb : ∀ (W : WX) (pn : List (Addr × Obj)) (xe : Value → Shared → Prop), Takes (X.tr pn xe) W → PassesOwn (model X.prog X.w) X.A X.env xe → PSs (X.tr pn xe) bdy (lS X.K W db))
    (hh : ClsOk X (h₀ :: hds) (clsT X.K l)) (hs : X.stack = X.env :: X.outer := by rfl) (hf : X.env.frame = some X.env.locals := by rfl) : PS X (.Try bdy (h₀ :: hds) [] [] pos) (lS X.K Wout (dTry X.K db l)) :=
  (ps_try_cls (tb := fun W => lS X.K W db) hs hf tk hb hh).imp fun D σ H h => by
  obtain ⟨B, δ, G, D2, R, k, h⟩ := h
  exact ⟨B, δ, G, { D2 with ex := hxD X.K D2 l }, R, ⟨k.nx, k.bk, k.ct, k.rt, fun C δ σ G H R q => hx_ok k l C δ σ G H R q⟩, h⟩

/-! ### isinstance of a caught error, within its suite -/
def tRefs (Cs : List Addr) : TA := fun _ H Q => Q (Cs.map V.ref) H
theorem prs_nil {X : Cx} : PA X [] (tRefs []) := pa_nil
theorem prs_cons {X : Cx} {x : Str} {C : Addr} {p : Pos} {es : List Expr} {Cs : List Addr} (hm : X.mg x = some (.ref C)) (h : PA X es (tRefs Cs)) (hg : Gl X x := by rfl) (hdb : (x == ("__debug__" : Str)) = false := by decide) (hst : starEach (.Name x p :: es) X.env = (false, eval (.Name x p) X.env) :: starEach es X.env := by rfl) : PA X (.Name x p :: es) (tRefs (C :: Cs)) :=
  pa_cons (pe_glob (v := .ref C) hg hm rfl hdb) h hst
def rIsET (K : PySem.W.Frag) (D a : Addr) : List V → Hp → VK → Prop := fun xs H Q => ∃ (tp : Addr) (Cs : List Addr) (b : Bool), ExcC K D ∧ xs = [.ref a, .ref tp] ∧ H tp = some (.tup (Cs.map V.ref)) ∧ PySem.W.kitAny K (.ref D) (Cs.map Value.ref) = some b ∧ Q (.bl b) H
theorem refs_vals : ∀ {Cs : List Addr} {us : List Value}, Vals (Cs.map V.ref) us → us = Cs.map Value.ref
  | [], _, .nil => rfl
  | C :: Cs, _, .cons h t => by
    cases h
    rw [refs_vals t] <;> rfl
theorem call_isET {X : Cx} {a D : Addr} {oe : Obj} {pn : List (Addr × Obj)} (hz : Zc (.ref D) none oe) (hf : ∃ vs, oe.data = .fields vs) : CallR (X.suite a ((a, oe) :: pn)) (.builtin "isinstance") (rIsET X.K D a) := by
  intro pins s σ H xs us Q I r h
  obtain ⟨tp, Cs, b, C, rfl, hT, e, q⟩ := h
  cases r with
  | cons rx rr =>
    cases rr with
    | cons rt rr =>
      cases rr
      cases rx
      cases rt
      obtain ⟨hget, _⟩ := I.pin (a, oe) (List.mem_append.mpr (.inl List.mem_cons_self))
      obtain ⟨vs, hv⟩ := hf
      have J : PySem.W.InstAt s.heap a oe D none := by
        obtain ⟨oc, od, oda, osl⟩ := oe
        obtain ⟨h1, h2⟩ := hz
        dsimp only at h1 h2 hv
        subst h1 h2 hv
        exact ⟨hget, rfl, rfl, trivial⟩
      obtain ⟨_, its, rv, o, h1, h2, n, h3⟩ := (show ObjOk X.prog X.w H s.heap tp (.tup (Cs.map V.ref)) from I.hok tp _ hT)
      have e3 := refs_vals rv
      subst e3
      obtain ⟨oc, od, dt, sl⟩ := o
      simp only at h2 h3
      subst h2 h3
      exact PySem.W.kia_tup (PySem.W.handS_kitx_exc C.hg C.hk C.hs C.hd C.ha C.hn C.ht C.hm) I.kIn J h1 e (fun z => nomatch z) fun tk => ⟨.bl b, H, I.kept (t' := tk) fun _ _ z => z, rfl, q⟩
theorem call_isE1 {X : Cx} {a D : Addr} {oe : Obj} {pn : List (Addr × Obj)} (hz : Zc (.ref D) none oe) (hf : ∃ vs, oe.data = .fields vs) : CallR (X.suite a ((a, oe) :: pn)) (.builtin "isinstance") (fun xs H Q => ExcC X.K D ∧ rIsE X.K D a xs H Q) :=
  fun pins s σ H xs us Q I r h => call_isE h.1 hz hf pins s σ H xs us Q I r h.2
def dIsE (K : PySem.W.Frag) (i : Nat) (a C : Addr) (Cs : List Addr) : DTE := fun δ Q _ => ExcC K C ∧ δ.getD i .no = .raw (.ref a) ∧ ∃ b, PySem.W.kitAny K (.ref C) (Cs.map Value.ref) = some b ∧ Q (.dat (.bool b))
theorem kitAny_t {K : PySem.W.Frag} {t c : Value} {cs : List Value} (h : PySem.W.kitOne K t c = some true) : PySem.W.kitAny K t (c :: cs) = some true := kitAny_cons h (fun z => nomatch z) fun _ => rfl
theorem kitAny_f {K : PySem.W.Frag} {t c : Value} {cs : List Value} {r : Bool} (h : PySem.W.kitOne K t c = some false) (hr : PySem.W.kitAny K t cs = some r) : PySem.W.kitAny K t (c :: cs) = some r := kitAny_cons h (fun _ => hr) fun z => nomatch z
section
variable {X : Cx} {W : WX} {x y : Str} {a C Y : Addr} {oe : Obj} {pn : List (Addr × Obj)} {p p2 p3 p4 pos : Pos} {k0 : Nat}
theorem raw_at {K : PySem.W.Frag} {B : Base} {δ : DSt} {σ : St} {G H : Hp} {i : Nat} {v : V} (R : Rel K B δ σ G H) (h : δ.getD i .no = .raw v) : σ[i]? = some (some v) := by
  obtain ⟨z, e1, k⟩ := R.at (getD_some h fun z => nomatch z)
  cases (show z = some v from k)
  exact e1
theorem de_isET {es : List Expr} {Cs : List Addr} (i : Nat) (hz : Zc (.ref C) none oe) (hf : ∃ vs, oe.data = .fields vs) (hm : X.mg "isinstance" = none) (hes : PA (X.suite a ((a, oe) :: pn)) es (tRefs Cs)) (hl : Cs.length ≤ sizeLine := by decide) (hN : X.N[i]? = some x := by rfl)
    (hv : Vis X.env.scope x := by first | exact Or.inl rfl | exact Or.inr (Or.inl rfl) | exact Or.inr (Or.inr rfl)) (hd : (x == ("__debug__" : Str)) = false := by decide) (hcd : (x == ("__classdict__" : Str)) = false := by decide) (hg : Gl X "isinstance" := by rfl)
    (he : starEach [.Name x p2, .Tuple es k0 p3] X.env = (false, eval (.Name x p2) X.env) :: starEach [.Tuple es k0 p3] X.env := by rfl) (he2 : starEach [.Tuple es k0 p3] X.env = (false, eval (.Tuple es k0 p3) X.env) :: starEach [] X.env := by rfl) (hpl : (backTo pos (starEach [.Tuple es k0 p3] X.env)).any (·.1) = false := by rfl) :
    PE (X.suite a ((a, oe) :: pn)) (.Call (.Name "isinstance" p) [.Name x p2, .Tuple es k0 p3] [] pos) (lE X.K W (dIsE X.K i a C Cs)) := by
  refine (pe_callB (call_isET hz hf) hg hm boot_isinstance (pa_cons (pe_var hN hv hd hcd) (pa_cons (pe_tup hes) pa_nil he2) he) (by decide) (by decide) he hpl).imp fun σ H Q h => ?_
  obtain ⟨B, δ, G, Q2, X2, R, ⟨h0, h1, b, h2, h3⟩, k, kx⟩ := h
  refine ⟨.ref a, raw_at R h1, ?_⟩
  refine ⟨by rw [List.length_map]; exact hl, fun tp hp => ?_⟩
  refine ⟨tp, Cs, b, h0, rfl, upd_same, h2, ?_⟩
  exact k (.dat (.bool b)) _ G _ (R.wd.alloc hp) (Ext.alloc hp) (Dt.bl _) h3
theorem de_isE (i : Nat) (hz : Zc (.ref C) none oe) (hf : ∃ vs, oe.data = .fields vs) (hm : X.mg "isinstance" = none) (hy : X.mg y = some (.ref Y)) (hN : X.N[i]? = some x := by rfl)
    (hv : Vis X.env.scope x := by first | exact Or.inl rfl | exact Or.inr (Or.inl rfl) | exact Or.inr (Or.inr rfl)) (hd : (x == ("__debug__" : Str)) = false := by decide) (hcd : (x == ("__classdict__" : Str)) = false := by decide) (hg : Gl X "isinstance" := by rfl) (hgy : Gl X y := by rfl) (hdy : (y == ("__debug__" : Str)) = false := by decide)
    (he : starEach [.Name x p2, .Name y p3] X.env = (false, eval (.Name x p2) X.env) :: starEach [.Name y p3] X.env := by rfl) (he2 : starEach [.Name y p3] X.env = (false, eval (.Name y p3) X.env) :: starEach [] X.env := by rfl) (hpl : (backTo pos (starEach [.Name y p3] X.env)).any (·.1) = false := by rfl) :
    PE (X.suite a ((a, oe) :: pn)) (.Call (.Name "isinstance" p) [.Name x p2, .Name y p3] [] pos) (lE X.K W (dIsE X.K i a C [Y])) := by
  refine (pe_callB (call_isE1 hz hf) hg hm boot_isinstance (pa_cons (pe_var hN hv hd hcd) (pa_cons (pe_glob (v := .ref Y) hgy hy rfl hdy) pa_nil he2) he) (by decide) (by decide) he hpl).imp fun σ H Q h => ?_
  obtain ⟨B, δ, G, Q2, X2, R, ⟨h0, h1, b, h2, h3⟩, k, kx⟩ := h
  refine ⟨.ref a, raw_at R h1, ?_⟩
  have h4 : PySem.W.kitOne X.K (.ref C) (.ref Y) = some b := by
    unfold PySem.W.kitAny at h2
    cases e : PySem.W.kitOne X.K (.ref C) (.ref Y) with
    | none => rw [show (List.map Value.ref [Y]) = [Value.ref Y] from rfl] at h2; simp [e] at h2
    | some c => simp [e, PySem.W.kitAny] at h2; cases c <;> simp_all
  exact ⟨h0, .ref Y, .ref Y, b, rfl, fun u h => h, h4, k (.dat (.bool b)) _ G _ R.wd .refl (Dt.bl _) h3⟩
end
end RB

set_option Elab.async false
set_option linter.all false
set_option maxRecDepth 100000
set_option maxHeartbeats 4000000
/-! RB9: the store of draws; own lists frozen as new -/
namespace RB
open PySem PySem.Spec PyProof.Rows L2
theorem ds_frzN {X : Cx} {W : WX} {st : Stmt} {s : DTS} {i : Nat} (h : PS X st (lS X.K W s)) : PS X st (lS X.K W (dFrzN i s)) := h.imp fun D σ H h => by
  obtain ⟨B, δ, G, D2, R, k, h⟩ := h
  unfold dFrzN at h
  split at h
  · rename_i ds e
    obtain ⟨hn, h⟩ := h
    have ed := getD_some e fun z => nomatch z
    obtain ⟨y, e1, a, xs, rfl, b1, b2, b3, b4, b5⟩ := R.at ed
    have s1 : Same G (upd G a (.lst xs)) := same_upd b2
    have w1 := R.wd.freeze b4 b2 b3
    refine ⟨B, _, upd G a (.lst xs), D2, ?_, k, h⟩
    refine ⟨w1, ⟨R.ext.hh, fun c o z => s1 _ _ (R.ext.gg c o z), fun c z z2 => ?_, R.ext.hm⟩, by rw [List.length_set]; exact R.len, fun j s' x f1 f2 => ?_, fun j l c us vs f1 f2 f3 f4 => ?_⟩
    · have ne : c ≠ a := fun z3 => z (by rw [z3]; exact b1)
      rw [upd_ne ne]
      exact R.ext.fr c z z2
    · by_cases hj : i = j
      · subst hj
        rw [e1] at f2
        cases f2
        rw [List.getElem?_set, if_pos rfl] at f1
        split at f1
        · cases f1
          exact ⟨_, rfl, .lst b1 upd_same (NwA.of (b5.mono s1) hn)⟩
        · cases f1
      · rw [List.getElem?_set_ne hj] at f1
        have z := R.sl j s' x f1 f2
        cases s' with
        | own us =>
          obtain ⟨c, zs, rfl, c1, c2, c3, c4, c5⟩ := z
          have ne : c ≠ a := fun q => hj (R.sep i j a ds us ed f1 e1 (by rw [f2, q]))
          exact ⟨c, zs, rfl, c1, by rw [upd_ne ne]; exact c2, c3, c4, c5.mono s1⟩
        | no => trivial
        | dat d => obtain ⟨v, e, q⟩ := z; exact ⟨v, e, q.mono s1⟩
        | new d => obtain ⟨v, e, q⟩ := z; exact ⟨v, e, q.mono s1 fun _ z => z⟩
        | raw v => exact z
        | sto => exact z
    · by_cases hj : i = j
      · subst hj
        rw [List.getElem?_set, if_pos rfl] at f1
        split at f1 <;> cases f1
      · by_cases hl : i = l
        · subst hl
          rw [List.getElem?_set, if_pos rfl] at f2
          split at f2 <;> cases f2
        · rw [List.getElem?_set_ne hj] at f1
          rw [List.getElem?_set_ne hl] at f2
          exact R.sep j l c us vs f1 f2 f3 f4
  · exact ⟨B, δ, G, D2, R, k, h⟩

/-! ### the store -/
def stoL (ns : List Int) (a1 a2 a3 a4 a5 a6 : Int) : List D := [.list (ns.map PyData.int), .int a1, .int a2, .int a3, .int a4, .int a5, .int a6]
structure StoD (ds : List D) : Prop where
  ex : ∃ ns a1 a2 a3 a4 a5 a6, ds = stoL ns a1 a2 a3 a4 a5 a6 ∧ 0 ≤ a1
theorem stoOk_of {K : PySem.W.Frag} {G H : Hp} {a : Addr} {xs : List V} {ds : List D} (e : H a = some (.lst xs)) (f : G a = none) (q : DtA K G xs ds) (s : StoD ds) : StoOk G H a := by
  obtain ⟨ns, a1, a2, a3, a4, a5, a6, rfl, h0⟩ := s.ex
  unfold stoL at q
  cases q with
  | cons q1 q => cases q with
    | cons q2 q => cases q with
      | cons q3 q => cases q with
        | cons q4 q => cases q with
          | cons q5 q => cases q with
            | cons q6 q => cases q with
              | cons q7 q =>
                cases q
                cases q2; cases q3; cases q4; cases q5; cases q6; cases q7
                cases q1 with
                | lst h1 h2 =>
                  rw [DtA.intsV h2] at h1
                  exact ⟨⟨_, ns, a1, a2, a3, a4, a5, a6, e, h1, h0⟩, f⟩
def datS : Sl → Sl
  | .dat d => .dat d
  | _ => .no
/-- store = a list of the store's shape; then the rest of the def -/
def dSto (i : Nat) (de : DTE) (u : DTS) : DTS := fun D δ => de δ (fun r => match r with
  | .own ds => StoD ds ∧ u ⟨fun _ => False, fun r _ => (∃ b, r = .dat (.bool b)) ∧ D.rt r [], fun _ => False, fun _ => False, fun _ _ => False⟩ ((δ.map datS).set i .sto)
  | _ => False) (fun C => D.ex C δ)
section
variable {X : Cx} {W : WX} {rest : List Stmt} {u : DTS} {e : Expr} {de : DTE} {pos pos' : Pos} {x : Str}
theorem dss_sto {i : Nat} (hN : X.N.Nodup) (he : PE X e (lE X.K W de)) (hr : PSs X rest (lS X.K W u)) (hi : X.N[i]? = some x := by rfl) (hx : Loc X.env.scope x := by first | exact Or.inl rfl | exact Or.inr rfl) (hs : swapsWith e (some (.Name x pos')) pos.line X.env = pure false := by rfl) (hf : X.fn x = true ∨ X.env.scope.names.lookup x = some .local := by first | exact .inl rfl | exact .inr rfl | assumption) :
    PSs X (.Assign [.Name x pos'] e pos :: rest) (lS X.K W (dSto i de u)) := (pss_cons (ps_set hN hi hx he hs hf) hr).imp fun D σ H h => by
  obtain ⟨B, δ, G, D2, R, k, h⟩ := h
  refine ⟨B, δ, G, _, _, R, h, fun r v G1 H1 w1 t1 o1 q1 => ?_, k.xok⟩
  cases r with
  | own ds =>
    obtain ⟨a, xs, rfl, b1, b2, b3, b4, b5⟩ := o1
    obtain ⟨sd, hu⟩ := q1
    have so := stoOk_of b4 b2 b5 sd
    have t01 := R.ext.trans t1
    have ba : B.H a = none := none_early R.ext.hm a b1
    refine ⟨⟨fun b => B.M b ∨ b = a, G1, H1⟩, _, G1, ⟨fun _ => False, fun r _ => (∃ b, r = .dat (.bool b)) ∧ D2.rt r [], fun _ => False, fun _ => False, fun _ _ => False⟩, ?_, ?_, hu⟩
    · refine ⟨⟨w1.sub, fun c m => m.elim (w1.sto c) fun z => z ▸ so⟩, .refl, by rw [List.length_set, List.length_set, List.length_map]; exact R.len, fun j s y e1 e2 => ?_, fun j l c us vs f1 f2 _ _ => ?_⟩
      · by_cases hj : i = j
        · subst hj
          rw [List.getElem?_set, if_pos rfl] at e1 e2
          split at e1
          · split at e2
            · cases e1; cases e2; exact ⟨a, rfl, .inr rfl⟩
            · cases e2
          · cases e1
        · rw [List.getElem?_set_ne hj, List.getElem?_map] at e1
          rw [List.getElem?_set_ne hj] at e2
          cases z : δ[j]? with
          | none => rw [z] at e1; cases e1
          | some s0 =>
            rw [z] at e1
            cases e1
            have q := R.sl j s0 y z e2
            cases s0 with
            | dat d => obtain ⟨v, e, q⟩ := q; exact ⟨v, e, q.mono t1.gg⟩
            | _ => trivial
      · by_cases hj : i = j
        · subst hj
          rw [List.getElem?_set, if_pos rfl] at f1
          split at f1 <;> cases f1
        · rw [List.getElem?_set_ne hj, List.getElem?_map] at f1
          cases z : δ[j]? with
          | none => rw [z] at f1; cases f1
          | some s0 =>
            rw [z] at f1
            cases s0 <;> cases f1
    · refine ⟨fun _ _ _ _ _ z => z.elim, fun _ _ _ _ _ z => z.elim, fun _ _ _ _ _ z => z.elim, fun r v δ' σ' G' H' R' o q => ?_, fun _ _ _ _ _ _ z => z.elim⟩
      obtain ⟨⟨b, rfl⟩, q⟩ := q
      refine k.rt (.dat (.bool b)) v [] [] G' H' ⟨⟨R'.wd.sub, fun c m => R'.wd.sto c (.inl m)⟩, ⟨fun b o m e => ?_, fun c o z => R'.ext.gg c o (t01.gg c o z), fun c z g => ?_, fun c z => R'.ext.hm c (t01.hm c z)⟩, rfl, fun j s y e1 _ => by simp at e1, fun j l c us vs f1 _ _ _ => by simp at f1⟩ o q
      · have ne : b ≠ a := fun z => by rw [z, ba] at e; cases e
        exact R'.ext.hh b o (fun z => z.elim m ne) (t01.hh b o m e)
      · exact R'.ext.fr c (t01.hm c z) (t01.fr c z g)
  | dat d => exact q1.elim
  | new d => exact q1.elim
  | view ds => exact q1.elim
  | raw z => exact q1.elim
  | sto => exact q1.elim
end
/-! ### within the draw -/
theorem sto_get {M : Addr → Prop} {G H : Hp} {a : Addr} (s : StoOk G H a) : ∃ (xs : List V), H a = some (.lst xs) ∧ (∀ j : Int, 1 ≤ j → j ≤ 6 → ∃ n, L2.atI xs j = some (.int n) ∧ (j = 1 → 0 ≤ n)) := by
  obtain ⟨⟨c, ns, a1, a2, a3, a4, a5, a6, e, e2, h0⟩, f⟩ := s
  refine ⟨_, e, fun j h1 h2 => ?_⟩
  have hj : j = 1 ∨ j = 2 ∨ j = 3 ∨ j = 4 ∨ j = 5 ∨ j = 6 := by omega
  rcases hj with rfl | rfl | rfl | rfl | rfl | rfl
  · exact ⟨a1, rfl, fun _ => h0⟩
  · exact ⟨a2, rfl, fun z => by omega⟩
  · exact ⟨a3, rfl, fun z => by omega⟩
  · exact ⟨a4, rfl, fun z => by omega⟩
  · exact ⟨a5, rfl, fun z => by omega⟩
  · exact ⟨a6, rfl, fun z => by omega⟩
theorem sto_set {M : Addr → Prop} {G H : Hp} {a : Addr} {j n : Int} (s : StoOk G H a) (h1 : 1 ≤ j) (h2 : j ≤ 6) (h3 : j = 1 → 0 ≤ n) : ∃ (xs : List V) (m : Nat), H a = some (.lst xs) ∧ ixN xs.length j = some m ∧ StoOk G (upd H a (.lst (xs.set m (.int n)))) a := by
  obtain ⟨⟨c, ns, a1, a2, a3, a4, a5, a6, e, e2, h0⟩, f⟩ := s
  have hj : j = 1 ∨ j = 2 ∨ j = 3 ∨ j = 4 ∨ j = 5 ∨ j = 6 := by omega
  rcases hj with rfl | rfl | rfl | rfl | rfl | rfl
  · exact ⟨_, 1, e, rfl, ⟨⟨c, ns, n, a2, a3, a4, a5, a6, upd_same, e2, h3 rfl⟩, f⟩⟩
  · exact ⟨_, 2, e, rfl, ⟨⟨c, ns, a1, n, a3, a4, a5, a6, upd_same, e2, h0⟩, f⟩⟩
  · exact ⟨_, 3, e, rfl, ⟨⟨c, ns, a1, a2, n, a4, a5, a6, upd_same, e2, h0⟩, f⟩⟩
  · exact ⟨_, 4, e, rfl, ⟨⟨c, ns, a1, a2, a3, n, a5, a6, upd_same, e2, h0⟩, f⟩⟩
  · exact ⟨_, 5, e, rfl, ⟨⟨c, ns, a1, a2, a3, a4, n, a6, upd_same, e2, h0⟩, f⟩⟩
  · exact ⟨_, 6, e, rfl, ⟨⟨c, ns, a1, a2, a3, a4, a5, n, upd_same, e2, h0⟩, f⟩⟩
/-- store[j], j from 1 to 6: some int -/
def dStoI (i : Nat) (j : Int) : DTE := fun δ Q _ => δ.getD i .no = .sto ∧ (1 ≤ j ∧ j ≤ 6) ∧ ∀ n : Int, (j = 1 → 0 ≤ n) → Q (.dat (.int n))
/-- store[j] = an int -/
def dStoS (i : Nat) (j : Int) (de : DTE) : DTS := fun D δ => δ.getD i .no = .sto ∧ de δ (fun r => isI r fun n => ((1 ≤ j ∧ j ≤ 6) ∧ (j = 1 → 0 ≤ n)) ∧ D.nx δ) (fun C => D.ex C δ)
/-- if store[1] < len(store[0]): cell = int(store[0][store[1]]); .. -/
def dStoC (i ic : Nat) (s : DTS) : DTS := fun D δ => δ.getD i .no = .sto ∧ (∀ n, s D (δ.set ic (.dat (.int n)))) ∧ D.nx δ
section
variable {X : Cx} {W : WX} {rest : List Stmt} {s : DTS} {e : Expr} {de : DTE} {pos pos' p p1 p2 p3 p4 p5 p6 p7 p8 p9 q1 q2 q3 q4 q5 q6 q7 r1 r2 : Pos} {x y : Str} {k0 k1 k2 k3 : Nat}
theorem de_stoI (i : Nat) {j : Int} (hN : X.N[i]? = some x := by rfl) (hv : Vis X.env.scope x := by first | exact Or.inl rfl | exact Or.inr (Or.inl rfl) | exact Or.inr (Or.inr rfl)) (hd : (x == ("__debug__" : Str)) = false := by decide) (hcd : (x == ("__classdict__" : Str)) = false := by decide) :
    PE X (.Subscript (.Name x p1) (.Constant (.int j) k0 p2) p3) (lE X.K W (dStoI i j)) := by
  refine (pe_ix ix_seq (pe_var hN hv hd hcd) pe_int (fun _ _ => rfl)).imp fun σ H Q h => ?_
  obtain ⟨B, δ, G, Q2, X2, R, ⟨h1, h2, h3⟩, k, kx⟩ := h
  obtain ⟨z, e1, a, rfl, m⟩ := R.at (getD_some h1 fun z => nomatch z)
  obtain ⟨xs, e2, g⟩ := sto_get (M := B.M) (R.wd.sto a m)
  obtain ⟨n, e3, e4⟩ := g j h2.1 h2.2
  exact ⟨_, e1, .inl ⟨a, xs, j, _, rfl, rfl, SqL.of e2, e3, k (.dat (.int n)) _ G H R.wd .refl (Dt.int n) (h3 n e4)⟩⟩
theorem ds_stoS (i : Nat) {j : Int} (he : PE X e (lE X.K W de)) (hN : X.N[i]? = some x := by rfl) (hv : Vis X.env.scope x := by first | exact Or.inl rfl | exact Or.inr (Or.inl rfl) | exact Or.inr (Or.inr rfl)) (hd : (x == ("__debug__" : Str)) = false := by decide)
    (hcd : (x == ("__classdict__" : Str)) = false := by decide) (ha : ∀ v, assign (.Subscript (.Name x p1) (.Constant (.int j) k0 p3) p2) X.env v = (do
      let ov ← holding [v] (eval (.Name x p1) X.env)
      let iv ← holding [v, ov] (eval (.Constant (.int j) k0 p3) X.env)
      standAt p2
      holding [v, ov, iv] (setItem ov iv v)
      release [v, ov, iv] []) := by intro _; rfl)
    (hs : swapsWithSole [.Subscript (.Name x p1) (.Constant (.int j) k0 p3) p2] e pos.line X.env = pure false := by rfl) (hw : swappedStores [.Subscript (.Name x p1) (.Constant (.int j) k0 p3) p2] e X.env = pure none := by rfl) (h1 : (assignEach [.Subscript (.Name x p1) (.Constant (.int j) k0 p3) p2] X.env).map (·.2) = [assign (.Subscript (.Name x p1) (.Constant (.int j) k0 p3) p2) X.env] := by rfl) :
    PS X (.Assign [.Subscript (.Name x p1) (.Constant (.int j) k0 p3) p2] e pos) (lS X.K W (dStoS i j de)) := (ps_asg he (pg_sub (pe_var hN hv hd hcd) pe_int set_list ha) hs hw h1).imp fun D σ H h => by
  obtain ⟨B, δ, G, D2, R, k, h1, h⟩ := h
  refine ⟨B, δ, G, _, _, R, h, fun r v G1 H1 w1 t1 o1 q1 => ?_, k.xok⟩
  obtain ⟨n, rfl, ⟨hj, hn⟩, q⟩ := isI_ok o1 q1
  have R1 := R.step w1 t1
  obtain ⟨z, e1, a, rfl, m⟩ := R.at (getD_some h1 fun z => nomatch z)
  have so := w1.sto a m
  obtain ⟨xs, mm, e2, e3, so'⟩ := sto_set (M := B.M) so hj.1 hj.2 hn
  have hr := R1
  refine ⟨_, e1, a, xs, j, mm, rfl, rfl, e2, e3, ?_⟩
  refine k.nx δ σ G1 _ (R1.step ⟨fun b o g => ?_, fun b mb => ?_⟩ ⟨fun b o nm g => ?_, fun _ _ z => z, fun _ _ z => z, fun b z => ?_⟩) q
  · have ne : b ≠ a := fun z => by rw [z, so.fr] at g; cases g
    rw [upd_ne ne]
    exact w1.sub _ _ g
  · by_cases ne : b = a
    · subst ne; exact so'
    · exact (w1.sto b mb).mono (fun _ _ z => z) (w1.sto b mb).fr (upd_ne ne)
  · have ne : b ≠ a := fun z => nm (z ▸ m)
    rw [upd_ne ne]
    exact g
  · by_cases ne : b = a
    · subst ne; rw [upd_same]; exact fun z => nomatch z
    · rw [upd_ne ne]; exact z
theorem ds_stoC (i : Nat) {ic : Nat} (hml : X.mg "len" = none) (hmi : X.mg "int" = none) (hr : PSs X rest (lS X.K W s)) (hNd : X.N.Nodup) (hi : X.N[ic]? = some y := by rfl) (hx : Loc X.env.scope y := by first | exact Or.inl rfl | exact Or.inr rfl)
    (hN : X.N[i]? = some x := by rfl) (hv : Vis X.env.scope x := by first | exact Or.inl rfl | exact Or.inr (Or.inl rfl) | exact Or.inr (Or.inr rfl)) (hd : (x == ("__debug__" : Str)) = false := by decide) (hcd : (x == ("__classdict__" : Str)) = false := by decide) (hgl : Gl X "len" := by rfl) (hgi : Gl X "int" := by rfl)
    (n1 : starEach [.Subscript (.Name x q1) (.Constant (.int 0) k1 q2) q3] X.env = (false, eval (.Subscript (.Name x q1) (.Constant (.int 0) k1 q2) q3) X.env) :: starEach [] X.env := by rfl)
    (n2 : starEach [.Subscript (.Subscript (.Name x p4) (.Constant (.int 0) k2 p5) p6) (.Subscript (.Name x p7) (.Constant (.int 1) k3 p8) p9) q4] X.env = (false, eval (.Subscript (.Subscript (.Name x p4) (.Constant (.int 0) k2 p5) p6) (.Subscript (.Name x p7) (.Constant (.int 1) k3 p8) p9) q4) X.env) :: starEach [] X.env := by rfl)
    (hs : swapsWith (.Call (.Name "int" q5) [.Subscript (.Subscript (.Name x p4) (.Constant (.int 0) k2 p5) p6) (.Subscript (.Name x p7) (.Constant (.int 1) k3 p8) p9) q4] [] q6) (some (.Name y pos')) p.line X.env = pure false := by rfl) (hf : X.fn y = true ∨ X.env.scope.names.lookup y = some .local := by first | exact .inl rfl | exact .inr rfl | assumption) :
    PS X (.If (.Compare (.Subscript (.Name x p1) (.Constant (.int 1) k0 p2) p3) [.Lt] [.Call (.Name "len" q7) [.Subscript (.Name x q1) (.Constant (.int 0) k1 q2) q3] [] r1] r2)
      (.Assign [.Name y pos'] (.Call (.Name "int" q5) [.Subscript (.Subscript (.Name x p4) (.Constant (.int 0) k2 p5) p6) (.Subscript (.Name x p7) (.Constant (.int 1) k3 p8) p9) q4] [] q6) p :: rest) [] pos) (lS X.K W (dStoC i ic s)) := by
  have pv : ∀ {p0 : Pos}, PE X (.Name x p0) (tVar i) := pe_var hN hv hd hcd
  refine (ps_if (pt_cmpR op_lt (pe_ix ix_seq pv pe_int (fun _ _ => rfl)) (pe_callB call_len hgl hml boot_len (pa_cons (pe_ix ix_seq pv pe_int (fun _ _ => rfl)) pa_nil n1) (by decide) (by decide) n1) (nomark _))
    (pss_cons (ps_set hNd hi hx (pe_callTy call_int1 hgi hmi boot_int (pa_cons (pe_ix ix_seq (pe_ix ix_seq pv pe_int (fun _ _ => rfl)) (pe_ix ix_seq pv pe_int (fun _ _ => rfl)) (fun _ _ => rfl)) pa_nil n2) (by decide) (by decide) n2) hs hf) hr) pss_nil).imp fun D σ H h => ?_
  obtain ⟨B, δ, G, D2, R, k, h1, h2, h3⟩ := h
  obtain ⟨z, e1, a, rfl, m⟩ := R.at (getD_some h1 fun z => nomatch z)
  obtain ⟨⟨c, ns, a1, a2, a3, a4, a5, a6, e, e2, h0⟩, f⟩ := R.wd.sto a m
  have i1 : ∀ {Q : VK}, Q (.int a1) H → rIx X.K (.ref a) (.int 1) H Q := fun q => .inl ⟨a, _, 1, _, rfl, rfl, SqL.of e, rfl, q⟩
  have i0 : ∀ {Q : VK}, Q (.ref c) H → rIx X.K (.ref a) (.int 0) H Q := fun q => .inl ⟨a, _, 0, _, rfl, rfl, SqL.of e, rfl, q⟩
  have hc : SqL X.K H c (ns.map V.int) := SqL.of (R.wd.sub _ _ e2)
  refine ⟨_, e1, i1 ⟨_, e1, i0 ⟨_, (ns.map V.int).length, rfl, .inl ⟨_, hc, rfl⟩, a1, _, rfl, rfl, _, rfl, ?_⟩⟩⟩
  rw [List.length_map]
  dsimp only
  by_cases hl : a1 < (ns.length : Int)
  · rw [if_pos (decide_eq_true hl)]
    have hx : a1.toNat < ns.length := by omega
    refine ⟨_, e1, i0 ⟨_, e1, i1 (.inl ⟨c, _, a1, .int ns[a1.toNat], rfl, rfl, hc, ?_, .inl ⟨_, rfl, ?_⟩⟩)⟩⟩
    · unfold L2.atI ixN
      rw [List.length_map, if_pos h0, if_pos hl, Option.bind_some, List.getElem?_map, List.getElem?_eq_getElem hx]
      rfl
    · exact ⟨B, _, G, D2, R.set R.wd .refl (i := ic) (s := .dat (.int ns[a1.toNat])) ⟨_, rfl, Dt.int _⟩ (fun _ _ z => nomatch z), k, h2 _⟩
  · rw [if_neg (by rw [decide_eq_false hl]; exact Bool.false_ne_true)]
    exact k.nx δ σ G H R h3
end
/-- the promise of a draw -/
def spTake : DSp := fun rs Q _ => match rs with
  | [.sto, .dat (.int n)] => n < 2 ^ 64 ∧ ∀ r, 0 ≤ r → r < max 1 n → Q (.dat (.int r))
  | _ => False
end RB

set_option Elab.async false
set_option linter.all false
set_option maxRecDepth 100000
set_option maxHeartbeats 4000000
/-! RB10: defs by their names -/
namespace RB
open PySem PySem.Spec PyProof.Rows L2
theorem huOf {k : Nat} {A : Around} (hr : Room k A) : A.units + 64 < cLine := by have := hr.un; omega
theorem pss_false {X : Cx} {st : List Stmt} {W : WX} : PSs X st (lS X.K W (fun _ _ => False)) := ⟨fun pins s σ H D I h => by
  obtain ⟨B, δ, G, D2, R, k, h⟩ := h
  exact h.elim⟩
/-- a def of the module keeps its promise -/
structure Ok (P : Program) (w : World) (K : PySem.W.Frag) (mg : Str → Option Value) (base : Heap) (k : Nat) (x : Str) (n : Nat) (dsp : DSp) : Prop where
  ex : ∃ (f : Addr) (fd : FuncData) (ps : List Str), FnOk P w K mg base (L2.CX P w) k f fd ps (spD K n dsp) ∧ mg x = some (.ref f) ∧ PySem.W.keepIn K (.ref f) = true ∧ Binds K fd ps []
section
variable {X : Cx} {W : WX} {k kr n : Nat} {dsp : DSp} {x : Str} {p pos : Pos} {e : Expr} {es : List Expr} {dA : DTA}
theorem de_fn (O : Ok X.prog X.w X.K X.mg X.base k x n dsp) (hr : Room kr X.A) (tk : Takes X W) (ha : PA X (e :: es) (lA X.K W dA)) (hkr : k ≤ kr := by decide) (hg : Gl X x := by rfl) (hdb : (x == ("__debug__" : Str)) = false := by decide) (he : starEach (e :: es) X.env = (false, eval e X.env) :: starEach es X.env := by rfl) (hpl : (backTo pos (starEach es X.env)).any (·.1) = false := by rfl) :
    PE X (.Call (.Name x p) (e :: es) [] pos) (lE X.K W (dCall n dsp dA)) := by
  obtain ⟨f, fd, ps, F, hm, hk, hb⟩ := O.ex
  exact de_call F (hr.mono hkr) hm hk hb tk ha hg hdb he hpl
end
section
variable {P : Program} {w : World} {K : PySem.W.Frag} {mg : Str → Option Value} {base : Heap} {fa : List Fb} {fn : List He.DefD}
/-- the context of a def's body, by its statement -/
abbrev BodyOk (P : Program) (w : World) (K : PySem.W.Frag) (mg : Str → Option Value) (base : Heap) (N : List Str) (x : Str) (st : Stmt) (k : Nat) (body : DTS) : Prop :=
  ∀ (f : Addr) (cdv : Value) (A : Around) (outer : List Env) (s : Shared) (H : Hp) (E : XK), Room k (A.deeper (envOfC x (defScope st) s.heap.objs.size f cdv)) → Takes (cxD P w K mg base N x st f cdv A outer s H E) (WE0 E) → PassesOwn (model P w) (cxD P w K mg base N x st f cdv A outer s H E).A (cxD P w K mg base N x st f cdv A outer s H E).env (cxD P w K mg base N x st f cdv A outer s H E).xe →
    PSs (cxD P w K mg base N x st f cdv A outer s H E) (defBody st) (lS K (WE0 E) body)
theorem okD (X : K.In base) (G : base.Ns mainGlobals mg) (c : SaysR fa fn K) {x : Str} {st : Stmt} {N ps : List Str} {k : Nat} {dsp : DSp} {body : DTS} (i : Nat) (hdef : fn[i]? = some (dfd x st)) (g : mg x = some (.ref (He.ga K x))) (S : FnScope N ps (defScope st))
    (hbd : ∀ (kV doc pm : Value) (an : Option Addr) (cdv ct : Value) (us : List Value), us.length = ps.length → bindArgs (PySem.W.fnOf x x (defArgs st) (defBody st) (defScope st) .none kV doc pm an cdv ct) ⟨us, []⟩ = pure (ps.zip us))
    (hb : BodyOk P w K mg base N x st k body) (hp : ∀ rs Q2 X2, rs.length = ps.length → dsp rs Q2 X2 → body (endD Q2 X2) (startD N rs)) : Ok P w K mg base (k + 1) x ps.length dsp := by
  obtain ⟨fd, F, FD⟩ := c.fun_ i hdef
  exact ⟨_, fd, ps, fnD F S (hb _) hp, g, F.kp, FD.bindsN hbd⟩
end
end RB

set_option Elab.async false
set_option linter.all false
set_option maxRecDepth 100000
set_option maxHeartbeats 4000000
/-! RB11: new tuples, a block that changes what a call has just made -/
namespace RB
open PySem PySem.Spec PyProof.Rows L2
/-- a statement of several ends, and the rest: what holds between them is told -/
structure Cut (s t : DTS) (D : DE2) (δ : DSt) : Prop where
  h : ∃ P : DSt → Prop, s { D with nx := P } δ ∧ ∀ δ', P δ' → t D δ'
def dCut (s t : DTS) : DTS := fun D δ => Cut s t D δ
theorem dss_cut {X : Cx} {W : WX} {st : Stmt} {rest : List Stmt} {s u : DTS} (h1 : PS X st (lS X.K W s)) (h2 : PSs X rest (lS X.K W u)) : PSs X (st :: rest) (lS X.K W (dCut s u)) := (pss_cons h1 h2).imp fun D σ H h => by
  obtain ⟨B, δ, G, D2, R, k, ⟨P, h, hP⟩⟩ := h
  exact ⟨B, δ, G, { D2 with nx := P }, R, ⟨fun δ' σ' G' H' R' q => ⟨B, δ', G', D2, R', k, hP δ' q⟩, k.bk, k.ct, k.rt, k.ex⟩, h⟩
/-- results all of whose lists are new -/
inductive Nws : List RV → List D → Prop
  | nil : Nws [] []
  | new {d : D} {rs : List RV} {ds : List D} : Nws rs ds → Nws (.new d :: rs) (d :: ds)
  | dat {d : D} {rs : List RV} {ds : List D} : NoL d → Nws rs ds → Nws (.dat d :: rs) (d :: ds)
theorem nws_ok {K : PySem.W.Frag} {M : Addr → Prop} {HB G : Hp} {rs : List RV} {ds : List D} (h : Nws rs ds) : ∀ {vs : List V}, Paired (fun v r => AOk K M HB G v r) vs rs → NwA K HB G vs ds := by
  induction h with
  | nil => intro vs a; cases a; exact .nil
  | new _ ih =>
    intro vs a
    cases a with
    | cons h t => exact .cons h (ih t)
  | dat n _ ih =>
    intro vs a
    cases a with
    | cons h t => exact .cons (Nw.of h n) (ih t)
def dTupN (dA : DTA) : DTE := fun δ Q X => dA δ (fun rs => ∃ ds, Nws rs ds ∧ ds.length ≤ sizeLine ∧ Q (.new (.tuple ds))) X
theorem NwA.length {K : PySem.W.Frag} {HB G : Hp} {ds : List D} {vs : List V} (h : NwA K HB G vs ds) : vs.length = ds.length := DtA.length (NwA.dt h)
theorem de_tupN {X : Cx} {W : WX} {es : List Expr} {dA : DTA} {pos : Pos} {k : Nat} (hs : PA X es (lA X.K W dA)) : PE X (.Tuple es k pos) (lE X.K W (dTupN dA)) := by
  refine (pe_tup hs).imp fun σ H Q h => ?_
  obtain ⟨B, δ, G, Q2, X2, R, h, k, kx⟩ := h
  refine ⟨B, δ, G, _, X2, R, h, fun rs vs G1 H1 w1 t1 o1 q1 => ?_, kx⟩
  obtain ⟨ds, e, hz, q⟩ := q1
  have dt := nws_ok e o1
  refine ⟨by rw [dt.length]; exact hz, fun p hp => ?_⟩
  have s : Same G1 (upd G1 p (.tup vs)) := same_upd (w1.noG hp)
  exact k (.new (.tuple ds)) _ (upd G1 p (.tup vs)) _ (w1.allocG hp) (t1.trans (Ext.allocG w1 hp)) (Nw.tup (SqT.of upd_same) (dt.mono s fun _ z => z)) q
/-- slots for a block of its own: no own lists, no store -/
def bare : Sl → Sl
  | .dat d => .dat d
  | .new d => .dat d
  | _ => .no
/-- name = e; if t: ..; name[1][1].append(v): e's result is new, t is false; behind it the name is forgotten -/
def dEp (i : Nat) (de : DTE) (dt : DTT) (dv : DTE) : DTS := fun D δ => i < δ.length ∧ de (δ.map bare) (fun r => ∃ d1 d2 ds, r = .new (.tuple [d1, .tuple [d2, .list ds]]) ∧ ds.length < sizeLine ∧
  dt ((δ.map bare).set i (.dat (.tuple [d1, .tuple [d2, .list ds]]))) (fun b => b = false ∧ dv ((δ.map bare).set i (.dat (.tuple [d1, .tuple [d2, .list ds]]))) (fun r => ∃ d, r = .dat d ∧ D.nx (δ.set i .no)) (fun _ => False)) (fun _ => False)) (fun _ => False)
theorem rel_bare {K : PySem.W.Frag} {B : Base} {δ : DSt} {σ : St} {G H : Hp} (R : Rel K B δ σ G H) : Rel K ⟨fun _ => False, G, H⟩ (δ.map bare) σ G H := by
  refine ⟨⟨R.wd.sub, fun _ z => z.elim⟩, .refl, by rw [List.length_map]; exact R.len, fun j s y e1 e2 => ?_, fun j l c us vs f1 f2 _ _ => ?_⟩
  · rw [List.getElem?_map] at e1
    cases z : δ[j]? with
    | none => rw [z] at e1; cases e1
    | some s0 =>
      rw [z] at e1
      cases e1
      have q := R.sl j s0 y z e2
      cases s0 with
      | dat d => exact q
      | new d => obtain ⟨v, e, q⟩ := q; exact ⟨v, e, Nw.dt q⟩
      | _ => trivial
  · rw [List.getElem?_map] at f1
    cases z : δ[j]? with
    | none => rw [z] at f1; cases f1
    | some s0 =>
      rw [z] at f1
      cases s0 <;> cases f1
section
variable {X : Cx} {W : WX} {i : Nat} {x : Str} {e c v : Expr} {th : List Stmt} {de dv : DTE} {dt : DTT} {p1 p2 p3 p4 p5 p6 p7 p8 p9 p10 p11 : Pos} {k1 k2 : Nat}
theorem dss_ep (hN : X.N.Nodup) (he : PE X e (lE X.K W0 de)) (hc : PT X c (lT X.K W0 dt)) (hv : PE X v (lE X.K W0 dv)) (hi : X.N[i]? = some x := by rfl) (hx : Loc X.env.scope x := by first | exact Or.inl rfl | exact Or.inr rfl) (hs : swapsWith e (some (.Name x p1)) p2.line X.env = pure false := by rfl) (hf : X.fn x = true ∨ X.env.scope.names.lookup x = some .local := by first | exact .inl rfl | exact .inr rfl | assumption)
    (hvi : Vis X.env.scope x := by first | exact Or.inl rfl | exact Or.inr (Or.inl rfl) | exact Or.inr (Or.inr rfl)) (hd : (x == ("__debug__" : Str)) = false := by decide) (hcd : (x == ("__classdict__" : Str)) = false := by decide)
    (hcall : ∀ {t1 : TE} {t2 : TA}, PE X (.Subscript (.Subscript (.Name x p4) (.Constant (.int 1) k1 p5) p6) (.Constant (.int 1) k2 p7) p11) t1 → PA X [v] t2 → PE X (.Call (.Attribute (.Subscript (.Subscript (.Name x p4) (.Constant (.int 1) k1 p5) p6) (.Constant (.int 1) k2 p7) p11) "append" p8) [v] [] p9) (tBM X.K "list" rAppend t1 t2))
    (hsw : swapsWith (.Call (.Attribute (.Subscript (.Subscript (.Name x p4) (.Constant (.int 1) k1 p5) p6) (.Constant (.int 1) k2 p7) p11) "append" p8) [v] [] p9) none p10.line X.env = pure false := by rfl) (hst : starEach [v] X.env = (false, eval v X.env) :: starEach [] X.env := by rfl) :
    PSs X [.Assign [.Name x p1] e p2, .If c th [] p3, .Expr (.Call (.Attribute (.Subscript (.Subscript (.Name x p4) (.Constant (.int 1) k1 p5) p6) (.Constant (.int 1) k2 p7) p11) "append" p8) [v] [] p9) p10] (lS X.K W (dEp i de dt dv)) := by
  have pif : PS X (.If c th [] p3) (fun D σ H => lT X.K W0 dt σ H fun b H1 => b = false ∧ D.nx σ H1) := ⟨fun pins s σ H D I h => (ps_if (t := fun _ _ _ => False) (u := fun D σ H => D.nx σ H) hc ⟨fun _ _ _ _ _ _ z => z.elim⟩ pss_nil).run pins s σ H D I (by
    obtain ⟨B, δ, G, Q2, X2, R, h, k, kx⟩ := h
    refine ⟨B, δ, G, Q2, X2, R, h, fun b G1 H1 w t q => ?_, kx⟩
    obtain ⟨rfl, z⟩ := k b G1 H1 w t q
    exact z)⟩
  have pv : ∀ {p0 : Pos}, PE X (.Name x p0) (tVar i) := pe_var hi hvi hd hcd
  refine (pss_cons (ps_set hN hi hx he hs hf) (pss_cons pif (pss_one (ps_expr (hcall (pe_ix ix_seq (pe_ix ix_seq pv pe_int (fun _ _ => rfl)) pe_int (fun _ _ => rfl)) (pa_cons hv pa_nil hst)) hsw)))).imp fun D σ H h => ?_
  obtain ⟨B, δ, G, D2, R, k, hi1, h⟩ := h
  have hi0 : i < σ.length := by rw [← R.len]; exact hi1
  have R0 := rel_bare R
  refine ⟨_, _, G, _, fun _ => False, R0, h, fun r u G1 H1 w1 t1 o1 q1 => ?_, fun _ _ _ _ z => z⟩
  obtain ⟨d1, d2, ds, rfl, hz, q1⟩ := q1
  have nw : Nw X.K H G1 u (.tuple [d1, .tuple [d2, .list ds]]) := o1
  have R1 := R0.set w1 t1 (i := i) (v := u) (s := .dat _) ⟨u, rfl, Nw.dt nw⟩ (fun _ _ z => nomatch z)
  refine ⟨_, _, G1, _, fun _ => False, R1, q1, fun b G2 H2 w2 t2 q2 => ?_, fun _ _ _ _ z => z⟩
  obtain ⟨rfl, q2⟩ := q2
  refine ⟨rfl, ?_⟩
  have nw2 := nw.mono t2.gg fun _ z => z
  cases nw2 with
  | tup h1 n1 => cases n1 with
    | cons m1 n1 => cases n1 with
      | cons m2 n1 => cases n1; cases m2 with
        | tup h2 n2 => cases n2 with
          | cons m3 n2 => cases n2 with
            | cons m4 n2 => cases n2; cases m4 with
              | @lst a xs _ ha hg hl =>
                have es : ∀ z : Option V, (σ.set i z)[i]? = some z := fun z => by rw [List.getElem?_set, if_pos rfl, if_pos hi0]
                have R2 := R1.step w2 t2
                refine ⟨_, es _, .inr (.inl ⟨_, _, 1, _, rfl, rfl, same_sqT w2.sub h1, rfl, .inr (.inl ⟨_, _, 1, _, rfl, rfl, same_sqT w2.sub h2, rfl, ?_⟩)⟩)⟩
                have hH : H2 a = some (.lst xs) := w2.sub _ _ hg
                refine ⟨.inl ⟨rfl, _, SqL.of hH⟩, ?_⟩
                refine ⟨_, _, G2, _, fun _ => False, R2, q2, fun r3 v3 G3 H3 w3 t3 o3 q3 => ?_, fun _ _ _ _ z => z⟩
                obtain ⟨d3, rfl, q3⟩ := q3
                have hH3 : H3 a = some (.lst xs) := t3.hh a _ (fun z => z) hH
                have hlen : xs.length < sizeLine := by rw [NwA.length hl]; exact hz
                refine ⟨a, xs, _, rfl, rfl, hH3, hlen, ?_⟩
                have t03 := (t1.trans t2).trans t3
                have nea : ∀ b, H b ≠ none → b ≠ a := fun b z e => z (e ▸ ha)
                refine k.nx _ _ G _ ⟨⟨fun b o g => ?_, fun b m => ?_⟩, ⟨fun b o m g => ?_, R.ext.gg, R.ext.fr, fun b z => ?_⟩, by rw [List.length_set, List.length_set]; exact R.len, fun j s y e1 e2 => ?_, fun j l c us vs f1 f2 f3 f4 => ?_⟩ q3
                · have hb := R.wd.sub _ _ g
                  have ne := nea b (by rw [hb]; exact fun z => nomatch z)
                  rw [upd_ne ne]
                  exact t03.hh b o (fun z => z) hb
                · have so := R.wd.sto b m
                  have ne := nea b so.there
                  refine so.mono (fun _ _ z => z) so.fr ?_
                  rw [upd_ne ne]
                  obtain ⟨_, _, _, _, _, _, _, _, e, _⟩ := so.ex
                  rw [e]
                  exact t03.hh b _ (fun z => z) e
                · have hb := R.ext.hh b o m g
                  have ne := nea b (by rw [hb]; exact fun z => nomatch z)
                  rw [upd_ne ne]
                  exact t03.hh b o (fun z => z) hb
                · have hb := R.ext.hm b z
                  have ne := nea b hb
                  rw [upd_ne ne]
                  exact t03.hm b hb
                · by_cases hj : i = j
                  · subst hj
                    rw [List.getElem?_set, if_pos rfl, if_pos hi1] at e1
                    cases e1
                    trivial
                  · rw [List.getElem?_set_ne hj] at e1 e2
                    have z := R.sl j s y e1 e2
                    cases s with
                    | own us =>
                      obtain ⟨c, zs, rfl, c1, c2, c3, c4, c5⟩ := z
                      have ne := nea c (by rw [c4]; exact fun z => nomatch z)
                      exact ⟨c, zs, rfl, c1, c2, c3, by rw [upd_ne ne]; exact t03.hh c _ (fun z => z) c4, c5⟩
                    | no => trivial
                    | dat d => exact z
                    | new d => exact z
                    | raw v => exact z
                    | sto => exact z
                · have ne : ∀ {j : Nat} {us : List PyData} {y z : Option V}, (δ.set i .no)[j]? = some (.own us) → (σ.set i z)[j]? = some y → δ[j]? = some (.own us) ∧ σ[j]? = some y := fun {j us y z} f g => by
                    by_cases hj : i = j
                    · subst hj
                      rw [List.getElem?_set, if_pos rfl] at f
                      split at f <;> cases f
                    · rw [List.getElem?_set_ne hj] at f g; exact ⟨f, g⟩
                  exact R.sep j l c us vs (ne f1 f3).1 (ne f2 f4).1 (ne f1 f3).2 (ne f2 f4).2
end
end RB

set_option Elab.async false
set_option linter.all false
set_option maxRecDepth 100000
set_option maxHeartbeats 4000000
/-! RB12: the opening of the store, the law's def -/
namespace RB
open PySem PySem.Spec PyProof.Rows L2
/-- the opening: a new store of the script's numbers -/
def spOpen (K : PySem.W.Frag) : Sp := fun vs H Q _ => ∃ (a : Addr) (ns : List Int), vs = [.ref a] ∧ SqL K H a (ns.map V.int) ∧ ns.length ≤ sizeLine ∧
  ∀ (c p : Addr) (b : Int), H c = none → upd H c (.lst (ns.map V.int)) p = none → Q (.ref p) (upd (upd H c (.lst (ns.map V.int))) p (.lst [.ref c, .int 0, .int 0, .int 0, .int 0, .int 0, .int b]))
/-- the law: true at every script of at most 63 numbers -/
def spLaw (K : PySem.W.Frag) : Sp := fun vs H Q _ => ∃ (a : Addr) (ns : List Int), vs = [.ref a] ∧ SqL K H a (ns.map V.int) ∧ ns.length ≤ 63 ∧ ∀ H', Q (.bl true) H'
def endL : DE2 := ⟨fun _ => False, fun r _ => r = .dat (.bool true), fun _ => False, fun _ => False, fun _ _ => False⟩
def lawSt (n : Nat) : DSt := (List.replicate n Sl.no).set 1 .sto
theorem law_lS {K : PySem.W.Frag} {W : WX} {d : DTS} {D : Ends} {σ : St} {H : Hp} {c p : Addr} {b : Int} {ns : List Int} {n : Nat} (hc : H c = none) (hp : upd H c (.lst (ns.map V.int)) p = none) (hσ : σ[1]? = some (some (.ref p))) (hl : σ.length = n) (hQ : ∀ H', D.rt (.bl true) H') (h : d endL (lawSt n)) :
    lS K W d D σ (upd (upd H c (.lst (ns.map V.int))) p (.lst [.ref c, .int 0, .int 0, .int 0, .int 0, .int 0, .int b])) := by
  have ne : c ≠ p := fun z => by rw [← z, upd_same] at hp; cases hp
  refine ⟨⟨fun a => a = p, upd (fun _ => none) c (.lst (ns.map V.int)), _⟩, lawSt n, upd (fun _ => none) c (.lst (ns.map V.int)), endL, ⟨⟨fun a o e => ?_, fun a m => ?_⟩, .refl, ?_, fun i s x e1 e2 => ?_, fun i j a us vs f1 f2 _ _ => ?_⟩, ⟨fun _ _ _ _ _ z => z.elim, fun _ _ _ _ _ z => z.elim, fun _ _ _ _ _ z => z.elim, fun r v δ σ G' H' R o q => ?_, fun _ _ _ _ _ _ z => z.elim⟩, h⟩
  · by_cases z : a = c
    · subst z
      rw [upd_same] at e
      rw [upd_ne ne, upd_same]
      exact e
    · rw [upd_ne z] at e
      cases e
  · subst m
    exact ⟨⟨c, ns, 0, 0, 0, 0, 0, b, upd_same, upd_same, Int.le_refl 0⟩, by rw [upd_ne ne.symm]⟩
  · unfold lawSt
    rw [List.length_set, List.length_replicate, hl]
  · unfold lawSt at e1
    by_cases z : 1 = i
    · subst z
      rw [List.getElem?_set, if_pos rfl] at e1
      split at e1
      · cases e1
        rw [hσ] at e2
        cases e2
        exact ⟨p, rfl, rfl⟩
      · cases e1
    · rw [List.getElem?_set_ne z, List.getElem?_replicate] at e1
      split at e1
      · cases e1; trivial
      · cases e1
  · exfalso
    unfold lawSt at f1
    by_cases z : 1 = i
    · subst z
      rw [List.getElem?_set, if_pos rfl] at f1
      split at f1 <;> cases f1
    · rw [List.getElem?_set_ne z, List.getElem?_replicate] at f1
      split at f1 <;> cases f1
  · cases (show r = .dat (.bool true) from q)
    cases (show Dt K G' v (.bool true) from o)
    exact hQ H'
end RB

set_option Elab.async false
set_option linter.all false
set_option maxRecDepth 100000
set_option maxHeartbeats 4000000
/-! RB13: plain rules for comprehensions and loops -/
namespace RB
open PySem PySem.Spec PyProof.Rows L2
theorem paired_snoc {α β : Type} {F : α → β → Prop} {x : α} {y : β} (h : F x y) : ∀ {l : List α} {l' : List β}, Paired F l l' → Paired F (l ++ [x]) (l' ++ [y])
  | [], [], .nil => .cons h .nil
  | _ :: _, _ :: _, .cons a t => .cons a (paired_snoc h t)
/-- one turn of a comprehension -/
abbrev LcStep (tg : Tg0) (tt : DTT) (el : DTE) (δ : DSt) (d : D) (C : Option D → Prop) : Prop := setD tg d δ fun δ' => tt δ' (fun b => Br b (el δ' (fun r => fzQ r fun r' => match r'.d? with
    | some d' => C (some d')
    | none => False) (fun _ => False)) (C none)) (fun _ => False)
theorem LcS.of {ds : List D} {tg : Tg0} {tt : DTT} {el : DTE} {δ : DSt} {Q : RV → Prop} (R : D → Option D → Prop) (hz : ds.length ≤ sizeLine) (hs : ∀ d ∈ ds, ∀ C : Option D → Prop, (∀ o, R d o → C o) → LcStep tg tt el δ d C)
    (hq : ∀ os, Paired R ds os → Q (.own (os.filterMap id))) : LcS ds tg tt el δ Q := by
  refine ⟨hz, fun k acc => ∃ os, Paired R (ds.take k) os ∧ acc = os.filterMap id, ⟨[], .nil, rfl⟩, fun k acc d hd ⟨os, hp, ha⟩ hl => ?_, fun acc ⟨os, hp, ha⟩ hl => ?_⟩
  · have hk : k < ds.length := (List.getElem?_eq_some_iff.mp hd).1
    have e : ds.take (k + 1) = ds.take k ++ [d] := by rw [List.take_add_one, hd]; rfl
    refine hs d (List.mem_of_getElem? hd) (fun o => match o with
      | some d' => ∃ os, Paired R (ds.take (k + 1)) os ∧ acc ++ [d'] = os.filterMap id
      | none => ∃ os, Paired R (ds.take (k + 1)) os ∧ acc = os.filterMap id) fun o ho => ?_
    cases o with
    | none => exact ⟨os ++ [none], by rw [e]; exact paired_snoc ho hp, by rw [List.filterMap_append, ← ha]; simp⟩
    | some d' => exact ⟨os ++ [some d'], by rw [e]; exact paired_snoc ho hp, by rw [List.filterMap_append, ← ha]; simp⟩
  · subst ha
    exact hq os (by rw [List.take_length] at hp; exact hp)
theorem paired_det {g : D → Option D} : ∀ {ds : List D} {os : List (Option D)}, Paired (fun d o => o = g d) ds os → os = ds.map g
  | [], _, .nil => rfl
  | _ :: _, _, .cons h t => by rw [List.map_cons, h, paired_det t]
theorem LcS.det {ds : List D} {tg : Tg0} {tt : DTT} {el : DTE} {δ : DSt} {Q : RV → Prop} (g : D → Option D) (hz : ds.length ≤ sizeLine) (hs : ∀ d ∈ ds, ∀ C : Option D → Prop, C (g d) → LcStep tg tt el δ d C)
    (hq : Q (.own (ds.filterMap g))) : LcS ds tg tt el δ Q := .of (fun d o => o = g d) hz (fun d hd C hC => hs d hd C (hC _ rfl)) fun os hp => by
  rw [paired_det hp, List.filterMap_map]
  exact hq
/-- a map -/
theorem LcS.map {ds : List D} {tg : Tg0} {tt : DTT} {el : DTE} {δ : DSt} {Q : RV → Prop} (g : D → D) (hz : ds.length ≤ sizeLine) (hs : ∀ d ∈ ds, ∀ C : Option D → Prop, C (some (g d)) → LcStep tg tt el δ d C)
    (hq : Q (.own (ds.map g))) : LcS ds tg tt el δ Q := .det (fun d => some (g d)) hz hs (by
  have e : ds.filterMap (fun d => some (g d)) = ds.map g := by induction ds with
    | nil => rfl
    | cons d ds ih => simp
  rw [e]; exact hq)
/-- draws: one for each -/
theorem LcS.some {ds : List D} {tg : Tg0} {tt : DTT} {el : DTE} {δ : DSt} {Q : RV → Prop} (R : D → D → Prop) (hz : ds.length ≤ sizeLine) (hs : ∀ d ∈ ds, ∀ C : Option D → Prop, (∀ d', R d d' → C (Option.some d')) → LcStep tg tt el δ d C)
    (hq : ∀ es, Paired R ds es → Q (.own es)) : LcS ds tg tt el δ Q := .of (fun d o => ∃ d', o = Option.some d' ∧ R d d') hz (fun d hd C hC => hs d hd C fun d' r => hC _ ⟨d', rfl, r⟩) fun os hp => by
  have key : ∀ {ds : List D} {os : List (Option D)}, Paired (fun d o => ∃ d', o = Option.some d' ∧ R d d') ds os → ∃ es, os.filterMap id = es ∧ Paired R ds es := by
    intro ds os h
    induction h with
    | nil => exact ⟨[], rfl, .nil⟩
    | cons h t ih =>
      obtain ⟨d', rfl, r⟩ := h
      obtain ⟨es, e, p⟩ := ih
      exact ⟨d' :: es, by simp [e], .cons r p⟩
  obtain ⟨es, e, p⟩ := key hp
  rw [e]
  exact hq es p
theorem Br.dec {p : Prop} [Decidable p] {A B : Prop} (h1 : p → A) (h2 : ¬ p → B) : Br (decide p) A B := ⟨fun e => h1 (of_decide_eq_true e), fun e => h2 (of_decide_eq_false e)⟩
theorem Br.ndec {p : Prop} [Decidable p] {A B : Prop} (h1 : ¬ p → A) (h2 : p → B) : Br (!decide p) A B := ⟨fun e => h1 (by simpa using e), fun e => h2 (by simpa using e)⟩
theorem Br.t {A B : Prop} (h : A) : Br true A B := ⟨(fun _ => h), (fun e => nomatch e)⟩
theorem Br.f {A B : Prop} (h : B) : Br false A B := ⟨(fun e => nomatch e), (fun _ => h)⟩
theorem mulR {a b : Int} (h1 : -(2 ^ 64) < b) (h2 : b < 2 ^ 64) : MulOk a b := .inl (.inr ⟨h1, h2⟩)
theorem mulL {a b : Int} (h1 : -(2 ^ 64) < a) (h2 : a < 2 ^ 64) : MulOk a b := .inl (.inl ⟨h1, h2⟩)
theorem divOk {j : Int} (h : 0 < j) (h2 : j < 2 ^ 64) : DivOk j := ⟨h, by
  have : j.natAbs.log2 < 64 := (Nat.log2_lt (by omega)).mpr (by omega)
  omega⟩
theorem atI_nat {ds : List D} {i : Int} (h0 : 0 ≤ i) (h1 : i < ds.length) : L2.atI ds i = some (ds[i.toNat]'(by omega)) := by
  unfold L2.atI L2.ixN
  rw [if_pos h0, if_pos h1, Option.bind_some, List.getElem?_eq_getElem]
theorem szLine {n : Nat} (h : n < 2 ^ 20) : n ≤ sizeLine := by
  have : (2 : Nat) ^ 20 ≤ sizeLine := by decide
  omega
end RB

set_option Elab.async false
set_option linter.all false
set_option maxRecDepth 100000
set_option maxHeartbeats 4000000
/-! RB14: a law's end, own errors within -/
namespace RB
open PySem PySem.Spec PyProof.Rows L2
theorem walkW {l : PySem.W.OpenLaw} {n k : Nat} {q : Program} {loose : List Str} {XP : (Str → Option Value) → Heap → Prop} {YP : World → Heap → Prop} {d : DefRec} {x : Str} (hn : l.most = some n) (hn2 : n ≤ sizeLine) (hdf : d.params.defaults = []) (hr : Room k callerA)
    (F : ∀ (w : World) (mg : Str → Option Value) (fa : Addr) (h : Heap), YP w h → h.Ns mainGlobals mg → mg d.name = some (.ref fa) →
      ∃ (K : PySem.W.Frag) (fd : FuncData) (sp : Sp), K.In h ∧ (∀ (s : Shared) (u : Value), BindsTo s fd ⟨[u], []⟩ [(x, u)]) ∧ (∀ (H : Hp) (a : Addr) (ns : List Int), ns.length ≤ n → Only H → SqL K H a (ns.map V.int) → sp [.ref a] H (fun v _ => v = .bl true) fun _ _ _ => False) ∧
        ∀ base : Heap, K.In base → base.Ns mainGlobals mg → FnOk l.prog w K mg base (L2.CX l.prog w) k fa fd [x] sp) : PySem.W.WalkO q loose XP YP l.row.toRowW d [] (fun f vs => PySem.call f vs) := by
  refine Att.attach_call hn hdf fun w s0 s1 mg mb fa o pm cd doc a vs ns Gr Yh ho hd hcd hmg hobj hints hlen hgen => ?_
  obtain ⟨K, fd, sp, KX, hb, hsp, hF⟩ := F w mg fa _ Yh Gr.T.g hmg
  refine law_call KX Gr.T.g Gr.T.b Gr.T.builtins Gr.T.nolimit hgen hobj hints (Nat.le_trans hlen hn2) hr hF hb (fun H hO hS => hsp H a ns hlen hO hS) fun H e s' h => ?_
  obtain ⟨_, _, _, _, _, _, _, _, _, _, _, _, z⟩ := h
  exact z
end RB

set_option Elab.async false
set_option linter.all false
set_option maxRecDepth 100000
set_option maxHeartbeats 4000000
/-! RB15: zip of lists, bool -/
namespace RB
open PySem PySem.Spec PyProof.Rows L2
def zipD (xs ys : List D) : List D := (xs.zip ys).map fun p => .tuple [p.1, p.2]
theorem zipD_length (xs ys : List D) : (zipD xs ys).length = min xs.length ys.length := by unfold zipD; rw [List.length_map, List.length_zip]
theorem zipD_get {xs ys : List D} {i : Nat} {x y : D} (h1 : xs[i]? = some x) (h2 : ys[i]? = some y) : (zipD xs ys)[i]? = some (.tuple [x, y]) := by
  unfold zipD
  have e : (xs.zip ys)[i]? = some (x, y) := List.getElem?_zip_eq_some.mpr ⟨h1, h2⟩
  rw [List.getElem?_map, e]
  rfl
theorem walk_zip {K : PySem.W.Frag} {M : Addr → Prop} {G : Hp} {a b : Addr} {xs ys : List V} {ds es : List D} (h1 : G a = some (.lst xs)) (q1 : DtA K G xs ds) (h2 : G b = some (.lst ys)) (q2 : DtA K G ys es) : WalkD K M G (Itz K a b) (zipD ds es) where
  go := fun i G2 H2 s w hi => by
    rw [zipD_length] at hi
    obtain ⟨v, e1, _⟩ := q1.get (List.getElem?_eq_getElem (show i < ds.length by omega))
    obtain ⟨u, e2, _⟩ := q2.get (List.getElem?_eq_getElem (show i < es.length by omega))
    exact ⟨xs, ys, v, u, SqL.of (w.sub _ _ (s _ _ h1)), SqL.of (w.sub _ _ (s _ _ h2)), e1, e2⟩
  yld := fun i G2 H2 x H' s w hi y => by
    obtain ⟨T, v, u, rfl, hT, rfl, f1, f2⟩ := y
    obtain ⟨d, ed, dd⟩ := q1.getV (f1 xs (SqL.of (w.sub _ _ (s _ _ h1))))
    obtain ⟨c, ec, dc⟩ := q2.getV (f2 ys (SqL.of (w.sub _ _ (s _ _ h2))))
    have su : Same G2 (upd G2 T (.tup [v, u])) := same_upd (w.noG hT)
    exact ⟨_, upd G2 T (.tup [v, u]), zipD_get ed ec, w.allocG hT, Ext.allocG w hT, .tup (SqT.of upd_same) (.cons ((dd.mono s).mono su) (.cons ((dc.mono s).mono su) .nil))⟩
  stop := fun i G2 H2 s w hi => by
    rw [zipD_length] at hi
    refine ⟨xs, ys, SqL.of (w.sub _ _ (s _ _ h1)), SqL.of (w.sub _ _ (s _ _ h2)), ?_⟩
    rw [q1.length, q2.length]
    omega
def sZip (da db : DTE) : DSrc := fun δ Q X => dCons da (dCons db dNil) δ (fun rs => match rs with
  | [r1, r2] => (match r1.d?, r2.d? with
    | some (.list xs), some (.list ys) => Q (zipD xs ys)
    | _, _ => False)
  | _ => False) X
theorem aok_lst {K : PySem.W.Frag} {M : Addr → Prop} {HB G : Hp} {v : V} {ds : List D} : ∀ {r : RV}, AOk K M HB G v r → r.d? = some (.list ds) → ∃ a xs, v = .ref a ∧ G a = some (.lst xs) ∧ DtA K G xs ds
  | .dat d, h, e => by
    cases e
    cases (show Dt K G v (.list ds) from h) with
    | lst h1 h2 => exact ⟨_, _, rfl, h1, h2⟩
  | .new d, h, e => by
    cases e
    cases Nw.dt h with
    | lst h1 h2 => exact ⟨_, _, rfl, h1, h2⟩
  | .own _, h, _ => h.elim
  | .view _, h, _ => h.elim
  | .raw _, _, e => nomatch e
  | .sto, _, e => nomatch e
theorem di_zip {X : Cx} {W : WX} {a b : Expr} {da db : DTE} {p pos tpos : Pos} {elts : List Expr} {kk : Nat} (hm : X.mg "zip" = none) (ha : PE X a (lE X.K W da)) (hb : PE X b (lE X.K W db)) (hg : Gl X "zip" := by rfl) (hs : starEach [a, b] X.env = (false, eval a X.env) :: starEach [b] X.env := by rfl) (hs2 : starEach [b] X.env = (false, eval b X.env) :: starEach [] X.env := by rfl)
    (hpl : (backTo pos (starEach [b] X.env)).any (·.1) = false := by rfl) : PI X (.Tuple elts kk tpos) (.Call (.Name "zip" p) [a, b] [] pos) (lI X.K W (sZip da db)) := by
  refine (pi_zip hg hm (da_cons ha (da_cons hb da_nil hs2) hs) hs hpl).imp fun σ H R h => ?_
  obtain ⟨B, δ, G, Q2, X2, R', h, kq, kx⟩ := h
  refine ⟨B, δ, G, _, X2, R', h, fun rs vs G1 H1 w1 t1 o1 q1 => ?_, kx⟩
  split at q1
  · rename_i r1 r2
    cases o1 with
    | cons o1 o => cases o with
      | cons o2 o =>
        cases o
        split at q1
        · rename_i xs ys e1 e2
          obtain ⟨a1, x1, rfl, g1, d1⟩ := aok_lst o1 e1
          obtain ⟨a2, x2, rfl, g2, d2⟩ := aok_lst o2 e2
          exact ⟨a1, a2, x1, x2, rfl, SqL.of (w1.sub _ _ g1), SqL.of (w1.sub _ _ g2), kq _ _ G1 H1 w1 t1 (walk_zip g1 d1 g2 d2) q1⟩
        · exact q1.elim
  · exact q1.elim
def bBool (r : RV) (Q : RV → Prop) : Prop := match r.d? with
  | some (.int i) => Q (.dat (.bool (i != 0)))
  | some (.bool b) => Q (.dat (.bool b))
  | _ => False
theorem o1_bool {K : PySem.W.Frag} : Op1 K (fun xs H Q => (∃ i, xs = [.int i] ∧ Q (.bl (i != 0)) H) ∨ ∃ k, xs = [.bl k] ∧ Q (.bl k) H) bBool := by
  intro M HB H0 G H x r1 Q2 Q w o1 hf k
  unfold bBool at hf
  split at hf
  · rename_i i e
    have ez := o1.int e
    subst ez
    exact .inl ⟨i, rfl, k (.dat (.bool _)) _ G H w .refl (Dt.bl _) hf⟩
  · rename_i i e
    have ez := o1.bool e
    subst ez
    exact .inr ⟨i, rfl, k (.dat (.bool _)) _ G H w .refl (Dt.bl _) hf⟩
  · exact hf.elim
end RB

set_option Elab.async false
set_option linter.all false
set_option maxRecDepth 100000
set_option maxHeartbeats 4000000
/-! SP: what the defs do, in plain words -/
namespace RB
open PySem PySem.Spec PyProof.Rows L2
abbrev Fr := PySem.W.Frag
abbrev cM (K : Fr) : Addr := He.ga K "BadModulus"
abbrev cR (K : Fr) : Addr := He.ga K "BadRow"
abbrev cL (K : Fr) : Addr := He.ga K "TooLong"
abbrev iL (ns : List Int) : List D := ns.map PyData.int
/-! numbers -/
def withinD (d : D) (lo hi : Int) : Bool := match d with
  | .int x => decide (lo ≤ x) && decide (x ≤ hi)
  | _ => false
def isIntD (d : D) : Bool := match d with
  | .int _ => true
  | _ => false
/-- how often p goes into n, asked at most f times -/
def vpF (p : Nat) : Nat → Nat → Nat
  | 0, _ => 0
  | f + 1, n => if n % p = 0 then vpF p f (n / p) + 1 else 0
def vp (p n : Nat) : Nat := vpF p 64 n
abbrev PR : List (Nat × Nat) := [(2, 38), (3, 18), (5, 9), (7, 5), (11, 3), (13, 3), (17, 2), (19, 2), (23, 1), (29, 1), (31, 1), (37, 1)]
def facRun : List (Nat × Nat) → Nat → Option (List (Nat × Nat))
  | [], r => if r = 1 then some [] else none
  | (p, most) :: ps, r => if most < vp p r then none else (facRun ps (r / p ^ vp p r)).map fun l => if 0 < vp p r then (p, vp p r) :: l else l
def facM (m : Int) : Option (List (Nat × Nat)) := if 2 ≤ m ∧ m ≤ 10000000000 then facRun PR m.toNat else none
def facD (d : D) : Option (List (Nat × Nat)) := match d with
  | .int m => facM m
  | _ => none
def lawFac : List Nat → Nat → List (Nat × Nat)
  | [], _ => []
  | p :: ps, r => if 0 < vp p r then (p, vp p r) :: lawFac ps (r / p ^ vp p r) else lawFac ps (r / p ^ vp p r)
abbrev P12 : List Nat := [2, 3, 5, 7, 11, 13, 17, 19, 23, 29, 31, 37]
def prD (q : Nat × Nat) : D := .tuple [.int q.1, .int q.2]
/-! rows -/
def fitD (d : D) : Bool := match d with
  | .int x => decide (-(10 ^ 60) ≤ x) && decide (x ≤ 10 ^ 60)
  | _ => false
def Fit (x : Int) : Prop := -(10 ^ 60) ≤ x ∧ x ≤ 10 ^ 60
/-- a showing by the modulus m -/
def rowD (m : Int) (d : D) : Bool := match d with
  | .list ds => decide ((ds.length : Int) = m) && ds.all fitD
  | _ => false
/-- the first place at which the row breaks with the step -/
def fbk (ns : List Int) (step : Nat) : Option Nat := (List.range ns.length).find? fun i => decide (ns.getD i 0 ≠ ns.getD (i % step) 0)
def lper (ns : List Int) : Nat := ((List.range' 1 (ns.length - 1)).find? fun s => decide (ns.length % s = 0) && (fbk ns s).isNone).getD ns.length
def optI (o : Option Nat) : D := match o with
  | some i => .int i
  | none => .none
/-- the primes of 12 that divide n -/
def prs (n : Nat) : List Nat := P12.filter fun p => decide (n % p = 0)
def trip (ns : List Int) (p : Nat) : D := .tuple [.int p, .int ((fbk ns (lper ns / p)).getD 0 % (lper ns / p) : Nat), .int ((fbk ns (lper ns / p)).getD 0 : Nat)]
/-- the answer -/
def ansL (ns : List Int) : List D := (prs (lper ns)).map (trip ns)
def ansD (ns : List Int) : D := .tuple [.int (lper ns), .list (ansL ns)]
/-! depth -/
inductive Dep : Nat → D → Prop
  | non {n : Nat} : Dep (n + 1) .none
  | bl {n : Nat} (b : Bool) : Dep (n + 1) (.bool b)
  | int {n : Nat} (i : Int) : Dep (n + 1) (.int i)
  | str {n : Nat} (x : Str) : Dep (n + 1) (.str x)
  | lst {n : Nat} {ds : List D} : ds.length < 2 ^ 20 → (∀ d ∈ ds, Dep n d) → Dep (n + 1) (.list ds)
  | tup {n : Nat} {ds : List D} : ds.length < 2 ^ 20 → (∀ d ∈ ds, Dep n d) → Dep (n + 1) (.tuple ds)

/-! ### the promises -/
abbrev sp_within (_ : Fr) : DSp := fun rs Q _ => ∃ d lo hi, rs = [.dat d, .dat (.int lo), .dat (.int hi)] ∧ Q (.dat (.bool (withinD d lo hi)))
structure OrX (o : Bool) (A B : Prop) : Prop where
  y : o = true → A
  n : o = false → B
abbrev sp_factors (K : Fr) : DSp := fun rs Q X => ∃ d, rs = [.dat d] ∧ (∀ l, facD d = some l → Q (.own (l.map prD))) ∧ (facD d = none → X (cM K))
abbrev sp_check_modulus (K : Fr) : DSp := fun rs Q X => ∃ d, rs = [.dat d] ∧ (∀ l, facD d = some l → Q (.dat .none)) ∧ (facD d = none → X (cM K))
abbrev sp_whole (_ : Fr) : DSp := fun rs Q _ => ∃ d, rs = [.dat d] ∧ Q (.dat (.bool (isIntD d)))
abbrev sp_all_entries_fit (_ : Fr) : DSp := fun rs Q _ => ∃ ds, rs = [.dat (.list ds)] ∧ Q (.dat (.bool (ds.all fitD)))
abbrev sp_check_length (K : Fr) : DSp := fun rs Q X => ∃ m, rs = [.dat (.int m)] ∧ (m ≤ 400 → Q (.dat .none)) ∧ (400 < m → X (cL K))
abbrev sp_check_showing (K : Fr) : DSp := fun rs Q X => ∃ dm d, rs = [.dat dm, .dat d] ∧ (facD dm = none → X (cM K)) ∧ (∀ m l, dm = .int m → facM m = some l → rowD m d = false → X (cR K)) ∧
  (∀ m l, dm = .int m → facM m = some l → rowD m d = true → 400 < m → X (cL K)) ∧ (∀ m l, dm = .int m → facM m = some l → rowD m d = true → m ≤ 400 → Q (.dat .none))
abbrev sp_first_break (_ : Fr) : DSp := fun rs Q _ => ∃ ns st, rs = [.dat (.list (iL ns)), .dat (.int ((st : Nat) : Int))] ∧ (0 < st ∧ ns.length ≤ 400) ∧ Q (.dat (optI (fbk ns st)))
abbrev sp_least_period (_ : Fr) : DSp := fun rs Q _ => ∃ ns, rs = [.dat (.list (iL ns))] ∧ (0 < ns.length ∧ ns.length ≤ 400) ∧ Q (.dat (.int (lper ns)))
abbrev sp_primes_of (_ : Fr) : DSp := fun rs Q _ => ∃ n : Nat, rs = [.dat (.int n)] ∧ (n = 1 ∨ ∃ l, facM n = some l) ∧ (0 < n ∧ n ≤ 400) ∧ Q (.own ((prs n).map fun p => .int ((p : Nat) : Int)))
abbrev sp_period_of (K : Fr) : DSp := fun rs Q X => ∃ dm d, rs = [.dat dm, .dat d] ∧ (facD dm = none → X (cM K)) ∧ (∀ m l, dm = .int m → facM m = some l → rowD m d = false → X (cR K)) ∧
  (∀ m l, dm = .int m → facM m = some l → rowD m d = true → 400 < m → X (cL K)) ∧ (∀ (m : Nat) l ns, dm = .int m → facM m = some l → m ≤ 400 → d = .list (iL ns) → ns.length = m → rowD m d = true → Q (.new (ansD ns)))
/-! the law's helpers -/
abbrev sp__law_mixed (_ : Fr) : DSp := fun rs Q _ => ∃ a b, rs = [.dat (.int a), .dat (.int b)] ∧ ∀ r, Q (.dat (.int r))
abbrev sp__law_takewide (_ : Fr) : DSp := fun rs Q _ => ∃ n, rs = [.sto, .dat (.int n)] ∧ ∀ r, 0 ≤ r → r < max 1 n → Q (.dat (.int r))
abbrev sp__law_seldom (_ : Fr) : DSp := fun rs Q _ => ∃ n, rs = [.sto, .dat (.int n)] ∧ n < 2 ^ 64 ∧ ∀ b, Q (.dat (.bool b))
abbrev sp__law_pick (_ : Fr) : DSp := fun rs Q _ => ∃ ds, rs = [.sto, .dat (.list ds)] ∧ (ds ≠ [] ∧ ds.length < 2 ^ 62) ∧ ∀ d ∈ ds, Q (.dat d)
abbrev sp__law_whole (_ : Fr) : DSp := fun rs Q _ => ∃ lo hi, rs = [.sto, .dat (.int lo), .dat (.int hi)] ∧ lo ≤ hi ∧ ∀ r, lo ≤ r → r ≤ hi → Q (.dat (.int r))
abbrev sp__law_order (_ : Fr) : DSp := fun rs Q _ => ∃ n : Nat, rs = [.sto, .dat (.int n)] ∧ (0 < n ∧ n ≤ 1000) ∧ ∀ ns : List Int, ns.length = n → (∀ x ∈ ns, 0 ≤ x ∧ x < n) → Q (.own (iL ns))
abbrev sp__law_power (_ : Fr) : DSp := fun rs Q _ => ∃ (b : Int) (e : Nat), rs = [.dat (.int b), .dat (.int e)] ∧ (-(2 ^ 64) < b ∧ b < 2 ^ 64) ∧ e < 1000 ∧ Q (.dat (.int (b ^ e)))
abbrev sp__law_factors (_ : Fr) : DSp := fun rs Q _ => ∃ m : Nat, rs = [.dat (.int m)] ∧ (0 < m ∧ m < 2 ^ 40) ∧ Q (.own ((lawFac P12 m).map prD))
abbrev sp__law_divisors (_ : Fr) : DSp := fun rs Q _ => ∃ m : Nat, rs = [.dat (.int m)] ∧ (∃ l, facM m = some l) ∧ m ≤ 400 ∧ ∀ ns : List Int, ns.Pairwise (· ≤ ·) → (∀ x : Int, x ∈ ns ↔ ∃ k : Nat, x = k ∧ 0 < k ∧ m % k = 0) → Q (.own (iL ns))
abbrev sp__law_modulus (_ : Fr) : DSp := fun rs Q _ => ∃ h : Nat, rs = [.sto, .dat (.int h)] ∧ (h = 60 ∨ h = 400) ∧ ∀ m : Nat, 2 ≤ m → m ≤ h → (∃ l, facM m = some l) → Q (.dat (.int m))
abbrev sp__law_divisor (_ : Fr) : DSp := fun rs Q _ => ∃ m : Nat, rs = [.sto, .dat (.int m)] ∧ (0 < m ∧ m ≤ 400) ∧ ∀ k : Nat, 0 < k → m % k = 0 → Q (.dat (.int k))
/-- of equal data -/
abbrev sp__law_same (n : Nat) : DSp := fun rs Q _ => ∃ d, rs = [.dat d, .dat d] ∧ Dep n d ∧ Q (.dat (.bool true))
/-- a copy: the same data -/
abbrev sp__law_copy (n : Nat) : DSp := fun rs Q _ => ∃ d k, rs = [.dat d, .dat (.int k)] ∧ Dep n d ∧ Q (.dat d) ∧ ∀ ds, d = .list ds → Q (.own ds)
abbrev sp__law_badlist (_ : Fr) : DSp := fun rs Q _ => ∃ (ns : List Int) (m : Nat), rs = [.sto, .dat (.list (iL ns)), .dat (.int m), .dat (.int m), .dat (.int (-(10 ^ 60))), .dat (.int (10 ^ 60))] ∧ (ns.length = m ∧ 0 < m ∧ m ≤ 400) ∧
  ∀ d, rowD m d = false → Dep 4 d → Q (.dat d)
abbrev sp__law_showdraw (_ : Fr) : DSp := fun rs Q _ => ∃ m : Nat, rs = [.sto, .dat (.int m)] ∧ (0 < m ∧ m ≤ 400) ∧ ∀ ns : List Int, ns.length = m → (∀ x ∈ ns, Fit x) → Q (.own (iL ns))
abbrev sp__law_showing (_ : Fr) : DSp := fun rs Q _ => ∃ m : Nat, rs = [.sto, .dat (.int m)] ∧ (0 < m ∧ m ≤ 400) ∧ ∀ ns : List Int, ns.length = m → (∀ x ∈ ns, Fit x) → Q (.own (iL ns))
abbrev sp__law_period (_ : Fr) : DSp := fun rs Q _ => ∃ (m : Nat) (ns : List Int), rs = [.dat (.int m), .dat (.list (iL ns))] ∧ (∃ l, facM m = some l) ∧ m ≤ 400 ∧ ns.length = m ∧ Q (.dat (.int (lper ns)))
abbrev sp__law_paper (_ : Fr) : DSp := fun rs Q _ => ∃ (m : Nat) (ns : List Int), rs = [.dat (.int m), .dat (.list (iL ns))] ∧ (∃ l, facM m = some l) ∧ m ≤ 400 ∧ ns.length = m ∧ Q (.dat (ansD ns))
def nonT (w : Str) : D := .tuple [.str w, .none]
abbrev sp__law_told (_ : Fr) : DSp := fun rs Q _ => ∃ dm d, rs = [.dat dm, .dat d] ∧ Dep 5 d ∧ (facD dm = none → Q (.dat (nonT "modulus"))) ∧ (∀ m l, dm = .int m → facM m = some l → rowD m d = false → Q (.dat (nonT "row"))) ∧
  (∀ m l, dm = .int m → facM m = some l → rowD m d = true → 400 < m → Q (.dat (nonT "long"))) ∧ (∀ (m : Nat) l ns, dm = .int m → facM m = some l → m ≤ 400 → d = .list (iL ns) → ns.length = m → rowD m d = true → Q (.new (.tuple [.str "told", ansD ns])))
/-! ### k23: proofs of periods -/
def pairB (ns : List Int) (p st : Nat) (d : D) : Bool := match d with
  | .tuple [.int a, .int x, .int y] => decide (a = (p : Int)) && (decide (0 ≤ x) && (decide (x < y) && (decide (y < (ns.length : Int)) && (decide ((y - x) % (st : Int) = 0) && !decide (ns.getD x.toNat 0 = ns.getD y.toNat 0)))))
  | _ => false
def allB (ns : List Int) (T : Nat) : List Nat → List D → Bool
  | p :: qs, d :: ds => pairB ns p (T / p) d && allB ns T qs ds
  | _, _ => true
def provN (ns : List Int) (T : Nat) (paper : D) : Bool := match paper with
  | .list ps => decide (ps.length = (prs T).length) && allB ns T (prs T) ps
  | _ => false
def provB (ns : List Int) (number paper : D) : Bool := match number with
  | .int T => (decide (1 ≤ T) && (decide (T ≤ (ns.length : Int)) && (decide ((ns.length : Int) % T = 0) && (fbk ns T.toNat).isNone))) && provN ns T.toNat paper
  | _ => false
def primesF (n : Nat) : Nat → List Nat
  | 0 => []
  | k + 1 => if n % (k + 2) = 0 ∧ ((primesF n k).filter fun o => decide ((k + 2) % o = 0)) = [] then primesF n k ++ [k + 2] else primesF n k
abbrev E3 := Nat × Int × Int
def e3 (e : E3) : D := .tuple [.int e.1, .int e.2.1, .int e.2.2]
structure EOk (T : Nat) (e : E3) : Prop where
  q2 : 2 ≤ e.1
  q4 : e.1 ≤ 400
  d : T % e.1 = 0
  x0 : 0 ≤ e.2.1
  x4 : e.2.1 ≤ 400
  y0 : 0 ≤ e.2.2
  y4 : e.2.2 ≤ 400
abbrev sp_shows_pair (_ : Fr) : DSp := fun rs Q _ => ∃ ns p st d, rs = [.dat (.list (iL ns)), .dat (.int ((p : Nat) : Int)), .dat (.int ((st : Nat) : Int)), .dat d] ∧ 0 < st ∧ Q (.dat (.bool (pairB ns p st d)))
abbrev sp_shows_period (K : Fr) : DSp := fun rs Q X => ∃ dm d per paper, rs = [.dat dm, .dat d, .dat per, .dat paper] ∧ (facD dm = none → X (cM K)) ∧ (∀ m l, dm = .int m → facM m = some l → rowD m d = false → X (cR K)) ∧
  (∀ m l, dm = .int m → facM m = some l → rowD m d = true → 400 < m → X (cL K)) ∧ (∀ (m : Nat) l ns, dm = .int m → facM m = some l → m ≤ 400 → d = .list (iL ns) → ns.length = m → rowD m d = true → Q (.dat (.bool (provB ns per paper))))
abbrev sp__law_within (_ : Fr) : DSp := fun rs Q _ => ∃ d lo hi, rs = [.dat d, .dat (.int lo), .dat (.int hi)] ∧ Q (.dat (.bool (withinD d lo hi)))
abbrev sp__law_primes (_ : Fr) : DSp := fun rs Q _ => ∃ n : Nat, rs = [.dat (.int n)] ∧ (0 < n ∧ n ≤ 400) ∧ Q (.own ((primesF n (n - 1)).map fun p => .int ((p : Nat) : Int)))
abbrev sp__law_parts (_ : Fr) : DSp := fun rs Q _ => ∃ ns T p d, rs = [.dat (.int (ns.length : Nat)), .dat (.list (iL ns)), .dat (.int ((T : Nat) : Int)), .dat (.int ((p : Nat) : Int)), .dat d] ∧ (0 < p ∧ p ≤ 400 ∧ p ≤ T) ∧ Q (.dat (.bool (pairB ns p (T / p) d)))
abbrev sp__law_proves (_ : Fr) : DSp := fun rs Q _ => ∃ ns number paper, rs = [.dat (.int (ns.length : Nat)), .dat (.list (iL ns)), .dat number, .dat paper] ∧ (∃ l, facM ns.length = some l) ∧ ns.length ≤ 400 ∧ Q (.dat (.bool (provB ns number paper)))
abbrev sp__law_pairsfor (_ : Fr) : DSp := fun rs Q _ => ∃ (ns : List Int) (T : Nat), rs = [.sto, .dat (.int (ns.length : Nat)), .dat (.list (iL ns)), .dat (.int T)] ∧ (0 < ns.length ∧ ns.length ≤ 400 ∧ 0 < T ∧ T ≤ ns.length) ∧
  ∀ es : List E3, es.map (·.1) = primesF T (T - 1) → (∀ e ∈ es, EOk T e ∧ ((fbk ns (T / e.1)).isSome = true → pairB ns e.1 (T / e.1) (e3 e) = true)) → Q (.own (es.map e3))
abbrev sp__law_oddpaper (_ : Fr) : DSp := fun rs Q _ => rs = [.sto] ∧ ∀ d, Dep 24 d → Q (.dat d)
abbrev sp__law_kindbent (n : Nat) : DSp := fun rs Q _ => ∃ (d : D) (k dp : Nat), rs = [.sto, .dat d, .dat (.int (dp : Nat))] ∧ dp < n ∧ Dep (k + 1) d ∧ ∀ d', Dep (k + 4) d' → Q (.dat d') ∧ ∀ ds, d' = .list ds → Q (.own ds)
abbrev sp__law_twist (_ : Fr) : DSp := fun rs Q _ => ∃ (m T : Nat) (es : List E3), rs = [.sto, .dat (.int m), .dat (.int T), .dat (.list (es.map e3))] ∧ (0 < m ∧ m ≤ 400 ∧ 0 < T ∧ T ≤ 400) ∧ es.length ≤ 400 ∧ (∀ e ∈ es, EOk T e) ∧ ∀ a b, Dep 27 a → Dep 27 b → Q (.dat (.tuple [a, b]))
abbrev sp__law_judged (_ : Fr) : DSp := fun rs Q _ => ∃ ns number paper, rs = [.dat (.int (ns.length : Nat)), .dat (.list (iL ns)), .dat number, .dat paper, .dat (.bool (provB ns number paper))] ∧ (∃ l, facM ns.length = some l) ∧ ns.length ≤ 400 ∧ (∀ x ∈ ns, Fit x) ∧ Dep 27 number ∧ Dep 27 paper ∧ Q (.dat (.bool true))
abbrev sp__law_refusal (K : Fr) : DSp := fun rs Q _ => ∃ dm d per paper, rs = [.dat dm, .dat d, .dat per, .dat paper] ∧ (facD dm = none → Q (.dat (.str "modulus"))) ∧ (∀ m l, dm = .int m → facM m = some l → rowD m d = false → Q (.dat (.str "row"))) ∧
  (∀ m l, dm = .int m → facM m = some l → rowD m d = true → 400 < m → Q (.dat (.str "long"))) ∧ (∀ (m : Nat) l ns, dm = .int m → facM m = some l → m ≤ 400 → d = .list (iL ns) → ns.length = m → rowD m d = true → False)
abbrev sp__law_refusals (_ : Fr) : DSp := fun rs Q _ => ∃ (ns : List Int) (m : Nat) (per paper : D), rs = [.sto, .dat (.int m), .dat (.list (iL ns)), .dat per, .dat paper] ∧ (∃ l, facM m = some l) ∧ m ≤ 400 ∧ ns.length = m ∧ (∀ x ∈ ns, Fit x) ∧ Q (.dat (.bool true))
end RB

set_option Elab.async false
set_option linter.all false
set_option maxRecDepth 100000
set_option maxHeartbeats 8000000
/-! the readings of the defs over data, printed by gen.py -/
namespace RB
open PySem PySem.Spec PyProof.Rows L2
def d_within (K : PySem.W.Frag) : DTS :=
  dRet (dAndV (dUn (bIsi .int) (dVar 0)) (dAndV (dNotV (dUn (bIsi .bool) (dVar 0))) (dChain bLe bLe (dVar 1) (dVar 0) (dVar 2))))
def d_factors (K : PySem.W.Frag) : DTS :=
  dSeq (dIf (dNot (dB (dCall 3 (sp_within K) (dCons (dVar 0) (dCons (dK (.int 2)) (dCons (dK (.int 10000000000)) (dNil)))))))
  (dRaise (He.ga K "BadModulus"))
  (dSkip))
  (dSeq (dSetO 1 (dLst (dNil)))
  (dSeq (dSet 2 (dVar 0))
  (dSeq (dFor (sTup (dK (.tuple [(.tuple [(.int 2), (.int 38)]), (.tuple [(.int 3), (.int 18)]), (.tuple [(.int 5), (.int 9)]), (.tuple [(.int 7), (.int 5)]), (.tuple [(.int 11), (.int 3)]), (.tuple [(.int 13), (.int 3)]), (.tuple [(.int 17), (.int 2)]), (.tuple [(.int 19), (.int 2)]), (.tuple [(.int 23), (.int 1)]), (.tuple [(.int 29), (.int 1)]), (.tuple [(.int 31), (.int 1)]), (.tuple [(.int 37), (.int 1)])]))) (.tp [3, 4])
  (dSeq (dSet 5 (dK (.int 0)))
  (dSeq (dWhile (dB (dBin bEq (dBin bMod (dVar 2) (dVar 3)) (dK (.int 0))))
  (dSeq (dSet 2 (dBin bDiv (dVar 2) (dVar 3)))
  (dAugI (fun i j => i + j) 5 (dK (.int 1)))))
  (dSeq (dIf (dB (dBin bGt (dVar 5) (dVar 4)))
  (dRaise (He.ga K "BadModulus"))
  (dSkip))
  (dIf (dB (dBin bGt (dVar 5) (dK (.int 0))))
  (dApp 1 (dTup (dCons (dVar 3) (dCons (dVar 5) (dNil)))))
  (dSkip))))))
  (dSeq (dIf (dB (dBin bNe (dVar 2) (dK (.int 1))))
  (dRaise (He.ga K "BadModulus"))
  (dSkip))
  (dRetO 1)))))
def d_check_modulus (K : PySem.W.Frag) : DTS :=
  dDrop (dCall 1 (sp_factors K) (dCons (dVar 0) (dNil)))
def d_whole (K : PySem.W.Frag) : DTS :=
  dRet (dAndV (dUn (bIsi .int) (dVar 0)) (dNotV (dUn (bIsi .bool) (dVar 0))))
def d_all_entries_fit (K : PySem.W.Frag) : DTS :=
  dSeq (dFor (sLst (dVar 0)) (.nm 1)
  (dIf (dOr (dNot (dB (dCall 1 (sp_whole K) (dCons (dVar 1) (dNil))))) (dOr (dB (dBin bLt (dVar 1) (dUn bNeg (dK (.int 1000000000000000000000000000000000000000000000000000000000000))))) (dB (dBin bGt (dVar 1) (dK (.int 1000000000000000000000000000000000000000000000000000000000000))))))
  (dRet (dK (.bool false)))
  (dSkip)))
  (dRet (dK (.bool true)))
def d_check_length (K : PySem.W.Frag) : DTS :=
  dIf (dB (dBin bGt (dVar 0) (dK (.int 400))))
  (dRaise (He.ga K "TooLong"))
  (dSkip)
def d_check_showing (K : PySem.W.Frag) : DTS :=
  dSeq (dDrop (dCall 1 (sp_check_modulus K) (dCons (dVar 0) (dNil))))
  (dSeq (dIf (dOr (dNot (dB (dUn (bIsi .list) (dVar 1)))) (dOr (dB (dBin bNe (dUn bLen (dVar 1)) (dVar 0))) (dNot (dB (dCall 1 (sp_all_entries_fit K) (dCons (dVar 1) (dNil)))))))
  (dRaise (He.ga K "BadRow"))
  (dSkip))
  (dDrop (dCall 1 (sp_check_length K) (dCons (dVar 0) (dNil)))))
def d_first_break (K : PySem.W.Frag) : DTS :=
  dSeq (dFor (sRng1 (dUn bLen (dVar 0))) (.nm 2)
  (dIf (dB (dBin bNe (dBin bIx (dVar 0) (dVar 2)) (dBin bIx (dVar 0) (dBin bMod (dVar 2) (dVar 1)))))
  (dRet (dVar 2))
  (dSkip)))
  (dRet (dK .none))
def d_primes_of (K : PySem.W.Frag) : DTS :=
  dSeq (dIf (dB (dBin bEq (dVar 0) (dK (.int 1))))
  (dRet (dLst (dNil)))
  (dSkip))
  (dRet (dLc (sLst (dCall 1 (sp_factors K) (dCons (dVar 0) (dNil)))) (.nm 1) [1] (dYes) (dBin bIx (dVar 1) (dK (.int 0)))))
def d_shows_pair (K : PySem.W.Frag) : DTS :=
  dSeq (dIf (dOr (dNot (dB (dUn (bIsi .tuple) (dVar 3)))) (dB (dBin bNe (dUn bLen (dVar 3)) (dK (.int 3)))))
  (dRet (dK (.bool false)))
  (dSkip))
  (dSeq (dSetT [4, 5, 6] (dVar 3))
  (dSeq (dIf (dOr (dNot (dB (dCall 1 (sp_whole K) (dCons (dVar 4) (dNil))))) (dOr (dNot (dB (dCall 1 (sp_whole K) (dCons (dVar 5) (dNil))))) (dOr (dNot (dB (dCall 1 (sp_whole K) (dCons (dVar 6) (dNil))))) (dB (dBin bNe (dVar 4) (dVar 1))))))
  (dRet (dK (.bool false)))
  (dSkip))
  (dSeq (dIf (dOr (dB (dBin bLt (dVar 5) (dK (.int 0)))) (dOr (dB (dBin bLe (dVar 6) (dVar 5))) (dB (dBin bGe (dVar 6) (dUn bLen (dVar 0))))))
  (dRet (dK (.bool false)))
  (dSkip))
  (dRet (dAndV (dBin bEq (dBin bMod (dBin bSub (dVar 6) (dVar 5)) (dVar 2)) (dK (.int 0))) (dBin bNe (dBin bIx (dVar 0) (dVar 5)) (dBin bIx (dVar 0) (dVar 6))))))))
def d_shows_period (K : PySem.W.Frag) : DTS :=
  dSeq (dDrop (dCall 2 (sp_check_showing K) (dCons (dVar 0) (dCons (dVar 1) (dNil)))))
  (dSeq (dIf (dOr (dNot (dB (dCall 1 (sp_whole K) (dCons (dVar 2) (dNil))))) (dOr (dB (dBin bLt (dVar 2) (dK (.int 1)))) (dB (dBin bNe (dBin bMod (dVar 0) (dVar 2)) (dK (.int 0))))))
  (dRet (dK (.bool false)))
  (dSkip))
  (dSeq (dIf (dOr (dNot (dB (dUn (bIsi .list) (dVar 3)))) (dB (dBin bNotN (dCall 2 (sp_first_break K) (dCons (dVar 1) (dCons (dVar 2) (dNil)))) (dK .none))))
  (dRet (dK (.bool false)))
  (dSkip))
  (dSeq (dSet 4 (dCall 1 (sp_primes_of K) (dCons (dVar 2) (dNil))))
  (dSeq (dIf (dB (dBin bNe (dUn bLen (dVar 3)) (dUn bLen (dVar 4))))
  (dRet (dK (.bool false)))
  (dSkip))
  (dSeq (dFor (sZip (dVar 4) (dVar 3)) (.tp [5, 6])
  (dIf (dNot (dB (dCall 4 (sp_shows_pair K) (dCons (dVar 1) (dCons (dVar 5) (dCons (dBin bDiv (dVar 2) (dVar 5)) (dCons (dVar 6) (dNil))))))))
  (dRet (dK (.bool false)))
  (dSkip)))
  (dRet (dK (.bool true))))))))
def d__law_mixed (K : PySem.W.Frag) : DTS :=
  dSeq (dSet 2 (dK (.int 2305843009213693951)))
  (dSeq (dSet 3 (dBin bMod (dUn bInt (dBin bAdd (dBin bAdd (dBin bMul (dBin bAdd (dVar 0) (dK (.int 1))) (dK (.int 1318974652038471937))) (dBin bMul (dVar 1) (dK (.int 905127364518273641)))) (dK (.int 52711)))) (dVar 2)))
  (dSeq (dSet 4 (dBin bMod (dUn bInt (dBin bAdd (dBin bMul (dBin (bI2 Builtin.bitXor) (dVar 3) (dBin bShr (dVar 3) (dK (.int 31)))) (dK (.int 1790253481967340263))) (dBin bMul (dVar 1) (dK (.int 40961))))) (dVar 2)))
  (dSeq (dSet 5 (dBin bMod (dUn bInt (dBin bAdd (dBin bMul (dBin (bI2 Builtin.bitXor) (dVar 4) (dBin bShr (dVar 4) (dK (.int 27)))) (dBin (bI2 Builtin.bitOr) (dVar 4) (dK (.int 1)))) (dVar 3))) (dVar 2)))
  (dRet (dBin (bI2 Builtin.bitXor) (dVar 5) (dBin bShr (dVar 5) (dK (.int 33))))))))
def d__law_take (K : PySem.W.Frag) : DTS :=
  dSeq (dSet 1 (dBin (bI2 fun i j => if j > i then j else i) (dK (.int 1)) (dVar 1)))
  (dSeq (dStoS 0 5 (dBin bAdd (dStoI 0 5) (dK (.int 1))))
  (dCut (dIf (dAnd (dB (dBin bLt (dStoI 0 2) (dK (.int 2)))) (dB (dBin bEq (dStoI 0 4) (dK (.int 0)))))
  (dSeq (dStoS 0 3 (dStoI 0 6))
  (dSeq (dStoS 0 4 (dK (.int 1)))
  (dStoC 0 3 (dSeq (dStoS 0 1 (dBin bAdd (dStoI 0 1) (dK (.int 1))))
  (dSeq (dStoS 0 3 (dBin bMod (dVar 3) (dK (.int 2305843009213693951))))
  (dSeq (dStoS 0 4 (dK (.int 3)))
  (dIf (dB (dBin bGe (dVar 3) (dBin bPow (dK (.int 10)) (dK (.int 18)))))
  (dSeq (dStoS 0 2 (dVar 3))
  (dStoS 0 4 (dK (.int 0))))
  (dSkip))))))))
  (dSkip))
  (dSeq (dIf (dB (dBin bGt (dStoI 0 2) (dK (.int 1))))
  (dSeq (dSet 2 (dUn bInt (dStoI 0 2)))
  (dSeq (dStoS 0 2 (dBin bDiv (dVar 2) (dVar 1)))
  (dRet (dBin bMod (dVar 2) (dVar 1)))))
  (dSkip))
  (dSeq (dStoS 0 4 (dBin bSub (dStoI 0 4) (dK (.int 1))))
  (dRet (dBin bMod (dUn bInt (dCall 2 (sp__law_mixed K) (dCons (dStoI 0 3) (dCons (dStoI 0 5) (dNil))))) (dVar 1)))))))
def d__law_takewide (K : PySem.W.Frag) : DTS :=
  dSeq (dIf (dB (dBin bLe (dVar 1) (dK (.int 1000000000000000))))
  (dRet (dCall 2 spTake (dCons (dVar 0) (dCons (dVar 1) (dNil)))))
  (dSkip))
  (dSeq (dSet 2 (dK (.int 0)))
  (dSeq (dSet 3 (dK (.int 1)))
  (dSeq (dWhile (dB (dBin bLt (dVar 3) (dVar 1)))
  (dSeq (dSet 2 (dBin bAdd (dBin bMul (dVar 2) (dK (.int 1000000))) (dCall 2 spTake (dCons (dVar 0) (dCons (dK (.int 1000000)) (dNil))))))
  (dSet 3 (dBin bMul (dVar 3) (dK (.int 1000000))))))
  (dRet (dBin bMod (dUn bInt (dVar 2)) (dBin (bI2 fun i j => if j > i then j else i) (dK (.int 1)) (dVar 1)))))))
def d__law_seldom (K : PySem.W.Frag) : DTS :=
  dRet (dBin bEq (dCall 2 spTake (dCons (dVar 0) (dCons (dVar 1) (dNil)))) (dK (.int 0)))
def d__law_pick (K : PySem.W.Frag) : DTS :=
  dRet (dBin bIx (dVar 1) (dCall 2 spTake (dCons (dVar 0) (dCons (dUn bLen (dVar 1)) (dNil)))))
def d__law_whole (K : PySem.W.Frag) : DTS :=
  dSeq (dIf (dB (dCall 2 (sp__law_seldom K) (dCons (dVar 0) (dCons (dK (.int 3)) (dNil)))))
  (dSeq (dSet 3 (dLst (dCons (dVar 1) (dCons (dVar 2) (dCons (dBin bAdd (dVar 1) (dK (.int 1))) (dCons (dBin bSub (dVar 2) (dK (.int 1))) (dCons (dUn bNeg (dK (.int 1))) (dCons (dK (.int 0)) (dCons (dK (.int 1)) (dCons (dBin bDiv (dBin bAdd (dVar 1) (dVar 2)) (dK (.int 2))) (dNil)))))))))))
  (dSeq (dSet 4 (dLc (sLst (dVar 3)) (.nm 5) [5] (dB (dChain bLe bLe (dVar 1) (dVar 5) (dVar 2))) (dVar 5)))
  (dRet (dCall 2 (sp__law_pick K) (dCons (dVar 0) (dCons (dVar 4) (dNil)))))))
  (dSkip))
  (dRet (dBin bAdd (dVar 1) (dCall 2 (sp__law_takewide K) (dCons (dVar 0) (dCons (dBin bAdd (dBin bSub (dVar 2) (dVar 1)) (dK (.int 1))) (dNil))))))
def d__law_order (K : PySem.W.Frag) : DTS :=
  dSeq (dSetO 2 (dLr1 (dVar 1)))
  (dSeq (dSet 3 (dCall 2 spTake (dCons (dVar 0) (dCons (dK (.int 6)) (dNil)))))
  (dSeq (dIf (dB (dBin bEq (dVar 3) (dK (.int 0))))
  (dRetO 2)
  (dSkip))
  (dSeq (dIf (dB (dBin bEq (dVar 3) (dK (.int 1))))
  (dRet (dUn bRev (dVar 2)))
  (dSkip))
  (dSeq (dIf (dB (dBin bEq (dVar 3) (dK (.int 2))))
  (dSeq (dSet 5 (dCall 2 spTake (dCons (dVar 0) (dCons (dVar 1) (dNil)))))
  (dRet (dBin bAdd (dSl (dVar 2) (dPart (dVar 5)) (dNoP)) (dSl (dVar 2) (dNoP) (dPart (dVar 5))))))
  (dSkip))
  (dSeq (dFor (sRng1 (dBin bSub (dVar 1) (dK (.int 1)))) (.nm 4)
  (dSeq (dSet 6 (dBin bSub (dBin bSub (dVar 1) (dK (.int 1))) (dVar 4)))
  (dSeq (dSet 7 (dCall 2 spTake (dCons (dVar 0) (dCons (dBin bAdd (dVar 6) (dK (.int 1))) (dNil)))))
  (dSeq (dSet 8 (dBin bIx (dVar 2) (dVar 6)))
  (dSeq (dStore 2 (dVar 6) (dBin bIx (dVar 2) (dVar 7)))
  (dStore 2 (dVar 7) (dVar 8)))))))
  (dRetO 2))))))
def d__law_power (K : PySem.W.Frag) : DTS :=
  dSeq (dSet 2 (dK (.int 1)))
  (dSeq (dFor (sRng1 (dVar 1)) (.nm 3)
  (dSet 2 (dBin bMul (dVar 2) (dVar 0))))
  (dRet (dVar 2)))
def d__law_factors (K : PySem.W.Frag) : DTS :=
  dSeq (dSetO 1 (dLst (dNil)))
  (dSeq (dSet 2 (dVar 0))
  (dSeq (dFor (sLst (dLst (dCons (dK (.int 2)) (dCons (dK (.int 3)) (dCons (dK (.int 5)) (dCons (dK (.int 7)) (dCons (dK (.int 11)) (dCons (dK (.int 13)) (dCons (dK (.int 17)) (dCons (dK (.int 19)) (dCons (dK (.int 23)) (dCons (dK (.int 29)) (dCons (dK (.int 31)) (dCons (dK (.int 37)) (dNil))))))))))))))) (.nm 3)
  (dSeq (dSet 4 (dK (.int 0)))
  (dSeq (dWhile (dAnd (dB (dBin bGt (dVar 2) (dK (.int 0)))) (dB (dBin bEq (dBin bMod (dUn bInt (dVar 2)) (dVar 3)) (dK (.int 0)))))
  (dSeq (dSet 2 (dBin bDiv (dVar 2) (dVar 3)))
  (dSet 4 (dBin bAdd (dVar 4) (dK (.int 1))))))
  (dIf (dB (dBin bGt (dVar 4) (dK (.int 0))))
  (dApp 1 (dTup (dCons (dVar 3) (dCons (dVar 4) (dNil)))))
  (dSkip)))))
  (dRetO 1)))
def d__law_divisors (K : PySem.W.Frag) : DTS :=
  dSeq (dSet 1 (dLst (dCons (dK (.int 1)) (dNil))))
  (dSeq (dFor (sLst (dCall 1 (sp__law_factors K) (dCons (dVar 0) (dNil)))) (.tp [2, 3])
  (dSeq (dSet 4 (dK (.int 1)))
  (dSeq (dSet 5 (dLst (dNil)))
  (dSeq (dFor (sRng1 (dBin bAdd (dVar 3) (dK (.int 1)))) (.nm 6)
  (dSeq (dSet 5 (dBin bAdd (dVar 5) (dLc (sLst (dVar 1)) (.nm 7) [7] (dYes) (dBin bMul (dVar 7) (dVar 4)))))
  (dSet 4 (dBin bMul (dVar 4) (dVar 2)))))
  (dSet 1 (dVar 5))))))
  (dRet (dUn bSorted (dVar 1))))
def d__law_modulus (K : PySem.W.Frag) : DTS :=
  dSeq (dIf (dB (dCall 2 (sp__law_seldom K) (dCons (dVar 0) (dCons (dK (.int 3)) (dNil)))))
  (dSeq (dSet 6 (dLst (dCons (dK (.int 2)) (dCons (dK (.int 3)) (dCons (dK (.int 4)) (dCons (dK (.int 5)) (dCons (dK (.int 6)) (dCons (dK (.int 7)) (dCons (dK (.int 8)) (dCons (dK (.int 9)) (dCons (dK (.int 12)) (dCons (dK (.int 16)) (dCons (dK (.int 18)) (dCons (dK (.int 24)) (dCons (dK (.int 25)) (dCons (dK (.int 27)) (dCons (dK (.int 30)) (dCons (dK (.int 32)) (dCons (dK (.int 35)) (dCons (dK (.int 36)) (dCons (dK (.int 37)) (dCons (dK (.int 40)) (dCons (dK (.int 49)) (dCons (dK (.int 54)) (dCons (dK (.int 64)) (dCons (dK (.int 72)) (dCons (dK (.int 81)) (dCons (dK (.int 100)) (dCons (dK (.int 108)) (dNil))))))))))))))))))))))))))))))
  (dSeq (dSet 6 (dBin bAdd (dVar 6) (dLst (dCons (dK (.int 121)) (dCons (dK (.int 125)) (dCons (dK (.int 128)) (dCons (dK (.int 135)) (dCons (dK (.int 175)) (dCons (dK (.int 180)) (dCons (dK (.int 200)) (dCons (dK (.int 210)) (dCons (dK (.int 216)) (dCons (dK (.int 243)) (dCons (dK (.int 256)) (dCons (dK (.int 289)) (dCons (dK (.int 343)) (dCons (dK (.int 361)) (dCons (dK (.int 400)) (dCons (dK (.int 512)) (dCons (dK (.int 625)) (dCons (dK (.int 667)) (dCons (dK (.int 1147)) (dNil)))))))))))))))))))))))
  (dSeq (dSet 6 (dBin bAdd (dVar 6) (dLst (dCons (dK (.int 1331)) (dCons (dK (.int 2000)) (dCons (dK (.int 2197)) (dCons (dK (.int 2310)) (dCons (dK (.int 4096)) (dCons (dK (.int 16807)) (dCons (dK (.int 59049)) (dCons (dK (.int 765049)) (dCons (dK (.int 1953125)) (dCons (dK (.int 387420489)) (dCons (dK (.int 4294967296)) (dCons (dK (.int 5410805400)) (dNil))))))))))))))))
  (dSeq (dSet 6 (dBin bAdd (dVar 6) (dLst (dCons (dK (.int 6469693230)) (dCons (dK (.int 8589934592)) (dCons (dK (.int 9966796875)) (dNil)))))))
  (dSeq (dSet 7 (dLc (sLst (dVar 6)) (.nm 4) [4] (dB (dBin bLe (dVar 4) (dVar 1))) (dVar 4)))
  (dRet (dCall 2 (sp__law_pick K) (dCons (dVar 0) (dCons (dVar 7) (dNil))))))))))
  (dSkip))
  (dSeq (dSet 2 (dLst (dCons (dK (.int 2)) (dCons (dK (.int 3)) (dCons (dK (.int 5)) (dCons (dK (.int 7)) (dCons (dK (.int 11)) (dCons (dK (.int 13)) (dCons (dK (.int 17)) (dCons (dK (.int 19)) (dCons (dK (.int 23)) (dCons (dK (.int 29)) (dCons (dK (.int 31)) (dCons (dK (.int 37)) (dNil)))))))))))))))
  (dSeq (dSetO 3 (dLst (dCons (dK (.int 38)) (dCons (dK (.int 18)) (dCons (dK (.int 9)) (dCons (dK (.int 5)) (dCons (dK (.int 3)) (dCons (dK (.int 3)) (dCons (dK (.int 2)) (dCons (dK (.int 2)) (dCons (dK (.int 1)) (dCons (dK (.int 1)) (dCons (dK (.int 1)) (dCons (dK (.int 1)) (dNil)))))))))))))))
  (dSeq (dSet 4 (dK (.int 1)))
  (dSeq (dFor (sRng1 (dBin bAdd (dK (.int 2)) (dCall 2 spTake (dCons (dVar 0) (dCons (dBin bAdd (dK (.int 7)) (dBin bMul (dK (.int 6)) (dUn bInt (dBin bGt (dVar 1) (dK (.int 1000000)))))) (dNil)))))) (.nm 5)
  (dSeq (dSet 8 (dCall 2 spTake (dCons (dVar 0) (dCons (dBin bAdd (dK (.int 1)) (dCall 2 spTake (dCons (dVar 0) (dCons (dK (.int 12)) (dNil))))) (dNil)))))
  (dIf (dAnd (dB (dBin bGt (dBin bIx (dVar 3) (dVar 8)) (dK (.int 0)))) (dB (dBin bLe (dBin bMul (dVar 4) (dBin bIx (dVar 2) (dVar 8))) (dVar 1))))
  (dSeq (dSet 4 (dBin bMul (dVar 4) (dBin bIx (dVar 2) (dVar 8))))
  (dStore 3 (dVar 8) (dBin bSub (dBin bIx (dVar 3) (dVar 8)) (dK (.int 1)))))
  (dSkip))))
  (dRet (dBin (bI2 fun i j => if j > i then j else i) (dK (.int 2)) (dVar 4)))))))
def d__law_divisor (K : PySem.W.Frag) : DTS :=
  dSeq (dSet 2 (dCall 2 spTake (dCons (dVar 0) (dCons (dK (.int 6)) (dNil)))))
  (dSeq (dIf (dB (dBin bEq (dVar 2) (dK (.int 0))))
  (dRet (dK (.int 1)))
  (dSkip))
  (dSeq (dIf (dB (dBin bEq (dVar 2) (dK (.int 1))))
  (dRet (dVar 1))
  (dSkip))
  (dSeq (dSet 3 (dK (.int 1)))
  (dSeq (dFor (sLst (dCall 1 (sp__law_factors K) (dCons (dVar 1) (dNil)))) (.tp [4, 5])
  (dSet 3 (dBin bMul (dVar 3) (dCall 2 (sp__law_power K) (dCons (dVar 4) (dCons (dCall 3 (sp__law_whole K) (dCons (dVar 0) (dCons (dK (.int 0)) (dCons (dVar 5) (dNil))))) (dNil)))))))
  (dRet (dVar 3))))))
def d__law_same (K : PySem.W.Frag) (sp__law_same : DSp) : DTS :=
  dSeq (dIf (dB (dUn (bIsi .bool) (dVar 1)))
  (dRet (dAndV (dUn (bIsi .bool) (dVar 0)) (dBin bEq (dVar 0) (dVar 1))))
  (dSkip))
  (dSeq (dIf (dB (dUn (bIsi .int) (dVar 1)))
  (dRet (dAndV (dUn (bIsi .int) (dVar 0)) (dAndV (dNotV (dUn (bIsi .bool) (dVar 0))) (dBin bEq (dVar 0) (dVar 1)))))
  (dSkip))
  (dSeq (dIf (dB (dUn (bIsi .str) (dVar 1)))
  (dRet (dAndV (dUn (bIsi .str) (dVar 0)) (dBin bEq (dVar 0) (dVar 1))))
  (dSkip))
  (dSeq (dIf (dB (dUn (bIsi .dict) (dVar 1)))
  ((fun _ _ => False))
  (dSkip))
  (dCut (dIf (dB (dUn (bIsi .list) (dVar 1)))
  (dIf (dNot (dB (dUn (bIsi .list) (dVar 0))))
  (dRet (dK (.bool false)))
  (dSkip))
  (dIf (dB (dUn (bIsi .tuple) (dVar 1)))
  (dIf (dNot (dB (dUn (bIsi .tuple) (dVar 0))))
  (dRet (dK (.bool false)))
  (dSkip))
  (dRet (dAndV (dBin bIsN (dVar 1) (dK .none)) (dBin bIsN (dVar 0) (dK .none))))))
  (dSeq (dIf (dB (dBin bNe (dUn bLen (dVar 0)) (dUn bLen (dVar 1))))
  (dRet (dK (.bool false)))
  (dSkip))
  (dSeq (dFor (sRng1 (dUn bLen (dVar 1))) (.nm 2)
  (dIf (dNot (dB (dCall 2 sp__law_same (dCons (dBin bIx (dVar 0) (dVar 2)) (dCons (dBin bIx (dVar 1) (dVar 2)) (dNil))))))
  (dRet (dK (.bool false)))
  (dSkip)))
  (dRet (dK (.bool true)))))))))
def d__law_copy (K : PySem.W.Frag) (sp__law_copy : DSp) : DTS :=
  dSeq (dIf (dAnd (dB (dUn (bIsi .list) (dVar 0))) (dB (dBin bGt (dVar 1) (dK (.int 0)))))
  (dRet (dLc (sLst (dVar 0)) (.nm 2) [2] (dYes) (dCall 2 sp__law_copy (dCons (dVar 2) (dCons (dBin bSub (dVar 1) (dK (.int 1))) (dNil))))))
  (dSkip))
  (dSeq (dIf (dAnd (dB (dUn (bIsi .tuple) (dVar 0))) (dB (dBin bGt (dVar 1) (dK (.int 0)))))
  (dRet (dUn bTuple (dLc (sTup (dVar 0)) (.nm 2) [2] (dYes) (dCall 2 sp__law_copy (dCons (dVar 2) (dCons (dBin bSub (dVar 1) (dK (.int 1))) (dNil)))))))
  (dSkip))
  (dRet (dVar 0)))
def d__law_within (K : PySem.W.Frag) : DTS :=
  dRet (dAndV (dUn (bIsi .int) (dVar 0)) (dAndV (dNotV (dUn (bIsi .bool) (dVar 0))) (dChain bLe bLe (dVar 1) (dVar 0) (dVar 2))))
def d__law_kindbent (K : PySem.W.Frag) (sp__law_kindbent : DSp) : DTS :=
  dSeq (dIf (dB (dUn (bIsi2 .list .tuple) (dVar 1)))
  (dSeq (dSetO 3 (dUn bList (dVar 1)))
  (dSeq (dIf (dAnd (dB (dBin bGt (dVar 2) (dK (.int 0)))) (dAnd (dB (dBin bGt (dUn bLen (dVar 1)) (dK (.int 0)))) (dB (dBin bGt (dCall 2 spTake (dCons (dVar 0) (dCons (dK (.int 4)) (dNil)))) (dK (.int 0))))))
  (dSeq (dSet 4 (dCall 2 spTake (dCons (dVar 0) (dCons (dUn bLen (dVar 1)) (dNil)))))
  (dSeq (dStore 3 (dVar 4) (dCall 3 sp__law_kindbent (dCons (dVar 0) (dCons (dBin bIx (dVar 3) (dVar 4)) (dCons (dBin bSub (dVar 2) (dK (.int 1))) (dNil))))))
  (dSeq (dIf (dB (dUn (bIsi .tuple) (dVar 1)))
  (dRet (dUn bTuple (dVar 3)))
  (dSkip))
  (dRetO 3))))
  (dSkip))
  (dSeq (dIf (dB (dUn (bIsi .tuple) (dVar 1)))
  (dRetO 3)
  (dSkip))
  (dRet (dUn bTuple (dVar 3))))))
  (dSkip))
  (dSeq (dIf (dAnd (dB (dUn (bIsi .int) (dVar 1))) (dNot (dB (dUn (bIsi .bool) (dVar 1)))))
  (dRet (dCall 2 (sp__law_pick K) (dCons (dVar 0) (dCons (dLst (dCons (dUn bBool (dBin bNe (dVar 1) (dK (.int 0)))) (dCons (dUn bBool (dBin bNe (dVar 1) (dK (.int 0)))) (dCons (dK .none) (dCons (dK (.str "1")) (dCons (dLst (dCons (dVar 1) (dNil))) (dCons (dTup (dCons (dVar 1) (dNil))) (dNil)))))))) (dNil)))))
  (dSkip))
  (dRet (dK (.int 5))))
def d__law_oddpaper (K : PySem.W.Frag) : DTS :=
  dSeq (dSet 1 (dLst (dCons (dK .none) (dCons (dK (.bool true)) (dCons (dK (.bool false)) (dCons (dK (.int 0)) (dCons (dK (.int 1)) (dCons (dUn bNeg (dK (.int 1))) (dCons (dK (.int 2)) (dCons (dBin bPow (dBin bPow (dK (.int 10)) (dK (.int 60))) (dK (.int 5))) (dCons (dK (.str "")) (dCons (dK (.str "ring")) (dCons (dK (.str "short")) (dCons (dK (.str "one")) (dCons (dK (.str "0")) (dCons (dLst (dNil)) (dCons (dTup (dNil)) (dNil))))))))))))))))))
  (dSeq (dSet 1 (dBin bAdd (dVar 1) (dLst (dCons (dLst (dCons (dLst (dNil)) (dNil))) (dCons (dTup (dCons (dTup (dNil)) (dNil))) (dCons (dLst (dCons (dTup (dNil)) (dNil))) (dCons (dTup (dCons (dLst (dNil)) (dNil))) (dNil))))))))
  (dSeq (dSet 2 (dCall 2 spTake (dCons (dVar 0) (dCons (dK (.int 4)) (dNil)))))
  (dSeq (dSet 3 (dCall 2 (sp__law_pick K) (dCons (dVar 0) (dCons (dVar 1) (dNil)))))
  (dSeq (dIf (dB (dBin bLt (dVar 2) (dK (.int 2))))
  (dRet (dVar 3))
  (dSkip))
  (dSeq (dIf (dB (dBin bEq (dVar 2) (dK (.int 2))))
  (dSeq (dSet 5 (dCall 2 (sp__law_pick K) (dCons (dVar 0) (dCons (dVar 1) (dNil)))))
  (dSeq (dSet 6 (dCall 2 (sp__law_pick K) (dCons (dVar 0) (dCons (dVar 1) (dNil)))))
  (dRet (dCall 2 (sp__law_pick K) (dCons (dVar 0) (dCons (dLst (dCons (dLst (dCons (dVar 3) (dCons (dVar 5) (dNil)))) (dCons (dTup (dCons (dVar 3) (dCons (dVar 5) (dNil)))) (dCons (dTup (dCons (dVar 3) (dCons (dVar 5) (dCons (dVar 6) (dNil))))) (dCons (dLst (dCons (dTup (dCons (dVar 3) (dCons (dVar 5) (dCons (dVar 6) (dCons (dK (.int 0)) (dNil)))))) (dNil))) (dNil)))))) (dNil)))))))
  (dSkip))
  (dSeq (dFor (sRng1 (dCall 2 spTake (dCons (dVar 0) (dCons (dK (.int 19)) (dNil))))) (.nm 4)
  (dIf (dB (dCall 2 (sp__law_seldom K) (dCons (dVar 0) (dCons (dK (.int 2)) (dNil)))))
  (dSet 3 (dLst (dCons (dVar 3) (dNil))))
  (dSet 3 (dTup (dCons (dVar 3) (dNil))))))
  (dRet (dVar 3))))))))
def d__law_badlist (K : PySem.W.Frag) : DTS :=
  dSeq (dSetO 6 (dLst (dCons (dUn bTuple (dVar 1)) (dCons (dK .none) (dCons (dK (.int 0)) (dCons (dK (.str "")) (dCons (dK (.str "1")) (dCons (dTup (dNil)) (dCons (dBin bAdd (dVar 1) (dLst (dCons (dK .none) (dNil)))) (dCons (dBin bAdd (dVar 1) (dLst (dCons (dK (.bool true)) (dNil)))) (dCons (dBin bAdd (dVar 1) (dLst (dCons (dK (.str "1")) (dNil)))) (dCons (dBin bAdd (dVar 1) (dLst (dCons (dLst (dCons (dK (.int 0)) (dNil))) (dNil)))) (dNil)))))))))))))
  (dSeq (dApp 6 (dBin bAdd (dVar 1) (dLst (dCons (dBin bAdd (dVar 5) (dK (.int 1))) (dNil)))))
  (dSeq (dSetO 6 (dBin bAdd (dVar 6) (dLst (dCons (dBin bAdd (dBin bAdd (dBin bMul (dBin bAdd (dVar 1) (dLst (dCons (dVar 4) (dNil)))) (dBin bAdd (dK (.int 1)) (dBin bDiv (dVar 3) (dBin bAdd (dUn bLen (dVar 1)) (dK (.int 1)))))) (dBin bMul (dLst (dCons (dVar 4) (dNil))) (dVar 3))) (dLst (dCons (dVar 4) (dNil)))) (dNil)))))
  (dCut (dIf (dB (dBin bGt (dVar 2) (dK (.int 0))))
  (dSetO 6 (dBin bAdd (dVar 6) (dLst (dCons (dLst (dNil)) (dCons (dLst (dNil)) (dCons (dSl (dVar 1) (dNoP) (dPart (dBin bSub (dVar 2) (dK (.int 1))))) (dNil)))))))
  (dSkip))
  (dCut (dIf (dB (dBin bGt (dUn bLen (dVar 1)) (dK (.int 0))))
  (dSeq (dSet 7 (dCall 2 spTake (dCons (dVar 0) (dCons (dUn bLen (dVar 1)) (dNil)))))
  (dFor (sLst (dLst (dCons (dK (.bool true)) (dCons (dK (.bool false)) (dCons (dK .none) (dCons (dK (.str "0")) (dCons (dLst (dCons (dVar 4) (dNil))) (dCons (dTup (dCons (dVar 4) (dNil))) (dCons (dBin bSub (dVar 4) (dK (.int 1))) (dCons (dBin bAdd (dVar 5) (dK (.int 1))) (dCons (dBin bAdd (dVar 5) (dBin bPow (dK (.int 10)) (dK (.int 40)))) (dNil)))))))))))) (.nm 8)
  (dApp 6 (dBin bAdd (dBin bAdd (dSl (dVar 1) (dNoP) (dPart (dVar 7))) (dLst (dCons (dVar 8) (dNil)))) (dSl (dVar 1) (dPart (dBin bAdd (dVar 7) (dK (.int 1)))) (dNoP))))))
  (dSkip))
  (dFrz 6 (dRet (dCall 2 (sp__law_pick K) (dCons (dVar 0) (dCons (dVar 6) (dNil))))))))))
def d__law_showdraw (K : PySem.W.Frag) : DTS :=
  dSeq (dSet 2 (dCall 2 (sp__law_divisor K) (dCons (dVar 0) (dCons (dVar 1) (dNil)))))
  (dSeq (dSet 3 (dBin bAdd (dK (.int 1)) (dCall 2 spTake (dCons (dVar 0) (dCons (dK (.int 4)) (dNil))))))
  (dSeq (dSet 4 (dCall 2 (sp__law_pick K) (dCons (dVar 0) (dCons (dLst (dCons (dK (.int 0)) (dCons (dK (.int 0)) (dCons (dK (.int 0)) (dCons (dUn bNeg (dK (.int 1))) (dCons (dK (.int 7)) (dCons (dBin bSub (dBin bPow (dK (.int 10)) (dK (.int 60))) (dK (.int 5))) (dCons (dBin bSub (dK (.int 0)) (dBin bPow (dK (.int 10)) (dK (.int 60)))) (dNil))))))))) (dNil)))))
  (dSeq (dSet 5 (dLc (sRng1 (dVar 2)) (.nm 8) [8] (dYes) (dBin bAdd (dVar 4) (dCall 2 spTake (dCons (dVar 0) (dCons (dVar 3) (dNil)))))))
  (dSeq (dSetO 6 (dLc (sRng1 (dVar 1)) (.nm 8) [8] (dYes) (dBin bIx (dVar 5) (dBin bMod (dVar 8) (dVar 2)))))
  (dCut (dIf (dB (dCall 2 (sp__law_seldom K) (dCons (dVar 0) (dCons (dK (.int 3)) (dNil)))))
  (dSeq (dSet 7 (dCall 2 spTake (dCons (dVar 0) (dCons (dVar 1) (dNil)))))
  (dStore 6 (dVar 7) (dBin bAdd (dBin bIx (dVar 6) (dVar 7)) (dK (.int 1)))))
  (dSkip))
  (dRetO 6))))))
def d__law_period (K : PySem.W.Frag) : DTS :=
  dSeq (dFor (sLst (dCall 1 (sp__law_divisors K) (dCons (dVar 0) (dNil)))) (.nm 2)
  (dIf (dB (dBin bEq (dVar 1) (dBin bMul (dSl (dVar 1) (dNoP) (dPart (dVar 2))) (dBin bDiv (dVar 0) (dVar 2)))))
  (dRet (dVar 2))
  (dSkip)))
  (dRet (dVar 0))
def d__law_primes (K : PySem.W.Frag) : DTS :=
  dSeq (dSetO 1 (dLst (dNil)))
  (dSeq (dFor (sRng2 (dK (.int 2)) (dBin bAdd (dVar 0) (dK (.int 1)))) (.nm 2)
  (dIf (dAnd (dB (dBin bEq (dBin bMod (dUn bInt (dVar 0)) (dVar 2)) (dK (.int 0)))) (dB (dBin bEq (dUn bLen (dLc (sV 1) (.nm 3) [3] (dB (dBin bEq (dBin bMod (dUn bInt (dVar 2)) (dVar 3)) (dK (.int 0)))) (dVar 3))) (dK (.int 0)))))
  (dApp 1 (dVar 2))
  (dSkip)))
  (dRetO 1))
def d__law_parts (K : PySem.W.Frag) : DTS :=
  dSeq (dIf (dOr (dNot (dB (dUn (bIsi .tuple) (dVar 4)))) (dB (dBin bNe (dUn bLen (dVar 4)) (dK (.int 3)))))
  (dRet (dK (.bool false)))
  (dSkip))
  (dSeq (dIf (dOr (dNot (dB (dCall 3 (sp__law_within K) (dCons (dBin bIx (dVar 4) (dK (.int 0))) (dCons (dVar 3) (dCons (dVar 3) (dNil))))))) (dNot (dB (dCall 3 (sp__law_within K) (dCons (dBin bIx (dVar 4) (dK (.int 2))) (dCons (dK (.int 1)) (dCons (dBin bSub (dVar 0) (dK (.int 1))) (dNil))))))))
  (dRet (dK (.bool false)))
  (dSkip))
  (dSeq (dIf (dNot (dB (dCall 3 (sp__law_within K) (dCons (dBin bIx (dVar 4) (dK (.int 1))) (dCons (dK (.int 0)) (dCons (dBin bSub (dBin bIx (dVar 4) (dK (.int 2))) (dK (.int 1))) (dNil)))))))
  (dRet (dK (.bool false)))
  (dSkip))
  (dRet (dAndV (dBin bEq (dBin bMod (dUn bInt (dBin bSub (dBin bIx (dVar 4) (dK (.int 2))) (dBin bIx (dVar 4) (dK (.int 1))))) (dBin bDiv (dVar 2) (dVar 3))) (dK (.int 0))) (dBin bNe (dBin bIx (dVar 1) (dBin bIx (dVar 4) (dK (.int 1)))) (dBin bIx (dVar 1) (dBin bIx (dVar 4) (dK (.int 2)))))))))
def d__law_proves (K : PySem.W.Frag) : DTS :=
  dSeq (dIf (dOr (dNot (dB (dCall 3 (sp__law_within K) (dCons (dVar 2) (dCons (dK (.int 1)) (dCons (dVar 0) (dNil))))))) (dOr (dB (dBin bNe (dBin bMod (dUn bInt (dVar 0)) (dVar 2)) (dK (.int 0)))) (dB (dBin bNe (dVar 1) (dBin bMul (dSl (dVar 1) (dNoP) (dPart (dVar 2))) (dBin bDiv (dVar 0) (dVar 2)))))))
  (dRet (dK (.bool false)))
  (dSkip))
  (dSeq (dSet 4 (dCall 1 (sp__law_primes K) (dCons (dVar 2) (dNil))))
  (dSeq (dIf (dOr (dNot (dB (dUn (bIsi .list) (dVar 3)))) (dB (dBin bNe (dUn bLen (dVar 3)) (dUn bLen (dVar 4)))))
  (dRet (dK (.bool false)))
  (dSkip))
  (dSeq (dFor (sRng1 (dUn bLen (dVar 4))) (.nm 5)
  (dIf (dNot (dB (dCall 5 (sp__law_parts K) (dCons (dVar 0) (dCons (dVar 1) (dCons (dVar 2) (dCons (dBin bIx (dVar 4) (dVar 5)) (dCons (dBin bIx (dVar 3) (dVar 5)) (dNil)))))))))
  (dRet (dK (.bool false)))
  (dSkip)))
  (dRet (dK (.bool true))))))
def d__law_pairsfor (K : PySem.W.Frag) : DTS :=
  dSeq (dSetO 4 (dLst (dNil)))
  (dSeq (dFor (sLst (dCall 1 (sp__law_primes K) (dCons (dVar 3) (dNil)))) (.nm 5)
  (dSeq (dSet 6 (dBin bDiv (dVar 3) (dVar 5)))
  (dSeq (dSet 7 (dTup (dCons (dVar 5) (dCons (dK (.int 0)) (dCons (dBin (bI2 fun i j => if j < i then j else i) (dVar 6) (dBin bSub (dVar 1) (dK (.int 1)))) (dNil))))))
  (dSeq (dFor (sRng1 (dVar 1)) (.nm 8)
  (dIf (dB (dBin bNe (dBin bIx (dVar 2) (dBin bSub (dBin bSub (dVar 1) (dK (.int 1))) (dVar 8))) (dBin bIx (dVar 2) (dBin bMod (dUn bInt (dBin bSub (dBin bSub (dVar 1) (dK (.int 1))) (dVar 8))) (dVar 6)))))
  (dSet 7 (dTup (dCons (dVar 5) (dCons (dBin bMod (dUn bInt (dBin bSub (dBin bSub (dVar 1) (dK (.int 1))) (dVar 8))) (dVar 6)) (dCons (dBin bSub (dBin bSub (dVar 1) (dK (.int 1))) (dVar 8)) (dNil))))))
  (dSkip)))
  (dSeq (dFor (sRng1 (dK (.int 3))) (.nm 9)
  (dSeq (dSet 8 (dCall 2 spTake (dCons (dVar 0) (dCons (dVar 1) (dNil)))))
  (dSeq (dSet 10 (dBin bAdd (dBin bMod (dUn bInt (dVar 8)) (dVar 6)) (dBin bMul (dVar 6) (dCall 2 spTake (dCons (dVar 0) (dCons (dBin bAdd (dBin bDiv (dVar 8) (dVar 6)) (dK (.int 1))) (dNil)))))))
  (dIf (dAnd (dB (dBin bLt (dVar 10) (dVar 8))) (dB (dBin bNe (dBin bIx (dVar 2) (dVar 10)) (dBin bIx (dVar 2) (dVar 8)))))
  (dSet 7 (dTup (dCons (dVar 5) (dCons (dVar 10) (dCons (dVar 8) (dNil))))))
  (dSkip)))))
  (dApp 4 (dVar 7)))))))
  (dRetO 4))
def d__law_showing (K : PySem.W.Frag) : DTS :=
  dSeq (dSet 2 (dCall 2 spTake (dCons (dVar 0) (dCons (dK (.int 7)) (dNil)))))
  (dSeq (dIf (dB (dBin bEq (dVar 2) (dK (.int 0))))
  (dRet (dCall 2 (sp__law_order K) (dCons (dVar 0) (dCons (dVar 1) (dNil)))))
  (dSkip))
  (dSeq (dIf (dB (dBin bEq (dVar 2) (dK (.int 1))))
  (dSeq (dSet 3 (dCall 2 (sp__law_divisor K) (dCons (dVar 0) (dCons (dVar 1) (dNil)))))
  (dSeq (dSet 4 (dCall 2 (sp__law_divisor K) (dCons (dVar 0) (dCons (dBin bDiv (dVar 1) (dVar 3)) (dNil)))))
  (dRet (dLc (sRng1 (dVar 1)) (.nm 7) [7] (dYes) (dBin bMod (dBin bDiv (dVar 7) (dVar 3)) (dVar 4))))))
  (dSkip))
  (dSeq (dIf (dB (dBin bEq (dVar 2) (dK (.int 2))))
  (dSeq (dSetO 5 (dBin bMul (dLst (dCons (dCall 2 (sp__law_pick K) (dCons (dVar 0) (dCons (dLst (dCons (dK (.int 0)) (dCons (dK (.int 5)) (dCons (dBin bPow (dK (.int 10)) (dK (.int 60))) (dNil))))) (dNil)))) (dNil))) (dVar 1)))
  (dSeq (dSet 6 (dCall 2 spTake (dCons (dVar 0) (dCons (dVar 1) (dNil)))))
  (dSeq (dStore 5 (dVar 6) (dBin bSub (dBin bIx (dVar 5) (dVar 6)) (dK (.int 1))))
  (dRetO 5))))
  (dSkip))
  (dRet (dCall 2 (sp__law_showdraw K) (dCons (dVar 0) (dCons (dVar 1) (dNil))))))))
def d__law_twist (K : PySem.W.Frag) : DTS :=
  dSeq (dSet 4 (dCall 2 spTake (dCons (dVar 0) (dCons (dK (.int 8)) (dNil)))))
  (dSeq (dSet 5 (dCall 2 (sp__law_pick K) (dCons (dVar 0) (dCons (dLst (dCons (dK (.int 2)) (dCons (dK (.int 3)) (dCons (dK (.int 5)) (dCons (dK (.int 7)) (dNil)))))) (dNil)))))
  (dSeq (dIf (dB (dBin bEq (dVar 4) (dK (.int 0))))
  (dSeq (dSet 8 (dLst (dCons (dBin bMul (dVar 2) (dVar 5)) (dCons (dBin (bI2 fun i j => if j > i then j else i) (dK (.int 1)) (dBin bDiv (dVar 2) (dVar 5))) (dCons (dBin bSub (dK (.int 0)) (dVar 2)) (dCons (dK (.int 0)) (dCons (dVar 1) (dCons (dBin bMul (dK (.int 2)) (dVar 1)) (dCons (dBin bAdd (dVar 2) (dK (.int 1))) (dCons (dK (.int 1)) (dCons (dK (.bool true)) (dCons (dK .none) (dCons (dK (.str "1")) (dCons (dLst (dCons (dVar 2) (dNil))) (dNil)))))))))))))))
  (dRet (dTup (dCons (dCall 2 (sp__law_pick K) (dCons (dVar 0) (dCons (dVar 8) (dNil)))) (dCons (dVar 3) (dNil))))))
  (dSkip))
  (dSeq (dIf (dB (dBin bEq (dVar 4) (dK (.int 1))))
  (dSeq (dSet 9 (dCall 1 (sp__law_oddpaper K) (dCons (dVar 0) (dNil))))
  (dRet (dTup (dCons (dVar 2) (dCons (dCall 2 (sp__law_pick K) (dCons (dVar 0) (dCons (dLst (dCons (dUn bTuple (dVar 3)) (dCons (dLst (dNil)) (dCons (dK .none) (dCons (dVar 9) (dCons (dBin bAdd (dVar 3) (dLst (dCons (dTup (dNil)) (dNil)))) (dCons (dBin bAdd (dVar 3) (dLst (dCons (dK .none) (dNil)))) (dCons (dLst (dCons (dVar 3) (dNil))) (dNil))))))))) (dNil)))) (dNil))))))
  (dSkip))
  (dSeq (dIf (dB (dBin bEq (dUn bLen (dVar 3)) (dK (.int 0))))
  (dRet (dTup (dCons (dVar 2) (dCons (dLst (dCons (dTup (dCons (dVar 5) (dCons (dK (.int 0)) (dCons (dCall 2 spTake (dCons (dVar 0) (dCons (dVar 1) (dNil)))) (dNil))))) (dNil))) (dNil)))))
  (dSkip))
  (dSeq (dSet 6 (dCall 2 spTake (dCons (dVar 0) (dCons (dUn bLen (dVar 3)) (dNil)))))
  (dSeq (dIf (dB (dBin bEq (dVar 4) (dK (.int 2))))
  (dSeq (dSet 8 (dLst (dCons (dBin bAdd (dSl (dVar 3) (dNoP) (dPart (dVar 6))) (dSl (dVar 3) (dPart (dBin bAdd (dVar 6) (dK (.int 1)))) (dNoP))) (dCons (dBin bAdd (dVar 3) (dLst (dCons (dBin bIx (dVar 3) (dVar 6)) (dNil)))) (dCons (dUn bRev (dVar 3)) (dCons (dBin bAdd (dSl (dVar 3) (dPart (dVar 6)) (dNoP)) (dSl (dVar 3) (dNoP) (dPart (dVar 6)))) (dNil)))))))
  (dRet (dTup (dCons (dVar 2) (dCons (dCall 2 (sp__law_pick K) (dCons (dVar 0) (dCons (dBin bAdd (dVar 8) (dLst (dCons (dBin bAdd (dVar 3) (dLst (dCons (dTup (dCons (dVar 5) (dCons (dK (.int 0)) (dCons (dK (.int 1)) (dNil))))) (dNil)))) (dNil)))) (dNil)))) (dNil))))))
  (dSkip))
  (dSeq (dSetT [10, 11, 12] (dBin bIx (dVar 3) (dVar 6)))
  (dSeq (dSet 7 (dBin bDiv (dVar 2) (dVar 10)))
  (dCut (dIf (dB (dBin bEq (dVar 4) (dK (.int 3))))
  (dSet 13 (dCall 2 (sp__law_pick K) (dCons (dVar 0) (dCons (dLst (dCons (dTup (dCons (dVar 10) (dCons (dVar 12) (dCons (dVar 11) (dNil))))) (dCons (dTup (dCons (dVar 10) (dCons (dVar 12) (dCons (dVar 12) (dNil))))) (dCons (dTup (dCons (dVar 10) (dCons (dVar 11) (dCons (dBin bAdd (dVar 12) (dVar 7)) (dNil))))) (dCons (dTup (dCons (dVar 10) (dCons (dBin bSub (dVar 11) (dVar 7)) (dCons (dVar 12) (dNil))))) (dCons (dTup (dCons (dVar 10) (dCons (dVar 11) (dCons (dBin bAdd (dVar 11) (dVar 7)) (dNil))))) (dNil))))))) (dNil)))))
  (dIf (dB (dBin bEq (dVar 4) (dK (.int 4))))
  (dSeq (dSet 14 (dCall 2 spTake (dCons (dVar 0) (dCons (dVar 1) (dNil)))))
  (dSet 13 (dCall 2 (sp__law_pick K) (dCons (dVar 0) (dCons (dLst (dCons (dTup (dCons (dVar 10) (dCons (dVar 11) (dCons (dVar 14) (dNil))))) (dCons (dTup (dCons (dVar 10) (dCons (dVar 14) (dCons (dVar 12) (dNil))))) (dCons (dTup (dCons (dVar 10) (dCons (dVar 11) (dCons (dBin bAdd (dVar 12) (dVar 1)) (dNil))))) (dCons (dTup (dCons (dVar 10) (dCons (dBin bSub (dVar 11) (dVar 1)) (dCons (dVar 12) (dNil))))) (dNil)))))) (dNil))))))
  (dIf (dB (dBin bEq (dVar 4) (dK (.int 5))))
  (dSet 13 (dCall 2 (sp__law_pick K) (dCons (dVar 0) (dCons (dLst (dCons (dTup (dCons (dVar 5) (dCons (dVar 11) (dCons (dVar 12) (dNil))))) (dCons (dTup (dCons (dBin bSub (dK (.int 0)) (dVar 10)) (dCons (dVar 11) (dCons (dVar 12) (dNil))))) (dCons (dTup (dCons (dBin bMul (dVar 10) (dVar 5)) (dCons (dVar 11) (dCons (dVar 12) (dNil))))) (dCons (dTup (dCons (dVar 10) (dCons (dVar 11) (dNil)))) (dCons (dTup (dCons (dVar 10) (dCons (dVar 11) (dCons (dVar 12) (dCons (dVar 12) (dNil)))))) (dCons (dLst (dCons (dVar 10) (dCons (dVar 11) (dCons (dVar 12) (dNil))))) (dNil)))))))) (dNil)))))
  (dIf (dB (dBin bEq (dVar 4) (dK (.int 6))))
  (dSeq (dSet 11 (dCall 2 spTake (dCons (dVar 0) (dCons (dVar 1) (dNil)))))
  (dSet 13 (dTup (dCons (dVar 10) (dCons (dVar 11) (dCons (dBin (bI2 fun i j => if j < i then j else i) (dBin bSub (dVar 1) (dK (.int 1))) (dBin bAdd (dVar 11) (dBin bMul (dVar 7) (dCall 2 spTake (dCons (dVar 0) (dCons (dBin bAdd (dK (.int 1)) (dBin bDiv (dVar 1) (dVar 7))) (dNil))))))) (dNil)))))))
  (dSet 13 (dCall 3 (sp__law_kindbent 30) (dCons (dVar 0) (dCons (dBin bIx (dVar 3) (dVar 6)) (dCons (dK (.int 1)) (dNil))))))))))
  (dRet (dTup (dCons (dVar 2) (dCons (dBin bAdd (dBin bAdd (dSl (dVar 3) (dNoP) (dPart (dVar 6))) (dLst (dCons (dVar 13) (dNil)))) (dSl (dVar 3) (dPart (dBin bAdd (dVar 6) (dK (.int 1)))) (dNoP))) (dNil))))))))))))))
def d__law_judged (K : PySem.W.Frag) : DTS :=
  dSeq (dSet 5 (dUn bList (dVar 1)))
  (dSeq (dSet 6 (dCall 2 (sp__law_copy 30) (dCons (dVar 3) (dCons (dK (.int 20)) (dNil)))))
  (dSeq (dSet 7 (dCall 4 (sp_shows_period K) (dCons (dVar 0) (dCons (dVar 5) (dCons (dCall 2 (sp__law_copy 30) (dCons (dVar 2) (dCons (dK (.int 20)) (dNil)))) (dCons (dVar 6) (dNil)))))))
  (dRet (dAndV (dCall 2 (sp__law_same 30) (dCons (dVar 7) (dCons (dVar 4) (dNil)))) (dAndV (dCall 2 (sp__law_same 30) (dCons (dVar 5) (dCons (dVar 1) (dNil)))) (dCall 2 (sp__law_same 30) (dCons (dVar 6) (dCons (dVar 3) (dNil)))))))))
def d__law_refusal (K : PySem.W.Frag) : DTS :=
  dSeq (dTry K (dDrop (dCall 4 (sp_shows_period K) (dCons (dVar 0) (dCons (dVar 1) (dCons (dVar 2) (dCons (dVar 3) (dNil)))))))
  [(.ref (He.ga K "BadModulus"), some 4, fun a C => dRet (dBin bIx (dLst (dCons (dK (.str "modulus")) (dCons (dK (.str "mixed")) (dNil)))) (dUn bInt (dIsE K 4 a C [He.ga K "BadPoly", He.ga K "BadNumber", He.ga K "BadRow", He.ga K "TooLong"])))),
  (.ref (He.ga K "BadRow"), some 4, fun a C => dRet (dBin bIx (dLst (dCons (dK (.str "row")) (dCons (dK (.str "mixed")) (dNil)))) (dUn bInt (dIsE K 4 a C [He.ga K "BadPoly", He.ga K "BadNumber", He.ga K "TooLong"])))),
  (.ref (He.ga K "TooLong"), some 4, fun a C => dRet (dBin bIx (dLst (dCons (dK (.str "long")) (dCons (dK (.str "mixed")) (dNil)))) (dUn bInt (dOrV (dIsE K 4 a C [He.ga K "BadPoly", He.ga K "BadNumber"]) (dNotV (dIsE K 4 a C [He.ga K "RingError"])))))),
  (.ref (He.ga K "RingError"), none, fun a C => dRet (dK (.str "other")))])
  (dRet (dK (.str "none")))
def d__law_refusals (K : PySem.W.Frag) : DTS :=
  dSeq (dSet 5 (dCall 6 (sp__law_badlist K) (dCons (dVar 0) (dCons (dVar 2) (dCons (dVar 1) (dCons (dVar 1) (dCons (dBin bSub (dK (.int 0)) (dBin bPow (dK (.int 10)) (dK (.int 60)))) (dCons (dBin bPow (dK (.int 10)) (dK (.int 60))) (dNil)))))))))
  (dSeq (dSet 6 (dCall 2 (sp__law_pick K) (dCons (dVar 0) (dCons (dLst (dCons (dK (.int 403)) (dCons (dK (.int 405)) (dCons (dK (.int 406)) (dCons (dK (.int 408)) (dCons (dK (.int 416)) (dCons (dK (.int 420)) (dCons (dK (.int 441)) (dCons (dK (.int 500)) (dCons (dK (.int 512)) (dCons (dK (.int 600)) (dCons (dK (.int 720)) (dCons (dK (.int 1000)) (dNil)))))))))))))) (dNil)))))
  (dSeq (dSet 7 (dCall 2 (sp__law_pick K) (dCons (dVar 0) (dCons (dLst (dCons (dK (.int 1)) (dCons (dK (.int 0)) (dCons (dBin bSub (dK (.int 0)) (dVar 1)) (dCons (dK (.int 41)) (dCons (dBin bMul (dK (.int 41)) (dVar 1)) (dCons (dK (.bool true)) (dCons (dK .none) (dCons (dK (.str "6")) (dCons (dBin bAdd (dBin bPow (dK (.int 10)) (dK (.int 10))) (dK (.int 1))) (dCons (dK (.int 529)) (dCons (dLst (dCons (dVar 1) (dNil))) (dNil))))))))))))) (dNil)))))
  (dSeq (dFor (sLst (dLst (dCons (dTup (dCons (dVar 1) (dCons (dVar 5) (dCons (dK (.str "row")) (dNil))))) (dCons (dTup (dCons (dVar 7) (dCons (dVar 2) (dCons (dK (.str "modulus")) (dNil))))) (dCons (dTup (dCons (dVar 7) (dCons (dVar 5) (dCons (dK (.str "modulus")) (dNil))))) (dCons (dTup (dCons (dVar 6) (dCons (dBin bMul (dLst (dCons (dK (.int 0)) (dNil))) (dVar 6)) (dCons (dK (.str "long")) (dNil))))) (dCons (dTup (dCons (dVar 6) (dCons (dBin bMul (dLst (dCons (dK (.int 0)) (dNil))) (dBin bSub (dVar 6) (dK (.int 1)))) (dCons (dK (.str "row")) (dNil))))) (dCons (dTup (dCons (dVar 6) (dCons (dVar 2) (dCons (dK (.str "row")) (dNil))))) (dNil))))))))) (.tp [8, 9, 10])
  (dIf (dB (dBin bNe (dCall 4 (sp__law_refusal K) (dCons (dVar 8) (dCons (dVar 9) (dCons (dVar 3) (dCons (dVar 4) (dNil)))))) (dVar 10)))
  (dRet (dK (.bool false)))
  (dSkip)))
  (dRet (dK (.bool true))))))
def d_law (K : PySem.W.Frag) : DTS :=
  dSeq (dSet 2 (dCall 2 (sp__law_modulus K) (dCons (dVar 1) (dCons (dCall 2 (sp__law_pick K) (dCons (dVar 1) (dCons (dLst (dCons (dK (.int 60)) (dCons (dK (.int 60)) (dCons (dK (.int 60)) (dCons (dK (.int 60)) (dCons (dK (.int 60)) (dCons (dK (.int 60)) (dCons (dK (.int 60)) (dCons (dK (.int 60)) (dCons (dK (.int 60)) (dCons (dK (.int 400)) (dNil)))))))))))) (dNil)))) (dNil)))))
  (dCut (dIf (dB (dCall 2 (sp__law_seldom K) (dCons (dVar 1) (dCons (dK (.int 20)) (dNil)))))
  (dSet 2 (dK (.int 400)))
  (dSkip))
  (dSeq (dSet 3 (dCall 2 (sp__law_showing K) (dCons (dVar 1) (dCons (dVar 2) (dNil)))))
  (dSeq (dSet 4 (dCall 2 (sp__law_period K) (dCons (dVar 2) (dCons (dVar 3) (dNil)))))
  (dSeq (dSet 5 (dCall 4 (sp__law_pairsfor K) (dCons (dVar 1) (dCons (dVar 2) (dCons (dVar 3) (dCons (dVar 4) (dNil)))))))
  (dSeq (dIf (dNot (dB (dCall 5 (sp__law_judged K) (dCons (dVar 2) (dCons (dVar 3) (dCons (dVar 4) (dCons (dVar 5) (dCons (dK (.bool true)) (dNil)))))))))
  (dRet (dK (.bool false)))
  (dSkip))
  (dSeq (dSetO 6 (dLst (dCons (dTup (dCons (dVar 3) (dCons (dVar 4) (dCons (dVar 5) (dNil))))) (dNil))))
  (dSeq (dSet 7 (dCall 2 (sp__law_divisor K) (dCons (dVar 1) (dCons (dVar 2) (dNil)))))
  (dSeq (dApp 6 (dTup (dCons (dVar 3) (dCons (dVar 7) (dCons (dCall 4 (sp__law_pairsfor K) (dCons (dVar 1) (dCons (dVar 2) (dCons (dVar 3) (dCons (dVar 7) (dNil)))))) (dNil))))))
  (dSeq (dSet 8 (dBin bAdd (dK (.int 1)) (dCall 2 spTake (dCons (dVar 1) (dCons (dVar 2) (dNil))))))
  (dSeq (dSet 9 (dLc (sRng1 (dVar 8)) (.nm 16) [16] (dYes) (dCall 2 spTake (dCons (dVar 1) (dCons (dK (.int 3)) (dNil))))))
  (dSeq (dSet 10 (dLc (sRng1 (dVar 2)) (.nm 16) [16] (dYes) (dBin bIx (dVar 9) (dBin bMod (dVar 16) (dVar 8)))))
  (dSeq (dApp 6 (dTup (dCons (dVar 10) (dCons (dVar 8) (dCons (dCall 4 (sp__law_pairsfor K) (dCons (dVar 1) (dCons (dVar 2) (dCons (dVar 10) (dCons (dVar 8) (dNil)))))) (dNil))))))
  (dSeq (dFor (sRng1 (dK (.int 10))) (.nm 11)
  (dSeq (dSetT [13, 14, 15] (dBin bIx (dVar 6) (dBin bIx (dLst (dCons (dK (.int 0)) (dCons (dK (.int 0)) (dCons (dK (.int 0)) (dCons (dK (.int 0)) (dCons (dK (.int 0)) (dCons (dK (.int 0)) (dCons (dK (.int 1)) (dCons (dK (.int 1)) (dCons (dK (.int 2)) (dCons (dK (.int 2)) (dNil)))))))))))) (dVar 11))))
  (dSeq (dSet 12 (dCall 4 (sp__law_twist K) (dCons (dVar 1) (dCons (dVar 2) (dCons (dVar 14) (dCons (dVar 15) (dNil)))))))
  (dApp 6 (dTup (dCons (dVar 13) (dCons (dBin bIx (dVar 12) (dK (.int 0))) (dCons (dBin bIx (dVar 12) (dK (.int 1))) (dNil)))))))))
  (dSeq (dFrz 6 (dFor (sLst (dVar 6)) (.tp [13, 14, 15])
  (dIf (dNot (dB (dCall 5 (sp__law_judged K) (dCons (dVar 2) (dCons (dVar 13) (dCons (dVar 14) (dCons (dVar 15) (dCons (dCall 4 (sp__law_proves K) (dCons (dVar 2) (dCons (dVar 13) (dCons (dVar 14) (dCons (dVar 15) (dNil)))))) (dNil)))))))))
  (dRet (dK (.bool false)))
  (dSkip))))
  (dSeq (dSet 12 (dCall 2 (sp__law_pick K) (dCons (dVar 1) (dCons (dLst (dCons (dVar 5) (dCons (dK .none) (dCons (dUn bTuple (dVar 5)) (dCons (dLst (dNil)) (dNil)))))) (dNil)))))
  (dRet (dCall 5 (sp__law_refusals K) (dCons (dVar 1) (dCons (dVar 2) (dCons (dVar 3) (dCons (dCall 2 (sp__law_pick K) (dCons (dVar 1) (dCons (dLst (dCons (dVar 4) (dCons (dK .none) (dCons (dK (.int 0)) (dNil))))) (dNil)))) (dCons (dVar 12) (dNil)))))))))))))))))))))))
end RB

set_option Elab.async false
set_option linter.all false
set_option maxRecDepth 100000
set_option maxHeartbeats 8000000
/-! the walks, printed by gen.py -/
namespace RB
open PySem PySem.Spec PyProof.Rows L2
abbrev top (i : Nat) : Stmt := PySem.Challenge.pw_ringofall_k23_shows_period.main.body.getD i (.Pass ⟨0, 0, 0, 0⟩)
def fa : List Fb := [.f (.free "int"),
  .f (.free "isinstance"),
  .f (.free "bool"),
  .f (.glo "BadModulus"),
  .f (.exc "BadModulus"),
  .dat "PRIMES" (.tuple [(.tuple [(.int 2), (.int 38)]), (.tuple [(.int 3), (.int 18)]), (.tuple [(.int 5), (.int 9)]), (.tuple [(.int 7), (.int 5)]), (.tuple [(.int 11), (.int 3)]), (.tuple [(.int 13), (.int 3)]), (.tuple [(.int 17), (.int 2)]), (.tuple [(.int 19), (.int 2)]), (.tuple [(.int 23), (.int 1)]), (.tuple [(.int 29), (.int 1)]), (.tuple [(.int 31), (.int 1)]), (.tuple [(.int 37), (.int 1)])]),
  .dat "GREATEST" (.int 10000000000),
  .dat "LARGE" (.int 1000000000000000000000000000000000000000000000000000000000000),
  .dat "LONGEST" (.int 400),
  .f (.glo "TooLong"),
  .f (.exc "TooLong"),
  .f (.free "list"),
  .f (.free "len"),
  .f (.glo "BadRow"),
  .f (.exc "BadRow"),
  .f (.free "range"),
  .f (.free "tuple"),
  .f (.free "zip"),
  .f (.free "max"),
  .f (.free "sorted"),
  .f (.free "dict"),
  .f (.free "str"),
  .f (.free "min"),
  .cx "BadModulus",
  .f (.exm "BadModulus" "BadModulus" true),
  .f (.glo "BadPoly"),
  .kit "BadModulus" "BadPoly" false,
  .f (.glo "BadNumber"),
  .kit "BadModulus" "BadNumber" false,
  .kit "BadModulus" "BadRow" false,
  .kit "BadModulus" "TooLong" false,
  .cx "TooLong",
  .f (.exm "TooLong" "BadModulus" false),
  .kit "TooLong" "BadPoly" false,
  .kit "TooLong" "BadNumber" false,
  .kit "TooLong" "BadRow" false,
  .kit "TooLong" "TooLong" true,
  .f (.exm "TooLong" "BadRow" false),
  .f (.exm "TooLong" "TooLong" true),
  .f (.glo "RingError"),
  .kit "TooLong" "RingError" true,
  .cx "BadRow",
  .f (.exm "BadRow" "BadModulus" false),
  .kit "BadRow" "BadPoly" false,
  .kit "BadRow" "BadNumber" false,
  .kit "BadRow" "BadRow" true,
  .kit "BadRow" "TooLong" false,
  .f (.exm "BadRow" "BadRow" true),
  .f (.glo "within"),
  .f (.glo "factors"),
  .f (.glo "check_modulus"),
  .f (.glo "whole"),
  .f (.glo "all_entries_fit"),
  .f (.glo "check_length"),
  .f (.glo "check_showing"),
  .f (.glo "first_break"),
  .f (.glo "primes_of"),
  .f (.glo "shows_pair"),
  .f (.glo "shows_period"),
  .f (.glo "_law_mixed"),
  .f (.glo "_law_take"),
  .f (.glo "_law_takewide"),
  .f (.glo "_law_seldom"),
  .f (.glo "_law_pick"),
  .f (.glo "_law_whole"),
  .f (.glo "_law_order"),
  .f (.glo "_law_power"),
  .f (.glo "_law_factors"),
  .f (.glo "_law_divisors"),
  .f (.glo "_law_modulus"),
  .f (.glo "_law_divisor"),
  .f (.glo "_law_same"),
  .f (.glo "_law_copy"),
  .f (.glo "_law_within"),
  .f (.glo "_law_kindbent"),
  .f (.glo "_law_oddpaper"),
  .f (.glo "_law_badlist"),
  .f (.glo "_law_showdraw"),
  .f (.glo "_law_period"),
  .f (.glo "_law_primes"),
  .f (.glo "_law_parts"),
  .f (.glo "_law_proves"),
  .f (.glo "_law_pairsfor"),
  .f (.glo "_law_showing"),
  .f (.glo "_law_twist"),
  .f (.glo "_law_judged"),
  .f (.glo "_law_refusal"),
  .f (.glo "_law_refusals"),
  .f (.glo "law"),
  .f (.glo "_law_open")]
def fn : List He.DefD := [dfd "within" (top 8), dfd "factors" (top 12), dfd "check_modulus" (top 13), dfd "whole" (top 17), dfd "all_entries_fit" (top 18), dfd "check_length" (top 19), dfd "check_showing" (top 20), dfd "first_break" (top 21), dfd "primes_of" (top 22), dfd "shows_pair" (top 23), dfd "shows_period" (top 24), dfd "_law_mixed" (top 26), dfd "_law_take" (top 28), dfd "_law_takewide" (top 29), dfd "_law_seldom" (top 30), dfd "_law_pick" (top 31), dfd "_law_whole" (top 32), dfd "_law_order" (top 33), dfd "_law_power" (top 34), dfd "_law_factors" (top 35), dfd "_law_divisors" (top 36), dfd "_law_modulus" (top 37), dfd "_law_divisor" (top 38), dfd "_law_same" (top 39), dfd "_law_copy" (top 40), dfd "_law_within" (top 41), dfd "_law_kindbent" (top 42), dfd "_law_oddpaper" (top 43), dfd "_law_badlist" (top 44), dfd "_law_showdraw" (top 45), dfd "_law_period" (top 46), dfd "_law_primes" (top 47), dfd "_law_parts" (top 48), dfd "_law_proves" (top 49), dfd "_law_pairsfor" (top 50), dfd "_law_showing" (top 51), dfd "_law_twist" (top 52), dfd "_law_judged" (top 53), dfd "_law_refusal" (top 54), dfd "_law_refusals" (top 55), dfd "law" (top 56), dfd "_law_open" (top 27)]
section
variable {P : Program} {w : World} {K : PySem.W.Frag} {mg : Str → Option Value} {base : Heap}
theorem g_0 (X : K.In base) (G : base.Ns mainGlobals mg) (c : SaysR fa fn K) : mg "int" = none := He.free_ok X G (show (He.Fa.free "int").ok K = true from c.at 0 (f := .f (.free "int")))
theorem g_1 (X : K.In base) (G : base.Ns mainGlobals mg) (c : SaysR fa fn K) : mg "isinstance" = none := He.free_ok X G (show (He.Fa.free "isinstance").ok K = true from c.at 1 (f := .f (.free "isinstance")))
theorem g_2 (X : K.In base) (G : base.Ns mainGlobals mg) (c : SaysR fa fn K) : mg "bool" = none := He.free_ok X G (show (He.Fa.free "bool").ok K = true from c.at 2 (f := .f (.free "bool")))
theorem f_3 (c : SaysR fa fn K) : (He.Fa.glo "BadModulus").ok K = true := c.at 3 (f := .f (.glo "BadModulus"))
theorem g_3 (X : K.In base) (G : base.Ns mainGlobals mg) (c : SaysR fa fn K) : mg "BadModulus" = some (.ref (He.ga K "BadModulus")) := He.glo_ok X G (f_3 c)
theorem f_4 (c : SaysR fa fn K) : (He.Fa.exc "BadModulus").ok K = true := c.at 4 (f := .f (.exc "BadModulus"))
theorem g_5 (X : K.In base) (G : base.Ns mainGlobals mg) (c : SaysR fa fn K) : GlD K mg "PRIMES" (.tuple [(.tuple [(.int 2), (.int 38)]), (.tuple [(.int 3), (.int 18)]), (.tuple [(.int 5), (.int 9)]), (.tuple [(.int 7), (.int 5)]), (.tuple [(.int 11), (.int 3)]), (.tuple [(.int 13), (.int 3)]), (.tuple [(.int 17), (.int 2)]), (.tuple [(.int 19), (.int 2)]), (.tuple [(.int 23), (.int 1)]), (.tuple [(.int 29), (.int 1)]), (.tuple [(.int 31), (.int 1)]), (.tuple [(.int 37), (.int 1)])]) := dat_ok X G (c.at 5 (f := .dat "PRIMES" (.tuple [(.tuple [(.int 2), (.int 38)]), (.tuple [(.int 3), (.int 18)]), (.tuple [(.int 5), (.int 9)]), (.tuple [(.int 7), (.int 5)]), (.tuple [(.int 11), (.int 3)]), (.tuple [(.int 13), (.int 3)]), (.tuple [(.int 17), (.int 2)]), (.tuple [(.int 19), (.int 2)]), (.tuple [(.int 23), (.int 1)]), (.tuple [(.int 29), (.int 1)]), (.tuple [(.int 31), (.int 1)]), (.tuple [(.int 37), (.int 1)])])))
theorem g_6 (X : K.In base) (G : base.Ns mainGlobals mg) (c : SaysR fa fn K) : GlD K mg "GREATEST" (.int 10000000000) := dat_ok X G (c.at 6 (f := .dat "GREATEST" (.int 10000000000)))
theorem g_7 (X : K.In base) (G : base.Ns mainGlobals mg) (c : SaysR fa fn K) : GlD K mg "LARGE" (.int 1000000000000000000000000000000000000000000000000000000000000) := dat_ok X G (c.at 7 (f := .dat "LARGE" (.int 1000000000000000000000000000000000000000000000000000000000000)))
theorem g_8 (X : K.In base) (G : base.Ns mainGlobals mg) (c : SaysR fa fn K) : GlD K mg "LONGEST" (.int 400) := dat_ok X G (c.at 8 (f := .dat "LONGEST" (.int 400)))
theorem f_9 (c : SaysR fa fn K) : (He.Fa.glo "TooLong").ok K = true := c.at 9 (f := .f (.glo "TooLong"))
theorem g_9 (X : K.In base) (G : base.Ns mainGlobals mg) (c : SaysR fa fn K) : mg "TooLong" = some (.ref (He.ga K "TooLong")) := He.glo_ok X G (f_9 c)
theorem f_10 (c : SaysR fa fn K) : (He.Fa.exc "TooLong").ok K = true := c.at 10 (f := .f (.exc "TooLong"))
theorem g_11 (X : K.In base) (G : base.Ns mainGlobals mg) (c : SaysR fa fn K) : mg "list" = none := He.free_ok X G (show (He.Fa.free "list").ok K = true from c.at 11 (f := .f (.free "list")))
theorem g_12 (X : K.In base) (G : base.Ns mainGlobals mg) (c : SaysR fa fn K) : mg "len" = none := He.free_ok X G (show (He.Fa.free "len").ok K = true from c.at 12 (f := .f (.free "len")))
theorem f_13 (c : SaysR fa fn K) : (He.Fa.glo "BadRow").ok K = true := c.at 13 (f := .f (.glo "BadRow"))
theorem g_13 (X : K.In base) (G : base.Ns mainGlobals mg) (c : SaysR fa fn K) : mg "BadRow" = some (.ref (He.ga K "BadRow")) := He.glo_ok X G (f_13 c)
theorem f_14 (c : SaysR fa fn K) : (He.Fa.exc "BadRow").ok K = true := c.at 14 (f := .f (.exc "BadRow"))
theorem g_15 (X : K.In base) (G : base.Ns mainGlobals mg) (c : SaysR fa fn K) : mg "range" = none := He.free_ok X G (show (He.Fa.free "range").ok K = true from c.at 15 (f := .f (.free "range")))
theorem g_16 (X : K.In base) (G : base.Ns mainGlobals mg) (c : SaysR fa fn K) : mg "tuple" = none := He.free_ok X G (show (He.Fa.free "tuple").ok K = true from c.at 16 (f := .f (.free "tuple")))
theorem g_17 (X : K.In base) (G : base.Ns mainGlobals mg) (c : SaysR fa fn K) : mg "zip" = none := He.free_ok X G (show (He.Fa.free "zip").ok K = true from c.at 17 (f := .f (.free "zip")))
theorem g_18 (X : K.In base) (G : base.Ns mainGlobals mg) (c : SaysR fa fn K) : mg "max" = none := He.free_ok X G (show (He.Fa.free "max").ok K = true from c.at 18 (f := .f (.free "max")))
theorem g_19 (X : K.In base) (G : base.Ns mainGlobals mg) (c : SaysR fa fn K) : mg "sorted" = none := He.free_ok X G (show (He.Fa.free "sorted").ok K = true from c.at 19 (f := .f (.free "sorted")))
theorem g_20 (X : K.In base) (G : base.Ns mainGlobals mg) (c : SaysR fa fn K) : mg "dict" = none := He.free_ok X G (show (He.Fa.free "dict").ok K = true from c.at 20 (f := .f (.free "dict")))
theorem g_21 (X : K.In base) (G : base.Ns mainGlobals mg) (c : SaysR fa fn K) : mg "str" = none := He.free_ok X G (show (He.Fa.free "str").ok K = true from c.at 21 (f := .f (.free "str")))
theorem g_22 (X : K.In base) (G : base.Ns mainGlobals mg) (c : SaysR fa fn K) : mg "min" = none := He.free_ok X G (show (He.Fa.free "min").ok K = true from c.at 22 (f := .f (.free "min")))
theorem f_23 (c : SaysR fa fn K) : ExcC K (He.ga K "BadModulus") := cx_ok (c.at 23 (f := .cx "BadModulus"))
theorem f_24 (c : SaysR fa fn K) : PySem.W.exmOne K (.ref (He.ga K "BadModulus")) (.ref (He.ga K "BadModulus")) = some true := He.exm_ok (show (He.Fa.exm "BadModulus" "BadModulus" true).ok K = true from c.at 24 (f := .f (.exm "BadModulus" "BadModulus" true)))
theorem f_25 (c : SaysR fa fn K) : (He.Fa.glo "BadPoly").ok K = true := c.at 25 (f := .f (.glo "BadPoly"))
theorem g_25 (X : K.In base) (G : base.Ns mainGlobals mg) (c : SaysR fa fn K) : mg "BadPoly" = some (.ref (He.ga K "BadPoly")) := He.glo_ok X G (f_25 c)
theorem f_26 (c : SaysR fa fn K) : PySem.W.kitOne K (.ref (He.ga K "BadModulus")) (.ref (He.ga K "BadPoly")) = some false := kit_ok (c.at 26 (f := .kit "BadModulus" "BadPoly" false))
theorem f_27 (c : SaysR fa fn K) : (He.Fa.glo "BadNumber").ok K = true := c.at 27 (f := .f (.glo "BadNumber"))
theorem g_27 (X : K.In base) (G : base.Ns mainGlobals mg) (c : SaysR fa fn K) : mg "BadNumber" = some (.ref (He.ga K "BadNumber")) := He.glo_ok X G (f_27 c)
theorem f_28 (c : SaysR fa fn K) : PySem.W.kitOne K (.ref (He.ga K "BadModulus")) (.ref (He.ga K "BadNumber")) = some false := kit_ok (c.at 28 (f := .kit "BadModulus" "BadNumber" false))
theorem f_29 (c : SaysR fa fn K) : PySem.W.kitOne K (.ref (He.ga K "BadModulus")) (.ref (He.ga K "BadRow")) = some false := kit_ok (c.at 29 (f := .kit "BadModulus" "BadRow" false))
theorem f_30 (c : SaysR fa fn K) : PySem.W.kitOne K (.ref (He.ga K "BadModulus")) (.ref (He.ga K "TooLong")) = some false := kit_ok (c.at 30 (f := .kit "BadModulus" "TooLong" false))
theorem f_31 (c : SaysR fa fn K) : ExcC K (He.ga K "TooLong") := cx_ok (c.at 31 (f := .cx "TooLong"))
theorem f_32 (c : SaysR fa fn K) : PySem.W.exmOne K (.ref (He.ga K "TooLong")) (.ref (He.ga K "BadModulus")) = some false := He.exm_ok (show (He.Fa.exm "TooLong" "BadModulus" false).ok K = true from c.at 32 (f := .f (.exm "TooLong" "BadModulus" false)))
theorem f_33 (c : SaysR fa fn K) : PySem.W.kitOne K (.ref (He.ga K "TooLong")) (.ref (He.ga K "BadPoly")) = some false := kit_ok (c.at 33 (f := .kit "TooLong" "BadPoly" false))
theorem f_34 (c : SaysR fa fn K) : PySem.W.kitOne K (.ref (He.ga K "TooLong")) (.ref (He.ga K "BadNumber")) = some false := kit_ok (c.at 34 (f := .kit "TooLong" "BadNumber" false))
theorem f_35 (c : SaysR fa fn K) : PySem.W.kitOne K (.ref (He.ga K "TooLong")) (.ref (He.ga K "BadRow")) = some false := kit_ok (c.at 35 (f := .kit "TooLong" "BadRow" false))
theorem f_36 (c : SaysR fa fn K) : PySem.W.kitOne K (.ref (He.ga K "TooLong")) (.ref (He.ga K "TooLong")) = some true := kit_ok (c.at 36 (f := .kit "TooLong" "TooLong" true))
theorem f_37 (c : SaysR fa fn K) : PySem.W.exmOne K (.ref (He.ga K "TooLong")) (.ref (He.ga K "BadRow")) = some false := He.exm_ok (show (He.Fa.exm "TooLong" "BadRow" false).ok K = true from c.at 37 (f := .f (.exm "TooLong" "BadRow" false)))
theorem f_38 (c : SaysR fa fn K) : PySem.W.exmOne K (.ref (He.ga K "TooLong")) (.ref (He.ga K "TooLong")) = some true := He.exm_ok (show (He.Fa.exm "TooLong" "TooLong" true).ok K = true from c.at 38 (f := .f (.exm "TooLong" "TooLong" true)))
theorem f_39 (c : SaysR fa fn K) : (He.Fa.glo "RingError").ok K = true := c.at 39 (f := .f (.glo "RingError"))
theorem g_39 (X : K.In base) (G : base.Ns mainGlobals mg) (c : SaysR fa fn K) : mg "RingError" = some (.ref (He.ga K "RingError")) := He.glo_ok X G (f_39 c)
theorem f_40 (c : SaysR fa fn K) : PySem.W.kitOne K (.ref (He.ga K "TooLong")) (.ref (He.ga K "RingError")) = some true := kit_ok (c.at 40 (f := .kit "TooLong" "RingError" true))
theorem f_41 (c : SaysR fa fn K) : ExcC K (He.ga K "BadRow") := cx_ok (c.at 41 (f := .cx "BadRow"))
theorem f_42 (c : SaysR fa fn K) : PySem.W.exmOne K (.ref (He.ga K "BadRow")) (.ref (He.ga K "BadModulus")) = some false := He.exm_ok (show (He.Fa.exm "BadRow" "BadModulus" false).ok K = true from c.at 42 (f := .f (.exm "BadRow" "BadModulus" false)))
theorem f_43 (c : SaysR fa fn K) : PySem.W.kitOne K (.ref (He.ga K "BadRow")) (.ref (He.ga K "BadPoly")) = some false := kit_ok (c.at 43 (f := .kit "BadRow" "BadPoly" false))
theorem f_44 (c : SaysR fa fn K) : PySem.W.kitOne K (.ref (He.ga K "BadRow")) (.ref (He.ga K "BadNumber")) = some false := kit_ok (c.at 44 (f := .kit "BadRow" "BadNumber" false))
theorem f_45 (c : SaysR fa fn K) : PySem.W.kitOne K (.ref (He.ga K "BadRow")) (.ref (He.ga K "BadRow")) = some true := kit_ok (c.at 45 (f := .kit "BadRow" "BadRow" true))
theorem f_46 (c : SaysR fa fn K) : PySem.W.kitOne K (.ref (He.ga K "BadRow")) (.ref (He.ga K "TooLong")) = some false := kit_ok (c.at 46 (f := .kit "BadRow" "TooLong" false))
theorem f_47 (c : SaysR fa fn K) : PySem.W.exmOne K (.ref (He.ga K "BadRow")) (.ref (He.ga K "BadRow")) = some true := He.exm_ok (show (He.Fa.exm "BadRow" "BadRow" true).ok K = true from c.at 47 (f := .f (.exm "BadRow" "BadRow" true)))
theorem f_48 (c : SaysR fa fn K) : (He.Fa.glo "within").ok K = true := c.at 48 (f := .f (.glo "within"))
theorem g_48 (X : K.In base) (G : base.Ns mainGlobals mg) (c : SaysR fa fn K) : mg "within" = some (.ref (He.ga K "within")) := He.glo_ok X G (f_48 c)
theorem f_49 (c : SaysR fa fn K) : (He.Fa.glo "factors").ok K = true := c.at 49 (f := .f (.glo "factors"))
theorem g_49 (X : K.In base) (G : base.Ns mainGlobals mg) (c : SaysR fa fn K) : mg "factors" = some (.ref (He.ga K "factors")) := He.glo_ok X G (f_49 c)
theorem f_50 (c : SaysR fa fn K) : (He.Fa.glo "check_modulus").ok K = true := c.at 50 (f := .f (.glo "check_modulus"))
theorem g_50 (X : K.In base) (G : base.Ns mainGlobals mg) (c : SaysR fa fn K) : mg "check_modulus" = some (.ref (He.ga K "check_modulus")) := He.glo_ok X G (f_50 c)
theorem f_51 (c : SaysR fa fn K) : (He.Fa.glo "whole").ok K = true := c.at 51 (f := .f (.glo "whole"))
theorem g_51 (X : K.In base) (G : base.Ns mainGlobals mg) (c : SaysR fa fn K) : mg "whole" = some (.ref (He.ga K "whole")) := He.glo_ok X G (f_51 c)
theorem f_52 (c : SaysR fa fn K) : (He.Fa.glo "all_entries_fit").ok K = true := c.at 52 (f := .f (.glo "all_entries_fit"))
theorem g_52 (X : K.In base) (G : base.Ns mainGlobals mg) (c : SaysR fa fn K) : mg "all_entries_fit" = some (.ref (He.ga K "all_entries_fit")) := He.glo_ok X G (f_52 c)
theorem f_53 (c : SaysR fa fn K) : (He.Fa.glo "check_length").ok K = true := c.at 53 (f := .f (.glo "check_length"))
theorem g_53 (X : K.In base) (G : base.Ns mainGlobals mg) (c : SaysR fa fn K) : mg "check_length" = some (.ref (He.ga K "check_length")) := He.glo_ok X G (f_53 c)
theorem f_54 (c : SaysR fa fn K) : (He.Fa.glo "check_showing").ok K = true := c.at 54 (f := .f (.glo "check_showing"))
theorem g_54 (X : K.In base) (G : base.Ns mainGlobals mg) (c : SaysR fa fn K) : mg "check_showing" = some (.ref (He.ga K "check_showing")) := He.glo_ok X G (f_54 c)
theorem f_55 (c : SaysR fa fn K) : (He.Fa.glo "first_break").ok K = true := c.at 55 (f := .f (.glo "first_break"))
theorem g_55 (X : K.In base) (G : base.Ns mainGlobals mg) (c : SaysR fa fn K) : mg "first_break" = some (.ref (He.ga K "first_break")) := He.glo_ok X G (f_55 c)
theorem f_56 (c : SaysR fa fn K) : (He.Fa.glo "primes_of").ok K = true := c.at 56 (f := .f (.glo "primes_of"))
theorem g_56 (X : K.In base) (G : base.Ns mainGlobals mg) (c : SaysR fa fn K) : mg "primes_of" = some (.ref (He.ga K "primes_of")) := He.glo_ok X G (f_56 c)
theorem f_57 (c : SaysR fa fn K) : (He.Fa.glo "shows_pair").ok K = true := c.at 57 (f := .f (.glo "shows_pair"))
theorem g_57 (X : K.In base) (G : base.Ns mainGlobals mg) (c : SaysR fa fn K) : mg "shows_pair" = some (.ref (He.ga K "shows_pair")) := He.glo_ok X G (f_57 c)
theorem f_58 (c : SaysR fa fn K) : (He.Fa.glo "shows_period").ok K = true := c.at 58 (f := .f (.glo "shows_period"))
theorem g_58 (X : K.In base) (G : base.Ns mainGlobals mg) (c : SaysR fa fn K) : mg "shows_period" = some (.ref (He.ga K "shows_period")) := He.glo_ok X G (f_58 c)
theorem f_59 (c : SaysR fa fn K) : (He.Fa.glo "_law_mixed").ok K = true := c.at 59 (f := .f (.glo "_law_mixed"))
theorem g_59 (X : K.In base) (G : base.Ns mainGlobals mg) (c : SaysR fa fn K) : mg "_law_mixed" = some (.ref (He.ga K "_law_mixed")) := He.glo_ok X G (f_59 c)
theorem f_60 (c : SaysR fa fn K) : (He.Fa.glo "_law_take").ok K = true := c.at 60 (f := .f (.glo "_law_take"))
theorem g_60 (X : K.In base) (G : base.Ns mainGlobals mg) (c : SaysR fa fn K) : mg "_law_take" = some (.ref (He.ga K "_law_take")) := He.glo_ok X G (f_60 c)
theorem f_61 (c : SaysR fa fn K) : (He.Fa.glo "_law_takewide").ok K = true := c.at 61 (f := .f (.glo "_law_takewide"))
theorem g_61 (X : K.In base) (G : base.Ns mainGlobals mg) (c : SaysR fa fn K) : mg "_law_takewide" = some (.ref (He.ga K "_law_takewide")) := He.glo_ok X G (f_61 c)
theorem f_62 (c : SaysR fa fn K) : (He.Fa.glo "_law_seldom").ok K = true := c.at 62 (f := .f (.glo "_law_seldom"))
theorem g_62 (X : K.In base) (G : base.Ns mainGlobals mg) (c : SaysR fa fn K) : mg "_law_seldom" = some (.ref (He.ga K "_law_seldom")) := He.glo_ok X G (f_62 c)
theorem f_63 (c : SaysR fa fn K) : (He.Fa.glo "_law_pick").ok K = true := c.at 63 (f := .f (.glo "_law_pick"))
theorem g_63 (X : K.In base) (G : base.Ns mainGlobals mg) (c : SaysR fa fn K) : mg "_law_pick" = some (.ref (He.ga K "_law_pick")) := He.glo_ok X G (f_63 c)
theorem f_64 (c : SaysR fa fn K) : (He.Fa.glo "_law_whole").ok K = true := c.at 64 (f := .f (.glo "_law_whole"))
theorem g_64 (X : K.In base) (G : base.Ns mainGlobals mg) (c : SaysR fa fn K) : mg "_law_whole" = some (.ref (He.ga K "_law_whole")) := He.glo_ok X G (f_64 c)
theorem f_65 (c : SaysR fa fn K) : (He.Fa.glo "_law_order").ok K = true := c.at 65 (f := .f (.glo "_law_order"))
theorem g_65 (X : K.In base) (G : base.Ns mainGlobals mg) (c : SaysR fa fn K) : mg "_law_order" = some (.ref (He.ga K "_law_order")) := He.glo_ok X G (f_65 c)
theorem f_66 (c : SaysR fa fn K) : (He.Fa.glo "_law_power").ok K = true := c.at 66 (f := .f (.glo "_law_power"))
theorem g_66 (X : K.In base) (G : base.Ns mainGlobals mg) (c : SaysR fa fn K) : mg "_law_power" = some (.ref (He.ga K "_law_power")) := He.glo_ok X G (f_66 c)
theorem f_67 (c : SaysR fa fn K) : (He.Fa.glo "_law_factors").ok K = true := c.at 67 (f := .f (.glo "_law_factors"))
theorem g_67 (X : K.In base) (G : base.Ns mainGlobals mg) (c : SaysR fa fn K) : mg "_law_factors" = some (.ref (He.ga K "_law_factors")) := He.glo_ok X G (f_67 c)
theorem f_68 (c : SaysR fa fn K) : (He.Fa.glo "_law_divisors").ok K = true := c.at 68 (f := .f (.glo "_law_divisors"))
theorem g_68 (X : K.In base) (G : base.Ns mainGlobals mg) (c : SaysR fa fn K) : mg "_law_divisors" = some (.ref (He.ga K "_law_divisors")) := He.glo_ok X G (f_68 c)
theorem f_69 (c : SaysR fa fn K) : (He.Fa.glo "_law_modulus").ok K = true := c.at 69 (f := .f (.glo "_law_modulus"))
theorem g_69 (X : K.In base) (G : base.Ns mainGlobals mg) (c : SaysR fa fn K) : mg "_law_modulus" = some (.ref (He.ga K "_law_modulus")) := He.glo_ok X G (f_69 c)
theorem f_70 (c : SaysR fa fn K) : (He.Fa.glo "_law_divisor").ok K = true := c.at 70 (f := .f (.glo "_law_divisor"))
theorem g_70 (X : K.In base) (G : base.Ns mainGlobals mg) (c : SaysR fa fn K) : mg "_law_divisor" = some (.ref (He.ga K "_law_divisor")) := He.glo_ok X G (f_70 c)
theorem f_71 (c : SaysR fa fn K) : (He.Fa.glo "_law_same").ok K = true := c.at 71 (f := .f (.glo "_law_same"))
theorem g_71 (X : K.In base) (G : base.Ns mainGlobals mg) (c : SaysR fa fn K) : mg "_law_same" = some (.ref (He.ga K "_law_same")) := He.glo_ok X G (f_71 c)
theorem f_72 (c : SaysR fa fn K) : (He.Fa.glo "_law_copy").ok K = true := c.at 72 (f := .f (.glo "_law_copy"))
theorem g_72 (X : K.In base) (G : base.Ns mainGlobals mg) (c : SaysR fa fn K) : mg "_law_copy" = some (.ref (He.ga K "_law_copy")) := He.glo_ok X G (f_72 c)
theorem f_73 (c : SaysR fa fn K) : (He.Fa.glo "_law_within").ok K = true := c.at 73 (f := .f (.glo "_law_within"))
theorem g_73 (X : K.In base) (G : base.Ns mainGlobals mg) (c : SaysR fa fn K) : mg "_law_within" = some (.ref (He.ga K "_law_within")) := He.glo_ok X G (f_73 c)
theorem f_74 (c : SaysR fa fn K) : (He.Fa.glo "_law_kindbent").ok K = true := c.at 74 (f := .f (.glo "_law_kindbent"))
theorem g_74 (X : K.In base) (G : base.Ns mainGlobals mg) (c : SaysR fa fn K) : mg "_law_kindbent" = some (.ref (He.ga K "_law_kindbent")) := He.glo_ok X G (f_74 c)
theorem f_75 (c : SaysR fa fn K) : (He.Fa.glo "_law_oddpaper").ok K = true := c.at 75 (f := .f (.glo "_law_oddpaper"))
theorem g_75 (X : K.In base) (G : base.Ns mainGlobals mg) (c : SaysR fa fn K) : mg "_law_oddpaper" = some (.ref (He.ga K "_law_oddpaper")) := He.glo_ok X G (f_75 c)
theorem f_76 (c : SaysR fa fn K) : (He.Fa.glo "_law_badlist").ok K = true := c.at 76 (f := .f (.glo "_law_badlist"))
theorem g_76 (X : K.In base) (G : base.Ns mainGlobals mg) (c : SaysR fa fn K) : mg "_law_badlist" = some (.ref (He.ga K "_law_badlist")) := He.glo_ok X G (f_76 c)
theorem f_77 (c : SaysR fa fn K) : (He.Fa.glo "_law_showdraw").ok K = true := c.at 77 (f := .f (.glo "_law_showdraw"))
theorem g_77 (X : K.In base) (G : base.Ns mainGlobals mg) (c : SaysR fa fn K) : mg "_law_showdraw" = some (.ref (He.ga K "_law_showdraw")) := He.glo_ok X G (f_77 c)
theorem f_78 (c : SaysR fa fn K) : (He.Fa.glo "_law_period").ok K = true := c.at 78 (f := .f (.glo "_law_period"))
theorem g_78 (X : K.In base) (G : base.Ns mainGlobals mg) (c : SaysR fa fn K) : mg "_law_period" = some (.ref (He.ga K "_law_period")) := He.glo_ok X G (f_78 c)
theorem f_79 (c : SaysR fa fn K) : (He.Fa.glo "_law_primes").ok K = true := c.at 79 (f := .f (.glo "_law_primes"))
theorem g_79 (X : K.In base) (G : base.Ns mainGlobals mg) (c : SaysR fa fn K) : mg "_law_primes" = some (.ref (He.ga K "_law_primes")) := He.glo_ok X G (f_79 c)
theorem f_80 (c : SaysR fa fn K) : (He.Fa.glo "_law_parts").ok K = true := c.at 80 (f := .f (.glo "_law_parts"))
theorem g_80 (X : K.In base) (G : base.Ns mainGlobals mg) (c : SaysR fa fn K) : mg "_law_parts" = some (.ref (He.ga K "_law_parts")) := He.glo_ok X G (f_80 c)
theorem f_81 (c : SaysR fa fn K) : (He.Fa.glo "_law_proves").ok K = true := c.at 81 (f := .f (.glo "_law_proves"))
theorem g_81 (X : K.In base) (G : base.Ns mainGlobals mg) (c : SaysR fa fn K) : mg "_law_proves" = some (.ref (He.ga K "_law_proves")) := He.glo_ok X G (f_81 c)
theorem f_82 (c : SaysR fa fn K) : (He.Fa.glo "_law_pairsfor").ok K = true := c.at 82 (f := .f (.glo "_law_pairsfor"))
theorem g_82 (X : K.In base) (G : base.Ns mainGlobals mg) (c : SaysR fa fn K) : mg "_law_pairsfor" = some (.ref (He.ga K "_law_pairsfor")) := He.glo_ok X G (f_82 c)
theorem f_83 (c : SaysR fa fn K) : (He.Fa.glo "_law_showing").ok K = true := c.at 83 (f := .f (.glo "_law_showing"))
theorem g_83 (X : K.In base) (G : base.Ns mainGlobals mg) (c : SaysR fa fn K) : mg "_law_showing" = some (.ref (He.ga K "_law_showing")) := He.glo_ok X G (f_83 c)
theorem f_84 (c : SaysR fa fn K) : (He.Fa.glo "_law_twist").ok K = true := c.at 84 (f := .f (.glo "_law_twist"))
theorem g_84 (X : K.In base) (G : base.Ns mainGlobals mg) (c : SaysR fa fn K) : mg "_law_twist" = some (.ref (He.ga K "_law_twist")) := He.glo_ok X G (f_84 c)
theorem f_85 (c : SaysR fa fn K) : (He.Fa.glo "_law_judged").ok K = true := c.at 85 (f := .f (.glo "_law_judged"))
theorem g_85 (X : K.In base) (G : base.Ns mainGlobals mg) (c : SaysR fa fn K) : mg "_law_judged" = some (.ref (He.ga K "_law_judged")) := He.glo_ok X G (f_85 c)
theorem f_86 (c : SaysR fa fn K) : (He.Fa.glo "_law_refusal").ok K = true := c.at 86 (f := .f (.glo "_law_refusal"))
theorem g_86 (X : K.In base) (G : base.Ns mainGlobals mg) (c : SaysR fa fn K) : mg "_law_refusal" = some (.ref (He.ga K "_law_refusal")) := He.glo_ok X G (f_86 c)
theorem f_87 (c : SaysR fa fn K) : (He.Fa.glo "_law_refusals").ok K = true := c.at 87 (f := .f (.glo "_law_refusals"))
theorem g_87 (X : K.In base) (G : base.Ns mainGlobals mg) (c : SaysR fa fn K) : mg "_law_refusals" = some (.ref (He.ga K "_law_refusals")) := He.glo_ok X G (f_87 c)
theorem f_88 (c : SaysR fa fn K) : (He.Fa.glo "law").ok K = true := c.at 88 (f := .f (.glo "law"))
theorem g_88 (X : K.In base) (G : base.Ns mainGlobals mg) (c : SaysR fa fn K) : mg "law" = some (.ref (He.ga K "law")) := He.glo_ok X G (f_88 c)
theorem f_89 (c : SaysR fa fn K) : (He.Fa.glo "_law_open").ok K = true := c.at 89 (f := .f (.glo "_law_open"))
theorem g_89 (X : K.In base) (G : base.Ns mainGlobals mg) (c : SaysR fa fn K) : mg "_law_open" = some (.ref (He.ga K "_law_open")) := He.glo_ok X G (f_89 c)
theorem sc_within : FnScope ["x", "low", "high"] ["x", "low", "high"] (defScope (top 8)) := ⟨rfl, rfl, rfl, by decide +kernel, rfl, by decide +kernel, by decide +kernel⟩
theorem w_within (X0 : K.In base) (G0 : base.Ns mainGlobals mg) (c : SaysR fa fn K) : BodyOk P w K mg base ["x", "low", "high"] "within" (top 8) 0 (d_within K) := by
  intro f cdv A outer s H E hr tk po
  unfold d_within
  exact (dss_one (ds_ret (de_and (de_isi .int (by decide +kernel) (g_0 X0 G0 c) (g_1 X0 G0 c) (de_var 0)) (de_and (de_not (de_isi .bool (by decide +kernel) (g_2 X0 G0 c) (g_1 X0 G0 c) (de_var 0))) (de_one (de_lele (de_var 1) (de_var 0) (de_var 2)))))))
theorem sc_factors : FnScope ["m", "pairs", "rest", "p", "most", "e"] ["m"] (defScope (top 12)) := ⟨rfl, rfl, rfl, by decide +kernel, rfl, by decide +kernel, by decide +kernel⟩
theorem w_factors (X0 : K.In base) (G0 : base.Ns mainGlobals mg) (c : SaysR fa fn K) (o_within : Ok P w K mg base 1 "within" 3 (sp_within K)) : BodyOk P w K mg base ["m", "pairs", "rest", "p", "most", "e"] "factors" (top 12) 1 (d_factors K) := by
  intro f cdv A outer s H E hr tk po
  unfold d_factors
  exact (dss_cons (ds_if (dt_not (dt_val (de_fn o_within hr tk (da_cons (de_var 0) (da_cons de_int (da_cons (de_globD (g_6 X0 G0 c)) da_nil))))))
  (dss_one (ds_raise rfl tk (exk_ok X0 G0 (f_3 c) (f_4 c))))
  dss_nil)
  (dss_cons (ds_setO (i := 1) sc_factors.nd (de_lst da_nil))
  (dss_cons (ds_set (i := 2) sc_factors.nd (de_var 0))
  (dss_cons (ds_for (tg0 := (.tp [3, 4])) po rfl (di_tup (de_globD (g_5 X0 G0 c))) (pg_tup rfl (pgs_cons (pg_name (i := 3) sc_factors.nd rfl (by first | exact Or.inl rfl | exact Or.inr rfl)) (pgs_cons (pg_name (i := 4) sc_factors.nd rfl (by first | exact Or.inl rfl | exact Or.inr rfl)) pgs_nil)))
  (dss_cons (ds_set (i := 5) sc_factors.nd de_int)
  (dss_cons (ds_while po (dt_eq (huOf hr) (de_mod (de_var 2) (de_var 3)) de_int)
  (dss_cons (ds_set (i := 2) sc_factors.nd (de_div (de_var 2) (de_var 3)))
  (dss_one (ds_aug (i := 5) sc_factors.nd de_int ip_add))))
  (dss_cons (ds_if (dt_gt (de_var 5) (de_var 4))
  (dss_one (ds_raise rfl tk (exk_ok X0 G0 (f_3 c) (f_4 c))))
  dss_nil)
  (dss_one (ds_if (dt_gt (de_var 5) de_int)
  (dss_one (ds_app (i := 1) (de_tup (da_cons (de_var 3) (da_cons (de_var 5) da_nil))) (hcall := pe_bm PySem.F.plainAttrs_list PySem.F.slot_list_append PySem.F.type_list_append mt_append)))
  dss_nil))))))
  (dss_cons (ds_if (dt_ne (huOf hr) (de_var 2) de_int)
  (dss_one (ds_raise rfl tk (exk_ok X0 G0 (f_3 c) (f_4 c))))
  dss_nil)
  (dss_one (ds_retO 1)))))))
theorem sc_check_modulus : FnScope ["m"] ["m"] (defScope (top 13)) := ⟨rfl, rfl, rfl, by decide +kernel, rfl, by decide +kernel, by decide +kernel⟩
theorem w_check_modulus (X0 : K.In base) (G0 : base.Ns mainGlobals mg) (c : SaysR fa fn K) (o_factors : Ok P w K mg base 2 "factors" 1 (sp_factors K)) : BodyOk P w K mg base ["m"] "check_modulus" (top 13) 2 (d_check_modulus K) := by
  intro f cdv A outer s H E hr tk po
  unfold d_check_modulus
  exact (dss_one (ds_drop (de_fn o_factors hr tk (da_cons (de_var 0) da_nil))))
theorem sc_whole : FnScope ["x"] ["x"] (defScope (top 17)) := ⟨rfl, rfl, rfl, by decide +kernel, rfl, by decide +kernel, by decide +kernel⟩
theorem w_whole (X0 : K.In base) (G0 : base.Ns mainGlobals mg) (c : SaysR fa fn K) : BodyOk P w K mg base ["x"] "whole" (top 17) 0 (d_whole K) := by
  intro f cdv A outer s H E hr tk po
  unfold d_whole
  exact (dss_one (ds_ret (de_and (de_isi .int (by decide +kernel) (g_0 X0 G0 c) (g_1 X0 G0 c) (de_var 0)) (de_one (de_not (de_isi .bool (by decide +kernel) (g_2 X0 G0 c) (g_1 X0 G0 c) (de_var 0)))))))
theorem sc_all_entries_fit : FnScope ["entries", "entry"] ["entries"] (defScope (top 18)) := ⟨rfl, rfl, rfl, by decide +kernel, rfl, by decide +kernel, by decide +kernel⟩
theorem w_all_entries_fit (X0 : K.In base) (G0 : base.Ns mainGlobals mg) (c : SaysR fa fn K) (o_whole : Ok P w K mg base 1 "whole" 1 (sp_whole K)) : BodyOk P w K mg base ["entries", "entry"] "all_entries_fit" (top 18) 1 (d_all_entries_fit K) := by
  intro f cdv A outer s H E hr tk po
  unfold d_all_entries_fit
  exact (dss_cons (ds_for (tg0 := (.nm 1)) po rfl (di_lst (de_var 0)) (pg_name (i := 1) sc_all_entries_fit.nd rfl (by first | exact Or.inl rfl | exact Or.inr rfl))
  (dss_one (ds_if (PW.pt (dw_or (dt_not (dt_val (de_fn o_whole hr tk (da_cons (de_var 1) da_nil)))) (dw_or (dt_lt (de_var 1) (de_neg (de_globD (g_7 X0 G0 c)))) (dw_or1 (dt_gt (de_var 1) (de_globD (g_7 X0 G0 c)))))))
  (dss_one (ds_ret de_bl))
  dss_nil)))
  (dss_one (ds_ret de_bl)))
theorem sc_check_length : FnScope ["m"] ["m"] (defScope (top 19)) := ⟨rfl, rfl, rfl, by decide +kernel, rfl, by decide +kernel, by decide +kernel⟩
theorem w_check_length (X0 : K.In base) (G0 : base.Ns mainGlobals mg) (c : SaysR fa fn K) : BodyOk P w K mg base ["m"] "check_length" (top 19) 0 (d_check_length K) := by
  intro f cdv A outer s H E hr tk po
  unfold d_check_length
  exact (dss_one (ds_if (dt_gt (de_var 0) (de_globD (g_8 X0 G0 c)))
  (dss_one (ds_raise rfl tk (exk_ok X0 G0 (f_9 c) (f_10 c))))
  dss_nil))
theorem sc_check_showing : FnScope ["m", "show"] ["m", "show"] (defScope (top 20)) := ⟨rfl, rfl, rfl, by decide +kernel, rfl, by decide +kernel, by decide +kernel⟩
theorem w_check_showing (X0 : K.In base) (G0 : base.Ns mainGlobals mg) (c : SaysR fa fn K) (o_check_length : Ok P w K mg base 1 "check_length" 1 (sp_check_length K)) (o_all_entries_fit : Ok P w K mg base 2 "all_entries_fit" 1 (sp_all_entries_fit K)) (o_check_modulus : Ok P w K mg base 3 "check_modulus" 1 (sp_check_modulus K)) : BodyOk P w K mg base ["m", "show"] "check_showing" (top 20) 3 (d_check_showing K) := by
  intro f cdv A outer s H E hr tk po
  unfold d_check_showing
  exact (dss_cons (ds_drop (de_fn o_check_modulus hr tk (da_cons (de_var 0) da_nil)))
  (dss_cons (ds_if (PW.pt (dw_or (dt_not (dt_val (de_isi .list (by decide +kernel) (g_11 X0 G0 c) (g_1 X0 G0 c) (de_var 1)))) (dw_or (dt_ne (huOf hr) (de_b1 call_len (by decide +kernel) o1_len (g_12 X0 G0 c) (de_var 1)) (de_var 0)) (dw_or1 (dt_not (dt_val (de_fn o_all_entries_fit hr tk (da_cons (de_var 1) da_nil))))))))
  (dss_one (ds_raise rfl tk (exk_ok X0 G0 (f_13 c) (f_14 c))))
  dss_nil)
  (dss_one (ds_drop (de_fn o_check_length hr tk (da_cons (de_var 0) da_nil))))))
theorem sc_first_break : FnScope ["entries", "step", "at"] ["entries", "step"] (defScope (top 21)) := ⟨rfl, rfl, rfl, by decide +kernel, rfl, by decide +kernel, by decide +kernel⟩
theorem w_first_break (X0 : K.In base) (G0 : base.Ns mainGlobals mg) (c : SaysR fa fn K) : BodyOk P w K mg base ["entries", "step", "at"] "first_break" (top 21) 0 (d_first_break K) := by
  intro f cdv A outer s H E hr tk po
  unfold d_first_break
  exact (dss_cons (ds_for (tg0 := (.nm 2)) po rfl (di_rng1 (g_15 X0 G0 c) (de_b1 call_len (by decide +kernel) o1_len (g_12 X0 G0 c) (de_var 0))) (pg_name (i := 2) sc_first_break.nd rfl (by first | exact Or.inl rfl | exact Or.inr rfl))
  (dss_one (ds_if (dt_ne (huOf hr) (de_ix (de_var 0) (de_var 2) (fun _ _ => rfl)) (de_ix (de_var 0) (de_mod (de_var 2) (de_var 1)) (fun _ _ => rfl)))
  (dss_one (ds_ret (de_var 2)))
  dss_nil)))
  (dss_one (ds_ret de_non)))
theorem sc_primes_of : FnScope ["period", "pair"] ["period"] (defScope (top 22)) := ⟨rfl, rfl, rfl, by decide +kernel, rfl, by decide +kernel, by decide +kernel⟩
theorem w_primes_of (X0 : K.In base) (G0 : base.Ns mainGlobals mg) (c : SaysR fa fn K) (o_factors : Ok P w K mg base 2 "factors" 1 (sp_factors K)) : BodyOk P w K mg base ["period", "pair"] "primes_of" (top 22) 2 (d_primes_of K) := by
  intro f cdv A outer s H E hr tk po
  unfold d_primes_of
  exact (dss_cons (ds_if (dt_eq (huOf hr) (de_var 0) de_int)
  (dss_one (ds_ret (de_lst da_nil)))
  dss_nil)
  (dss_one (ds_ret (de_lc (tg0 := (.nm 1)) (own := [("pair", 1)]) (by decide) rfl sc_primes_of.nd (lIV_of (di_lst (de_fn o_factors hr tk (da_cons (de_var 0) da_nil)))) (show BlkOk ["period", "pair"] (defScope (top 22)) _ _ from ⟨rfl, by decide +kernel, by decide +kernel, by decide +kernel, by decide +kernel⟩) (fun _ _ _ _ _ => (pg_name (i := 1) sc_primes_of.nd rfl (by first | exact Or.inl rfl | exact Or.inr rfl))) (fun _ _ _ _ _ => dts_nil) (fun _ _ _ _ _ => (de_ix (de_var 1) de_int (fun _ _ => rfl)))))))
theorem sc_shows_pair : FnScope ["show", "p", "step", "pair", "named", "x", "y"] ["show", "p", "step", "pair"] (defScope (top 23)) := ⟨rfl, rfl, rfl, by decide +kernel, rfl, by decide +kernel, by decide +kernel⟩
theorem w_shows_pair (X0 : K.In base) (G0 : base.Ns mainGlobals mg) (c : SaysR fa fn K) (o_whole : Ok P w K mg base 1 "whole" 1 (sp_whole K)) : BodyOk P w K mg base ["show", "p", "step", "pair", "named", "x", "y"] "shows_pair" (top 23) 1 (d_shows_pair K) := by
  intro f cdv A outer s H E hr tk po
  unfold d_shows_pair
  exact (dss_cons (ds_if (PW.pt (dw_or (dt_not (dt_val (de_isi .tuple (by decide +kernel) (g_16 X0 G0 c) (g_1 X0 G0 c) (de_var 3)))) (dw_or1 (dt_ne (huOf hr) (de_b1 call_len (by decide +kernel) o1_len (g_12 X0 G0 c) (de_var 3)) de_int))))
  (dss_one (ds_ret de_bl))
  dss_nil)
  (dss_cons (ds_setT (is := [4, 5, 6]) rfl (de_var 3) (pgs_cons (pg_name (i := 4) sc_shows_pair.nd rfl (by first | exact Or.inl rfl | exact Or.inr rfl)) (pgs_cons (pg_name (i := 5) sc_shows_pair.nd rfl (by first | exact Or.inl rfl | exact Or.inr rfl)) (pgs_cons (pg_name (i := 6) sc_shows_pair.nd rfl (by first | exact Or.inl rfl | exact Or.inr rfl)) pgs_nil))))
  (dss_cons (ds_if (PW.pt (dw_or (dt_not (dt_val (de_fn o_whole hr tk (da_cons (de_var 4) da_nil)))) (dw_or (dt_not (dt_val (de_fn o_whole hr tk (da_cons (de_var 5) da_nil)))) (dw_or (dt_not (dt_val (de_fn o_whole hr tk (da_cons (de_var 6) da_nil)))) (dw_or1 (dt_ne (huOf hr) (de_var 4) (de_var 1)))))))
  (dss_one (ds_ret de_bl))
  dss_nil)
  (dss_cons (ds_if (PW.pt (dw_or (dt_lt (de_var 5) de_int) (dw_or (dt_le (de_var 6) (de_var 5)) (dw_or1 (dt_ge (de_var 6) (de_b1 call_len (by decide +kernel) o1_len (g_12 X0 G0 c) (de_var 0)))))))
  (dss_one (ds_ret de_bl))
  dss_nil)
  (dss_one (ds_ret (de_and (de_eq (huOf hr) (de_mod (de_sub (de_var 6) (de_var 5)) (de_var 2)) de_int) (de_one (de_ne (huOf hr) (de_ix (de_var 0) (de_var 5) (fun _ _ => rfl)) (de_ix (de_var 0) (de_var 6) (fun _ _ => rfl)))))))))))
theorem sc_shows_period : FnScope ["m", "show", "period", "pairs", "primes", "p", "pair"] ["m", "show", "period", "pairs"] (defScope (top 24)) := ⟨rfl, rfl, rfl, by decide +kernel, rfl, by decide +kernel, by decide +kernel⟩
theorem w_shows_period (X0 : K.In base) (G0 : base.Ns mainGlobals mg) (c : SaysR fa fn K) (o_shows_pair : Ok P w K mg base 2 "shows_pair" 4 (sp_shows_pair K)) (o_primes_of : Ok P w K mg base 3 "primes_of" 1 (sp_primes_of K)) (o_first_break : Ok P w K mg base 1 "first_break" 2 (sp_first_break K)) (o_whole : Ok P w K mg base 1 "whole" 1 (sp_whole K)) (o_check_showing : Ok P w K mg base 4 "check_showing" 2 (sp_check_showing K)) : BodyOk P w K mg base ["m", "show", "period", "pairs", "primes", "p", "pair"] "shows_period" (top 24) 4 (d_shows_period K) := by
  intro f cdv A outer s H E hr tk po
  unfold d_shows_period
  exact (dss_cons (ds_drop (de_fn o_check_showing hr tk (da_cons (de_var 0) (da_cons (de_var 1) da_nil))))
  (dss_cons (ds_if (PW.pt (dw_or (dt_not (dt_val (de_fn o_whole hr tk (da_cons (de_var 2) da_nil)))) (dw_or (dt_lt (de_var 2) de_int) (dw_or1 (dt_ne (huOf hr) (de_mod (de_var 0) (de_var 2)) de_int)))))
  (dss_one (ds_ret de_bl))
  dss_nil)
  (dss_cons (ds_if (PW.pt (dw_or (dt_not (dt_val (de_isi .list (by decide +kernel) (g_11 X0 G0 c) (g_1 X0 G0 c) (de_var 3)))) (dw_or1 (dt_notN (de_fn o_first_break hr tk (da_cons (de_var 1) (da_cons (de_var 2) da_nil))) de_non))))
  (dss_one (ds_ret de_bl))
  dss_nil)
  (dss_cons (ds_set (i := 4) sc_shows_period.nd (de_fn o_primes_of hr tk (da_cons (de_var 2) da_nil)))
  (dss_cons (ds_if (dt_ne (huOf hr) (de_b1 call_len (by decide +kernel) o1_len (g_12 X0 G0 c) (de_var 3)) (de_b1 call_len (by decide +kernel) o1_len (g_12 X0 G0 c) (de_var 4)))
  (dss_one (ds_ret de_bl))
  dss_nil)
  (dss_cons (ds_for (tg0 := (.tp [5, 6])) po rfl (di_zip (g_17 X0 G0 c) (de_var 4) (de_var 3)) (pg_tup rfl (pgs_cons (pg_name (i := 5) sc_shows_period.nd rfl (by first | exact Or.inl rfl | exact Or.inr rfl)) (pgs_cons (pg_name (i := 6) sc_shows_period.nd rfl (by first | exact Or.inl rfl | exact Or.inr rfl)) pgs_nil)))
  (dss_one (ds_if (dt_not (dt_val (de_fn o_shows_pair hr tk (da_cons (de_var 1) (da_cons (de_var 5) (da_cons (de_div (de_var 2) (de_var 5)) (da_cons (de_var 6) da_nil)))))))
  (dss_one (ds_ret de_bl))
  dss_nil)))
  (dss_one (ds_ret de_bl))))))))
theorem sc__law_mixed : FnScope ["number", "turn", "prime", "first", "second", "third"] ["number", "turn"] (defScope (top 26)) := ⟨rfl, rfl, rfl, by decide +kernel, rfl, by decide +kernel, by decide +kernel⟩
theorem w__law_mixed (X0 : K.In base) (G0 : base.Ns mainGlobals mg) (c : SaysR fa fn K) : BodyOk P w K mg base ["number", "turn", "prime", "first", "second", "third"] "_law_mixed" (top 26) 0 (d__law_mixed K) := by
  intro f cdv A outer s H E hr tk po
  unfold d__law_mixed
  exact (dss_cons (ds_set (i := 2) sc__law_mixed.nd de_int)
  (dss_cons (ds_set (i := 3) sc__law_mixed.nd (de_mod (de_t1 call_int1 (by decide +kernel) o1_int (g_0 X0 G0 c) (de_add (de_add (de_mul (de_add (de_var 0) de_int) de_int) (de_mul (de_var 1) de_int)) de_int)) (de_var 2)))
  (dss_cons (ds_set (i := 4) sc__law_mixed.nd (de_mod (de_t1 call_int1 (by decide +kernel) o1_int (g_0 X0 G0 c) (de_add (de_mul (de_xor (de_var 3) (de_shr (de_var 3) de_int)) de_int) (de_mul (de_var 1) de_int))) (de_var 2)))
  (dss_cons (ds_set (i := 5) sc__law_mixed.nd (de_mod (de_t1 call_int1 (by decide +kernel) o1_int (g_0 X0 G0 c) (de_add (de_mul (de_xor (de_var 4) (de_shr (de_var 4) de_int)) (de_or_ (de_var 4) de_int)) (de_var 3))) (de_var 2)))
  (dss_one (ds_ret (de_xor (de_var 5) (de_shr (de_var 5) de_int))))))))
theorem sc__law_take : FnScope ["store", "many", "rest", "cell"] ["store", "many"] (defScope (top 28)) := ⟨rfl, rfl, rfl, by decide +kernel, rfl, by decide +kernel, by decide +kernel⟩
theorem w__law_take (X0 : K.In base) (G0 : base.Ns mainGlobals mg) (c : SaysR fa fn K) (o__law_mixed : Ok P w K mg base 1 "_law_mixed" 2 (sp__law_mixed K)) : BodyOk P w K mg base ["store", "many", "rest", "cell"] "_law_take" (top 28) 1 (d__law_take K) := by
  intro f cdv A outer s H E hr tk po
  unfold d__law_take
  exact (dss_cons (ds_set (i := 1) sc__law_take.nd (de_b2 (call_max2 rfl) (by decide +kernel) o2_max (g_18 X0 G0 c) de_int (de_var 1)))
  (dss_cons (ds_stoS 0 (de_add (de_stoI 0) de_int))
  (dss_cut (ds_if (PW.pt (dw_and (dt_lt (de_stoI 0) de_int) (dw_and1 (dt_eq (huOf hr) (de_stoI 0) de_int))))
  (dss_cons (ds_stoS 0 (de_stoI 0))
  (dss_cons (ds_stoS 0 de_int)
  (dss_one (ds_stoC 0 (ic := 3) (g_12 X0 G0 c) (g_0 X0 G0 c) (dss_cons (ds_stoS 0 (de_add (de_stoI 0) de_int))
  (dss_cons (ds_stoS 0 (de_mod (de_var 3) de_int))
  (dss_cons (ds_stoS 0 de_int)
  (dss_one (ds_if (dt_ge (de_var 3) (de_pow de_int de_int))
  (dss_cons (ds_stoS 0 (de_var 3))
  (dss_one (ds_stoS 0 de_int)))
  dss_nil))))) sc__law_take.nd))))
  dss_nil)
  (dss_cons (ds_if (dt_gt (de_stoI 0) de_int)
  (dss_cons (ds_set (i := 2) sc__law_take.nd (de_t1 call_int1 (by decide +kernel) o1_int (g_0 X0 G0 c) (de_stoI 0)))
  (dss_cons (ds_stoS 0 (de_div (de_var 2) (de_var 1)))
  (dss_one (ds_ret (de_mod (de_var 2) (de_var 1))))))
  dss_nil)
  (dss_cons (ds_stoS 0 (de_sub (de_stoI 0) de_int))
  (dss_one (ds_ret (de_mod (de_t1 call_int1 (by decide +kernel) o1_int (g_0 X0 G0 c) (de_fn o__law_mixed hr tk (da_cons (de_stoI 0) (da_cons (de_stoI 0) da_nil)))) (de_var 1)))))))))
theorem sc__law_takewide : FnScope ["store", "many", "number", "size"] ["store", "many"] (defScope (top 29)) := ⟨rfl, rfl, rfl, by decide +kernel, rfl, by decide +kernel, by decide +kernel⟩
theorem w__law_takewide (X0 : K.In base) (G0 : base.Ns mainGlobals mg) (c : SaysR fa fn K) (o__law_take : Ok P w K mg base 2 "_law_take" 2 spTake) : BodyOk P w K mg base ["store", "many", "number", "size"] "_law_takewide" (top 29) 2 (d__law_takewide K) := by
  intro f cdv A outer s H E hr tk po
  unfold d__law_takewide
  exact (dss_cons (ds_if (dt_le (de_var 1) de_int)
  (dss_one (ds_ret (de_fn o__law_take hr tk (da_cons (de_var 0) (da_cons (de_var 1) da_nil)))))
  dss_nil)
  (dss_cons (ds_set (i := 2) sc__law_takewide.nd de_int)
  (dss_cons (ds_set (i := 3) sc__law_takewide.nd de_int)
  (dss_cons (ds_while po (dt_lt (de_var 3) (de_var 1))
  (dss_cons (ds_set (i := 2) sc__law_takewide.nd (de_add (de_mul (de_var 2) de_int) (de_fn o__law_take hr tk (da_cons (de_var 0) (da_cons de_int da_nil)))))
  (dss_one (ds_set (i := 3) sc__law_takewide.nd (de_mul (de_var 3) de_int)))))
  (dss_one (ds_ret (de_mod (de_t1 call_int1 (by decide +kernel) o1_int (g_0 X0 G0 c) (de_var 2)) (de_b2 (call_max2 rfl) (by decide +kernel) o2_max (g_18 X0 G0 c) de_int (de_var 1)))))))))
theorem sc__law_seldom : FnScope ["store", "many"] ["store", "many"] (defScope (top 30)) := ⟨rfl, rfl, rfl, by decide +kernel, rfl, by decide +kernel, by decide +kernel⟩
theorem w__law_seldom (X0 : K.In base) (G0 : base.Ns mainGlobals mg) (c : SaysR fa fn K) (o__law_take : Ok P w K mg base 2 "_law_take" 2 spTake) : BodyOk P w K mg base ["store", "many"] "_law_seldom" (top 30) 2 (d__law_seldom K) := by
  intro f cdv A outer s H E hr tk po
  unfold d__law_seldom
  exact (dss_one (ds_ret (de_eq (huOf hr) (de_fn o__law_take hr tk (da_cons (de_var 0) (da_cons (de_var 1) da_nil))) de_int)))
theorem sc__law_pick : FnScope ["store", "items"] ["store", "items"] (defScope (top 31)) := ⟨rfl, rfl, rfl, by decide +kernel, rfl, by decide +kernel, by decide +kernel⟩
theorem w__law_pick (X0 : K.In base) (G0 : base.Ns mainGlobals mg) (c : SaysR fa fn K) (o__law_take : Ok P w K mg base 2 "_law_take" 2 spTake) : BodyOk P w K mg base ["store", "items"] "_law_pick" (top 31) 2 (d__law_pick K) := by
  intro f cdv A outer s H E hr tk po
  unfold d__law_pick
  exact (dss_one (ds_ret (de_ix (de_var 1) (de_fn o__law_take hr tk (da_cons (de_var 0) (da_cons (de_b1 call_len (by decide +kernel) o1_len (g_12 X0 G0 c) (de_var 1)) da_nil))) (fun _ _ => rfl))))
theorem sc__law_whole : FnScope ["store", "low", "high", "edges", "near", "edge"] ["store", "low", "high"] (defScope (top 32)) := ⟨rfl, rfl, rfl, by decide +kernel, rfl, by decide +kernel, by decide +kernel⟩
theorem w__law_whole (X0 : K.In base) (G0 : base.Ns mainGlobals mg) (c : SaysR fa fn K) (o__law_takewide : Ok P w K mg base 3 "_law_takewide" 2 (sp__law_takewide K)) (o__law_seldom : Ok P w K mg base 3 "_law_seldom" 2 (sp__law_seldom K)) (o__law_pick : Ok P w K mg base 3 "_law_pick" 2 (sp__law_pick K)) : BodyOk P w K mg base ["store", "low", "high", "edges", "near", "edge"] "_law_whole" (top 32) 3 (d__law_whole K) := by
  intro f cdv A outer s H E hr tk po
  unfold d__law_whole
  exact (dss_cons (ds_if (dt_val (de_fn o__law_seldom hr tk (da_cons (de_var 0) (da_cons de_int da_nil))))
  (dss_cons (ds_set (i := 3) sc__law_whole.nd (de_lst (da_cons (de_var 1) (da_cons (de_var 2) (da_cons (de_add (de_var 1) de_int) (da_cons (de_sub (de_var 2) de_int) (da_cons (de_neg de_int) (da_cons de_int (da_cons de_int (da_cons (de_div (de_add (de_var 1) (de_var 2)) de_int) da_nil))))))))))
  (dss_cons (ds_setLc (i := 4) (tg0 := (.nm 5)) (own := [("edge", 5)]) (by decide) rfl sc__law_whole.nd rfl (lIV_of (di_lst (de_var 3))) (show BlkOk ["store", "low", "high", "edges", "near", "edge"] (defScope (top 32)) _ _ from ⟨rfl, by decide +kernel, by decide +kernel, by decide +kernel, by decide +kernel⟩) (fun _ _ _ _ _ => (pg_name (i := 5) sc__law_whole.nd rfl (by first | exact Or.inl rfl | exact Or.inr rfl))) (fun _ _ _ _ _ => (dts_one (dt_lele (de_var 1) (de_var 5) (de_var 2)))) (fun _ _ _ _ _ => (de_var 5)))
  (dss_one (ds_ret (de_fn o__law_pick hr tk (da_cons (de_var 0) (da_cons (de_var 4) da_nil)))))))
  dss_nil)
  (dss_one (ds_ret (de_add (de_var 1) (de_fn o__law_takewide hr tk (da_cons (de_var 0) (da_cons (de_add (de_sub (de_var 2) (de_var 1)) de_int) da_nil)))))))
theorem sc__law_order : FnScope ["store", "n", "order", "kind", "k", "turn", "at", "other", "kept"] ["store", "n"] (defScope (top 33)) := ⟨rfl, rfl, rfl, by decide +kernel, rfl, by decide +kernel, by decide +kernel⟩
theorem w__law_order (X0 : K.In base) (G0 : base.Ns mainGlobals mg) (c : SaysR fa fn K) (o__law_take : Ok P w K mg base 2 "_law_take" 2 spTake) : BodyOk P w K mg base ["store", "n", "order", "kind", "k", "turn", "at", "other", "kept"] "_law_order" (top 33) 2 (d__law_order K) := by
  intro f cdv A outer s H E hr tk po
  unfold d__law_order
  exact (dss_cons (ds_setO (i := 2) sc__law_order.nd (de_listrng1 rfl (g_11 X0 G0 c) (g_15 X0 G0 c) (de_var 1)))
  (dss_cons (ds_set (i := 3) sc__law_order.nd (de_fn o__law_take hr tk (da_cons (de_var 0) (da_cons de_int da_nil))))
  (dss_cons (ds_if (dt_eq (huOf hr) (de_var 3) de_int)
  (dss_one (ds_retO 2))
  dss_nil)
  (dss_cons (ds_if (dt_eq (huOf hr) (de_var 3) de_int)
  (dss_one (ds_ret (de_rev (de_var 2))))
  dss_nil)
  (dss_cons (ds_if (dt_eq (huOf hr) (de_var 3) de_int)
  (dss_cons (ds_set (i := 5) sc__law_order.nd (de_fn o__law_take hr tk (da_cons (de_var 0) (da_cons (de_var 1) da_nil))))
  (dss_one (ds_ret (de_add (de_sl (de_var 2) (do_some (de_var 5)) do_none) (de_sl (de_var 2) do_none (do_some (de_var 5)))))))
  dss_nil)
  (dss_cons (ds_for (tg0 := (.nm 4)) po rfl (di_rng1 (g_15 X0 G0 c) (de_sub (de_var 1) de_int)) (pg_name (i := 4) sc__law_order.nd rfl (by first | exact Or.inl rfl | exact Or.inr rfl))
  (dss_cons (ds_set (i := 6) sc__law_order.nd (de_sub (de_sub (de_var 1) de_int) (de_var 4)))
  (dss_cons (ds_set (i := 7) sc__law_order.nd (de_fn o__law_take hr tk (da_cons (de_var 0) (da_cons (de_add (de_var 6) de_int) da_nil))))
  (dss_cons (ds_set (i := 8) sc__law_order.nd (de_ix (de_var 2) (de_var 6) (fun _ _ => rfl)))
  (dss_cons (ds_store (i := 2) (de_ix (de_var 2) (de_var 7) (fun _ _ => rfl)) (de_var 6))
  (dss_one (ds_store (i := 2) (de_var 8) (de_var 7))))))))
  (dss_one (ds_retO 2))))))))
theorem sc__law_power : FnScope ["base", "e", "number", "k"] ["base", "e"] (defScope (top 34)) := ⟨rfl, rfl, rfl, by decide +kernel, rfl, by decide +kernel, by decide +kernel⟩
theorem w__law_power (X0 : K.In base) (G0 : base.Ns mainGlobals mg) (c : SaysR fa fn K) : BodyOk P w K mg base ["base", "e", "number", "k"] "_law_power" (top 34) 0 (d__law_power K) := by
  intro f cdv A outer s H E hr tk po
  unfold d__law_power
  exact (dss_cons (ds_set (i := 2) sc__law_power.nd de_int)
  (dss_cons (ds_for (tg0 := (.nm 3)) po rfl (di_rng1 (g_15 X0 G0 c) (de_var 1)) (pg_name (i := 3) sc__law_power.nd rfl (by first | exact Or.inl rfl | exact Or.inr rfl))
  (dss_one (ds_set (i := 2) sc__law_power.nd (de_mul (de_var 2) (de_var 0)))))
  (dss_one (ds_ret (de_var 2)))))
theorem sc__law_factors : FnScope ["m", "pairs", "rest", "p", "e"] ["m"] (defScope (top 35)) := ⟨rfl, rfl, rfl, by decide +kernel, rfl, by decide +kernel, by decide +kernel⟩
theorem w__law_factors (X0 : K.In base) (G0 : base.Ns mainGlobals mg) (c : SaysR fa fn K) : BodyOk P w K mg base ["m", "pairs", "rest", "p", "e"] "_law_factors" (top 35) 0 (d__law_factors K) := by
  intro f cdv A outer s H E hr tk po
  unfold d__law_factors
  exact (dss_cons (ds_setO (i := 1) sc__law_factors.nd (de_lst da_nil))
  (dss_cons (ds_set (i := 2) sc__law_factors.nd (de_var 0))
  (dss_cons (ds_for (tg0 := (.nm 3)) po rfl (di_lst (de_lst (da_cons de_int (da_cons de_int (da_cons de_int (da_cons de_int (da_cons de_int (da_cons de_int (da_cons de_int (da_cons de_int (da_cons de_int (da_cons de_int (da_cons de_int (da_cons de_int da_nil)))))))))))))) (pg_name (i := 3) sc__law_factors.nd rfl (by first | exact Or.inl rfl | exact Or.inr rfl))
  (dss_cons (ds_set (i := 4) sc__law_factors.nd de_int)
  (dss_cons (ds_while po (PW.pt (dw_and (dt_gt (de_var 2) de_int) (dw_and1 (dt_eq (huOf hr) (de_mod (de_t1 call_int1 (by decide +kernel) o1_int (g_0 X0 G0 c) (de_var 2)) (de_var 3)) de_int))))
  (dss_cons (ds_set (i := 2) sc__law_factors.nd (de_div (de_var 2) (de_var 3)))
  (dss_one (ds_set (i := 4) sc__law_factors.nd (de_add (de_var 4) de_int)))))
  (dss_one (ds_if (dt_gt (de_var 4) de_int)
  (dss_one (ds_app (i := 1) (de_tup (da_cons (de_var 3) (da_cons (de_var 4) da_nil))) (hcall := pe_bm PySem.F.plainAttrs_list PySem.F.slot_list_append PySem.F.type_list_append mt_append)))
  dss_nil)))))
  (dss_one (ds_retO 1)))))
theorem sc__law_divisors : FnScope ["m", "found", "p", "e", "size", "more", "k", "number"] ["m"] (defScope (top 36)) := ⟨rfl, rfl, rfl, by decide +kernel, rfl, by decide +kernel, by decide +kernel⟩
theorem w__law_divisors (X0 : K.In base) (G0 : base.Ns mainGlobals mg) (c : SaysR fa fn K) (o__law_factors : Ok P w K mg base 1 "_law_factors" 1 (sp__law_factors K)) : BodyOk P w K mg base ["m", "found", "p", "e", "size", "more", "k", "number"] "_law_divisors" (top 36) 1 (d__law_divisors K) := by
  intro f cdv A outer s H E hr tk po
  unfold d__law_divisors
  exact (dss_cons (ds_set (i := 1) sc__law_divisors.nd (de_lst (da_cons de_int da_nil)))
  (dss_cons (ds_for (tg0 := (.tp [2, 3])) po rfl (di_lst (de_fn o__law_factors hr tk (da_cons (de_var 0) da_nil))) (pg_tup rfl (pgs_cons (pg_name (i := 2) sc__law_divisors.nd rfl (by first | exact Or.inl rfl | exact Or.inr rfl)) (pgs_cons (pg_name (i := 3) sc__law_divisors.nd rfl (by first | exact Or.inl rfl | exact Or.inr rfl)) pgs_nil)))
  (dss_cons (ds_set (i := 4) sc__law_divisors.nd de_int)
  (dss_cons (ds_set (i := 5) sc__law_divisors.nd (de_lst da_nil))
  (dss_cons (ds_for (tg0 := (.nm 6)) po rfl (di_rng1 (g_15 X0 G0 c) (de_add (de_var 3) de_int)) (pg_name (i := 6) sc__law_divisors.nd rfl (by first | exact Or.inl rfl | exact Or.inr rfl))
  (dss_cons (ds_set (i := 5) sc__law_divisors.nd (de_add (de_var 5) (de_lc (tg0 := (.nm 7)) (own := [("number", 7)]) (by decide) rfl sc__law_divisors.nd (lIV_of (di_lst (de_var 1))) (show BlkOk ["m", "found", "p", "e", "size", "more", "k", "number"] (defScope (top 36)) _ _ from ⟨rfl, by decide +kernel, by decide +kernel, by decide +kernel, by decide +kernel⟩) (fun _ _ _ _ _ => (pg_name (i := 7) sc__law_divisors.nd rfl (by first | exact Or.inl rfl | exact Or.inr rfl))) (fun _ _ _ _ _ => dts_nil) (fun _ _ _ _ _ => (de_mul (de_var 7) (de_var 4))))))
  (dss_one (ds_set (i := 4) sc__law_divisors.nd (de_mul (de_var 4) (de_var 2))))))
  (dss_one (ds_set (i := 1) sc__law_divisors.nd (de_var 5)))))))
  (dss_one (ds_ret (de_b1 cr_sortedI (by decide +kernel) o1_sorted (g_19 X0 G0 c) (de_var 1))))))
theorem sc__law_modulus : FnScope ["store", "high", "primes", "left", "number", "k", "sharp", "near", "i"] ["store", "high"] (defScope (top 37)) := ⟨rfl, rfl, rfl, by decide +kernel, rfl, by decide +kernel, by decide +kernel⟩
theorem w__law_modulus (X0 : K.In base) (G0 : base.Ns mainGlobals mg) (c : SaysR fa fn K) (o__law_take : Ok P w K mg base 2 "_law_take" 2 spTake) (o__law_seldom : Ok P w K mg base 3 "_law_seldom" 2 (sp__law_seldom K)) (o__law_pick : Ok P w K mg base 3 "_law_pick" 2 (sp__law_pick K)) : BodyOk P w K mg base ["store", "high", "primes", "left", "number", "k", "sharp", "near", "i"] "_law_modulus" (top 37) 3 (d__law_modulus K) := by
  intro f cdv A outer s H E hr tk po
  unfold d__law_modulus
  exact (dss_cons (ds_if (dt_val (de_fn o__law_seldom hr tk (da_cons (de_var 0) (da_cons de_int da_nil))))
  (dss_cons (ds_set (i := 6) sc__law_modulus.nd (de_lst (da_cons de_int (da_cons de_int (da_cons de_int (da_cons de_int (da_cons de_int (da_cons de_int (da_cons de_int (da_cons de_int (da_cons de_int (da_cons de_int (da_cons de_int (da_cons de_int (da_cons de_int (da_cons de_int (da_cons de_int (da_cons de_int (da_cons de_int (da_cons de_int (da_cons de_int (da_cons de_int (da_cons de_int (da_cons de_int (da_cons de_int (da_cons de_int (da_cons de_int (da_cons de_int (da_cons de_int da_nil)))))))))))))))))))))))))))))
  (dss_cons (ds_set (i := 6) sc__law_modulus.nd (de_add (de_var 6) (de_lst (da_cons de_int (da_cons de_int (da_cons de_int (da_cons de_int (da_cons de_int (da_cons de_int (da_cons de_int (da_cons de_int (da_cons de_int (da_cons de_int (da_cons de_int (da_cons de_int (da_cons de_int (da_cons de_int (da_cons de_int (da_cons de_int (da_cons de_int (da_cons de_int (da_cons de_int da_nil))))))))))))))))))))))
  (dss_cons (ds_set (i := 6) sc__law_modulus.nd (de_add (de_var 6) (de_lst (da_cons de_int (da_cons de_int (da_cons de_int (da_cons de_int (da_cons de_int (da_cons de_int (da_cons de_int (da_cons de_int (da_cons de_int (da_cons de_int (da_cons de_int (da_cons de_int da_nil)))))))))))))))
  (dss_cons (ds_set (i := 6) sc__law_modulus.nd (de_add (de_var 6) (de_lst (da_cons de_int (da_cons de_int (da_cons de_int da_nil))))))
  (dss_cons (ds_setLc (i := 7) (tg0 := (.nm 4)) (own := [("number", 4)]) (by decide) rfl sc__law_modulus.nd rfl (lIV_of (di_lst (de_var 6))) (show BlkOk ["store", "high", "primes", "left", "number", "k", "sharp", "near", "i"] (defScope (top 37)) _ _ from ⟨rfl, by decide +kernel, by decide +kernel, by decide +kernel, by decide +kernel⟩) (fun _ _ _ _ _ => (pg_name (i := 4) sc__law_modulus.nd rfl (by first | exact Or.inl rfl | exact Or.inr rfl))) (fun _ _ _ _ _ => (dts_one (dt_le (de_var 4) (de_var 1)))) (fun _ _ _ _ _ => (de_var 4)))
  (dss_one (ds_ret (de_fn o__law_pick hr tk (da_cons (de_var 0) (da_cons (de_var 7) da_nil))))))))))
  dss_nil)
  (dss_cons (ds_set (i := 2) sc__law_modulus.nd (de_lst (da_cons de_int (da_cons de_int (da_cons de_int (da_cons de_int (da_cons de_int (da_cons de_int (da_cons de_int (da_cons de_int (da_cons de_int (da_cons de_int (da_cons de_int (da_cons de_int da_nil))))))))))))))
  (dss_cons (ds_setO (i := 3) sc__law_modulus.nd (de_lst (da_cons de_int (da_cons de_int (da_cons de_int (da_cons de_int (da_cons de_int (da_cons de_int (da_cons de_int (da_cons de_int (da_cons de_int (da_cons de_int (da_cons de_int (da_cons de_int da_nil))))))))))))))
  (dss_cons (ds_set (i := 4) sc__law_modulus.nd de_int)
  (dss_cons (ds_for (tg0 := (.nm 5)) po rfl (di_rng1 (g_15 X0 G0 c) (de_add de_int (de_fn o__law_take hr tk (da_cons (de_var 0) (da_cons (de_add de_int (de_mul de_int (de_t1 call_int1 (by decide +kernel) o1_int (g_0 X0 G0 c) (de_gt (de_var 1) de_int)))) da_nil))))) (pg_name (i := 5) sc__law_modulus.nd rfl (by first | exact Or.inl rfl | exact Or.inr rfl))
  (dss_cons (ds_set (i := 8) sc__law_modulus.nd (de_fn o__law_take hr tk (da_cons (de_var 0) (da_cons (de_add de_int (de_fn o__law_take hr tk (da_cons (de_var 0) (da_cons de_int da_nil)))) da_nil))))
  (dss_one (ds_if (PW.pt (dw_and (dt_gt (de_ix (de_var 3) (de_var 8) (fun _ _ => rfl)) de_int) (dw_and1 (dt_le (de_mul (de_var 4) (de_ix (de_var 2) (de_var 8) (fun _ _ => rfl))) (de_var 1)))))
  (dss_cons (ds_set (i := 4) sc__law_modulus.nd (de_mul (de_var 4) (de_ix (de_var 2) (de_var 8) (fun _ _ => rfl))))
  (dss_one (ds_store (i := 3) (de_sub (de_ix (de_var 3) (de_var 8) (fun _ _ => rfl)) de_int) (de_var 8))))
  dss_nil))))
  (dss_one (ds_ret (de_b2 (call_max2 rfl) (by decide +kernel) o2_max (g_18 X0 G0 c) de_int (de_var 4)))))))))
theorem sc__law_divisor : FnScope ["store", "m", "kind", "number", "p", "e"] ["store", "m"] (defScope (top 38)) := ⟨rfl, rfl, rfl, by decide +kernel, rfl, by decide +kernel, by decide +kernel⟩
theorem w__law_divisor (X0 : K.In base) (G0 : base.Ns mainGlobals mg) (c : SaysR fa fn K) (o__law_factors : Ok P w K mg base 1 "_law_factors" 1 (sp__law_factors K)) (o__law_power : Ok P w K mg base 1 "_law_power" 2 (sp__law_power K)) (o__law_whole : Ok P w K mg base 4 "_law_whole" 3 (sp__law_whole K)) (o__law_take : Ok P w K mg base 2 "_law_take" 2 spTake) : BodyOk P w K mg base ["store", "m", "kind", "number", "p", "e"] "_law_divisor" (top 38) 4 (d__law_divisor K) := by
  intro f cdv A outer s H E hr tk po
  unfold d__law_divisor
  exact (dss_cons (ds_set (i := 2) sc__law_divisor.nd (de_fn o__law_take hr tk (da_cons (de_var 0) (da_cons de_int da_nil))))
  (dss_cons (ds_if (dt_eq (huOf hr) (de_var 2) de_int)
  (dss_one (ds_ret de_int))
  dss_nil)
  (dss_cons (ds_if (dt_eq (huOf hr) (de_var 2) de_int)
  (dss_one (ds_ret (de_var 1)))
  dss_nil)
  (dss_cons (ds_set (i := 3) sc__law_divisor.nd de_int)
  (dss_cons (ds_for (tg0 := (.tp [4, 5])) po rfl (di_lst (de_fn o__law_factors hr tk (da_cons (de_var 1) da_nil))) (pg_tup rfl (pgs_cons (pg_name (i := 4) sc__law_divisor.nd rfl (by first | exact Or.inl rfl | exact Or.inr rfl)) (pgs_cons (pg_name (i := 5) sc__law_divisor.nd rfl (by first | exact Or.inl rfl | exact Or.inr rfl)) pgs_nil)))
  (dss_one (ds_set (i := 3) sc__law_divisor.nd (de_mul (de_var 3) (de_fn o__law_power hr tk (da_cons (de_var 4) (da_cons (de_fn o__law_whole hr tk (da_cons (de_var 0) (da_cons de_int (da_cons (de_var 5) da_nil)))) da_nil)))))))
  (dss_one (ds_ret (de_var 3))))))))
theorem sc__law_same : FnScope ["actual", "due", "i", "key"] ["actual", "due"] (defScope (top 39)) := ⟨rfl, rfl, rfl, by decide +kernel, rfl, by decide +kernel, by decide +kernel⟩
theorem w__law_same {k : Nat} {sp__law_same : DSp} (X0 : K.In base) (G0 : base.Ns mainGlobals mg) (c : SaysR fa fn K) (o__law_same : Ok P w K mg base (0 + k) "_law_same" 2 sp__law_same) : BodyOk P w K mg base ["actual", "due", "i", "key"] "_law_same" (top 39) (0 + k) (d__law_same K sp__law_same) := by
  intro f cdv A outer s H E hr tk po
  unfold d__law_same
  exact (dss_cons (ds_if (dt_val (de_isi .bool (by decide +kernel) (g_2 X0 G0 c) (g_1 X0 G0 c) (de_var 1)))
  (dss_one (ds_ret (de_and (de_isi .bool (by decide +kernel) (g_2 X0 G0 c) (g_1 X0 G0 c) (de_var 0)) (de_one (de_eq (huOf hr) (de_var 0) (de_var 1))))))
  dss_nil)
  (dss_cons (ds_if (dt_val (de_isi .int (by decide +kernel) (g_0 X0 G0 c) (g_1 X0 G0 c) (de_var 1)))
  (dss_one (ds_ret (de_and (de_isi .int (by decide +kernel) (g_0 X0 G0 c) (g_1 X0 G0 c) (de_var 0)) (de_and (de_not (de_isi .bool (by decide +kernel) (g_2 X0 G0 c) (g_1 X0 G0 c) (de_var 0))) (de_one (de_eq (huOf hr) (de_var 0) (de_var 1)))))))
  dss_nil)
  (dss_cons (ds_if (dt_val (de_isi .str (by decide +kernel) (g_21 X0 G0 c) (g_1 X0 G0 c) (de_var 1)))
  (dss_one (ds_ret (de_and (de_isi .str (by decide +kernel) (g_21 X0 G0 c) (g_1 X0 G0 c) (de_var 0)) (de_one (de_eq (huOf hr) (de_var 0) (de_var 1))))))
  dss_nil)
  (dss_cons (ds_if (dt_val (de_isi .dict (by decide +kernel) (g_20 X0 G0 c) (g_1 X0 G0 c) (de_var 1)))
  pss_false
  dss_nil)
  (dss_cut (ds_if (dt_val (de_isi .list (by decide +kernel) (g_11 X0 G0 c) (g_1 X0 G0 c) (de_var 1)))
  (dss_one (ds_if (dt_not (dt_val (de_isi .list (by decide +kernel) (g_11 X0 G0 c) (g_1 X0 G0 c) (de_var 0))))
  (dss_one (ds_ret de_bl))
  dss_nil))
  (dss_one (ds_if (dt_val (de_isi .tuple (by decide +kernel) (g_16 X0 G0 c) (g_1 X0 G0 c) (de_var 1)))
  (dss_one (ds_if (dt_not (dt_val (de_isi .tuple (by decide +kernel) (g_16 X0 G0 c) (g_1 X0 G0 c) (de_var 0))))
  (dss_one (ds_ret de_bl))
  dss_nil))
  (dss_one (ds_ret (de_and (de_isN (de_var 1) de_non) (de_one (de_isN (de_var 0) de_non))))))))
  (dss_cons (ds_if (dt_ne (huOf hr) (de_b1 call_len (by decide +kernel) o1_len (g_12 X0 G0 c) (de_var 0)) (de_b1 call_len (by decide +kernel) o1_len (g_12 X0 G0 c) (de_var 1)))
  (dss_one (ds_ret de_bl))
  dss_nil)
  (dss_cons (ds_for (tg0 := (.nm 2)) po rfl (di_rng1 (g_15 X0 G0 c) (de_b1 call_len (by decide +kernel) o1_len (g_12 X0 G0 c) (de_var 1))) (pg_name (i := 2) sc__law_same.nd rfl (by first | exact Or.inl rfl | exact Or.inr rfl))
  (dss_one (ds_if (dt_not (dt_val (de_fn o__law_same hr tk (da_cons (de_ix (de_var 0) (de_var 2) (fun _ _ => rfl)) (da_cons (de_ix (de_var 1) (de_var 2) (fun _ _ => rfl)) da_nil)) (Nat.le_refl _))))
  (dss_one (ds_ret de_bl))
  dss_nil)))
  (dss_one (ds_ret de_bl)))))))))
theorem sc__law_copy : FnScope ["thing", "deep", "one"] ["thing", "deep"] (defScope (top 40)) := ⟨rfl, rfl, rfl, by decide +kernel, rfl, by decide +kernel, by decide +kernel⟩
theorem w__law_copy {k : Nat} {sp__law_copy : DSp} (X0 : K.In base) (G0 : base.Ns mainGlobals mg) (c : SaysR fa fn K) (o__law_copy : Ok P w K mg base (0 + k) "_law_copy" 2 sp__law_copy) : BodyOk P w K mg base ["thing", "deep", "one"] "_law_copy" (top 40) (0 + k) (d__law_copy K sp__law_copy) := by
  intro f cdv A outer s H E hr tk po
  unfold d__law_copy
  exact (dss_cons (ds_if (PW.pt (dw_and (dt_val (de_isi .list (by decide +kernel) (g_11 X0 G0 c) (g_1 X0 G0 c) (de_var 0))) (dw_and1 (dt_gt (de_var 1) de_int))))
  (dss_one (ds_ret (de_lc (tg0 := (.nm 2)) (own := [("one", 2)]) (by decide) rfl sc__law_copy.nd (lIV_of (di_lst (de_var 0))) (show BlkOk ["thing", "deep", "one"] (defScope (top 40)) _ _ from ⟨rfl, by decide +kernel, by decide +kernel, by decide +kernel, by decide +kernel⟩) (fun _ _ _ _ _ => (pg_name (i := 2) sc__law_copy.nd rfl (by first | exact Or.inl rfl | exact Or.inr rfl))) (fun _ _ _ _ _ => dts_nil) (fun _ _ _ _ _ => (de_fn o__law_copy hr takes0 (da_cons (de_var 2) (da_cons (de_sub (de_var 1) de_int) da_nil)) (Nat.le_refl _))))))
  dss_nil)
  (dss_cons (ds_if (PW.pt (dw_and (dt_val (de_isi .tuple (by decide +kernel) (g_16 X0 G0 c) (g_1 X0 G0 c) (de_var 0))) (dw_and1 (dt_gt (de_var 1) de_int))))
  (dss_one (ds_ret (de_t1 call_tuple_of (by decide +kernel) o1_tuple (g_16 X0 G0 c) (de_lc (tg0 := (.nm 2)) (own := [("one", 2)]) (by decide) rfl sc__law_copy.nd (lIV_of (di_tup (de_var 0))) (show BlkOk ["thing", "deep", "one"] (defScope (top 40)) _ _ from ⟨rfl, by decide +kernel, by decide +kernel, by decide +kernel, by decide +kernel⟩) (fun _ _ _ _ _ => (pg_name (i := 2) sc__law_copy.nd rfl (by first | exact Or.inl rfl | exact Or.inr rfl))) (fun _ _ _ _ _ => dts_nil) (fun _ _ _ _ _ => (de_fn o__law_copy hr takes0 (da_cons (de_var 2) (da_cons (de_sub (de_var 1) de_int) da_nil)) (Nat.le_refl _)))))))
  dss_nil)
  (dss_one (ds_ret (de_var 0)))))
theorem sc__law_within : FnScope ["thing", "low", "high"] ["thing", "low", "high"] (defScope (top 41)) := ⟨rfl, rfl, rfl, by decide +kernel, rfl, by decide +kernel, by decide +kernel⟩
theorem w__law_within (X0 : K.In base) (G0 : base.Ns mainGlobals mg) (c : SaysR fa fn K) : BodyOk P w K mg base ["thing", "low", "high"] "_law_within" (top 41) 0 (d__law_within K) := by
  intro f cdv A outer s H E hr tk po
  unfold d__law_within
  exact (dss_one (ds_ret (de_and (de_isi .int (by decide +kernel) (g_0 X0 G0 c) (g_1 X0 G0 c) (de_var 0)) (de_and (de_not (de_isi .bool (by decide +kernel) (g_2 X0 G0 c) (g_1 X0 G0 c) (de_var 0))) (de_one (de_lele (de_var 1) (de_var 0) (de_var 2)))))))
theorem sc__law_kindbent : FnScope ["store", "paper", "deep", "entries", "at"] ["store", "paper", "deep"] (defScope (top 42)) := ⟨rfl, rfl, rfl, by decide +kernel, rfl, by decide +kernel, by decide +kernel⟩
theorem w__law_kindbent {k : Nat} {sp__law_kindbent : DSp} (X0 : K.In base) (G0 : base.Ns mainGlobals mg) (c : SaysR fa fn K) (o__law_pick : Ok P w K mg base 3 "_law_pick" 2 (sp__law_pick K)) (o__law_take : Ok P w K mg base 2 "_law_take" 2 spTake) (o__law_kindbent : Ok P w K mg base (3 + k) "_law_kindbent" 3 sp__law_kindbent) : BodyOk P w K mg base ["store", "paper", "deep", "entries", "at"] "_law_kindbent" (top 42) (3 + k) (d__law_kindbent K sp__law_kindbent) := by
  intro f cdv A outer s H E hr tk po
  unfold d__law_kindbent
  exact (dss_cons (ds_if (dt_val (de_isi2 .list .tuple (by decide +kernel) (by decide +kernel) (g_11 X0 G0 c) (g_16 X0 G0 c) (g_1 X0 G0 c) (de_var 1)))
  (dss_cons (ds_setO (i := 3) sc__law_kindbent.nd (de_t1 call_list_of (by decide +kernel) o1_list (g_11 X0 G0 c) (de_var 1)))
  (dss_cons (ds_if (PW.pt (dw_and (dt_gt (de_var 2) de_int) (dw_and (dt_gt (de_b1 call_len (by decide +kernel) o1_len (g_12 X0 G0 c) (de_var 1)) de_int) (dw_and1 (dt_gt (de_fn o__law_take hr tk (da_cons (de_var 0) (da_cons de_int da_nil)) (by omega)) de_int)))))
  (dss_cons (ds_set (i := 4) sc__law_kindbent.nd (de_fn o__law_take hr tk (da_cons (de_var 0) (da_cons (de_b1 call_len (by decide +kernel) o1_len (g_12 X0 G0 c) (de_var 1)) da_nil)) (by omega)))
  (dss_cons (ds_store (i := 3) (de_fn o__law_kindbent hr tk (da_cons (de_var 0) (da_cons (de_ix (de_var 3) (de_var 4) (fun _ _ => rfl)) (da_cons (de_sub (de_var 2) de_int) da_nil))) (Nat.le_refl _)) (de_var 4))
  (dss_cons (ds_if (dt_val (de_isi .tuple (by decide +kernel) (g_16 X0 G0 c) (g_1 X0 G0 c) (de_var 1)))
  (dss_one (ds_ret (de_t1 call_tuple_of (by decide +kernel) o1_tuple (g_16 X0 G0 c) (de_var 3))))
  dss_nil)
  (dss_one (ds_retO 3)))))
  dss_nil)
  (dss_cons (ds_if (dt_val (de_isi .tuple (by decide +kernel) (g_16 X0 G0 c) (g_1 X0 G0 c) (de_var 1)))
  (dss_one (ds_retO 3))
  dss_nil)
  (dss_one (ds_ret (de_t1 call_tuple_of (by decide +kernel) o1_tuple (g_16 X0 G0 c) (de_var 3)))))))
  dss_nil)
  (dss_cons (ds_if (PW.pt (dw_and (dt_val (de_isi .int (by decide +kernel) (g_0 X0 G0 c) (g_1 X0 G0 c) (de_var 1))) (dw_and1 (dt_not (dt_val (de_isi .bool (by decide +kernel) (g_2 X0 G0 c) (g_1 X0 G0 c) (de_var 1)))))))
  (dss_one (ds_ret (de_fn o__law_pick hr tk (da_cons (de_var 0) (da_cons (de_lst (da_cons (de_t1 call_bool1 (by decide +kernel) o1_bool (g_2 X0 G0 c) (de_ne (huOf hr) (de_var 1) de_int)) (da_cons (de_t1 call_bool1 (by decide +kernel) o1_bool (g_2 X0 G0 c) (de_ne (huOf hr) (de_var 1) de_int)) (da_cons de_non (da_cons de_str (da_cons (de_lst (da_cons (de_var 1) da_nil)) (da_cons (de_tup (da_cons (de_var 1) da_nil)) da_nil))))))) da_nil)) (by omega))))
  dss_nil)
  (dss_one (ds_ret de_int))))
theorem sc__law_oddpaper : FnScope ["store", "plain", "kind", "thing", "k", "other", "third"] ["store"] (defScope (top 43)) := ⟨rfl, rfl, rfl, by decide +kernel, rfl, by decide +kernel, by decide +kernel⟩
theorem w__law_oddpaper (X0 : K.In base) (G0 : base.Ns mainGlobals mg) (c : SaysR fa fn K) (o__law_take : Ok P w K mg base 2 "_law_take" 2 spTake) (o__law_seldom : Ok P w K mg base 3 "_law_seldom" 2 (sp__law_seldom K)) (o__law_pick : Ok P w K mg base 3 "_law_pick" 2 (sp__law_pick K)) : BodyOk P w K mg base ["store", "plain", "kind", "thing", "k", "other", "third"] "_law_oddpaper" (top 43) 3 (d__law_oddpaper K) := by
  intro f cdv A outer s H E hr tk po
  unfold d__law_oddpaper
  exact (dss_cons (ds_set (i := 1) sc__law_oddpaper.nd (de_lst (da_cons de_non (da_cons de_bl (da_cons de_bl (da_cons de_int (da_cons de_int (da_cons (de_neg de_int) (da_cons de_int (da_cons (de_pow (de_pow de_int de_int) de_int) (da_cons de_str (da_cons de_str (da_cons de_str (da_cons de_str (da_cons de_str (da_cons (de_lst da_nil) (da_cons (de_tup da_nil) da_nil)))))))))))))))))
  (dss_cons (ds_set (i := 1) sc__law_oddpaper.nd (de_add (de_var 1) (de_lst (da_cons (de_lst (da_cons (de_lst da_nil) da_nil)) (da_cons (de_tup (da_cons (de_tup da_nil) da_nil)) (da_cons (de_lst (da_cons (de_tup da_nil) da_nil)) (da_cons (de_tup (da_cons (de_lst da_nil) da_nil)) da_nil)))))))
  (dss_cons (ds_set (i := 2) sc__law_oddpaper.nd (de_fn o__law_take hr tk (da_cons (de_var 0) (da_cons de_int da_nil))))
  (dss_cons (ds_set (i := 3) sc__law_oddpaper.nd (de_fn o__law_pick hr tk (da_cons (de_var 0) (da_cons (de_var 1) da_nil))))
  (dss_cons (ds_if (dt_lt (de_var 2) de_int)
  (dss_one (ds_ret (de_var 3)))
  dss_nil)
  (dss_cons (ds_if (dt_eq (huOf hr) (de_var 2) de_int)
  (dss_cons (ds_set (i := 5) sc__law_oddpaper.nd (de_fn o__law_pick hr tk (da_cons (de_var 0) (da_cons (de_var 1) da_nil))))
  (dss_cons (ds_set (i := 6) sc__law_oddpaper.nd (de_fn o__law_pick hr tk (da_cons (de_var 0) (da_cons (de_var 1) da_nil))))
  (dss_one (ds_ret (de_fn o__law_pick hr tk (da_cons (de_var 0) (da_cons (de_lst (da_cons (de_lst (da_cons (de_var 3) (da_cons (de_var 5) da_nil))) (da_cons (de_tup (da_cons (de_var 3) (da_cons (de_var 5) da_nil))) (da_cons (de_tup (da_cons (de_var 3) (da_cons (de_var 5) (da_cons (de_var 6) da_nil)))) (da_cons (de_lst (da_cons (de_tup (da_cons (de_var 3) (da_cons (de_var 5) (da_cons (de_var 6) (da_cons de_int da_nil))))) da_nil)) da_nil))))) da_nil)))))))
  dss_nil)
  (dss_cons (ds_for (tg0 := (.nm 4)) po rfl (di_rng1 (g_15 X0 G0 c) (de_fn o__law_take hr tk (da_cons (de_var 0) (da_cons de_int da_nil)))) (pg_name (i := 4) sc__law_oddpaper.nd rfl (by first | exact Or.inl rfl | exact Or.inr rfl))
  (dss_one (ds_if (dt_val (de_fn o__law_seldom hr tk (da_cons (de_var 0) (da_cons de_int da_nil))))
  (dss_one (ds_set (i := 3) sc__law_oddpaper.nd (de_lst (da_cons (de_var 3) da_nil))))
  (dss_one (ds_set (i := 3) sc__law_oddpaper.nd (de_tup (da_cons (de_var 3) da_nil)))))))
  (dss_one (ds_ret (de_var 3))))))))))
theorem sc__law_badlist : FnScope ["store", "good", "least", "most", "low", "high", "near", "at", "entry"] ["store", "good", "least", "most", "low", "high"] (defScope (top 44)) := ⟨rfl, rfl, rfl, by decide +kernel, rfl, by decide +kernel, by decide +kernel⟩
theorem w__law_badlist (X0 : K.In base) (G0 : base.Ns mainGlobals mg) (c : SaysR fa fn K) (o__law_pick : Ok P w K mg base 3 "_law_pick" 2 (sp__law_pick K)) (o__law_take : Ok P w K mg base 2 "_law_take" 2 spTake) : BodyOk P w K mg base ["store", "good", "least", "most", "low", "high", "near", "at", "entry"] "_law_badlist" (top 44) 3 (d__law_badlist K) := by
  intro f cdv A outer s H E hr tk po
  unfold d__law_badlist
  exact (dss_cons (ds_setO (i := 6) sc__law_badlist.nd (de_lst (da_cons (de_t1 call_tuple_of (by decide +kernel) o1_tuple (g_16 X0 G0 c) (de_var 1)) (da_cons de_non (da_cons de_int (da_cons de_str (da_cons de_str (da_cons (de_tup da_nil) (da_cons (de_add (de_var 1) (de_lst (da_cons de_non da_nil))) (da_cons (de_add (de_var 1) (de_lst (da_cons de_bl da_nil))) (da_cons (de_add (de_var 1) (de_lst (da_cons de_str da_nil))) (da_cons (de_add (de_var 1) (de_lst (da_cons (de_lst (da_cons de_int da_nil)) da_nil))) da_nil))))))))))))
  (dss_cons (ds_app (i := 6) (de_add (de_var 1) (de_lst (da_cons (de_add (de_var 5) de_int) da_nil))) (hcall := pe_bm PySem.F.plainAttrs_list PySem.F.slot_list_append PySem.F.type_list_append mt_append))
  (dss_cons (ds_setO (i := 6) sc__law_badlist.nd (de_add (de_var 6) (de_lst (da_cons (de_add (de_add (de_mul (de_add (de_var 1) (de_lst (da_cons (de_var 4) da_nil))) (de_add de_int (de_div (de_var 3) (de_add (de_b1 call_len (by decide +kernel) o1_len (g_12 X0 G0 c) (de_var 1)) de_int)))) (de_mul (de_lst (da_cons (de_var 4) da_nil)) (de_var 3))) (de_lst (da_cons (de_var 4) da_nil))) da_nil))))
  (dss_cut (ds_if (dt_gt (de_var 2) de_int)
  (dss_one (ds_setO (i := 6) sc__law_badlist.nd (de_add (de_var 6) (de_lst (da_cons (de_lst da_nil) (da_cons (de_lst da_nil) (da_cons (de_sl (de_var 1) do_none (do_some (de_sub (de_var 2) de_int))) da_nil)))))))
  dss_nil)
  (dss_cut (ds_if (dt_gt (de_b1 call_len (by decide +kernel) o1_len (g_12 X0 G0 c) (de_var 1)) de_int)
  (dss_cons (ds_set (i := 7) sc__law_badlist.nd (de_fn o__law_take hr tk (da_cons (de_var 0) (da_cons (de_b1 call_len (by decide +kernel) o1_len (g_12 X0 G0 c) (de_var 1)) da_nil))))
  (dss_one (ds_for (tg0 := (.nm 8)) po rfl (di_lst (de_lst (da_cons de_bl (da_cons de_bl (da_cons de_non (da_cons de_str (da_cons (de_lst (da_cons (de_var 4) da_nil)) (da_cons (de_tup (da_cons (de_var 4) da_nil)) (da_cons (de_sub (de_var 4) de_int) (da_cons (de_add (de_var 5) de_int) (da_cons (de_add (de_var 5) (de_pow de_int de_int)) da_nil))))))))))) (pg_name (i := 8) sc__law_badlist.nd rfl (by first | exact Or.inl rfl | exact Or.inr rfl))
  (dss_one (ds_app (i := 6) (de_add (de_add (de_sl (de_var 1) do_none (do_some (de_var 7))) (de_lst (da_cons (de_var 8) da_nil))) (de_sl (de_var 1) (do_some (de_add (de_var 7) de_int)) do_none)) (hcall := pe_bm PySem.F.plainAttrs_list PySem.F.slot_list_append PySem.F.type_list_append mt_append))))))
  dss_nil)
  (dss_one (ds_frz (i := 6) (ds_ret (de_fn o__law_pick hr tk (da_cons (de_var 0) (da_cons (de_var 6) da_nil)))))))))))
theorem sc__law_showdraw : FnScope ["store", "m", "period", "kinds", "least", "first", "show", "at", "x"] ["store", "m"] (defScope (top 45)) := ⟨rfl, rfl, rfl, by decide +kernel, rfl, by decide +kernel, by decide +kernel⟩
theorem w__law_showdraw (X0 : K.In base) (G0 : base.Ns mainGlobals mg) (c : SaysR fa fn K) (o__law_seldom : Ok P w K mg base 3 "_law_seldom" 2 (sp__law_seldom K)) (o__law_take : Ok P w K mg base 2 "_law_take" 2 spTake) (o__law_pick : Ok P w K mg base 3 "_law_pick" 2 (sp__law_pick K)) (o__law_divisor : Ok P w K mg base 5 "_law_divisor" 2 (sp__law_divisor K)) : BodyOk P w K mg base ["store", "m", "period", "kinds", "least", "first", "show", "at", "x"] "_law_showdraw" (top 45) 5 (d__law_showdraw K) := by
  intro f cdv A outer s H E hr tk po
  unfold d__law_showdraw
  exact (dss_cons (ds_set (i := 2) sc__law_showdraw.nd (de_fn o__law_divisor hr tk (da_cons (de_var 0) (da_cons (de_var 1) da_nil))))
  (dss_cons (ds_set (i := 3) sc__law_showdraw.nd (de_add de_int (de_fn o__law_take hr tk (da_cons (de_var 0) (da_cons de_int da_nil)))))
  (dss_cons (ds_set (i := 4) sc__law_showdraw.nd (de_fn o__law_pick hr tk (da_cons (de_var 0) (da_cons (de_lst (da_cons de_int (da_cons de_int (da_cons de_int (da_cons (de_neg de_int) (da_cons de_int (da_cons (de_sub (de_pow de_int de_int) de_int) (da_cons (de_sub de_int (de_pow de_int de_int)) da_nil)))))))) da_nil))))
  (dss_cons (ds_set (i := 5) sc__law_showdraw.nd (de_lc (tg0 := (.nm 8)) (own := [("x", 8)]) (by decide) rfl sc__law_showdraw.nd (lIV_of (di_rng1 (g_15 X0 G0 c) (de_var 2))) (show BlkOk ["store", "m", "period", "kinds", "least", "first", "show", "at", "x"] (defScope (top 45)) _ _ from ⟨rfl, by decide +kernel, by decide +kernel, by decide +kernel, by decide +kernel⟩) (fun _ _ _ _ _ => (pg_name (i := 8) sc__law_showdraw.nd rfl (by first | exact Or.inl rfl | exact Or.inr rfl))) (fun _ _ _ _ _ => dts_nil) (fun _ _ _ _ _ => (de_add (de_var 4) (de_fn o__law_take hr takes0 (da_cons (de_var 0) (da_cons (de_var 3) da_nil)))))))
  (dss_cons (ds_setLcO (i := 6) (tg0 := (.nm 8)) (own := [("x", 8)]) (by decide) rfl sc__law_showdraw.nd rfl (lIV_of (di_rng1 (g_15 X0 G0 c) (de_var 1))) (show BlkOk ["store", "m", "period", "kinds", "least", "first", "show", "at", "x"] (defScope (top 45)) _ _ from ⟨rfl, by decide +kernel, by decide +kernel, by decide +kernel, by decide +kernel⟩) (fun _ _ _ _ _ => (pg_name (i := 8) sc__law_showdraw.nd rfl (by first | exact Or.inl rfl | exact Or.inr rfl))) (fun _ _ _ _ _ => dts_nil) (fun _ _ _ _ _ => (de_ix (de_var 5) (de_mod (de_var 8) (de_var 2)) (fun _ _ => rfl))))
  (dss_cut (ds_if (dt_val (de_fn o__law_seldom hr tk (da_cons (de_var 0) (da_cons de_int da_nil))))
  (dss_cons (ds_set (i := 7) sc__law_showdraw.nd (de_fn o__law_take hr tk (da_cons (de_var 0) (da_cons (de_var 1) da_nil))))
  (dss_one (ds_store (i := 6) (de_add (de_ix (de_var 6) (de_var 7) (fun _ _ => rfl)) de_int) (de_var 7))))
  dss_nil)
  (dss_one (ds_retO 6))))))))
theorem sc__law_period : FnScope ["m", "show", "period"] ["m", "show"] (defScope (top 46)) := ⟨rfl, rfl, rfl, by decide +kernel, rfl, by decide +kernel, by decide +kernel⟩
theorem w__law_period (X0 : K.In base) (G0 : base.Ns mainGlobals mg) (c : SaysR fa fn K) (o__law_divisors : Ok P w K mg base 2 "_law_divisors" 1 (sp__law_divisors K)) : BodyOk P w K mg base ["m", "show", "period"] "_law_period" (top 46) 2 (d__law_period K) := by
  intro f cdv A outer s H E hr tk po
  unfold d__law_period
  exact (dss_cons (ds_for (tg0 := (.nm 2)) po rfl (di_lst (de_fn o__law_divisors hr tk (da_cons (de_var 0) da_nil))) (pg_name (i := 2) sc__law_period.nd rfl (by first | exact Or.inl rfl | exact Or.inr rfl))
  (dss_one (ds_if (dt_eq (huOf hr) (de_var 1) (de_mul (de_sl (de_var 1) do_none (do_some (de_var 2))) (de_div (de_var 0) (de_var 2))))
  (dss_one (ds_ret (de_var 2)))
  dss_nil)))
  (dss_one (ds_ret (de_var 0))))
theorem sc__law_primes : FnScope ["number", "found", "p", "one"] ["number"] (defScope (top 47)) := ⟨rfl, rfl, rfl, by decide +kernel, rfl, by decide +kernel, by decide +kernel⟩
theorem w__law_primes (X0 : K.In base) (G0 : base.Ns mainGlobals mg) (c : SaysR fa fn K) : BodyOk P w K mg base ["number", "found", "p", "one"] "_law_primes" (top 47) 0 (d__law_primes K) := by
  intro f cdv A outer s H E hr tk po
  unfold d__law_primes
  exact (dss_cons (ds_setO (i := 1) sc__law_primes.nd (de_lst da_nil))
  (dss_cons (ds_for (tg0 := (.nm 2)) po rfl (di_rng2 (g_15 X0 G0 c) de_int (de_add (de_var 0) de_int)) (pg_name (i := 2) sc__law_primes.nd rfl (by first | exact Or.inl rfl | exact Or.inr rfl))
  (dss_one (ds_if (PW.pt (dw_and (dt_eq (huOf hr) (de_mod (de_t1 call_int1 (by decide +kernel) o1_int (g_0 X0 G0 c) (de_var 0)) (de_var 2)) de_int) (dw_and1 (dt_eq (huOf hr) (de_b1 call_len (by decide +kernel) o1_len (g_12 X0 G0 c) (de_lc (tg0 := (.nm 3)) (own := [("one", 3)]) (by decide) rfl sc__law_primes.nd (di_view 1) (show BlkOk ["number", "found", "p", "one"] (defScope (top 47)) _ _ from ⟨rfl, by decide +kernel, by decide +kernel, by decide +kernel, by decide +kernel⟩) (fun _ _ _ _ _ => (pg_name (i := 3) sc__law_primes.nd rfl (by first | exact Or.inl rfl | exact Or.inr rfl))) (fun _ _ _ _ _ => (dts_one (dt_eq (huOf hr) (de_mod (de_t1 call_int1 (by decide +kernel) o1_int (g_0 X0 G0 c) (de_var 2)) (de_var 3)) de_int))) (fun _ _ _ _ _ => (de_var 3)))) de_int))))
  (dss_one (ds_app (i := 1) (de_var 2) (hcall := pe_bm PySem.F.plainAttrs_list PySem.F.slot_list_append PySem.F.type_list_append mt_append)))
  dss_nil)))
  (dss_one (ds_retO 1))))
theorem sc__law_parts : FnScope ["m", "show", "period", "p", "entry"] ["m", "show", "period", "p", "entry"] (defScope (top 48)) := ⟨rfl, rfl, rfl, by decide +kernel, rfl, by decide +kernel, by decide +kernel⟩
theorem w__law_parts (X0 : K.In base) (G0 : base.Ns mainGlobals mg) (c : SaysR fa fn K) (o__law_within : Ok P w K mg base 1 "_law_within" 3 (sp__law_within K)) : BodyOk P w K mg base ["m", "show", "period", "p", "entry"] "_law_parts" (top 48) 1 (d__law_parts K) := by
  intro f cdv A outer s H E hr tk po
  unfold d__law_parts
  exact (dss_cons (ds_if (PW.pt (dw_or (dt_not (dt_val (de_isi .tuple (by decide +kernel) (g_16 X0 G0 c) (g_1 X0 G0 c) (de_var 4)))) (dw_or1 (dt_ne (huOf hr) (de_b1 call_len (by decide +kernel) o1_len (g_12 X0 G0 c) (de_var 4)) de_int))))
  (dss_one (ds_ret de_bl))
  dss_nil)
  (dss_cons (ds_if (PW.pt (dw_or (dt_not (dt_val (de_fn o__law_within hr tk (da_cons (de_ix (de_var 4) de_int (fun _ _ => rfl)) (da_cons (de_var 3) (da_cons (de_var 3) da_nil)))))) (dw_or1 (dt_not (dt_val (de_fn o__law_within hr tk (da_cons (de_ix (de_var 4) de_int (fun _ _ => rfl)) (da_cons de_int (da_cons (de_sub (de_var 0) de_int) da_nil)))))))))
  (dss_one (ds_ret de_bl))
  dss_nil)
  (dss_cons (ds_if (dt_not (dt_val (de_fn o__law_within hr tk (da_cons (de_ix (de_var 4) de_int (fun _ _ => rfl)) (da_cons de_int (da_cons (de_sub (de_ix (de_var 4) de_int (fun _ _ => rfl)) de_int) da_nil))))))
  (dss_one (ds_ret de_bl))
  dss_nil)
  (dss_one (ds_ret (de_and (de_eq (huOf hr) (de_mod (de_t1 call_int1 (by decide +kernel) o1_int (g_0 X0 G0 c) (de_sub (de_ix (de_var 4) de_int (fun _ _ => rfl)) (de_ix (de_var 4) de_int (fun _ _ => rfl)))) (de_div (de_var 2) (de_var 3))) de_int) (de_one (de_ne (huOf hr) (de_ix (de_var 1) (de_ix (de_var 4) de_int (fun _ _ => rfl)) (fun _ _ => rfl)) (de_ix (de_var 1) (de_ix (de_var 4) de_int (fun _ _ => rfl)) (fun _ _ => rfl))))))))))
theorem sc__law_proves : FnScope ["m", "show", "period", "pairs", "primes", "i"] ["m", "show", "period", "pairs"] (defScope (top 49)) := ⟨rfl, rfl, rfl, by decide +kernel, rfl, by decide +kernel, by decide +kernel⟩
theorem w__law_proves (X0 : K.In base) (G0 : base.Ns mainGlobals mg) (c : SaysR fa fn K) (o__law_parts : Ok P w K mg base 2 "_law_parts" 5 (sp__law_parts K)) (o__law_primes : Ok P w K mg base 1 "_law_primes" 1 (sp__law_primes K)) (o__law_within : Ok P w K mg base 1 "_law_within" 3 (sp__law_within K)) : BodyOk P w K mg base ["m", "show", "period", "pairs", "primes", "i"] "_law_proves" (top 49) 2 (d__law_proves K) := by
  intro f cdv A outer s H E hr tk po
  unfold d__law_proves
  exact (dss_cons (ds_if (PW.pt (dw_or (dt_not (dt_val (de_fn o__law_within hr tk (da_cons (de_var 2) (da_cons de_int (da_cons (de_var 0) da_nil)))))) (dw_or (dt_ne (huOf hr) (de_mod (de_t1 call_int1 (by decide +kernel) o1_int (g_0 X0 G0 c) (de_var 0)) (de_var 2)) de_int) (dw_or1 (dt_ne (huOf hr) (de_var 1) (de_mul (de_sl (de_var 1) do_none (do_some (de_var 2))) (de_div (de_var 0) (de_var 2))))))))
  (dss_one (ds_ret de_bl))
  dss_nil)
  (dss_cons (ds_set (i := 4) sc__law_proves.nd (de_fn o__law_primes hr tk (da_cons (de_var 2) da_nil)))
  (dss_cons (ds_if (PW.pt (dw_or (dt_not (dt_val (de_isi .list (by decide +kernel) (g_11 X0 G0 c) (g_1 X0 G0 c) (de_var 3)))) (dw_or1 (dt_ne (huOf hr) (de_b1 call_len (by decide +kernel) o1_len (g_12 X0 G0 c) (de_var 3)) (de_b1 call_len (by decide +kernel) o1_len (g_12 X0 G0 c) (de_var 4))))))
  (dss_one (ds_ret de_bl))
  dss_nil)
  (dss_cons (ds_for (tg0 := (.nm 5)) po rfl (di_rng1 (g_15 X0 G0 c) (de_b1 call_len (by decide +kernel) o1_len (g_12 X0 G0 c) (de_var 4))) (pg_name (i := 5) sc__law_proves.nd rfl (by first | exact Or.inl rfl | exact Or.inr rfl))
  (dss_one (ds_if (dt_not (dt_val (de_fn o__law_parts hr tk (da_cons (de_var 0) (da_cons (de_var 1) (da_cons (de_var 2) (da_cons (de_ix (de_var 4) (de_var 5) (fun _ _ => rfl)) (da_cons (de_ix (de_var 3) (de_var 5) (fun _ _ => rfl)) da_nil))))))))
  (dss_one (ds_ret de_bl))
  dss_nil)))
  (dss_one (ds_ret de_bl))))))
theorem sc__law_pairsfor : FnScope ["store", "m", "show", "period", "pairs", "p", "unit", "found", "y", "k", "x"] ["store", "m", "show", "period"] (defScope (top 50)) := ⟨rfl, rfl, rfl, by decide +kernel, rfl, by decide +kernel, by decide +kernel⟩
theorem w__law_pairsfor (X0 : K.In base) (G0 : base.Ns mainGlobals mg) (c : SaysR fa fn K) (o__law_primes : Ok P w K mg base 1 "_law_primes" 1 (sp__law_primes K)) (o__law_take : Ok P w K mg base 2 "_law_take" 2 spTake) : BodyOk P w K mg base ["store", "m", "show", "period", "pairs", "p", "unit", "found", "y", "k", "x"] "_law_pairsfor" (top 50) 2 (d__law_pairsfor K) := by
  intro f cdv A outer s H E hr tk po
  unfold d__law_pairsfor
  exact (dss_cons (ds_setO (i := 4) sc__law_pairsfor.nd (de_lst da_nil))
  (dss_cons (ds_for (tg0 := (.nm 5)) po rfl (di_lst (de_fn o__law_primes hr tk (da_cons (de_var 3) da_nil))) (pg_name (i := 5) sc__law_pairsfor.nd rfl (by first | exact Or.inl rfl | exact Or.inr rfl))
  (dss_cons (ds_set (i := 6) sc__law_pairsfor.nd (de_div (de_var 3) (de_var 5)))
  (dss_cons (ds_set (i := 7) sc__law_pairsfor.nd (de_tup (da_cons (de_var 5) (da_cons de_int (da_cons (de_b2 (call_min2 rfl) (by decide +kernel) o2_min (g_22 X0 G0 c) (de_var 6) (de_sub (de_var 1) de_int)) da_nil)))))
  (dss_cons (ds_for (tg0 := (.nm 8)) po rfl (di_rng1 (g_15 X0 G0 c) (de_var 1)) (pg_name (i := 8) sc__law_pairsfor.nd rfl (by first | exact Or.inl rfl | exact Or.inr rfl))
  (dss_one (ds_if (dt_ne (huOf hr) (de_ix (de_var 2) (de_sub (de_sub (de_var 1) de_int) (de_var 8)) (fun _ _ => rfl)) (de_ix (de_var 2) (de_mod (de_t1 call_int1 (by decide +kernel) o1_int (g_0 X0 G0 c) (de_sub (de_sub (de_var 1) de_int) (de_var 8))) (de_var 6)) (fun _ _ => rfl)))
  (dss_one (ds_set (i := 7) sc__law_pairsfor.nd (de_tup (da_cons (de_var 5) (da_cons (de_mod (de_t1 call_int1 (by decide +kernel) o1_int (g_0 X0 G0 c) (de_sub (de_sub (de_var 1) de_int) (de_var 8))) (de_var 6)) (da_cons (de_sub (de_sub (de_var 1) de_int) (de_var 8)) da_nil))))))
  dss_nil)))
  (dss_cons (ds_for (tg0 := (.nm 9)) po rfl (di_rng1 (g_15 X0 G0 c) de_int) (pg_name (i := 9) sc__law_pairsfor.nd rfl (by first | exact Or.inl rfl | exact Or.inr rfl))
  (dss_cons (ds_set (i := 8) sc__law_pairsfor.nd (de_fn o__law_take hr tk (da_cons (de_var 0) (da_cons (de_var 1) da_nil))))
  (dss_cons (ds_set (i := 10) sc__law_pairsfor.nd (de_add (de_mod (de_t1 call_int1 (by decide +kernel) o1_int (g_0 X0 G0 c) (de_var 8)) (de_var 6)) (de_mul (de_var 6) (de_fn o__law_take hr tk (da_cons (de_var 0) (da_cons (de_add (de_div (de_var 8) (de_var 6)) de_int) da_nil))))))
  (dss_one (ds_if (PW.pt (dw_and (dt_lt (de_var 10) (de_var 8)) (dw_and1 (dt_ne (huOf hr) (de_ix (de_var 2) (de_var 10) (fun _ _ => rfl)) (de_ix (de_var 2) (de_var 8) (fun _ _ => rfl))))))
  (dss_one (ds_set (i := 7) sc__law_pairsfor.nd (de_tup (da_cons (de_var 5) (da_cons (de_var 10) (da_cons (de_var 8) da_nil))))))
  dss_nil)))))
  (dss_one (ds_app (i := 4) (de_var 7) (hcall := pe_bm PySem.F.plainAttrs_list PySem.F.slot_list_append PySem.F.type_list_append mt_append))))))))
  (dss_one (ds_retO 4))))
theorem sc__law_showing : FnScope ["store", "m", "kind", "a", "b", "show", "at", "x"] ["store", "m"] (defScope (top 51)) := ⟨rfl, rfl, rfl, by decide +kernel, rfl, by decide +kernel, by decide +kernel⟩
theorem w__law_showing (X0 : K.In base) (G0 : base.Ns mainGlobals mg) (c : SaysR fa fn K) (o__law_showdraw : Ok P w K mg base 6 "_law_showdraw" 2 (sp__law_showdraw K)) (o__law_take : Ok P w K mg base 2 "_law_take" 2 spTake) (o__law_pick : Ok P w K mg base 3 "_law_pick" 2 (sp__law_pick K)) (o__law_divisor : Ok P w K mg base 5 "_law_divisor" 2 (sp__law_divisor K)) (o__law_order : Ok P w K mg base 3 "_law_order" 2 (sp__law_order K)) : BodyOk P w K mg base ["store", "m", "kind", "a", "b", "show", "at", "x"] "_law_showing" (top 51) 6 (d__law_showing K) := by
  intro f cdv A outer s H E hr tk po
  unfold d__law_showing
  exact (dss_cons (ds_set (i := 2) sc__law_showing.nd (de_fn o__law_take hr tk (da_cons (de_var 0) (da_cons de_int da_nil))))
  (dss_cons (ds_if (dt_eq (huOf hr) (de_var 2) de_int)
  (dss_one (ds_ret (de_fn o__law_order hr tk (da_cons (de_var 0) (da_cons (de_var 1) da_nil)))))
  dss_nil)
  (dss_cons (ds_if (dt_eq (huOf hr) (de_var 2) de_int)
  (dss_cons (ds_set (i := 3) sc__law_showing.nd (de_fn o__law_divisor hr tk (da_cons (de_var 0) (da_cons (de_var 1) da_nil))))
  (dss_cons (ds_set (i := 4) sc__law_showing.nd (de_fn o__law_divisor hr tk (da_cons (de_var 0) (da_cons (de_div (de_var 1) (de_var 3)) da_nil))))
  (dss_one (ds_ret (de_lc (tg0 := (.nm 7)) (own := [("x", 7)]) (by decide) rfl sc__law_showing.nd (lIV_of (di_rng1 (g_15 X0 G0 c) (de_var 1))) (show BlkOk ["store", "m", "kind", "a", "b", "show", "at", "x"] (defScope (top 51)) _ _ from ⟨rfl, by decide +kernel, by decide +kernel, by decide +kernel, by decide +kernel⟩) (fun _ _ _ _ _ => (pg_name (i := 7) sc__law_showing.nd rfl (by first | exact Or.inl rfl | exact Or.inr rfl))) (fun _ _ _ _ _ => dts_nil) (fun _ _ _ _ _ => (de_mod (de_div (de_var 7) (de_var 3)) (de_var 4))))))))
  dss_nil)
  (dss_cons (ds_if (dt_eq (huOf hr) (de_var 2) de_int)
  (dss_cons (ds_setO (i := 5) sc__law_showing.nd (de_mul (de_lst (da_cons (de_fn o__law_pick hr tk (da_cons (de_var 0) (da_cons (de_lst (da_cons de_int (da_cons de_int (da_cons (de_pow de_int de_int) da_nil)))) da_nil))) da_nil)) (de_var 1)))
  (dss_cons (ds_set (i := 6) sc__law_showing.nd (de_fn o__law_take hr tk (da_cons (de_var 0) (da_cons (de_var 1) da_nil))))
  (dss_cons (ds_store (i := 5) (de_sub (de_ix (de_var 5) (de_var 6) (fun _ _ => rfl)) de_int) (de_var 6))
  (dss_one (ds_retO 5)))))
  dss_nil)
  (dss_one (ds_ret (de_fn o__law_showdraw hr tk (da_cons (de_var 0) (da_cons (de_var 1) da_nil)))))))))
theorem sc__law_twist : FnScope ["store", "m", "period", "pairs", "kind", "p", "at", "unit", "near", "odd", "q", "x", "y", "entry", "z"] ["store", "m", "period", "pairs"] (defScope (top 52)) := ⟨rfl, rfl, rfl, by decide +kernel, rfl, by decide +kernel, by decide +kernel⟩
theorem w__law_twist (X0 : K.In base) (G0 : base.Ns mainGlobals mg) (c : SaysR fa fn K) (o__law_pick : Ok P w K mg base 3 "_law_pick" 2 (sp__law_pick K)) (o__law_take : Ok P w K mg base 2 "_law_take" 2 spTake) (o__law_kindbent : Ok P w K mg base 33 "_law_kindbent" 3 (sp__law_kindbent 30)) (o__law_oddpaper : Ok P w K mg base 4 "_law_oddpaper" 1 (sp__law_oddpaper K)) : BodyOk P w K mg base ["store", "m", "period", "pairs", "kind", "p", "at", "unit", "near", "odd", "q", "x", "y", "entry", "z"] "_law_twist" (top 52) 33 (d__law_twist K) := by
  intro f cdv A outer s H E hr tk po
  unfold d__law_twist
  exact (dss_cons (ds_set (i := 4) sc__law_twist.nd (de_fn o__law_take hr tk (da_cons (de_var 0) (da_cons de_int da_nil))))
  (dss_cons (ds_set (i := 5) sc__law_twist.nd (de_fn o__law_pick hr tk (da_cons (de_var 0) (da_cons (de_lst (da_cons de_int (da_cons de_int (da_cons de_int (da_cons de_int da_nil))))) da_nil))))
  (dss_cons (ds_if (dt_eq (huOf hr) (de_var 4) de_int)
  (dss_cons (ds_set (i := 8) sc__law_twist.nd (de_lst (da_cons (de_mul (de_var 2) (de_var 5)) (da_cons (de_b2 (call_max2 rfl) (by decide +kernel) o2_max (g_18 X0 G0 c) de_int (de_div (de_var 2) (de_var 5))) (da_cons (de_sub de_int (de_var 2)) (da_cons de_int (da_cons (de_var 1) (da_cons (de_mul de_int (de_var 1)) (da_cons (de_add (de_var 2) de_int) (da_cons de_int (da_cons de_bl (da_cons de_non (da_cons de_str (da_cons (de_lst (da_cons (de_var 2) da_nil)) da_nil))))))))))))))
  (dss_one (ds_ret (de_tup (da_cons (de_fn o__law_pick hr tk (da_cons (de_var 0) (da_cons (de_var 8) da_nil))) (da_cons (de_var 3) da_nil))))))
  dss_nil)
  (dss_cons (ds_if (dt_eq (huOf hr) (de_var 4) de_int)
  (dss_cons (ds_set (i := 9) sc__law_twist.nd (de_fn o__law_oddpaper hr tk (da_cons (de_var 0) da_nil)))
  (dss_one (ds_ret (de_tup (da_cons (de_var 2) (da_cons (de_fn o__law_pick hr tk (da_cons (de_var 0) (da_cons (de_lst (da_cons (de_t1 call_tuple_of (by decide +kernel) o1_tuple (g_16 X0 G0 c) (de_var 3)) (da_cons (de_lst da_nil) (da_cons de_non (da_cons (de_var 9) (da_cons (de_add (de_var 3) (de_lst (da_cons (de_tup da_nil) da_nil))) (da_cons (de_add (de_var 3) (de_lst (da_cons de_non da_nil))) (da_cons (de_lst (da_cons (de_var 3) da_nil)) da_nil)))))))) da_nil))) da_nil))))))
  dss_nil)
  (dss_cons (ds_if (dt_eq (huOf hr) (de_b1 call_len (by decide +kernel) o1_len (g_12 X0 G0 c) (de_var 3)) de_int)
  (dss_one (ds_ret (de_tup (da_cons (de_var 2) (da_cons (de_lst (da_cons (de_tup (da_cons (de_var 5) (da_cons de_int (da_cons (de_fn o__law_take hr tk (da_cons (de_var 0) (da_cons (de_var 1) da_nil))) da_nil)))) da_nil)) da_nil)))))
  dss_nil)
  (dss_cons (ds_set (i := 6) sc__law_twist.nd (de_fn o__law_take hr tk (da_cons (de_var 0) (da_cons (de_b1 call_len (by decide +kernel) o1_len (g_12 X0 G0 c) (de_var 3)) da_nil))))
  (dss_cons (ds_if (dt_eq (huOf hr) (de_var 4) de_int)
  (dss_cons (ds_set (i := 8) sc__law_twist.nd (de_lst (da_cons (de_add (de_sl (de_var 3) do_none (do_some (de_var 6))) (de_sl (de_var 3) (do_some (de_add (de_var 6) de_int)) do_none)) (da_cons (de_add (de_var 3) (de_lst (da_cons (de_ix (de_var 3) (de_var 6) (fun _ _ => rfl)) da_nil))) (da_cons (de_rev (de_var 3)) (da_cons (de_add (de_sl (de_var 3) (do_some (de_var 6)) do_none) (de_sl (de_var 3) do_none (do_some (de_var 6)))) da_nil))))))
  (dss_one (ds_ret (de_tup (da_cons (de_var 2) (da_cons (de_fn o__law_pick hr tk (da_cons (de_var 0) (da_cons (de_add (de_var 8) (de_lst (da_cons (de_add (de_var 3) (de_lst (da_cons (de_tup (da_cons (de_var 5) (da_cons de_int (da_cons de_int da_nil)))) da_nil))) da_nil))) da_nil))) da_nil))))))
  dss_nil)
  (dss_cons (ds_setT (is := [10, 11, 12]) rfl (de_ix (de_var 3) (de_var 6) (fun _ _ => rfl)) (pgs_cons (pg_name (i := 10) sc__law_twist.nd rfl (by first | exact Or.inl rfl | exact Or.inr rfl)) (pgs_cons (pg_name (i := 11) sc__law_twist.nd rfl (by first | exact Or.inl rfl | exact Or.inr rfl)) (pgs_cons (pg_name (i := 12) sc__law_twist.nd rfl (by first | exact Or.inl rfl | exact Or.inr rfl)) pgs_nil))))
  (dss_cons (ds_set (i := 7) sc__law_twist.nd (de_div (de_var 2) (de_var 10)))
  (dss_cut (ds_if (dt_eq (huOf hr) (de_var 4) de_int)
  (dss_one (ds_set (i := 13) sc__law_twist.nd (de_fn o__law_pick hr tk (da_cons (de_var 0) (da_cons (de_lst (da_cons (de_tup (da_cons (de_var 10) (da_cons (de_var 12) (da_cons (de_var 11) da_nil)))) (da_cons (de_tup (da_cons (de_var 10) (da_cons (de_var 12) (da_cons (de_var 12) da_nil)))) (da_cons (de_tup (da_cons (de_var 10) (da_cons (de_var 11) (da_cons (de_add (de_var 12) (de_var 7)) da_nil)))) (da_cons (de_tup (da_cons (de_var 10) (da_cons (de_sub (de_var 11) (de_var 7)) (da_cons (de_var 12) da_nil)))) (da_cons (de_tup (da_cons (de_var 10) (da_cons (de_var 11) (da_cons (de_add (de_var 11) (de_var 7)) da_nil)))) da_nil)))))) da_nil)))))
  (dss_one (ds_if (dt_eq (huOf hr) (de_var 4) de_int)
  (dss_cons (ds_set (i := 14) sc__law_twist.nd (de_fn o__law_take hr tk (da_cons (de_var 0) (da_cons (de_var 1) da_nil))))
  (dss_one (ds_set (i := 13) sc__law_twist.nd (de_fn o__law_pick hr tk (da_cons (de_var 0) (da_cons (de_lst (da_cons (de_tup (da_cons (de_var 10) (da_cons (de_var 11) (da_cons (de_var 14) da_nil)))) (da_cons (de_tup (da_cons (de_var 10) (da_cons (de_var 14) (da_cons (de_var 12) da_nil)))) (da_cons (de_tup (da_cons (de_var 10) (da_cons (de_var 11) (da_cons (de_add (de_var 12) (de_var 1)) da_nil)))) (da_cons (de_tup (da_cons (de_var 10) (da_cons (de_sub (de_var 11) (de_var 1)) (da_cons (de_var 12) da_nil)))) da_nil))))) da_nil))))))
  (dss_one (ds_if (dt_eq (huOf hr) (de_var 4) de_int)
  (dss_one (ds_set (i := 13) sc__law_twist.nd (de_fn o__law_pick hr tk (da_cons (de_var 0) (da_cons (de_lst (da_cons (de_tup (da_cons (de_var 5) (da_cons (de_var 11) (da_cons (de_var 12) da_nil)))) (da_cons (de_tup (da_cons (de_sub de_int (de_var 10)) (da_cons (de_var 11) (da_cons (de_var 12) da_nil)))) (da_cons (de_tup (da_cons (de_mul (de_var 10) (de_var 5)) (da_cons (de_var 11) (da_cons (de_var 12) da_nil)))) (da_cons (de_tup (da_cons (de_var 10) (da_cons (de_var 11) da_nil))) (da_cons (de_tup (da_cons (de_var 10) (da_cons (de_var 11) (da_cons (de_var 12) (da_cons (de_var 12) da_nil))))) (da_cons (de_lst (da_cons (de_var 10) (da_cons (de_var 11) (da_cons (de_var 12) da_nil)))) da_nil))))))) da_nil)))))
  (dss_one (ds_if (dt_eq (huOf hr) (de_var 4) de_int)
  (dss_cons (ds_set (i := 11) sc__law_twist.nd (de_fn o__law_take hr tk (da_cons (de_var 0) (da_cons (de_var 1) da_nil))))
  (dss_one (ds_set (i := 13) sc__law_twist.nd (de_tup (da_cons (de_var 10) (da_cons (de_var 11) (da_cons (de_b2 (call_min2 rfl) (by decide +kernel) o2_min (g_22 X0 G0 c) (de_sub (de_var 1) de_int) (de_add (de_var 11) (de_mul (de_var 7) (de_fn o__law_take hr tk (da_cons (de_var 0) (da_cons (de_add de_int (de_div (de_var 1) (de_var 7))) da_nil)))))) da_nil)))))))
  (dss_one (ds_set (i := 13) sc__law_twist.nd (de_fn o__law_kindbent hr tk (da_cons (de_var 0) (da_cons (de_ix (de_var 3) (de_var 6) (fun _ _ => rfl)) (da_cons de_int da_nil)))))))))))))
  (dss_one (ds_ret (de_tup (da_cons (de_var 2) (da_cons (de_add (de_add (de_sl (de_var 3) do_none (do_some (de_var 6))) (de_lst (da_cons (de_var 13) da_nil))) (de_sl (de_var 3) (do_some (de_add (de_var 6) de_int)) do_none)) da_nil)))))))))))))))
theorem sc__law_judged : FnScope ["m", "show", "period", "pairs", "due", "given", "paper", "answer"] ["m", "show", "period", "pairs", "due"] (defScope (top 53)) := ⟨rfl, rfl, rfl, by decide +kernel, rfl, by decide +kernel, by decide +kernel⟩
theorem w__law_judged (X0 : K.In base) (G0 : base.Ns mainGlobals mg) (c : SaysR fa fn K) (o__law_same : Ok P w K mg base 30 "_law_same" 2 (sp__law_same 30)) (o_shows_period : Ok P w K mg base 5 "shows_period" 4 (sp_shows_period K)) (o__law_copy : Ok P w K mg base 30 "_law_copy" 2 (sp__law_copy 30)) : BodyOk P w K mg base ["m", "show", "period", "pairs", "due", "given", "paper", "answer"] "_law_judged" (top 53) 30 (d__law_judged K) := by
  intro f cdv A outer s H E hr tk po
  unfold d__law_judged
  exact (dss_cons (ds_set (i := 5) sc__law_judged.nd (de_t1 call_list_of (by decide +kernel) o1_list (g_11 X0 G0 c) (de_var 1)))
  (dss_cons (ds_set (i := 6) sc__law_judged.nd (de_fn o__law_copy hr tk (da_cons (de_var 3) (da_cons de_int da_nil))))
  (dss_cons (ds_set (i := 7) sc__law_judged.nd (de_fn o_shows_period hr tk (da_cons (de_var 0) (da_cons (de_var 5) (da_cons (de_fn o__law_copy hr tk (da_cons (de_var 2) (da_cons de_int da_nil))) (da_cons (de_var 6) da_nil))))))
  (dss_one (ds_ret (de_and (de_fn o__law_same hr tk (da_cons (de_var 7) (da_cons (de_var 4) da_nil))) (de_and (de_fn o__law_same hr tk (da_cons (de_var 5) (da_cons (de_var 1) da_nil))) (de_one (de_fn o__law_same hr tk (da_cons (de_var 6) (da_cons (de_var 3) da_nil)))))))))))
theorem sc__law_refusal : FnScope ["m", "show", "period", "pairs", "e"] ["m", "show", "period", "pairs"] (defScope (top 54)) := ⟨rfl, rfl, rfl, by decide +kernel, rfl, by decide +kernel, by decide +kernel⟩
theorem w__law_refusal (X0 : K.In base) (G0 : base.Ns mainGlobals mg) (c : SaysR fa fn K) (o_shows_period : Ok P w K mg base 5 "shows_period" 4 (sp_shows_period K)) : BodyOk P w K mg base ["m", "show", "period", "pairs", "e"] "_law_refusal" (top 54) 5 (d__law_refusal K) := by
  intro f cdv A outer s H E hr tk po
  unfold d__law_refusal
  exact (dss_cons (ds_try tk (fun W1 pn xe tk1 po1 => (dss_one (ds_drop (de_fn o_shows_period hr tk1 (da_cons (de_var 0) (da_cons (de_var 1) (da_cons (de_var 2) (da_cons (de_var 3) da_nil))))))))
  (cl_named (i := 4) sc__law_refusal.nd ⟨rfl, by decide, .inl (g_3 X0 G0 c)⟩ (fun a oe C pn hz hf => (dss_one (ds_ret (de_ix (de_lst (da_cons de_str (da_cons de_str da_nil))) (de_t1 call_int1 (by decide +kernel) o1_int (g_0 X0 G0 c) (de_isET 4 hz hf (g_1 X0 G0 c) (prs_cons (g_25 X0 G0 c) (prs_cons (g_27 X0 G0 c) (prs_cons (g_13 X0 G0 c) (prs_cons (g_9 X0 G0 c) prs_nil)))) (hl := (show 4 ≤ sizeLine by decide)))) (fun _ _ => rfl)))))
  (cl_named (i := 4) sc__law_refusal.nd ⟨rfl, by decide, .inl (g_13 X0 G0 c)⟩ (fun a oe C pn hz hf => (dss_one (ds_ret (de_ix (de_lst (da_cons de_str (da_cons de_str da_nil))) (de_t1 call_int1 (by decide +kernel) o1_int (g_0 X0 G0 c) (de_isET 4 hz hf (g_1 X0 G0 c) (prs_cons (g_25 X0 G0 c) (prs_cons (g_27 X0 G0 c) (prs_cons (g_9 X0 G0 c) prs_nil))) (hl := (show 3 ≤ sizeLine by decide)))) (fun _ _ => rfl)))))
  (cl_named (i := 4) sc__law_refusal.nd ⟨rfl, by decide, .inl (g_9 X0 G0 c)⟩ (fun a oe C pn hz hf => (dss_one (ds_ret (de_ix (de_lst (da_cons de_str (da_cons de_str da_nil))) (de_t1 call_int1 (by decide +kernel) o1_int (g_0 X0 G0 c) (de_or (de_isET 4 hz hf (g_1 X0 G0 c) (prs_cons (g_25 X0 G0 c) (prs_cons (g_27 X0 G0 c) prs_nil)) (hl := (show 2 ≤ sizeLine by decide))) (de_one (de_not (de_isE 4 hz hf (g_1 X0 G0 c) (g_39 X0 G0 c)))))) (fun _ _ => rfl)))))
  (cl_plain ⟨rfl, by decide, .inl (g_39 X0 G0 c)⟩ (fun a oe pn => (dss_one (ds_ret de_str)))
  cl_nil)))))
  (dss_one (ds_ret de_str)))
theorem sc__law_refusals : FnScope ["store", "m", "show", "period", "pairs", "bad", "big", "badmodulus", "one", "two", "word"] ["store", "m", "show", "period", "pairs"] (defScope (top 55)) := ⟨rfl, rfl, rfl, by decide +kernel, rfl, by decide +kernel, by decide +kernel⟩
theorem w__law_refusals (X0 : K.In base) (G0 : base.Ns mainGlobals mg) (c : SaysR fa fn K) (o__law_refusal : Ok P w K mg base 6 "_law_refusal" 4 (sp__law_refusal K)) (o__law_pick : Ok P w K mg base 3 "_law_pick" 2 (sp__law_pick K)) (o__law_badlist : Ok P w K mg base 4 "_law_badlist" 6 (sp__law_badlist K)) : BodyOk P w K mg base ["store", "m", "show", "period", "pairs", "bad", "big", "badmodulus", "one", "two", "word"] "_law_refusals" (top 55) 6 (d__law_refusals K) := by
  intro f cdv A outer s H E hr tk po
  unfold d__law_refusals
  exact (dss_cons (ds_set (i := 5) sc__law_refusals.nd (de_fn o__law_badlist hr tk (da_cons (de_var 0) (da_cons (de_var 2) (da_cons (de_var 1) (da_cons (de_var 1) (da_cons (de_sub de_int (de_pow de_int de_int)) (da_cons (de_pow de_int de_int) da_nil))))))))
  (dss_cons (ds_set (i := 6) sc__law_refusals.nd (de_fn o__law_pick hr tk (da_cons (de_var 0) (da_cons (de_lst (da_cons de_int (da_cons de_int (da_cons de_int (da_cons de_int (da_cons de_int (da_cons de_int (da_cons de_int (da_cons de_int (da_cons de_int (da_cons de_int (da_cons de_int (da_cons de_int da_nil))))))))))))) da_nil))))
  (dss_cons (ds_set (i := 7) sc__law_refusals.nd (de_fn o__law_pick hr tk (da_cons (de_var 0) (da_cons (de_lst (da_cons de_int (da_cons de_int (da_cons (de_sub de_int (de_var 1)) (da_cons de_int (da_cons (de_mul de_int (de_var 1)) (da_cons de_bl (da_cons de_non (da_cons de_str (da_cons (de_add (de_pow de_int de_int) de_int) (da_cons de_int (da_cons (de_lst (da_cons (de_var 1) da_nil)) da_nil)))))))))))) da_nil))))
  (dss_cons (ds_for (tg0 := (.tp [8, 9, 10])) po rfl (di_lst (de_lst (da_cons (de_tup (da_cons (de_var 1) (da_cons (de_var 5) (da_cons de_str da_nil)))) (da_cons (de_tup (da_cons (de_var 7) (da_cons (de_var 2) (da_cons de_str da_nil)))) (da_cons (de_tup (da_cons (de_var 7) (da_cons (de_var 5) (da_cons de_str da_nil)))) (da_cons (de_tup (da_cons (de_var 6) (da_cons (de_mul (de_lst (da_cons de_int da_nil)) (de_var 6)) (da_cons de_str da_nil)))) (da_cons (de_tup (da_cons (de_var 6) (da_cons (de_mul (de_lst (da_cons de_int da_nil)) (de_sub (de_var 6) de_int)) (da_cons de_str da_nil)))) (da_cons (de_tup (da_cons (de_var 6) (da_cons (de_var 2) (da_cons de_str da_nil)))) da_nil)))))))) (pg_tup rfl (pgs_cons (pg_name (i := 8) sc__law_refusals.nd rfl (by first | exact Or.inl rfl | exact Or.inr rfl)) (pgs_cons (pg_name (i := 9) sc__law_refusals.nd rfl (by first | exact Or.inl rfl | exact Or.inr rfl)) (pgs_cons (pg_name (i := 10) sc__law_refusals.nd rfl (by first | exact Or.inl rfl | exact Or.inr rfl)) pgs_nil))))
  (dss_one (ds_if (dt_ne (huOf hr) (de_fn o__law_refusal hr tk (da_cons (de_var 8) (da_cons (de_var 9) (da_cons (de_var 3) (da_cons (de_var 4) da_nil))))) (de_var 10))
  (dss_one (ds_ret de_bl))
  dss_nil)))
  (dss_one (ds_ret de_bl))))))
theorem sc_law : FnScope ["script", "store", "m", "show", "period", "pairs", "cases", "other", "count", "first", "third", "turn", "bent", "line", "number", "paper", "x"] ["script"] (defScope (top 56)) := ⟨rfl, rfl, rfl, by decide +kernel, rfl, by decide +kernel, by decide +kernel⟩
theorem w_law (X0 : K.In base) (G0 : base.Ns mainGlobals mg) (c : SaysR fa fn K) (o__law_refusals : Ok P w K mg base 7 "_law_refusals" 5 (sp__law_refusals K)) (o__law_pick : Ok P w K mg base 3 "_law_pick" 2 (sp__law_pick K)) (o__law_judged : Ok P w K mg base 31 "_law_judged" 5 (sp__law_judged K)) (o__law_proves : Ok P w K mg base 3 "_law_proves" 4 (sp__law_proves K)) (o__law_twist : Ok P w K mg base 34 "_law_twist" 4 (sp__law_twist K)) (o__law_pairsfor : Ok P w K mg base 3 "_law_pairsfor" 4 (sp__law_pairsfor K)) (o__law_take : Ok P w K mg base 2 "_law_take" 2 spTake) (o__law_divisor : Ok P w K mg base 5 "_law_divisor" 2 (sp__law_divisor K)) (o__law_period : Ok P w K mg base 3 "_law_period" 2 (sp__law_period K)) (o__law_showing : Ok P w K mg base 7 "_law_showing" 2 (sp__law_showing K)) (o__law_seldom : Ok P w K mg base 3 "_law_seldom" 2 (sp__law_seldom K)) (o__law_modulus : Ok P w K mg base 4 "_law_modulus" 2 (sp__law_modulus K)) (f : Addr) (cdv : Value) (A : Around) (outer : List Env) (s : Shared) (H : Hp) (E : XK) (hr : Room 34 (A.deeper (envOfC "law" (defScope (top 56)) s.heap.objs.size f cdv))) (tk : Takes (cxD P w K mg base ["script", "store", "m", "show", "period", "pairs", "cases", "other", "count", "first", "third", "turn", "bent", "line", "number", "paper", "x"] "law" (top 56) f cdv A outer s H E) (WE0 E)) (po : PassesOwn (model P w) (cxD P w K mg base ["script", "store", "m", "show", "period", "pairs", "cases", "other", "count", "first", "third", "turn", "bent", "line", "number", "paper", "x"] "law" (top 56) f cdv A outer s H E).A (cxD P w K mg base ["script", "store", "m", "show", "period", "pairs", "cases", "other", "count", "first", "third", "turn", "bent", "line", "number", "paper", "x"] "law" (top 56) f cdv A outer s H E).env (cxD P w K mg base ["script", "store", "m", "show", "period", "pairs", "cases", "other", "count", "first", "third", "turn", "bent", "line", "number", "paper", "x"] "law" (top 56) f cdv A outer s H E).xe) :
    PSs (cxD P w K mg base ["script", "store", "m", "show", "period", "pairs", "cases", "other", "count", "first", "third", "turn", "bent", "line", "number", "paper", "x"] "law" (top 56) f cdv A outer s H E) (defBody (top 56)).tail (lS K (WE0 E) (d_law K)) := by
  unfold d_law
  exact (dss_cons (ds_set (i := 2) sc_law.nd (de_fn o__law_modulus hr tk (da_cons (de_var 1) (da_cons (de_fn o__law_pick hr tk (da_cons (de_var 1) (da_cons (de_lst (da_cons de_int (da_cons de_int (da_cons de_int (da_cons de_int (da_cons de_int (da_cons de_int (da_cons de_int (da_cons de_int (da_cons de_int (da_cons de_int da_nil))))))))))) da_nil))) da_nil))))
  (dss_cut (ds_if (dt_val (de_fn o__law_seldom hr tk (da_cons (de_var 1) (da_cons de_int da_nil))))
  (dss_one (ds_set (i := 2) sc_law.nd de_int))
  dss_nil)
  (dss_cons (ds_set (i := 3) sc_law.nd (de_fn o__law_showing hr tk (da_cons (de_var 1) (da_cons (de_var 2) da_nil))))
  (dss_cons (ds_set (i := 4) sc_law.nd (de_fn o__law_period hr tk (da_cons (de_var 2) (da_cons (de_var 3) da_nil))))
  (dss_cons (ds_set (i := 5) sc_law.nd (de_fn o__law_pairsfor hr tk (da_cons (de_var 1) (da_cons (de_var 2) (da_cons (de_var 3) (da_cons (de_var 4) da_nil))))))
  (dss_cons (ds_if (dt_not (dt_val (de_fn o__law_judged hr tk (da_cons (de_var 2) (da_cons (de_var 3) (da_cons (de_var 4) (da_cons (de_var 5) (da_cons de_bl da_nil))))))))
  (dss_one (ds_ret de_bl))
  dss_nil)
  (dss_cons (ds_setO (i := 6) sc_law.nd (de_lst (da_cons (de_tup (da_cons (de_var 3) (da_cons (de_var 4) (da_cons (de_var 5) da_nil)))) da_nil)))
  (dss_cons (ds_set (i := 7) sc_law.nd (de_fn o__law_divisor hr tk (da_cons (de_var 1) (da_cons (de_var 2) da_nil))))
  (dss_cons (ds_app (i := 6) (de_tup (da_cons (de_var 3) (da_cons (de_var 7) (da_cons (de_fn o__law_pairsfor hr tk (da_cons (de_var 1) (da_cons (de_var 2) (da_cons (de_var 3) (da_cons (de_var 7) da_nil))))) da_nil)))) (hcall := pe_bm PySem.F.plainAttrs_list PySem.F.slot_list_append PySem.F.type_list_append mt_append))
  (dss_cons (ds_set (i := 8) sc_law.nd (de_add de_int (de_fn o__law_take hr tk (da_cons (de_var 1) (da_cons (de_var 2) da_nil)))))
  (dss_cons (ds_set (i := 9) sc_law.nd (de_lc (tg0 := (.nm 16)) (own := [("x", 16)]) (by decide) rfl sc_law.nd (lIV_of (di_rng1 (g_15 X0 G0 c) (de_var 8))) (show BlkOk ["script", "store", "m", "show", "period", "pairs", "cases", "other", "count", "first", "third", "turn", "bent", "line", "number", "paper", "x"] (defScope (top 56)) _ _ from ⟨rfl, by decide +kernel, by decide +kernel, by decide +kernel, by decide +kernel⟩) (fun _ _ _ _ _ => (pg_name (i := 16) sc_law.nd rfl (by first | exact Or.inl rfl | exact Or.inr rfl))) (fun _ _ _ _ _ => dts_nil) (fun _ _ _ _ _ => (de_fn o__law_take hr takes0 (da_cons (de_var 1) (da_cons de_int da_nil))))))
  (dss_cons (ds_setLc (i := 10) (tg0 := (.nm 16)) (own := [("x", 16)]) (by decide) rfl sc_law.nd rfl (lIV_of (di_rng1 (g_15 X0 G0 c) (de_var 2))) (show BlkOk ["script", "store", "m", "show", "period", "pairs", "cases", "other", "count", "first", "third", "turn", "bent", "line", "number", "paper", "x"] (defScope (top 56)) _ _ from ⟨rfl, by decide +kernel, by decide +kernel, by decide +kernel, by decide +kernel⟩) (fun _ _ _ _ _ => (pg_name (i := 16) sc_law.nd rfl (by first | exact Or.inl rfl | exact Or.inr rfl))) (fun _ _ _ _ _ => dts_nil) (fun _ _ _ _ _ => (de_ix (de_var 9) (de_mod (de_var 16) (de_var 8)) (fun _ _ => rfl))))
  (dss_cons (ds_app (i := 6) (de_tup (da_cons (de_var 10) (da_cons (de_var 8) (da_cons (de_fn o__law_pairsfor hr tk (da_cons (de_var 1) (da_cons (de_var 2) (da_cons (de_var 10) (da_cons (de_var 8) da_nil))))) da_nil)))) (hcall := pe_bm PySem.F.plainAttrs_list PySem.F.slot_list_append PySem.F.type_list_append mt_append))
  (dss_cons (ds_for (tg0 := (.nm 11)) po rfl (di_rng1 (g_15 X0 G0 c) de_int) (pg_name (i := 11) sc_law.nd rfl (by first | exact Or.inl rfl | exact Or.inr rfl))
  (dss_cons (ds_setT (is := [13, 14, 15]) rfl (de_ix (de_var 6) (de_ix (de_lst (da_cons de_int (da_cons de_int (da_cons de_int (da_cons de_int (da_cons de_int (da_cons de_int (da_cons de_int (da_cons de_int (da_cons de_int (da_cons de_int da_nil))))))))))) (de_var 11) (fun _ _ => rfl)) (fun _ _ => rfl)) (pgs_cons (pg_name (i := 13) sc_law.nd rfl (by first | exact Or.inl rfl | exact Or.inr rfl)) (pgs_cons (pg_name (i := 14) sc_law.nd rfl (by first | exact Or.inl rfl | exact Or.inr rfl)) (pgs_cons (pg_name (i := 15) sc_law.nd rfl (by first | exact Or.inl rfl | exact Or.inr rfl)) pgs_nil))))
  (dss_cons (ds_set (i := 12) sc_law.nd (de_fn o__law_twist hr tk (da_cons (de_var 1) (da_cons (de_var 2) (da_cons (de_var 14) (da_cons (de_var 15) da_nil))))))
  (dss_one (ds_app (i := 6) (de_tup (da_cons (de_var 13) (da_cons (de_ix (de_var 12) de_int (fun _ _ => rfl)) (da_cons (de_ix (de_var 12) de_int (fun _ _ => rfl)) da_nil)))) (hcall := pe_bm PySem.F.plainAttrs_list PySem.F.slot_list_append PySem.F.type_list_append mt_append))))))
  (dss_cons (ds_frz (i := 6) (ds_for (tg0 := (.tp [13, 14, 15])) po rfl (di_lst (de_var 6)) (pg_tup rfl (pgs_cons (pg_name (i := 13) sc_law.nd rfl (by first | exact Or.inl rfl | exact Or.inr rfl)) (pgs_cons (pg_name (i := 14) sc_law.nd rfl (by first | exact Or.inl rfl | exact Or.inr rfl)) (pgs_cons (pg_name (i := 15) sc_law.nd rfl (by first | exact Or.inl rfl | exact Or.inr rfl)) pgs_nil))))
  (dss_one (ds_if (dt_not (dt_val (de_fn o__law_judged hr tk (da_cons (de_var 2) (da_cons (de_var 13) (da_cons (de_var 14) (da_cons (de_var 15) (da_cons (de_fn o__law_proves hr tk (da_cons (de_var 2) (da_cons (de_var 13) (da_cons (de_var 14) (da_cons (de_var 15) da_nil))))) da_nil))))))))
  (dss_one (ds_ret de_bl))
  dss_nil))))
  (dss_cons (ds_set (i := 12) sc_law.nd (de_fn o__law_pick hr tk (da_cons (de_var 1) (da_cons (de_lst (da_cons (de_var 5) (da_cons de_non (da_cons (de_t1 call_tuple_of (by decide +kernel) o1_tuple (g_16 X0 G0 c) (de_var 5)) (da_cons (de_lst da_nil) da_nil))))) da_nil))))
  (dss_one (ds_ret (de_fn o__law_refusals hr tk (da_cons (de_var 1) (da_cons (de_var 2) (da_cons (de_var 3) (da_cons (de_fn o__law_pick hr tk (da_cons (de_var 1) (da_cons (de_lst (da_cons (de_var 4) (da_cons de_non (da_cons de_int da_nil)))) da_nil))) (da_cons (de_var 12) da_nil))))))))))))))))))))))))
end
end RB

set_option Elab.async false
set_option linter.all false
set_option maxRecDepth 100000
set_option maxHeartbeats 4000000
/-! L1: the draws' plain laws -/
namespace RB
open PySem PySem.Spec PyProof.Rows L2
theorem xor_b {a b : Int} (ha : 0 ≤ a) (hb : 0 ≤ b) : 0 ≤ Builtin.bitXor a b ∧ Builtin.bitXor a b ≤ a + b := by
  rw [bitXor_and, bitAnd_pp ha hb]
  have h1 : a.toNat &&& b.toNat ≤ a.toNat := Nat.and_le_left
  have h2 : a.toNat &&& b.toNat ≤ b.toNat := Nat.and_le_right
  omega
section
variable {K : Fr} {Q : RV → Prop} {X : Addr → Prop}
theorem c_take {n : Int} (hn : n < 2 ^ 64) (q : ∀ r, 0 ≤ r → r < max 1 n → Q (.dat (.int r))) : Cal spTake 2 [.sto, .dat (.int n)] Q X := ⟨rfl, hn, q⟩
theorem c_mixed {a b : Int} (q : ∀ r, Q (.dat (.int r))) : Cal (sp__law_mixed K) 2 [.dat (.int a), .dat (.int b)] Q X := ⟨rfl, a, b, rfl, q⟩
theorem c_seldom {n : Int} (hn : n < 2 ^ 64) (q : ∀ b, Q (.dat (.bool b))) : Cal (sp__law_seldom K) 2 [.sto, .dat (.int n)] Q X := ⟨rfl, n, rfl, hn, q⟩
theorem c_takewide {n : Int} (q : ∀ r, 0 ≤ r → r < max 1 n → Q (.dat (.int r))) : Cal (sp__law_takewide K) 2 [.sto, .dat (.int n)] Q X := ⟨rfl, n, rfl, q⟩
theorem c_pick {ds : List D} (h : ds ≠ []) (hl : ds.length < 2 ^ 62) (q : ∀ d ∈ ds, Q (.dat d)) : Cal (sp__law_pick K) 2 [.sto, .dat (.list ds)] Q X := ⟨rfl, ds, rfl, ⟨h, hl⟩, q⟩
theorem c_whole {lo hi : Int} (h : lo ≤ hi) (q : ∀ r, lo ≤ r → r ≤ hi → Q (.dat (.int r))) : Cal (sp__law_whole K) 3 [.sto, .dat (.int lo), .dat (.int hi)] Q X := ⟨rfl, lo, hi, rfl, h, q⟩
end
variable {K : Fr} {Q : RV → Prop} {X : Addr → Prop} {rs : List RV}
theorem l__law_mixed (h : sp__law_mixed K rs Q X) : d__law_mixed K (endD Q X) (startD ["number", "turn", "prime", "first", "second", "third"] rs) := by
  obtain ⟨a, b, rfl, h⟩ := h
  conv => whnf
  refine ⟨mulR (by decide) (by decide), ?_⟩
  conv => whnf
  refine ⟨mulR (by decide) (by decide), ?_⟩
  conv => whnf
  refine ⟨by decide, ?_⟩
  conv => whnf
  refine ⟨by decide, ?_⟩
  conv => whnf
  refine ⟨mulR (by decide) (by decide), ?_⟩
  conv => whnf
  refine ⟨mulR (by decide) (by decide), ?_⟩
  conv => whnf
  refine ⟨by decide, ?_⟩
  conv => whnf
  refine ⟨by decide, ?_⟩
  conv => whnf
  generalize e : _ % (2305843009213693951 : Int) = sec
  have e0 : 0 ≤ sec ∧ sec < 2305843009213693951 := by
    rw [← e]
    exact ⟨Int.emod_nonneg _ (by decide), Int.emod_lt_of_pos _ (by decide)⟩
  refine ⟨mulL ?_ ?_, ?_⟩
  · have := xor_b e0.1 (b := sec / 2 ^ Int.toNat 27) (Int.ediv_nonneg e0.1 (by decide))
    omega
  · have := xor_b e0.1 (b := sec / 2 ^ Int.toNat 27) (Int.ediv_nonneg e0.1 (by decide))
    have h2 : sec / 2 ^ Int.toNat 27 ≤ sec := Int.ediv_le_self _ e0.1
    omega
  conv => whnf
  refine ⟨by decide, ?_⟩
  conv => whnf
  refine ⟨by decide, ?_⟩
  conv => whnf
  exact h _
theorem l__law_take (h : spTake rs Q X) : d__law_take K (endD Q X) (startD ["store", "many", "cell", "rest"] rs) := by
  unfold spTake at h
  split at h
  · rename_i n
    obtain ⟨hn, h⟩ := h
    conv => whnf
    have e1 : (if n > 1 then n else 1) = max 1 n := by omega
    -- store[5] = store[5] + 1
    refine ⟨rfl, rfl, ⟨by decide, by decide⟩, fun n5 _ => ?_⟩
    conv => whnf
    refine ⟨⟨⟨by decide, by decide⟩, fun z => by omega⟩, ?_⟩
    conv => whnf
    refine ⟨fun δ' => ∃ c r, δ' = [.sto, .dat (.int (if n > 1 then n else 1)), c, r], ?_, ?_⟩
    · conv => whnf
      refine ⟨rfl, ⟨by decide, by decide⟩, fun n2 _ => ?_⟩
      conv => whnf
      refine Br.dec (fun _ => ?_) (fun _ => Br.f ⟨_, _, rfl⟩)
      conv => whnf
      refine ⟨rfl, ⟨by decide, by decide⟩, fun n4 _ => ?_⟩
      conv => whnf
      refine Br.dec (fun _ => ?_) (fun _ => ⟨_, _, rfl⟩)
      conv => whnf
      refine ⟨rfl, ?_⟩
      conv => whnf
      refine ⟨rfl, ⟨by decide, by decide⟩, fun n6 _ => ?_⟩
      conv => whnf
      refine ⟨⟨⟨by decide, by decide⟩, fun z => by omega⟩, ?_⟩
      conv => whnf
      refine ⟨rfl, ?_⟩
      conv => whnf
      refine ⟨⟨⟨by decide, by decide⟩, fun z => by omega⟩, ?_⟩
      conv => whnf
      refine ⟨rfl, fun cl => ?_, ⟨_, _, rfl⟩⟩
      conv => whnf
      refine ⟨rfl, ?_⟩
      conv => whnf
      refine ⟨rfl, ⟨by decide, by decide⟩, fun n1 h1 => ?_⟩
      conv => whnf
      refine ⟨⟨⟨by decide, by decide⟩, fun z => ?_⟩, ?_⟩
      · have := h1 rfl
        show (0 : Int) ≤ n1 + 1
        omega
      conv => whnf
      refine ⟨rfl, ?_⟩
      conv => whnf
      refine ⟨by decide, ?_⟩
      conv => whnf
      refine ⟨⟨⟨by decide, by decide⟩, fun z => by omega⟩, ?_⟩
      conv => whnf
      refine ⟨rfl, ?_⟩
      conv => whnf
      refine ⟨⟨⟨by decide, by decide⟩, fun z => by omega⟩, ?_⟩
      conv => whnf
      refine ⟨⟨by decide, by decide⟩, ?_⟩
      conv => whnf
      refine Br.dec (fun _ => ?_) (fun _ => ⟨_, _, rfl⟩)
      conv => whnf
      refine ⟨rfl, ?_⟩
      conv => whnf
      refine ⟨⟨⟨by decide, by decide⟩, fun z => by omega⟩, ?_⟩
      conv => whnf
      refine ⟨rfl, ?_⟩
      conv => whnf
      refine ⟨⟨⟨by decide, by decide⟩, fun z => by omega⟩, ?_⟩
      exact ⟨_, _, rfl⟩
    · rintro δ' ⟨c, r, rfl⟩
      have hM : 0 < (if n > 1 then n else 1 : Int) := by omega
      have hlt : ∀ x : Int, x % (if n > 1 then n else 1) < max 1 n := fun x => by
        have := Int.emod_lt_of_pos x hM
        omega
      conv => whnf
      refine ⟨rfl, ⟨by decide, by decide⟩, fun n2 _ => ?_⟩
      conv => whnf
      refine Br.dec (fun _ => ?_) (fun _ => ?_)
      · conv => whnf
        refine ⟨rfl, ⟨by decide, by decide⟩, fun n2 _ => ?_⟩
        conv => whnf
        refine ⟨rfl, ?_⟩
        conv => whnf
        refine ⟨⟨hM, ?_⟩, ?_⟩
        · exact (divOk hM (by omega)).2
        conv => whnf
        refine ⟨⟨⟨by decide, by decide⟩, fun z => by omega⟩, ?_⟩
        conv => whnf
        refine ⟨hM, ?_⟩
        exact h _ (Int.emod_nonneg _ (by omega)) (hlt _)
      · conv => whnf
        refine ⟨rfl, ?_⟩
        conv => whnf
        refine ⟨rfl, ⟨by decide, by decide⟩, fun n4 _ => ?_⟩
        conv => whnf
        refine ⟨⟨⟨by decide, by decide⟩, fun z => by omega⟩, ?_⟩
        conv => whnf
        refine ⟨rfl, ⟨by decide, by decide⟩, fun n3 _ => ?_⟩
        conv => whnf
        refine ⟨rfl, ⟨by decide, by decide⟩, fun n5' _ => ?_⟩
        conv => whnf
        refine c_mixed fun r => ?_
        conv => whnf
        refine ⟨hM, ?_⟩
        exact h _ (Int.emod_nonneg _ (by omega)) (hlt _)
  · exact h.elim
theorem l__law_seldom (h : sp__law_seldom K rs Q X) : d__law_seldom K (endD Q X) (startD ["store", "many"] rs) := by
  obtain ⟨n, rfl, hn, h⟩ := h
  conv => whnf
  refine c_take hn fun r _ _ => ?_
  conv => whnf
  exact h _
theorem l__law_takewide (h : sp__law_takewide K rs Q X) : d__law_takewide K (endD Q X) (startD ["store", "many", "number", "size"] rs) := by
  obtain ⟨n, rfl, h⟩ := h
  conv => whnf
  refine Br.dec (fun hs => ?_) (fun hs => ?_)
  · conv => whnf
    refine c_take (by omega) fun r h1 h2 => ?_
    conv => whnf
    exact h r h1 h2
  · conv => whnf
    refine ⟨fun m δ => ∃ nu sz : Int, δ = [.sto, .dat (.int n), .dat (.int nu), .dat (.int sz)] ∧ 0 < sz ∧ m = (n - sz).toNat, ⟨_, 0, 1, rfl, by decide, rfl⟩, ?_⟩
    rintro m δ ⟨nu, sz, rfl, h0, rfl⟩
    conv => whnf
    refine Br.dec (fun hlt => ?_) (fun hge => ?_)
    · conv => whnf
      refine ⟨mulR (by decide) (by decide), ?_⟩
      conv => whnf
      refine c_take (by decide) fun r h1 h2 => ?_
      conv => whnf
      refine ⟨mulR (by decide) (by decide), ?_⟩
      conv => whnf
      exact ⟨_, (by omega : (n - sz * 1000000).toNat < (n - sz).toNat), _, _, rfl, by omega, rfl⟩
    · conv => whnf
      have e1 : (if n > 1 then n else 1) = max 1 n := by omega
      have hM : 0 < (if n > 1 then n else 1 : Int) := by omega
      refine ⟨hM, ?_⟩
      conv => whnf
      have h5 : nu % (if n > 1 then n else 1) < max 1 n := by
        rw [← e1]
        exact Int.emod_lt_of_pos nu hM
      exact h _ (Int.emod_nonneg nu (Int.ne_of_gt hM)) h5
theorem l__law_pick (h : sp__law_pick K rs Q X) : d__law_pick K (endD Q X) (startD ["store", "items"] rs) := by
  obtain ⟨ds, rfl, ⟨hne, hl⟩, h⟩ := h
  have hp : 0 < ds.length := List.length_pos_iff.mpr hne
  conv => whnf
  refine c_take (by omega) fun r h1 h2 => ?_
  conv => whnf
  have h3 : r < ds.length := by omega
  refine ⟨_, atI_nat h1 h3, ?_⟩
  conv => whnf
  exact h _ (List.getElem_mem _)
theorem l__law_whole (h : sp__law_whole K rs Q X) : d__law_whole K (endD Q X) (startD ["store", "low", "high", "edges", "near", "edge"] rs) := by
  obtain ⟨lo, hi, rfl, hlh, h⟩ := h
  conv => whnf
  refine ⟨rfl, _, rfl, by decide, fun b => ?_⟩
  conv => whnf
  refine ⟨(fun _ => ?_), fun _ => ?_⟩
  · conv => whnf
    refine ⟨divOk (by decide) (by decide), ?_⟩
    conv => whnf
    refine ⟨szLine (show 8 < 2 ^ 20 by decide), ?_⟩
    conv => whnf
    let g : D → Option D := fun d => match d with
      | .int x => if lo ≤ x ∧ x ≤ hi then some (.int x) else none
      | _ => none
    have key : ∀ es : List Int, lo ∈ es → ∀ d ∈ es.map PyData.int, ∃ x, d = .int x := fun es _ d hd => by
      obtain ⟨x, _, rfl⟩ := List.mem_map.mp hd
      exact ⟨x, rfl⟩
    refine LcS.det g (szLine (show 8 < 2 ^ 20 by decide)) (fun d hd C hC => ?_) ?_
    · obtain ⟨x, rfl⟩ : ∃ x, d = .int x := by
        have hd' : d ∈ [lo, hi, lo + 1, hi - 1, -1, 0, 1, (lo + hi) / 2].map PyData.int := hd
        obtain ⟨x, _, rfl⟩ := List.mem_map.mp hd'
        exact ⟨x, rfl⟩
      conv => whnf
      refine Br.dec (fun h1 => ?_) (fun h1 => Br.f ?_)
      · conv => whnf
        refine Br.dec (fun h2 => ?_) (fun h2 => ?_)
        · conv => whnf
          rw [show g (.int x) = some (.int x) from if_pos ⟨h1, h2⟩] at hC
          exact hC
        · conv => whnf
          rw [show g (.int x) = none from if_neg (fun z => h2 z.2)] at hC
          exact hC
      · rw [show g (.int x) = none from if_neg (fun z => h1 z.1)] at hC
        exact hC
    · conv => whnf
      have hm : ∀ d ∈ List.filterMap g ([lo, hi, lo + 1, hi - 1, -1, 0, 1, (lo + hi) / 2].map PyData.int), ∃ x, d = .int x ∧ lo ≤ x ∧ x ≤ hi := fun d hd => by
        obtain ⟨e, he, hge⟩ := List.mem_filterMap.mp hd
        obtain ⟨x, _, rfl⟩ := List.mem_map.mp he
        by_cases hx : lo ≤ x ∧ x ≤ hi
        · rw [show g (.int x) = some (.int x) from if_pos hx] at hge
          cases hge
          exact ⟨x, rfl, hx⟩
        · rw [show g (.int x) = none from if_neg hx] at hge
          cases hge
      have hl : (List.filterMap g ([lo, hi, lo + 1, hi - 1, -1, 0, 1, (lo + hi) / 2].map PyData.int)).length ≤ 8 := List.length_filterMap_le _ _
      have hne : List.filterMap g ([lo, hi, lo + 1, hi - 1, -1, 0, 1, (lo + hi) / 2].map PyData.int) ≠ [] := List.ne_nil_of_mem (List.mem_filterMap.mpr ⟨.int lo, by simp, if_pos ⟨Int.le_refl _, hlh⟩⟩)
      refine c_pick hne (Nat.lt_of_le_of_lt hl (by decide)) fun d hd => ?_
      obtain ⟨x, rfl, h1, h2⟩ := hm d hd
      conv => whnf
      exact h x h1 h2
  · conv => whnf
    refine c_takewide fun r h1 h2 => ?_
    conv => whnf
    refine h _ ?_ ?_ <;> omega
end RB

set_option Elab.async false
set_option linter.all false
set_option maxRecDepth 100000
set_option maxHeartbeats 4000000
/-! L2p: parts of a modulus -/
namespace RB
open PySem PySem.Spec PyProof.Rows L2
theorem vpF_fuel {p : Nat} (hp : 2 ≤ p) : ∀ (f x : Nat), 0 < x → x < 2 ^ f → vpF p f x = vpF p (f + 1) x
  | 0, x, h0, h => by omega
  | f + 1, x, h0, h => by
    show (if x % p = 0 then vpF p f (x / p) + 1 else 0) = (if x % p = 0 then vpF p (f + 1) (x / p) + 1 else 0)
    by_cases hx : x % p = 0
    · rw [if_pos hx, if_pos hx]
      have hd : x / p < 2 ^ f := (Nat.div_lt_iff_lt_mul (by omega)).mpr (Nat.lt_of_lt_of_le h (by rw [Nat.pow_succ]; exact Nat.mul_le_mul_left _ hp))
      rw [vpF_fuel hp f (x / p) (Nat.div_pos (Nat.le_of_dvd h0 (Nat.dvd_of_mod_eq_zero hx)) (by omega)) hd]
    · rw [if_neg hx, if_neg hx]
theorem vp_step {p r : Nat} (hp : 2 ≤ p) (h0 : 0 < r) (h : r < 2 ^ 64) (hm : r % p = 0) : vp p r = vp p (r / p) + 1 := by
  have e : vp p r = vpF p 63 (r / p) + 1 := by
    show (if r % p = 0 then vpF p 63 (r / p) + 1 else 0) = _
    rw [if_pos hm]
  have hd : r / p < 2 ^ 63 := (Nat.div_lt_iff_lt_mul (by omega)).mpr (Nat.lt_of_lt_of_le h (by
    have : 2 ^ 64 = 2 ^ 63 * 2 := by decide
    rw [this]; exact Nat.mul_le_mul_left _ hp))
  rw [e, vpF_fuel hp 63 _ (Nat.div_pos (Nat.le_of_dvd h0 (Nat.dvd_of_mod_eq_zero hm)) (by omega)) hd]
  rfl
theorem vp_zero {p r : Nat} (hm : r % p ≠ 0) : vp p r = 0 := if_neg hm
theorem div_lt {p r : Nat} (hp : 2 ≤ p) (h0 : 0 < r) : r / p < r := Nat.div_lt_self h0 (by omega)
/-- between the turns of the division by p -/
structure Vp (p r r' e : Nat) : Prop where
  pos : 0 < r'
  le : r' ≤ r
  v : vp p r = vp p r' + e
  q : r / p ^ vp p r = r' / p ^ vp p r'
theorem Vp.go {p r r' e : Nat} (h : Vp p r r' e) (hp : 2 ≤ p) (hr : r < 2 ^ 64) (hm : r' % p = 0) : Vp p r (r' / p) (e + 1) := by
  have hs := vp_step hp h.pos (Nat.lt_of_le_of_lt h.le hr) hm
  refine ⟨Nat.div_pos (Nat.le_of_dvd h.pos (Nat.dvd_of_mod_eq_zero hm)) (by omega), Nat.le_trans (Nat.div_le_self _ _) h.le, by rw [h.v, hs]; omega, ?_⟩
  rw [h.q, hs, Nat.pow_succ, Nat.mul_comm, Nat.div_div_eq_div_mul]
theorem Vp.fin {p r r' e : Nat} (h : Vp p r r' e) (hm : r' % p ≠ 0) : e = vp p r ∧ r' = r / p ^ vp p r := by
  have hz := vp_zero hm
  refine ⟨by rw [h.v, hz, Nat.zero_add], ?_⟩
  rw [h.q, hz, Nat.pow_zero, Nat.div_one]
theorem Vp.start {p r : Nat} (h : 0 < r) : Vp p r r 0 := ⟨h, Nat.le_refl _, rfl, rfl⟩
theorem dec_mod {r p : Nat} : decide ((r : Int) % (p : Int) = 0) = decide (r % p = 0) := by
  have e : ((r : Int) % (p : Int) = 0) ↔ (r % p = 0) := by
    rw [← Int.natCast_emod]
    exact Int.ofNat_eq_zero
  exact decide_eq_decide.mpr e
theorem szLine' : 2 ^ 20 ≤ sizeLine := by decide
section
variable {K : Fr} {Q : RV → Prop} {X : Addr → Prop} {rs : List RV}
theorem l_within (h : sp_within K rs Q X) : d_within K (endD Q X) (startD ["x", "low", "high"] rs) := by
  obtain ⟨d, lo, hi, rfl, h⟩ := h
  conv => whnf
  cases d
  case int x =>
    refine Br.t ?_
    conv => whnf
    refine Br.t ?_
    conv => whnf
    refine Br.dec (fun h1 => ?_) (fun h1 => ?_)
    · conv => whnf
      have e : withinD (.int x) lo hi = decide (x ≤ hi) := by show (decide (lo ≤ x) && decide (x ≤ hi)) = _; rw [decide_eq_true h1, Bool.true_and]
      rw [e] at h
      exact h
    · conv => whnf
      have e : withinD (.int x) lo hi = false := by show (decide (lo ≤ x) && decide (x ≤ hi)) = _; rw [decide_eq_false h1, Bool.false_and]
      rw [e] at h
      exact h
  case bool b =>
    refine Br.t ?_
    conv => whnf
    refine Br.f ?_
    conv => whnf
    exact h
  all_goals
    refine Br.f ?_
    conv => whnf
    exact h
theorem c_within {d : D} {lo hi : Int} (q : Q (.dat (.bool (withinD d lo hi)))) : Cal (sp_within K) 3 [.dat d, .dat (.int lo), .dat (.int hi)] Q X := ⟨rfl, d, lo, hi, rfl, q⟩
theorem l_whole (h : sp_whole K rs Q X) : d_whole K (endD Q X) (startD ["x"] rs) := by
  obtain ⟨d, rfl, h⟩ := h
  conv => whnf
  cases d
  case int x =>
    refine Br.t ?_
    conv => whnf
    exact h
  case bool b =>
    refine Br.t ?_
    conv => whnf
    exact h
  all_goals
    refine Br.f ?_
    conv => whnf
    exact h
theorem c_whole_ {d : D} (q : Q (.dat (.bool (isIntD d)))) : Cal (sp_whole K) 1 [.dat d] Q X := ⟨rfl, d, rfl, q⟩
theorem facD_out {d : D} (h : withinD d 2 10000000000 = false) : facD d = none := by
  cases d
  case int m =>
    refine if_neg fun z => ?_
    have h' : (decide (2 ≤ m) && decide (m ≤ 10000000000)) = false := h
    rw [decide_eq_true z.1, decide_eq_true z.2] at h'
    cases h'
  all_goals rfl
theorem facD_in {d : D} (h : withinD d 2 10000000000 = true) : ∃ m : Nat, d = .int m ∧ 2 ≤ m ∧ m ≤ 10000000000 ∧ facD d = facRun PR m := by
  cases d
  case int m =>
    have h' : (decide (2 ≤ m) && decide (m ≤ 10000000000)) = true := h
    obtain ⟨h1, h2⟩ := Bool.and_eq_true_iff.mp h'
    have h1 := of_decide_eq_true h1
    have h2 := of_decide_eq_true h2
    exact ⟨m.toNat, by rw [Int.toNat_of_nonneg (by omega)], by omega, by omega, if_pos ⟨h1, h2⟩⟩
  all_goals cases h
theorem pr_at {i : Nat} {d : D} (h : (PR.map prD)[i]? = some d) : ∃ p most : Nat, d = .tuple [.int p, .int most] ∧ 2 ≤ p ∧ p < 2 ^ 20 ∧ PR.drop i = (p, most) :: PR.drop (i + 1) := by
  rw [List.getElem?_map] at h
  cases e : PR[i]? with
  | none => rw [e] at h; cases h
  | some q =>
    rw [e] at h
    obtain ⟨hi, e2⟩ := List.getElem?_eq_some_iff.mp e
    refine ⟨q.1, q.2, (Option.some.inj h).symm, ?_, ?_, by rw [List.drop_eq_getElem_cons hi, e2]⟩
    · have : ∀ q ∈ PR, 2 ≤ q.1 := by decide
      exact this q (List.mem_of_getElem? e)
    · have : ∀ q ∈ PR, q.1 < 2 ^ 20 := by decide
      exact this q (List.mem_of_getElem? e)
theorem l_factors (h : sp_factors K rs Q X) : d_factors K (endD Q X) (startD ["m", "pairs", "rest", "p", "most", "e"] rs) := by
  obtain ⟨d, rfl, hy, hn⟩ := h
  conv => whnf
  refine c_within ?_
  conv => whnf
  cases hw : withinD d 2 10000000000
  · refine Br.t ?_
    conv => whnf
    exact hn (facD_out hw)
  · refine Br.f ?_
    obtain ⟨m, rfl, hm2, hm, hf⟩ := facD_in hw
    rw [hf] at hy hn
    conv => whnf
    refine ⟨by decide, ?_⟩
    conv => whnf
    refine ⟨fun i δ => ∃ (r : Nat) (acc : List (Nat × Nat)) (a b c : Sl), δ = [.dat (.int m), .own (acc.map prD), .dat (.int r), a, b, c] ∧ (0 < r ∧ r ≤ m) ∧ acc.length ≤ i ∧ facRun PR m = (facRun (PR.drop i) r).map (acc ++ ·), ⟨m, [], _, _, _, rfl, ⟨by omega, Nat.le_refl _⟩, by simp, ?_⟩, ?_, ?_⟩
    · show facRun PR m = (facRun PR m).map ([] ++ ·)
      cases facRun PR m <;> rfl
    · rintro i d δ hd ⟨r, acc, a, b, c, rfl, ⟨hr0, hr⟩, hl, hrun⟩
      obtain ⟨p, most, rfl, hp, hp2, hdr⟩ := pr_at hd
      have hi : i < 12 := (List.getElem?_eq_some_iff.mp hd).1
      rw [hdr] at hrun
      conv => whnf
      refine ⟨rfl, ?_⟩
      conv => whnf
      refine ⟨fun k δ => ∃ r' e : Nat, δ = [.dat (.int m), .own (acc.map prD), .dat (.int r'), .dat (.int p), .dat (.int most), .dat (.int e)] ∧ Vp p r r' e ∧ r' = k, ⟨r, r, 0, rfl, .start hr0, rfl⟩, ?_⟩
      rintro k δ ⟨r', e, rfl, hv, rfl⟩
      conv => whnf
      refine ⟨by omega, ?_⟩
      conv => whnf
      refine Br.dec (fun hm => ?_) (fun hm => ?_)
      · have hm : r' % p = 0 := Int.ofNat_eq_zero.mp (show ((r' % p : Nat) : Int) = 0 from hm)
        conv => whnf
        refine ⟨divOk (by omega) (by omega), ?_⟩
        conv => whnf
        exact ⟨_, div_lt hp hv.pos, _, e + 1, rfl, hv.go hp (by omega) hm, rfl⟩
      · have hm : r' % p ≠ 0 := fun z => hm (show ((r' % p : Nat) : Int) = 0 by rw [z]; rfl)
        obtain ⟨rfl, rfl⟩ := hv.fin hm
        have h0 := hv.pos
        have h1 := hv.le
        have hrun' : facRun PR m = ((if most < vp p r then none else (facRun (PR.drop (i + 1)) (r / p ^ vp p r)).map fun l => if 0 < vp p r then (p, vp p r) :: l else l) : Option (List (Nat × Nat))).map (acc ++ ·) := hrun
        conv => whnf
        refine Br.dec (fun hc => ?_) (fun hc => ?_)
        · conv => whnf
          refine hn ?_
          rw [hrun', if_pos (by omega)]
          rfl
        · conv => whnf
          rw [if_neg (by omega)] at hrun'
          refine Br.dec (fun hz => ?_) (fun hz => ?_)
          · have hz : 0 < vp p r := by omega
            conv => whnf
            refine ⟨szLine (show 2 < 2 ^ 20 by decide), ?_⟩
            conv => whnf
            refine ⟨by rw [List.length_map]; exact Nat.lt_of_le_of_lt hl (Nat.lt_of_lt_of_le (show i < 2 ^ 20 by omega) (szLine' )), ?_⟩
            conv => whnf
            refine ⟨_, acc ++ [(p, vp p r)], _, _, _, by rw [List.map_append]; rfl, ⟨h0, by omega⟩, by rw [List.length_append]; show acc.length + 1 ≤ i + 1; omega, ?_⟩
            rw [hrun']
            cases facRun (PR.drop (i + 1)) (r / p ^ vp p r) with
            | none => rfl
            | some l => simp [hz]
          · have hz : ¬ 0 < vp p r := by omega
            conv => whnf
            refine ⟨_, acc, _, _, _, rfl, ⟨h0, by omega⟩, by omega, ?_⟩
            rw [hrun']
            cases facRun (PR.drop (i + 1)) (r / p ^ vp p r) with
            | none => rfl
            | some l => simp [hz]
    · rintro δ ⟨r, acc, a, b, c, rfl, ⟨hr0, hr⟩, hl, hrun⟩
      have hrun' : facRun PR m = ((if r = 1 then some [] else none) : Option (List (Nat × Nat))).map (acc ++ ·) := hrun
      conv => whnf
      refine Br.ndec (fun hc => ?_) (fun hc => ?_)
      · conv => whnf
        refine hn ?_
        rw [hrun', if_neg (by omega)]
        rfl
      · conv => whnf
        have e1 : r = 1 := by omega
        rw [if_pos e1] at hrun'
        have := hy acc (by rw [hrun']; simp)
        exact this
end
end RB

set_option Elab.async false
set_option linter.all false
set_option maxRecDepth 100000
set_option maxHeartbeats 4000000
/-! L3p: the checks -/
namespace RB
open PySem PySem.Spec PyProof.Rows L2
section
variable {K : Fr} {Q : RV → Prop} {X : Addr → Prop} {rs : List RV}
theorem c_factors {d : D} (hy : ∀ l, facD d = some l → Q (.own (l.map prD))) (hn : facD d = none → X (cM K)) : Cal (sp_factors K) 1 [.dat d] Q X := ⟨rfl, d, rfl, hy, hn⟩
theorem c_check_modulus {d : D} (hy : ∀ l, facD d = some l → Q (.dat .none)) (hn : facD d = none → X (cM K)) : Cal (sp_check_modulus K) 1 [.dat d] Q X := ⟨rfl, d, rfl, hy, hn⟩
theorem c_all_entries_fit {ds : List D} (q : Q (.dat (.bool (ds.all fitD)))) : Cal (sp_all_entries_fit K) 1 [.dat (.list ds)] Q X := ⟨rfl, ds, rfl, q⟩
theorem c_check_length {m : Int} (hy : m ≤ 400 → Q (.dat .none)) (hn : 400 < m → X (cL K)) : Cal (sp_check_length K) 1 [.dat (.int m)] Q X := ⟨rfl, m, rfl, hy, hn⟩
theorem l_check_modulus (h : sp_check_modulus K rs Q X) : d_check_modulus K (endD Q X) (startD ["m"] rs) := by
  obtain ⟨d, rfl, hy, hn⟩ := h
  conv => whnf
  exact c_factors hy hn
theorem l_check_length (h : sp_check_length K rs Q X) : d_check_length K (endD Q X) (startD ["m"] rs) := by
  obtain ⟨m, rfl, hy, hn⟩ := h
  conv => whnf
  refine Br.dec (fun h => ?_) (fun h => ?_)
  · conv => whnf
    exact hn h
  · conv => whnf
    exact hy (by omega)
theorem fitD_int {x : Int} : fitD (.int x) = (decide (-(10 ^ 60) ≤ x) && decide (x ≤ 10 ^ 60)) := rfl
theorem l_all_entries_fit (h : sp_all_entries_fit K rs Q X) : d_all_entries_fit K (endD Q X) (startD ["entries", "entry"] rs) := by
  obtain ⟨ds, rfl, h⟩ := h
  ((conv => whnf); repeat (first | (refine Br.t ?_; conv => whnf) | (refine Br.f ?_; conv => whnf)))
  refine ⟨fun i δ => ∃ a, δ = [.dat (.list ds), a] ∧ (ds.take i).all fitD = true, ⟨_, rfl, by simp⟩, ?_, ?_⟩
  · rintro i d δ hd ⟨a, rfl, hall⟩
    have hi : i < ds.length := (List.getElem?_eq_some_iff.mp hd).1
    have e : ds.take (i + 1) = ds.take i ++ [d] := by rw [List.take_add_one, hd]; rfl
    have bad : fitD d = false → ds.all fitD = false := fun hf => by
      rw [List.all_eq_false]
      exact ⟨d, List.mem_of_getElem? hd, by rw [hf]; exact Bool.false_ne_true⟩
    ((conv => whnf); repeat (first | (refine Br.t ?_; conv => whnf) | (refine Br.f ?_; conv => whnf)))
    refine c_whole_ ?_
    ((conv => whnf); repeat (first | (refine Br.t ?_; conv => whnf) | (refine Br.f ?_; conv => whnf)))
    cases hI : isIntD d
    · ((conv => whnf); repeat (first | (refine Br.t ?_; conv => whnf) | (refine Br.f ?_; conv => whnf)))
      have := bad (by cases d <;> first | rfl | cases hI)
      rw [this] at h
      exact h
    · refine Br.f ?_
      obtain ⟨x, rfl⟩ : ∃ x, d = .int x := by cases d <;> first | exact ⟨_, rfl⟩ | cases hI
      ((conv => whnf); repeat (first | (refine Br.t ?_; conv => whnf) | (refine Br.f ?_; conv => whnf)))
      refine Br.dec (fun h1 => ?_) (fun h1 => ?_)
      · ((conv => whnf); repeat (first | (refine Br.t ?_; conv => whnf) | (refine Br.f ?_; conv => whnf)))
        rw [bad (by rw [fitD_int, decide_eq_false (by omega), Bool.false_and])] at h
        exact h
      · ((conv => whnf); repeat (first | (refine Br.t ?_; conv => whnf) | (refine Br.f ?_; conv => whnf)))
        refine Br.dec (fun h2 => ?_) (fun h2 => ?_)
        · ((conv => whnf); repeat (first | (refine Br.t ?_; conv => whnf) | (refine Br.f ?_; conv => whnf)))
          rw [bad (by rw [fitD_int, decide_eq_false (p := x ≤ 10 ^ 60) (by omega), Bool.and_false])] at h
          exact h
        · ((conv => whnf); repeat (first | (refine Br.t ?_; conv => whnf) | (refine Br.f ?_; conv => whnf)))
          refine ⟨_, rfl, ?_⟩
          rw [e, List.all_append, hall, Bool.true_and]
          show (fitD (.int x) && true) = true
          rw [fitD_int, decide_eq_true (by omega), decide_eq_true (by omega)]
          rfl
  · rintro δ ⟨a, rfl, hall⟩
    ((conv => whnf); repeat (first | (refine Br.t ?_; conv => whnf) | (refine Br.f ?_; conv => whnf)))
    rw [List.take_length] at hall
    rw [hall] at h
    exact h
theorem l_check_showing (h : sp_check_showing K rs Q X) : d_check_showing K (endD Q X) (startD ["m", "show"] rs) := by
  obtain ⟨dm, d, rfl, h1, h2, h3, h4⟩ := h
  ((conv => whnf); repeat (first | (refine Br.t ?_; conv => whnf) | (refine Br.f ?_; conv => whnf)))
  refine c_check_modulus (fun l hl => ?_) h1
  obtain ⟨m, rfl, hf⟩ : ∃ m, dm = .int m ∧ facM m = some l := by cases dm <;> first | exact ⟨_, rfl, hl⟩ | cases hl
  ((conv => whnf); repeat (first | (refine Br.t ?_; conv => whnf) | (refine Br.f ?_; conv => whnf)))
  have bad : rowD m d = false → X (cR K) := fun hb => h2 m l rfl hf hb
  cases d
  case list ds =>
    ((conv => whnf); repeat (first | (refine Br.t ?_; conv => whnf) | (refine Br.f ?_; conv => whnf)))
    refine Br.ndec (fun hc => ?_) (fun hc => ?_)
    · ((conv => whnf); repeat (first | (refine Br.t ?_; conv => whnf) | (refine Br.f ?_; conv => whnf)))
      refine bad ?_
      show (decide ((ds.length : Int) = m) && ds.all fitD) = false
      rw [decide_eq_false hc, Bool.false_and]
    · ((conv => whnf); repeat (first | (refine Br.t ?_; conv => whnf) | (refine Br.f ?_; conv => whnf)))
      refine c_all_entries_fit ?_
      ((conv => whnf); repeat (first | (refine Br.t ?_; conv => whnf) | (refine Br.f ?_; conv => whnf)))
      cases ha : ds.all fitD
      · ((conv => whnf); repeat (first | (refine Br.t ?_; conv => whnf) | (refine Br.f ?_; conv => whnf)))
        refine bad ?_
        show (decide ((ds.length : Int) = m) && ds.all fitD) = false
        rw [ha, Bool.and_false]
      · refine Br.f ?_
        have hr : rowD m (.list ds) = true := by
          show (decide ((ds.length : Int) = m) && ds.all fitD) = true
          rw [ha, decide_eq_true hc]
          rfl
        ((conv => whnf); repeat (first | (refine Br.t ?_; conv => whnf) | (refine Br.f ?_; conv => whnf)))
        exact c_check_length (fun h => h4 m l rfl hf hr h) (fun h => h3 m l rfl hf hr h)
  all_goals
    ((conv => whnf); repeat (first | (refine Br.t ?_; conv => whnf) | (refine Br.f ?_; conv => whnf)))
    exact bad rfl
end
end RB

set_option Elab.async false
set_option linter.all false
set_option maxRecDepth 100000
set_option maxHeartbeats 4000000
/-! L4p: periods -/
namespace RB
open PySem PySem.Spec PyProof.Rows L2
theorem atI_iL {ns : List Int} {i : Int} (h0 : 0 ≤ i) (h1 : i < ns.length) : L2.atI (iL ns) i = some (.int (ns.getD i.toNat 0)) := by
  have h2 : i.toNat < ns.length := by omega
  rw [atI_nat h0 (by rw [List.length_map]; exact h1), List.getElem_map, List.getD_eq_getElem?_getD, List.getElem?_eq_getElem h2]
  rfl
theorem fbk_some {ns : List Int} {st i : Nat} (hi : i < ns.length) (h : ns.getD i 0 ≠ ns.getD (i % st) 0) (hb : ∀ j < i, ns.getD j 0 = ns.getD (j % st) 0) : fbk ns st = some i := by
  refine List.find?_range_eq_some.mpr ⟨decide_eq_true h, List.mem_range.mpr hi, fun j hj => ?_⟩
  rw [decide_eq_false (fun z => z (hb j hj))]
  rfl
theorem fbk_none {ns : List Int} {st : Nat} (hb : ∀ j < ns.length, ns.getD j 0 = ns.getD (j % st) 0) : fbk ns st = none := by
  refine List.find?_range_eq_none.mpr fun j hj => ?_
  rw [decide_eq_false (fun z => z (hb j hj))]
  rfl
theorem fbk_lt {ns : List Int} {st i : Nat} (h : fbk ns st = some i) : i < ns.length ∧ ns.getD i 0 ≠ ns.getD (i % st) 0 ∧ ∀ j < i, ns.getD j 0 = ns.getD (j % st) 0 := by
  obtain ⟨h1, h2, h3⟩ := List.find?_range_eq_some.mp h
  refine ⟨List.mem_range.mp h2, of_decide_eq_true h1, fun j hj => ?_⟩
  have := h3 j hj
  by_cases z : ns.getD j 0 = ns.getD (j % st) 0
  · exact z
  · rw [decide_eq_true z] at this; cases this
def stepOk (ns : List Int) (s : Nat) : Bool := decide (ns.length % s = 0) && (fbk ns s).isNone
theorem lper_some {ns : List Int} {s : Nat} (h1 : 1 ≤ s) (h2 : s < ns.length) (h : stepOk ns s = true) (hb : ∀ j, 1 ≤ j → j < s → stepOk ns j = false) : lper ns = s := by
  have e : (List.range' 1 (ns.length - 1)).find? (fun s => decide (ns.length % s = 0) && (fbk ns s).isNone) = some s := by
    refine List.find?_range'_eq_some.mpr ⟨h, List.mem_range'_1.mpr ⟨h1, by omega⟩, fun j h3 h4 => ?_⟩
    have := hb j h3 h4
    unfold stepOk at this
    rw [this]; rfl
  unfold lper
  rw [e]
  rfl
theorem lper_none {ns : List Int} (hb : ∀ j, 1 ≤ j → j < ns.length → stepOk ns j = false) : lper ns = ns.length := by
  have e : (List.range' 1 (ns.length - 1)).find? (fun s => decide (ns.length % s = 0) && (fbk ns s).isNone) = none := by
    refine List.find?_range'_eq_none.mpr fun j h3 h4 => ?_
    have := hb j h3 (by omega)
    unfold stepOk at this
    rw [this]; rfl
  unfold lper
  rw [e]
  rfl
theorem lper_ok {ns : List Int} (h : 0 < ns.length) : 0 < lper ns ∧ ns.length % lper ns = 0 ∧ lper ns ≤ ns.length ∧ ∀ s, 1 ≤ s → s < lper ns → ns.length % s = 0 → ∃ i, fbk ns s = some i := by
  have key : ∀ s, stepOk ns s = false → ns.length % s = 0 → ∃ i, fbk ns s = some i := fun s hs hm => by
    unfold stepOk at hs
    rw [decide_eq_true hm, Bool.true_and] at hs
    cases e : fbk ns s with
    | none => rw [e] at hs; cases hs
    | some i => exact ⟨i, rfl⟩
  unfold lper
  cases e : (List.range' 1 (ns.length - 1)).find? (fun s => decide (ns.length % s = 0) && (fbk ns s).isNone) with
  | none =>
    refine ⟨h, Nat.mod_self _, Nat.le_refl _, fun s h1 h2 hm => key s ?_ hm⟩
    have h2 : s < ns.length := h2
    have := List.find?_range'_eq_none.mp e s h1 (by omega)
    unfold stepOk
    revert this
    cases (decide (ns.length % s = 0) && (fbk ns s).isNone) <;> simp
  | some p =>
    obtain ⟨h1, h2, h3⟩ := List.find?_range'_eq_some.mp e
    have h4 := List.mem_range'_1.mp h2
    refine ⟨(by show 0 < p; omega), of_decide_eq_true (Bool.and_eq_true_iff.mp h1).1, (by show p ≤ _; omega), fun s hs1 hs2 hm => key s ?_ hm⟩
    have := h3 s hs1 hs2
    unfold stepOk
    revert this
    cases (decide (ns.length % s = 0) && (fbk ns s).isNone) <;> simp
theorem iL_of_fit : ∀ {ds : List D}, ds.all fitD = true → ∃ ns, ds = iL ns ∧ ∀ x ∈ ns, Fit x
  | [], _ => ⟨[], rfl, by simp⟩
  | d :: ds, h => by
    rw [List.all_cons] at h
    obtain ⟨h1, h2⟩ := Bool.and_eq_true_iff.mp h
    obtain ⟨ns, rfl, hn⟩ := iL_of_fit h2
    cases d
    case int x =>
      obtain ⟨a, b⟩ := Bool.and_eq_true_iff.mp (show (decide (-(10 ^ 60) ≤ x) && decide (x ≤ 10 ^ 60)) = true from h1)
      exact ⟨x :: ns, rfl, fun y hy => (List.mem_cons.mp hy).elim (fun e => e ▸ ⟨of_decide_eq_true a, of_decide_eq_true b⟩) (hn y)⟩
    all_goals cases h1
section
variable {K : Fr} {Q : RV → Prop} {X : Addr → Prop} {rs : List RV}
theorem c_first_break {ns : List Int} {st : Nat} (h : 0 < st ∧ ns.length ≤ 400) (q : Q (.dat (optI (fbk ns st)))) : Cal (sp_first_break K) 2 [.dat (.list (iL ns)), .dat (.int ((st : Nat) : Int))] Q X := ⟨rfl, ns, st, rfl, h, q⟩
theorem c_least_period {ns : List Int} (h : 0 < ns.length ∧ ns.length ≤ 400) (q : Q (.dat (.int (lper ns)))) : Cal (sp_least_period K) 1 [.dat (.list (iL ns))] Q X := ⟨rfl, ns, rfl, h, q⟩
theorem l_first_break (h : sp_first_break K rs Q X) : d_first_break K (endD Q X) (startD ["entries", "step", "at"] rs) := by
  obtain ⟨ns, st, rfl, ⟨hs, hl⟩, h⟩ := h
  have hlen : (iL ns).length = ns.length := List.length_map ..
  ((conv => whnf); repeat (first | (refine Br.t ?_; conv => whnf) | (refine Br.f ?_; conv => whnf)))
  refine ⟨⟨by rw [hlen]; omega, by rw [hlen]; omega⟩, ?_⟩
  ((conv => whnf); repeat (first | (refine Br.t ?_; conv => whnf) | (refine Br.f ?_; conv => whnf)))
  refine ⟨fun i δ => ∃ a, δ = [.dat (.list (iL ns)), .dat (.int st), a] ∧ ∀ j < i, ns.getD j 0 = ns.getD (j % st) 0, ⟨_, rfl, fun j hj => by omega⟩, ?_, ?_⟩
  · rintro i d δ hd ⟨a, rfl, hb⟩
    obtain ⟨hi, rfl⟩ := rngD_get hd
    have hi : i < ns.length := by rw [hlen] at hi; omega
    have hm : i % st ≤ i := Nat.mod_le _ _
    ((conv => whnf); repeat (first | (refine Br.t ?_; conv => whnf) | (refine Br.f ?_; conv => whnf)))
    refine ⟨_, atI_iL (i := 0 + (i : Int)) (by omega) (by omega), ?_⟩
    ((conv => whnf); repeat (first | (refine Br.t ?_; conv => whnf) | (refine Br.f ?_; conv => whnf)))
    refine ⟨by omega, ?_⟩
    ((conv => whnf); repeat (first | (refine Br.t ?_; conv => whnf) | (refine Br.f ?_; conv => whnf)))
    refine ⟨_, atI_iL (i := (0 + (i : Int)) % (st : Int)) (Int.emod_nonneg _ (by omega)) (by rw [Int.zero_add, ← Int.natCast_emod]; omega), ?_⟩
    ((conv => whnf); repeat (first | (refine Br.t ?_; conv => whnf) | (refine Br.f ?_; conv => whnf)))
    have e1 : (0 + (i : Int)).toNat = i := by omega
    have e2 : ((0 + (i : Int)) % (st : Int)).toNat = i % st := by rw [Int.zero_add, ← Int.natCast_emod]; rfl
    rw [e1, e2]
    refine Br.ndec (fun hc => ?_) (fun hc => ?_)
    · ((conv => whnf); repeat (first | (refine Br.t ?_; conv => whnf) | (refine Br.f ?_; conv => whnf)))
      rw [fbk_some hi hc hb] at h
      rw [Int.zero_add]
      exact h
    · ((conv => whnf); repeat (first | (refine Br.t ?_; conv => whnf) | (refine Br.f ?_; conv => whnf)))
      refine ⟨_, rfl, fun j hj => ?_⟩
      by_cases hji : j = i
      · rw [hji]; exact hc
      · exact hb j (by omega)
  · rintro δ ⟨a, rfl, hb⟩
    rw [rngD_length, hlen] at hb
    ((conv => whnf); repeat (first | (refine Br.t ?_; conv => whnf) | (refine Br.f ?_; conv => whnf)))
    rw [fbk_none (fun j hj => hb j (by omega))] at h
    exact h
theorem optI_none {o : Option Nat} : isNone (optI o) = o.isNone := by cases o <;> rfl
end
end RB

set_option Elab.async false
set_option linter.all false
set_option maxRecDepth 100000
set_option maxHeartbeats 4000000
/-! L5p: the answer -/
namespace RB
open PySem PySem.Spec PyProof.Rows L2
/-! small moduli, all of them looked at -/
def facB (n : Nat) : Bool := match facRun PR n with
  | some l => decide (l.map (·.1) = prs n) && (decide (lawFac P12 n = l) && decide (l.length ≤ 12))
  | none => true
def okM (n : Nat) : Bool := (facRun PR n).isSome
theorem fac_all : ∀ n < 401, 2 ≤ n → facB n = true := by decide +kernel
def divB : Bool := (List.range 401).all fun n => !(decide (2 ≤ n) && okM n) || (List.range 401).all fun k => !(decide (2 ≤ k) && decide (n % k = 0)) || okM k
theorem divB_t : divB = true := by decide +kernel
theorem fac_div (n : Nat) (hn : n < 401) (h2 : 2 ≤ n) (ho : okM n = true) (k : Nat) (hk : k < 401) (h3 : 2 ≤ k) (hm : n % k = 0) : okM k = true := by
  have h := List.all_eq_true.mp (show (List.range 401).all (fun n => !(decide (2 ≤ n) && okM n) || (List.range 401).all fun k => !(decide (2 ≤ k) && decide (n % k = 0)) || okM k) = true from divB_t) n (List.mem_range.mpr hn)
  rw [decide_eq_true h2, ho] at h
  have h := List.all_eq_true.mp (show ((List.range 401).all fun k => !(decide (2 ≤ k) && decide (n % k = 0)) || okM k) = true from h) k (List.mem_range.mpr hk)
  rw [decide_eq_true h3, decide_eq_true hm] at h
  exact h
theorem facM_some {n : Nat} {l : List (Nat × Nat)} (h : facM n = some l) : 2 ≤ n ∧ n ≤ 10000000000 ∧ facRun PR n = some l := by
  unfold facM at h
  split at h
  · rename_i hc
    exact ⟨by omega, by omega, h⟩
  · cases h
theorem facM_of {n : Nat} {l : List (Nat × Nat)} (h2 : 2 ≤ n) (h3 : n ≤ 10000000000) (h : facRun PR n = some l) : facM n = some l := by
  unfold facM
  rw [if_pos ⟨by omega, by omega⟩]
  exact h
theorem fac_prs {n : Nat} {l : List (Nat × Nat)} (h : facM n = some l) (hn : n ≤ 400) : l.map (·.1) = prs n ∧ lawFac P12 n = l ∧ l.length ≤ 12 := by
  obtain ⟨h2, _, h3⟩ := facM_some h
  have := fac_all n (by omega) h2
  unfold facB at this
  rw [h3] at this
  obtain ⟨a, b⟩ := Bool.and_eq_true_iff.mp this
  obtain ⟨b, c⟩ := Bool.and_eq_true_iff.mp b
  exact ⟨of_decide_eq_true a, of_decide_eq_true b, of_decide_eq_true c⟩
theorem fac_sub {n k : Nat} {l : List (Nat × Nat)} (h : facM n = some l) (hn : n ≤ 400) (hk0 : 0 < k) (hk : n % k = 0) : k = 1 ∨ ∃ l, facM k = some l := by
  obtain ⟨h2, _, h3⟩ := facM_some h
  by_cases h1 : k = 1
  · exact .inl h1
  · have hle : k ≤ n := Nat.le_of_dvd (by omega) (Nat.dvd_of_mod_eq_zero hk)
    have := fac_div n (by omega) h2 (by unfold okM; rw [h3]; rfl) k (by omega) (by omega) hk
    obtain ⟨l', e⟩ := Option.isSome_iff_exists.mp this
    exact .inr ⟨l', facM_of (by omega) (by omega) e⟩
section
variable {K : Fr} {Q : RV → Prop} {X : Addr → Prop} {rs : List RV}
theorem c_primes_of {n : Nat} (h : n = 1 ∨ ∃ l, facM n = some l) (h2 : 0 < n ∧ n ≤ 400) (q : Q (.own ((prs n).map fun p => .int ((p : Nat) : Int)))) : Cal (sp_primes_of K) 1 [.dat (.int n)] Q X := ⟨rfl, n, rfl, h, h2, q⟩
theorem l_primes_of (h : sp_primes_of K rs Q X) : d_primes_of K (endD Q X) (startD ["period", "pair"] rs) := by
  obtain ⟨n, rfl, hf, ⟨h0, hn⟩, h⟩ := h
  ((conv => whnf); repeat (first | (refine Br.t ?_; conv => whnf) | (refine Br.f ?_; conv => whnf)))
  refine Br.dec (fun h1 => ?_) (fun h1 => ?_)
  · have e : n = 1 := by omega
    subst e
    ((conv => whnf); repeat (first | (refine Br.t ?_; conv => whnf) | (refine Br.f ?_; conv => whnf)))
    refine ⟨szLine (show 0 < 2 ^ 20 by decide), ?_⟩
    exact h
  · rcases hf with rfl | ⟨l, hl⟩
    · exact absurd rfl h1
    · have hp := fac_prs hl hn
      ((conv => whnf); repeat (first | (refine Br.t ?_; conv => whnf) | (refine Br.f ?_; conv => whnf)))
      refine c_factors (fun l' hl' => ?_) (fun hz => ?_)
      · have e : l' = l := Option.some.inj (hl'.symm.trans hl)
        subst e
        ((conv => whnf); repeat (first | (refine Br.t ?_; conv => whnf) | (refine Br.f ?_; conv => whnf)))
        refine LcS.map (fun d => match d with
          | .tuple (x :: _) => x
          | d => d) (szLine (by rw [List.length_map]; have := hp.2.2; omega)) (fun d hd C hC => ?_) ?_
        · obtain ⟨q, hq, rfl⟩ := List.mem_map.mp hd
          ((conv => whnf); repeat (first | (refine Br.t ?_; conv => whnf) | (refine Br.f ?_; conv => whnf)))
          refine ⟨_, rfl, ?_⟩
          exact hC
        · rw [← hp.1, List.map_map] at h
          rw [List.map_map]
          exact h
      · have : facD (.int n) = some l := hl
        rw [this] at hz
        cases hz
theorem prs_div {n p : Nat} (h : p ∈ prs n) : 2 ≤ p ∧ n % p = 0 := by
  obtain ⟨h1, h2⟩ := List.mem_filter.mp h
  refine ⟨?_, of_decide_eq_true h2⟩
  have : ∀ p ∈ P12, 2 ≤ p := by decide
  exact this p h1
theorem prs_len (n : Nat) : (prs n).length ≤ 12 := List.length_filter_le _ _
/-- the part of the period without p -/
theorem per_part {ns : List Int} {p : Nat} (h0 : 0 < ns.length) (h : p ∈ prs (lper ns)) : 0 < lper ns / p ∧ lper ns / p < lper ns ∧ ns.length % (lper ns / p) = 0 ∧ ∃ i, fbk ns (lper ns / p) = some i := by
  obtain ⟨a, b, c, d⟩ := lper_ok h0
  obtain ⟨hp, hd⟩ := prs_div h
  have h1 : 0 < lper ns / p := Nat.div_pos (Nat.le_of_dvd a (Nat.dvd_of_mod_eq_zero hd)) (by omega)
  have h2 : lper ns / p < lper ns := Nat.div_lt_self a (by omega)
  have h3 : ns.length % (lper ns / p) = 0 := Nat.mod_eq_zero_of_dvd (Nat.dvd_trans (Nat.div_dvd_of_dvd (Nat.dvd_of_mod_eq_zero hd)) (Nat.dvd_of_mod_eq_zero b))
  exact ⟨h1, h2, h3, d _ h1 h2 h3⟩
theorem nol_int {i : Int} : NoL (.int i) := .int i
end
end RB

set_option Elab.async false
set_option linter.all false
set_option maxRecDepth 100000
set_option maxHeartbeats 4000000
/-! L6p: powers, parts, divisors drawn, orders -/
namespace RB
open PySem PySem.Spec PyProof.Rows L2
theorem vpF_dvd {p : Nat} : ∀ (f n : Nat), p ^ vpF p f n ∣ n
  | 0, n => by show p ^ 0 ∣ n; rw [Nat.pow_zero]; exact Nat.one_dvd _
  | f + 1, n => by
    show p ^ (if n % p = 0 then vpF p f (n / p) + 1 else 0) ∣ n
    by_cases h : n % p = 0
    · rw [if_pos h, Nat.pow_succ]
      have := Nat.mul_dvd_mul_right (vpF_dvd (p := p) f (n / p)) p
      rwa [Nat.div_mul_cancel (Nat.dvd_of_mod_eq_zero h)] at this
    · rw [if_neg h, Nat.pow_zero]; exact Nat.one_dvd _
theorem vp_dvd {p n : Nat} : p ^ vp p n ∣ n := vpF_dvd 64 n
def prodF : List (Nat × Nat) → Nat
  | [] => 1
  | q :: l => q.1 ^ q.2 * prodF l
theorem lawFac_dvd : ∀ (ps : List Nat) (r : Nat), prodF (lawFac ps r) ∣ r
  | [], r => Nat.one_dvd _
  | p :: ps, r => by
    have e : p ^ vp p r * (r / p ^ vp p r) = r := Nat.mul_div_cancel' vp_dvd
    have ih := lawFac_dvd ps (r / p ^ vp p r)
    show prodF (if 0 < vp p r then (p, vp p r) :: lawFac ps (r / p ^ vp p r) else lawFac ps (r / p ^ vp p r)) ∣ r
    by_cases h : 0 < vp p r
    · rw [if_pos h]
      have := Nat.mul_dvd_mul_left (p ^ vp p r) ih
      rwa [e] at this
    · rw [if_neg h]
      have hz : vp p r = 0 := by omega
      rw [hz, Nat.pow_zero, Nat.div_one] at ih
      rw [hz, Nat.pow_zero, Nat.div_one]
      exact ih
theorem prodF_snoc : ∀ (l : List (Nat × Nat)) (q : Nat × Nat), prodF (l ++ [q]) = prodF l * q.1 ^ q.2
  | [], q => by show q.1 ^ q.2 * 1 = 1 * q.1 ^ q.2; omega
  | a :: l, q => by show a.1 ^ a.2 * prodF (l ++ [q]) = a.1 ^ a.2 * prodF l * _; rw [prodF_snoc l q, Nat.mul_assoc]
theorem prodF_mem : ∀ {l : List (Nat × Nat)} {q : Nat × Nat}, q ∈ l → q.1 ^ q.2 ∣ prodF l
  | a :: l, q, h => by
    rcases List.mem_cons.mp h with rfl | h
    · exact Nat.dvd_mul_right _ _
    · exact Nat.dvd_trans (prodF_mem h) (Nat.dvd_mul_left _ _)
theorem prodF_take : ∀ (l : List (Nat × Nat)) (i : Nat), prodF (l.take i) ∣ prodF l
  | l, 0 => by rw [List.take_zero]; exact Nat.one_dvd _
  | [], i + 1 => Nat.dvd_refl _
  | a :: l, i + 1 => Nat.mul_dvd_mul_left _ (prodF_take l i)
theorem lawFac_mem : ∀ (ps : List Nat) (r : Nat) (q : Nat × Nat), q ∈ lawFac ps r → q.1 ∈ ps ∧ 0 < q.2
  | [], r, q, h => by cases h
  | p :: ps, r, q, h => by
    unfold lawFac at h
    split at h
    · rename_i hv
      rcases List.mem_cons.mp h with rfl | h
      · exact ⟨List.mem_cons_self, hv⟩
      · have := lawFac_mem ps _ q h
        exact ⟨List.mem_cons_of_mem _ this.1, this.2⟩
    · have := lawFac_mem ps _ q h
      exact ⟨List.mem_cons_of_mem _ this.1, this.2⟩
theorem lawFac_len : ∀ (ps : List Nat) (r : Nat), (lawFac ps r).length ≤ ps.length
  | [], r => Nat.le_refl _
  | p :: ps, r => by
    unfold lawFac
    have := lawFac_len ps (r / p ^ vp p r)
    split
    · rw [List.length_cons, List.length_cons]; omega
    · rw [List.length_cons]; omega
section
variable {K : Fr} {Q : RV → Prop} {X : Addr → Prop} {rs : List RV}
theorem c_power {b : Int} {e : Nat} (hb : -(2 ^ 64) < b ∧ b < 2 ^ 64) (he : e < 1000) (q : Q (.dat (.int (b ^ e)))) : Cal (sp__law_power K) 2 [.dat (.int b), .dat (.int e)] Q X := ⟨rfl, b, e, rfl, hb, he, q⟩
theorem c_lfactors {m : Nat} (h : 0 < m ∧ m < 2 ^ 40) (q : Q (.own ((lawFac P12 m).map prD))) : Cal (sp__law_factors K) 1 [.dat (.int m)] Q X := ⟨rfl, m, rfl, h, q⟩
theorem l__law_power (h : sp__law_power K rs Q X) : d__law_power K (endD Q X) (startD ["base", "e", "number", "k"] rs) := by
  obtain ⟨b, e, rfl, hb, he, h⟩ := h
  ((conv => whnf); repeat (first | (refine Br.t ?_; conv => whnf) | (refine Br.f ?_; conv => whnf)))
  refine ⟨⟨by omega, by omega⟩, ?_⟩
  ((conv => whnf); repeat (first | (refine Br.t ?_; conv => whnf) | (refine Br.f ?_; conv => whnf)))
  refine ⟨fun i δ => ∃ a, δ = [.dat (.int b), .dat (.int e), .dat (.int (b ^ i)), a], ⟨.no, by rw [Int.pow_zero]; rfl⟩, ?_, ?_⟩
  · rintro i d δ hd ⟨a, rfl⟩
    ((conv => whnf); repeat (first | (refine Br.t ?_; conv => whnf) | (refine Br.f ?_; conv => whnf)))
    refine ⟨mulR hb.1 hb.2, ?_⟩
    ((conv => whnf); repeat (first | (refine Br.t ?_; conv => whnf) | (refine Br.f ?_; conv => whnf)))
    rw [Int.pow_succ]
    exact ⟨_, rfl⟩
  · rintro δ ⟨a, rfl⟩
    rw [rngD_length]
    ((conv => whnf); repeat (first | (refine Br.t ?_; conv => whnf) | (refine Br.f ?_; conv => whnf)))
    rw [Int.toNat_natCast]
    exact h
theorem p12_at {i : Nat} {d : D} (h : (P12.map fun p => PyData.int ((p : Nat) : Int))[i]? = some d) : ∃ p : Nat, d = .int p ∧ 2 ≤ p ∧ p < 2 ^ 20 ∧ i < 12 ∧ P12.drop i = p :: P12.drop (i + 1) := by
  rw [List.getElem?_map] at h
  cases e : P12[i]? with
  | none => rw [e] at h; cases h
  | some q =>
    rw [e] at h
    obtain ⟨hi, e2⟩ := List.getElem?_eq_some_iff.mp e
    refine ⟨q, (Option.some.inj h).symm, ?_, ?_, hi, by rw [List.drop_eq_getElem_cons hi, e2]⟩
    · have : ∀ q ∈ P12, 2 ≤ q := by decide
      exact this q (List.mem_of_getElem? e)
    · have : ∀ q ∈ P12, q < 2 ^ 20 := by decide
      exact this q (List.mem_of_getElem? e)
theorem l__law_factors (h : sp__law_factors K rs Q X) : d__law_factors K (endD Q X) (startD ["m", "pairs", "rest", "p", "e"] rs) := by
  obtain ⟨m, rfl, ⟨hm0, hm⟩, h⟩ := h
  ((conv => whnf); repeat (first | (refine Br.t ?_; conv => whnf) | (refine Br.f ?_; conv => whnf)))
  refine ⟨szLine (show 0 < 2 ^ 20 by decide), ?_⟩
  ((conv => whnf); repeat (first | (refine Br.t ?_; conv => whnf) | (refine Br.f ?_; conv => whnf)))
  refine ⟨szLine (show 12 < 2 ^ 20 by decide), ?_⟩
  ((conv => whnf); repeat (first | (refine Br.t ?_; conv => whnf) | (refine Br.f ?_; conv => whnf)))
  refine ⟨fun i δ => ∃ (r : Nat) (acc : List (Nat × Nat)) (a b : Sl), δ = [.dat (.int m), .own (acc.map prD), .dat (.int r), a, b] ∧ (0 < r ∧ r ≤ m) ∧ acc.length ≤ i ∧ lawFac P12 m = acc ++ lawFac (P12.drop i) r, ⟨m, [], _, _, rfl, ⟨hm0, Nat.le_refl _⟩, Nat.le_refl _, rfl⟩, ?_, ?_⟩
  · rintro i d δ hd ⟨r, acc, a, b, rfl, ⟨hr0, hr⟩, hl, hrun⟩
    obtain ⟨p, rfl, hp, hp2, hi, hdr⟩ := p12_at hd
    rw [hdr] at hrun
    ((conv => whnf); repeat (first | (refine Br.t ?_; conv => whnf) | (refine Br.f ?_; conv => whnf)))
    refine ⟨fun k δ => ∃ r' e : Nat, δ = [.dat (.int m), .own (acc.map prD), .dat (.int r'), .dat (.int p), .dat (.int e)] ∧ Vp p r r' e ∧ r' = k, ⟨r, r, 0, rfl, .start hr0, rfl⟩, ?_⟩
    rintro k δ ⟨r', e, rfl, hv, rfl⟩
    ((conv => whnf); repeat (first | (refine Br.t ?_; conv => whnf) | (refine Br.f ?_; conv => whnf)))
    refine Br.dec (fun hz => ?_) (fun hz => absurd (show (0 : Int) < (r' : Int) from by have := hv.pos; omega) hz)
    ((conv => whnf); repeat (first | (refine Br.t ?_; conv => whnf) | (refine Br.f ?_; conv => whnf)))
    refine ⟨by omega, ?_⟩
    ((conv => whnf); repeat (first | (refine Br.t ?_; conv => whnf) | (refine Br.f ?_; conv => whnf)))
    refine Br.dec (fun hm => ?_) (fun hm => ?_)
    · have hm : r' % p = 0 := Int.ofNat_eq_zero.mp (show ((r' % p : Nat) : Int) = 0 from hm)
      ((conv => whnf); repeat (first | (refine Br.t ?_; conv => whnf) | (refine Br.f ?_; conv => whnf)))
      refine ⟨divOk (by omega) (by omega), ?_⟩
      ((conv => whnf); repeat (first | (refine Br.t ?_; conv => whnf) | (refine Br.f ?_; conv => whnf)))
      exact ⟨_, div_lt hp hv.pos, _, e + 1, rfl, hv.go hp (by omega) hm, rfl⟩
    · have hm : r' % p ≠ 0 := fun z => hm (show ((r' % p : Nat) : Int) = 0 by rw [z]; rfl)
      obtain ⟨rfl, rfl⟩ := hv.fin hm
      have h0 := hv.pos
      have h1 := hv.le
      have hrun' : lawFac P12 m = acc ++ (if 0 < vp p r then (p, vp p r) :: lawFac (P12.drop (i + 1)) (r / p ^ vp p r) else lawFac (P12.drop (i + 1)) (r / p ^ vp p r)) := hrun
      ((conv => whnf); repeat (first | (refine Br.t ?_; conv => whnf) | (refine Br.f ?_; conv => whnf)))
      refine Br.dec (fun hz => ?_) (fun hz => ?_)
      · have hz : 0 < vp p r := by omega
        rw [if_pos hz] at hrun'
        ((conv => whnf); repeat (first | (refine Br.t ?_; conv => whnf) | (refine Br.f ?_; conv => whnf)))
        refine ⟨szLine (show 2 < 2 ^ 20 by decide), ?_⟩
        ((conv => whnf); repeat (first | (refine Br.t ?_; conv => whnf) | (refine Br.f ?_; conv => whnf)))
        refine ⟨by rw [List.length_map]; exact Nat.lt_of_le_of_lt hl (Nat.lt_of_lt_of_le (show i < 2 ^ 20 by omega) szLine'), ?_⟩
        ((conv => whnf); repeat (first | (refine Br.t ?_; conv => whnf) | (refine Br.f ?_; conv => whnf)))
        refine ⟨_, acc ++ [(p, vp p r)], _, _, by rw [List.map_append]; rfl, ⟨h0, by omega⟩, by rw [List.length_append]; show acc.length + 1 ≤ i + 1; omega, ?_⟩
        rw [hrun', List.append_assoc]
        rfl
      · have hz : ¬ 0 < vp p r := by omega
        rw [if_neg hz] at hrun'
        ((conv => whnf); repeat (first | (refine Br.t ?_; conv => whnf) | (refine Br.f ?_; conv => whnf)))
        exact ⟨_, acc, _, _, rfl, ⟨h0, by omega⟩, by omega, hrun'⟩
  · rintro δ ⟨r, acc, a, b, rfl, ⟨hr0, hr⟩, hl, hrun⟩
    ((conv => whnf); repeat (first | (refine Br.t ?_; conv => whnf) | (refine Br.f ?_; conv => whnf)))
    have e : lawFac P12 m = acc := by rw [hrun]; exact List.append_nil acc
    rw [e] at h
    exact h
theorem l__law_divisor (h : sp__law_divisor K rs Q X) : d__law_divisor K (endD Q X) (startD ["store", "m", "kind", "number", "p", "e"] rs) := by
  obtain ⟨m, rfl, ⟨h0, hm⟩, h⟩ := h
  ((conv => whnf); repeat (first | (refine Br.t ?_; conv => whnf) | (refine Br.f ?_; conv => whnf)))
  refine c_take (by decide) fun r h1 h2 => ?_
  ((conv => whnf); repeat (first | (refine Br.t ?_; conv => whnf) | (refine Br.f ?_; conv => whnf)))
  refine Br.dec (fun _ => ?_) (fun _ => ?_)
  · ((conv => whnf); repeat (first | (refine Br.t ?_; conv => whnf) | (refine Br.f ?_; conv => whnf)))
    exact h 1 (by decide) (Nat.mod_one _)
  ((conv => whnf); repeat (first | (refine Br.t ?_; conv => whnf) | (refine Br.f ?_; conv => whnf)))
  refine Br.dec (fun _ => ?_) (fun _ => ?_)
  · ((conv => whnf); repeat (first | (refine Br.t ?_; conv => whnf) | (refine Br.f ?_; conv => whnf)))
    exact h m h0 (Nat.mod_self _)
  ((conv => whnf); repeat (first | (refine Br.t ?_; conv => whnf) | (refine Br.f ?_; conv => whnf)))
  refine c_lfactors ⟨h0, by omega⟩ ?_
  ((conv => whnf); repeat (first | (refine Br.t ?_; conv => whnf) | (refine Br.f ?_; conv => whnf)))
  refine ⟨fun i δ => ∃ (n : Nat) (a b : Sl), δ = [.sto, .dat (.int m), .dat (.int r), .dat (.int n), a, b] ∧ 0 < n ∧ n ∣ prodF ((lawFac P12 m).take i), ⟨1, _, _, rfl, by decide, Nat.one_dvd _⟩, ?_, ?_⟩
  · rintro i d δ hd ⟨n, a, b, rfl, hn, hdv⟩
    obtain ⟨q, hq, rfl⟩ : ∃ q, (lawFac P12 m)[i]? = some q ∧ d = prD q := by
      rw [List.getElem?_map] at hd
      cases e : (lawFac P12 m)[i]? with
      | none => rw [e] at hd; cases hd
      | some q => rw [e] at hd; exact ⟨q, rfl, (Option.some.inj hd).symm⟩
    have hmem := List.mem_of_getElem? hq
    have hle : q.1 ^ q.2 ≤ m := Nat.le_of_dvd h0 (Nat.dvd_trans (prodF_mem hmem) (lawFac_dvd P12 m))
    obtain ⟨hq1, hq2⟩ := lawFac_mem P12 m q hmem
    have hp : 2 ≤ q.1 ∧ q.1 < 100 := by
      have : ∀ p ∈ P12, 2 ≤ p ∧ p < 100 := by decide
      exact this _ hq1
    have he : q.2 < 400 := by
      have : q.2 < q.1 ^ q.2 := Nat.lt_pow_self (by omega)
      omega
    ((conv => whnf); repeat (first | (refine Br.t ?_; conv => whnf) | (refine Br.f ?_; conv => whnf)))
    refine ⟨rfl, ?_⟩
    ((conv => whnf); repeat (first | (refine Br.t ?_; conv => whnf) | (refine Br.f ?_; conv => whnf)))
    refine c_whole (show (0 : Int) ≤ (q.2 : Int) by omega) fun j h1 h2 => ?_
    obtain ⟨k, rfl⟩ := Int.eq_ofNat_of_zero_le h1
    have hk : k ≤ q.2 := by omega
    ((conv => whnf); repeat (first | (refine Br.t ?_; conv => whnf) | (refine Br.f ?_; conv => whnf)))
    refine c_power ⟨by omega, by omega⟩ (by omega) ?_
    have hpk : q.1 ^ k ≤ 400 := Nat.le_trans (Nat.pow_le_pow_right (by omega) hk) (by omega)
    have hpos : 0 < q.1 ^ k := Nat.pow_pos (by omega)
    have ec : ((q.1 : Int) ^ k) = ((q.1 ^ k : Nat) : Int) := (Int.natCast_pow _ _).symm
    rw [ec]
    ((conv => whnf); repeat (first | (refine Br.t ?_; conv => whnf) | (refine Br.f ?_; conv => whnf)))
    refine ⟨mulR (by omega) (by omega), ?_⟩
    ((conv => whnf); repeat (first | (refine Br.t ?_; conv => whnf) | (refine Br.f ?_; conv => whnf)))
    refine ⟨n * q.1 ^ k, _, _, rfl, Nat.mul_pos hn hpos, ?_⟩
    have e : (lawFac P12 m).take (i + 1) = (lawFac P12 m).take i ++ [q] := by rw [List.take_add_one, hq]; rfl
    rw [e, prodF_snoc]
    exact Nat.mul_dvd_mul hdv (Nat.pow_dvd_pow _ hk)
  · rintro δ ⟨n, a, b, rfl, hn, hdv⟩
    ((conv => whnf); repeat (first | (refine Br.t ?_; conv => whnf) | (refine Br.f ?_; conv => whnf)))
    exact h n hn (Nat.mod_eq_zero_of_dvd (Nat.dvd_trans (Nat.dvd_trans hdv (prodF_take _ _)) (lawFac_dvd P12 m)))
end
end RB

set_option Elab.async false
set_option linter.all false
set_option maxRecDepth 100000
set_option maxHeartbeats 4000000
/-! L7p: orders, divisors, moduli drawn -/
namespace RB
open PySem PySem.Spec PyProof.Rows L2
def InR (n : Nat) (ns : List Int) : Prop := ns.length = n ∧ ∀ x ∈ ns, 0 ≤ x ∧ x < n
theorem rngI_in (n : Nat) : InR n (rngI 0 n) := by
  refine ⟨by unfold rngI; rw [List.length_map, List.length_range], fun x hx => ?_⟩
  obtain ⟨i, hi, rfl⟩ := List.mem_map.mp hx
  have := List.mem_range.mp hi
  omega
theorem ixN_nat {n : Nat} {i : Int} (h0 : 0 ≤ i) (h1 : i < n) : L2.ixN n i = some i.toNat := by
  unfold L2.ixN
  rw [if_pos h0, if_pos h1]
theorem iL_append (a b : List Int) : iL a ++ iL b = iL (a ++ b) := List.map_append.symm
theorem iL_rev (a : List Int) : (iL a).reverse = iL a.reverse := List.map_reverse.symm
theorem iL_set (ns : List Int) (k : Nat) (v : Int) : (iL ns).set k (.int v) = iL (ns.set k v) := List.map_set.symm
theorem iL_len (ns : List Int) : (iL ns).length = ns.length := List.length_map ..
theorem cutD_iL (ns : List Int) (lo hi : Option Int) : cutD (iL ns) lo hi = iL ((ns.drop (HT.sIx ns.length 0 lo)).take (HT.sIx ns.length ns.length hi - HT.sIx ns.length 0 lo)) := by
  unfold cutD
  rw [iL_len]
  show _ = List.map _ _
  rw [List.map_take, List.map_drop]
theorem getD_mem {ns : List Int} {k : Nat} (h : k < ns.length) : ns.getD k 0 ∈ ns := by
  rw [List.getD_eq_getElem?_getD, List.getElem?_eq_getElem h]
  exact List.getElem_mem h
section
variable {K : Fr} {Q : RV → Prop} {X : Addr → Prop} {rs : List RV}
theorem c_order {n : Nat} (h : 0 < n ∧ n ≤ 1000) (q : ∀ ns : List Int, ns.length = n → (∀ x ∈ ns, 0 ≤ x ∧ x < n) → Q (.own (iL ns))) : Cal (sp__law_order K) 2 [.sto, .dat (.int n)] Q X := ⟨rfl, n, rfl, h, q⟩
theorem l__law_order (h : sp__law_order K rs Q X) : d__law_order K (endD Q X) (startD ["store", "n", "order", "kind", "k", "turn", "at", "other", "kept"] rs) := by
  obtain ⟨n, rfl, ⟨h0, hn⟩, h⟩ := h
  ((conv => whnf); repeat (first | (refine Br.t ?_; conv => whnf) | (refine Br.f ?_; conv => whnf)))
  refine ⟨⟨by omega, by omega⟩, ?_⟩
  have e0 : rngD 0 (n : Int).toNat = iL (rngI 0 n) := by rw [Int.toNat_natCast, rngD_ints]
  rw [e0]
  have hr := rngI_in n
  have hq : ∀ ns, InR n ns → Q (.own (iL ns)) := fun ns h1 => h ns h1.1 h1.2
  generalize rngI 0 n = ns at hr
  ((conv => whnf); repeat (first | (refine Br.t ?_; conv => whnf) | (refine Br.f ?_; conv => whnf)))
  refine c_take (by decide) fun kd h1 h2 => ?_
  ((conv => whnf); repeat (first | (refine Br.t ?_; conv => whnf) | (refine Br.f ?_; conv => whnf)))
  refine Br.dec (fun _ => ?_) (fun _ => ?_)
  · ((conv => whnf); repeat (first | (refine Br.t ?_; conv => whnf) | (refine Br.f ?_; conv => whnf)))
    exact hq ns hr
  ((conv => whnf); repeat (first | (refine Br.t ?_; conv => whnf) | (refine Br.f ?_; conv => whnf)))
  refine Br.dec (fun _ => ?_) (fun _ => ?_)
  · ((conv => whnf); repeat (first | (refine Br.t ?_; conv => whnf) | (refine Br.f ?_; conv => whnf)))
    have e := iL_rev ns
    have := hq ns.reverse ⟨by rw [List.length_reverse]; exact hr.1, fun x hx => hr.2 x (List.mem_reverse.mp hx)⟩
    rw [← e] at this
    exact this
  ((conv => whnf); repeat (first | (refine Br.t ?_; conv => whnf) | (refine Br.f ?_; conv => whnf)))
  refine Br.dec (fun _ => ?_) (fun _ => ?_)
  · ((conv => whnf); repeat (first | (refine Br.t ?_; conv => whnf) | (refine Br.f ?_; conv => whnf)))
    refine c_take (by omega) fun t h3 h4 => ?_
    obtain ⟨k, rfl⟩ := Int.eq_ofNat_of_zero_le h3
    have hk : k < n := by omega
    ((conv => whnf); repeat (first | (refine Br.t ?_; conv => whnf) | (refine Br.f ?_; conv => whnf)))
    rw [cutD_iL, cutD_iL]
    have e1 : HT.sIx ns.length 0 (some (k : Int)) = k := by rw [HT.sIx_nat]; have := hr.1; omega
    have e2 : HT.sIx ns.length ns.length none = ns.length := HT.sIx_none ..
    have e3 : HT.sIx ns.length 0 none = 0 := HT.sIx_none ..
    have e4 : HT.sIx ns.length ns.length (some (k : Int)) = k := by rw [HT.sIx_nat]; have := hr.1; omega
    rw [e1, e2, e3, e4]
    have el : ((ns.drop k).take (ns.length - k)).length + ((ns.drop 0).take (k - 0)).length = n := by
      rw [List.length_take, List.length_drop, List.length_take, List.length_drop]
      have := hr.1
      omega
    refine ⟨szLine (by rw [List.length_map, List.length_map, el]; omega), ?_⟩
    have ea := iL_append ((ns.drop k).take (ns.length - k)) ((ns.drop 0).take (k - 0))
    have := hq ((ns.drop k).take (ns.length - k) ++ (ns.drop 0).take (k - 0)) ⟨by rw [List.length_append]; exact el, fun x hx => hr.2 x (by
      rcases List.mem_append.mp hx with hx | hx
      · exact List.mem_of_mem_drop (List.mem_of_mem_take hx)
      · exact List.mem_of_mem_drop (List.mem_of_mem_take hx))⟩
    rw [← ea] at this
    exact this
  ((conv => whnf); repeat (first | (refine Br.t ?_; conv => whnf) | (refine Br.f ?_; conv => whnf)))
  refine ⟨⟨by omega, by omega⟩, ?_⟩
  ((conv => whnf); repeat (first | (refine Br.t ?_; conv => whnf) | (refine Br.f ?_; conv => whnf)))
  refine ⟨fun i δ => ∃ ns a b c d e f, δ = [.sto, .dat (.int n), .own (iL ns), a, b, c, d, e, f] ∧ InR n ns, ⟨ns, _, _, _, _, _, _, rfl, hr⟩, ?_, ?_⟩
  · rintro i d δ hd ⟨ns, a, b, c, d', e, f, rfl, hr⟩
    obtain ⟨hi, rfl⟩ := rngD_get hd
    have hi : i + 1 < n := by omega
    have hl := hr.1
    ((conv => whnf); repeat (first | (refine Br.t ?_; conv => whnf) | (refine Br.f ?_; conv => whnf)))
    refine c_take (by omega) fun o h3 h4 => ?_
    have ho : o < ns.length := by omega
    have ha : (n : Int) - 1 - (0 + (i : Int)) < ns.length := by omega
    have ha0 : 0 ≤ (n : Int) - 1 - (0 + (i : Int)) := by omega
    ((conv => whnf); repeat (first | (refine Br.t ?_; conv => whnf) | (refine Br.f ?_; conv => whnf)))
    refine ⟨_, atI_iL ha0 ha, ?_⟩
    ((conv => whnf); repeat (first | (refine Br.t ?_; conv => whnf) | (refine Br.f ?_; conv => whnf)))
    refine ⟨_, atI_iL h3 ho, ?_⟩
    ((conv => whnf); repeat (first | (refine Br.t ?_; conv => whnf) | (refine Br.f ?_; conv => whnf)))
    refine ⟨_, ixN_nat ha0 (by rw [iL_len]; exact ha), ?_⟩
    ((conv => whnf); repeat (first | (refine Br.t ?_; conv => whnf) | (refine Br.f ?_; conv => whnf)))
    rw [iL_set]
    refine ⟨_, ixN_nat h3 (by rw [iL_len, List.length_set]; exact ho), ?_⟩
    ((conv => whnf); repeat (first | (refine Br.t ?_; conv => whnf) | (refine Br.f ?_; conv => whnf)))
    rw [iL_set]
    refine ⟨_, _, _, _, _, _, _, rfl, ?_⟩
    have m1 := hr.2 _ (getD_mem (ns := ns) (k := ((n : Int) - 1 - (0 + (i : Int))).toNat) (by omega))
    have m2 := hr.2 _ (getD_mem (ns := ns) (k := o.toNat) (by omega))
    refine ⟨by rw [List.length_set, List.length_set]; exact hl, fun x hx => ?_⟩
    rcases List.mem_or_eq_of_mem_set hx with hx | rfl
    · rcases List.mem_or_eq_of_mem_set hx with hx | rfl
      · exact hr.2 x hx
      · exact m2
    · exact m1
  · rintro δ ⟨ns, a, b, c, d', e, f, rfl, hr⟩
    ((conv => whnf); repeat (first | (refine Br.t ?_; conv => whnf) | (refine Br.f ?_; conv => whnf)))
    exact hq ns hr
/-- the divisors as the law makes them -/
def divStep (q : Nat × Nat) (found : List Nat) : List Nat := (List.range (q.2 + 1)).flatMap fun k => found.map (· * q.1 ^ k)
def divsF : List (Nat × Nat) → List Nat → List Nat
  | [], f => f
  | q :: l, f => divsF l (divStep q f)
def divsOk (n : Nat) : Bool := (List.range 13).all (fun i => decide ((divsF ((lawFac P12 n).take i) [1]).length ≤ 400) && (divsF ((lawFac P12 n).take i) [1]).all (fun k => decide (k ≤ 400))) && ((divsF (lawFac P12 n) [1]).all (fun k => decide (0 < k) && decide (n % k = 0)) &&
  ((List.range 401).all (fun k => !(decide (0 < k) && decide (n % k = 0)) || (divsF (lawFac P12 n) [1]).contains k) && (lawFac P12 n).all (fun q => decide (q.1 ^ q.2 ≤ 400) && (decide (q.1 ≤ 400) && decide (q.2 ≤ 400)))))
theorem divs_all : ((List.range 401).all fun n => !(decide (2 ≤ n) && okM n) || divsOk n) = true := by decide +kernel
end
end RB

set_option Elab.async false
set_option linter.all false
set_option maxRecDepth 100000
set_option maxHeartbeats 4000000
/-! L8p: divisors, moduli drawn -/
namespace RB
open PySem PySem.Spec PyProof.Rows L2
abbrev nL (f : List Nat) : List D := f.map fun k => PyData.int ((k : Nat) : Int)
theorem divsF_snoc : ∀ (l : List (Nat × Nat)) (q : Nat × Nat) (f : List Nat), divsF (l ++ [q]) f = divStep q (divsF l f)
  | [], q, f => rfl
  | a :: l, q, f => divsF_snoc l q (divStep a f)
theorem flat_len (F : List Nat) (p : Nat) : ∀ k : Nat, ((List.range k).flatMap fun j => F.map (· * p ^ j)).length = k * F.length
  | 0 => by simp
  | k + 1 => by
    rw [List.range_succ, List.flatMap_append, List.length_append, flat_len F p k, List.flatMap_singleton, List.length_map, Nat.succ_mul]
theorem divs_of {n : Nat} {l : List (Nat × Nat)} (h : facM n = some l) (hn : n ≤ 400) : divsOk n = true := by
  obtain ⟨h2, _, h3⟩ := facM_some h
  have := List.all_eq_true.mp divs_all n (List.mem_range.mpr (by omega))
  rw [decide_eq_true h2, show okM n = true by unfold okM; rw [h3]; rfl] at this
  exact this
structure DivsF (n : Nat) : Prop where
  len : ∀ i, i ≤ 12 → (divsF ((lawFac P12 n).take i) [1]).length ≤ 400
  mem : ∀ k, k ∈ divsF (lawFac P12 n) [1] ↔ (0 < k ∧ n % k = 0)
  q : ∀ q ∈ lawFac P12 n, q.1 ^ q.2 ≤ 400 ∧ q.1 ≤ 400 ∧ q.2 ≤ 400
theorem divs_facts {n : Nat} (h : divsOk n = true) (hn : n ≤ 400) (h0 : 0 < n) : DivsF n := by
  unfold divsOk at h
  obtain ⟨h1, h⟩ := Bool.and_eq_true_iff.mp h
  obtain ⟨h2, h⟩ := Bool.and_eq_true_iff.mp h
  obtain ⟨h3, h4⟩ := Bool.and_eq_true_iff.mp h
  refine ⟨fun i hi => ?_, fun k => ⟨fun hk => ?_, fun ⟨k0, hk⟩ => ?_⟩, fun q hq => ?_⟩
  · have := List.all_eq_true.mp h1 i (List.mem_range.mpr (by omega))
    exact of_decide_eq_true (Bool.and_eq_true_iff.mp this).1
  · have := Bool.and_eq_true_iff.mp (List.all_eq_true.mp h2 k hk)
    exact ⟨of_decide_eq_true this.1, of_decide_eq_true this.2⟩
  · have hle : k ≤ n := Nat.le_of_dvd h0 (Nat.dvd_of_mod_eq_zero hk)
    have := List.all_eq_true.mp h3 k (List.mem_range.mpr (by omega))
    rw [decide_eq_true k0, decide_eq_true hk] at this
    exact List.contains_iff_mem.mp this
  · have := List.all_eq_true.mp h4 q hq
    obtain ⟨a, b⟩ := Bool.and_eq_true_iff.mp this
    obtain ⟨b, c⟩ := Bool.and_eq_true_iff.mp b
    exact ⟨of_decide_eq_true a, of_decide_eq_true b, of_decide_eq_true c⟩
section
variable {K : Fr} {Q : RV → Prop} {X : Addr → Prop} {rs : List RV}
theorem c_divisors {m : Nat} (h1 : ∃ l, facM m = some l) (h2 : m ≤ 400) (q : ∀ ns : List Int, ns.Pairwise (· ≤ ·) → (∀ x : Int, x ∈ ns ↔ ∃ k : Nat, x = k ∧ 0 < k ∧ m % k = 0) → Q (.own (iL ns))) : Cal (sp__law_divisors K) 1 [.dat (.int m)] Q X := ⟨rfl, m, rfl, h1, h2, q⟩
theorem c_divisor {m : Nat} (h : 0 < m ∧ m ≤ 400) (q : ∀ k : Nat, 0 < k → m % k = 0 → Q (.dat (.int k))) : Cal (sp__law_divisor K) 2 [.sto, .dat (.int m)] Q X := ⟨rfl, m, rfl, h, q⟩
theorem l__law_divisors (h : sp__law_divisors K rs Q X) : d__law_divisors K (endD Q X) (startD ["m", "found", "p", "e", "size", "more", "k", "number"] rs) := by
  obtain ⟨m, rfl, ⟨l0, hf⟩, hm, h⟩ := h
  obtain ⟨hm2, _, _⟩ := facM_some hf
  have F := divs_facts (divs_of hf hm) hm (by omega)
  have hl12 : (lawFac P12 m).length ≤ 12 := lawFac_len P12 m
  ((conv => whnf); repeat (first | (refine Br.t ?_; conv => whnf) | (refine Br.f ?_; conv => whnf)))
  refine ⟨szLine (show 1 < 2 ^ 20 by decide), ?_⟩
  ((conv => whnf); repeat (first | (refine Br.t ?_; conv => whnf) | (refine Br.f ?_; conv => whnf)))
  refine c_lfactors ⟨by omega, by omega⟩ ?_
  ((conv => whnf); repeat (first | (refine Br.t ?_; conv => whnf) | (refine Br.f ?_; conv => whnf)))
  refine ⟨fun i δ => ∃ a b c d e f, δ = [.dat (.int m), .dat (.list (nL (divsF ((lawFac P12 m).take i) [1]))), a, b, c, d, e, f], ⟨_, _, _, _, _, _, rfl⟩, ?_, ?_⟩
  · rintro i d δ hd ⟨a, b, c, d', e, f, rfl⟩
    obtain ⟨q, hq, rfl⟩ : ∃ q, (lawFac P12 m)[i]? = some q ∧ d = prD q := by
      rw [List.getElem?_map] at hd
      cases e : (lawFac P12 m)[i]? with
      | none => rw [e] at hd; cases hd
      | some q => rw [e] at hd; exact ⟨q, rfl, (Option.some.inj hd).symm⟩
    have hmem := List.mem_of_getElem? hq
    have hi : i < (lawFac P12 m).length := (List.getElem?_eq_some_iff.mp hq).1
    obtain ⟨q1, q2, q3⟩ := F.q q hmem
    have hp2 : 2 ≤ q.1 := by
      have : ∀ p ∈ P12, 2 ≤ p := by decide
      exact this _ (lawFac_mem P12 m q hmem).1
    have hlen := F.len i (by omega)
    have e1 : (lawFac P12 m).take (i + 1) = (lawFac P12 m).take i ++ [q] := by rw [List.take_add_one, hq]; rfl
    dsimp only
    rw [e1, divsF_snoc]
    generalize divsF ((lawFac P12 m).take i) [1] = G at hlen
    ((conv => whnf); repeat (first | (refine Br.t ?_; conv => whnf) | (refine Br.f ?_; conv => whnf)))
    refine ⟨rfl, ?_⟩
    ((conv => whnf); repeat (first | (refine Br.t ?_; conv => whnf) | (refine Br.f ?_; conv => whnf)))
    refine ⟨szLine (show 0 < 2 ^ 20 by decide), ?_⟩
    ((conv => whnf); repeat (first | (refine Br.t ?_; conv => whnf) | (refine Br.f ?_; conv => whnf)))
    refine ⟨⟨by omega, by omega⟩, ?_⟩
    have e2 : ((q.2 : Int) + 1).toNat = q.2 + 1 := by omega
    rw [e2]
    ((conv => whnf); repeat (first | (refine Br.t ?_; conv => whnf) | (refine Br.f ?_; conv => whnf)))
    refine ⟨fun k δ => ∃ x y, δ = [.dat (.int m), .dat (.list (nL G)), .dat (.int q.1), .dat (.int q.2), .dat (.int (q.1 ^ k : Nat)), .dat (.list (nL ((List.range k).flatMap fun j => G.map (· * q.1 ^ j)))), x, y], ⟨_, _, rfl⟩, ?_, ?_⟩
    · rintro k d δ hd ⟨x, y, rfl⟩
      obtain ⟨hk, rfl⟩ := rngD_get hd
      have hpk : q.1 ^ k ≤ 400 := Nat.le_trans (Nat.pow_le_pow_right (by omega) (by omega)) q1
      have hfl := flat_len G q.1 k
      have hkG : k * G.length ≤ 400 * 400 := Nat.mul_le_mul (by omega) hlen
      have e3 : ((List.range (k + 1)).flatMap fun j => G.map (· * q.1 ^ j)) = ((List.range k).flatMap fun j => G.map (· * q.1 ^ j)) ++ G.map (· * q.1 ^ k) := by rw [List.range_succ, List.flatMap_append, List.flatMap_singleton]
      dsimp only
      rw [e3]
      generalize ((List.range k).flatMap fun j => G.map (· * q.1 ^ j)) = Z at hfl
      ((conv => whnf); repeat (first | (refine Br.t ?_; conv => whnf) | (refine Br.f ?_; conv => whnf)))
      refine LcS.map (fun d => match d with
        | .int x => .int (x * (q.1 ^ k : Nat))
        | d => d) (szLine (by rw [List.length_map]; omega)) (fun d hd C hC => ?_) ?_
      · obtain ⟨z, hz, rfl⟩ := List.mem_map.mp hd
        ((conv => whnf); repeat (first | (refine Br.t ?_; conv => whnf) | (refine Br.f ?_; conv => whnf)))
        refine ⟨mulR (by omega) (by omega), ?_⟩
        exact hC
      · ((conv => whnf); repeat (first | (refine Br.t ?_; conv => whnf) | (refine Br.f ?_; conv => whnf)))
        refine ⟨szLine (by rw [List.length_map, List.length_map, List.length_map]; omega), ?_⟩
        ((conv => whnf); repeat (first | (refine Br.t ?_; conv => whnf) | (refine Br.f ?_; conv => whnf)))
        refine ⟨mulR (by omega) (by omega), ?_⟩
        ((conv => whnf); repeat (first | (refine Br.t ?_; conv => whnf) | (refine Br.f ?_; conv => whnf)))
        have e4 : nL (Z ++ G.map (· * q.1 ^ k)) = nL Z ++ (nL G).map (fun d => match d with
            | .int x => .int (x * (q.1 ^ k : Nat))
            | d => d) := by
          show List.map _ _ = List.map _ _ ++ List.map _ (List.map _ _)
          rw [List.map_append, List.map_map, List.map_map]
          rfl
        rw [e4, Nat.pow_succ]
        exact ⟨_, _, rfl⟩
    · rintro δ ⟨x, y, rfl⟩
      rw [rngD_length]
      ((conv => whnf); repeat (first | (refine Br.t ?_; conv => whnf) | (refine Br.f ?_; conv => whnf)))
      exact ⟨_, _, _, _, _, _, rfl⟩
  · rintro δ ⟨a, b, c, d', e, f, rfl⟩
    rw [List.length_map, List.take_length]
    ((conv => whnf); repeat (first | (refine Br.t ?_; conv => whnf) | (refine Br.f ?_; conv => whnf)))
    refine ⟨(divsF (lawFac P12 m) [1]).map fun k => ((k : Nat) : Int), by rw [List.map_map]; rfl, fun ns' hP hS => ?_⟩
    refine h ns' hS fun x => ⟨fun hx => ?_, fun ⟨k, e, k0, hk⟩ => ?_⟩
    · obtain ⟨k, hk, rfl⟩ := List.mem_map.mp (hP.mem_iff.mp hx)
      exact ⟨k, rfl, (F.mem k).mp hk⟩
    · exact hP.mem_iff.mpr (List.mem_map.mpr ⟨k, (F.mem k).mpr ⟨k0, hk⟩, e.symm⟩)
def sharp : List Int := [2, 3, 4, 5, 6, 7, 8, 9, 12, 16, 18, 24, 25, 27, 30, 32, 35, 36, 37, 40, 49, 54, 64, 72, 81, 100, 108] ++ [121, 125, 128, 135, 175, 180, 200, 210, 216, 243, 256, 289, 343, 361, 400, 512, 625, 667, 1147] ++ [1331, 2000, 2197, 2310, 4096, 16807, 59049, 765049, 1953125, 387420489, 4294967296, 5410805400] ++ [6469693230, 8589934592, 9966796875]
theorem sharp_ok : sharp.all (fun x => decide (x ≤ 400) == false || (decide (2 ≤ x) && okM x.toNat)) = true := by decide +kernel
def mulB : Bool := (List.range 401).all fun n => !(decide (n = 1) || (decide (2 ≤ n) && okM n)) || P12.all fun p => !(decide (n * p ≤ 400)) || okM (n * p)
theorem mulB_t : mulB = true := by decide +kernel
theorem mul_ok {n p : Nat} (h : n = 1 ∨ (2 ≤ n ∧ okM n = true)) (hn : n ≤ 400) (hp : p ∈ P12) (hnp : n * p ≤ 400) : okM (n * p) = true := by
  have h1 := List.all_eq_true.mp (show ((List.range 401).all fun n => !(decide (n = 1) || (decide (2 ≤ n) && okM n)) || P12.all fun p => !(decide (n * p ≤ 400)) || okM (n * p)) = true from mulB_t) n (List.mem_range.mpr (by omega))
  have e : (decide (n = 1) || (decide (2 ≤ n) && okM n)) = true := by
    rcases h with h | ⟨h, h'⟩
    · rw [decide_eq_true h]; rfl
    · rw [decide_eq_true h, h', Bool.and_true, Bool.or_true]
  rw [e] at h1
  have h2 := List.all_eq_true.mp (show (P12.all fun p => !(decide (n * p ≤ 400)) || okM (n * p)) = true from h1) p hp
  rw [decide_eq_true hnp] at h2
  exact h2
theorem facM_okM {n : Nat} (h2 : 2 ≤ n) (h3 : n ≤ 400) (h : okM n = true) : ∃ l, facM n = some l := by
  obtain ⟨l, e⟩ := Option.isSome_iff_exists.mp h
  exact ⟨l, facM_of h2 (by omega) e⟩
def leD (h : Int) (d : D) : Option D := match d with
  | .int x => if x ≤ h then some (.int x) else none
  | _ => none
theorem leD_y {h x : Int} (hx : x ≤ h) : leD h (.int x) = some (.int x) := if_pos hx
theorem leD_n {h x : Int} (hx : ¬ x ≤ h) : leD h (.int x) = none := if_neg hx
def pI : List Int := [2, 3, 5, 7, 11, 13, 17, 19, 23, 29, 31, 37]
theorem pI_nat : pI = P12.map fun p => ((p : Nat) : Int) := rfl
theorem l__law_modulus (h : sp__law_modulus K rs Q X) : d__law_modulus K (endD Q X) (startD ["store", "high", "primes", "left", "number", "k", "sharp", "near", "i"] rs) := by
  obtain ⟨hh, rfl, hv, h⟩ := h
  have hle : 2 ≤ hh ∧ hh ≤ 400 := by omega
  ((conv => whnf); repeat (first | (refine Br.t ?_; conv => whnf) | (refine Br.f ?_; conv => whnf)))
  refine ⟨rfl, _, rfl, by decide, fun b => ?_⟩
  ((conv => whnf); repeat (first | (refine Br.t ?_; conv => whnf) | (refine Br.f ?_; conv => whnf)))
  refine ⟨fun _ => ?_, fun _ => ?_⟩
  · ((conv => whnf); repeat (first | (refine Br.t ?_; conv => whnf) | (refine Br.f ?_; conv => whnf)))
    refine ⟨szLine (show 27 < 2 ^ 20 by decide), ?_⟩
    ((conv => whnf); repeat (first | (refine Br.t ?_; conv => whnf) | (refine Br.f ?_; conv => whnf)))
    refine ⟨szLine (show 19 < 2 ^ 20 by decide), ?_⟩
    ((conv => whnf); repeat (first | (refine Br.t ?_; conv => whnf) | (refine Br.f ?_; conv => whnf)))
    refine ⟨szLine (show 46 < 2 ^ 20 by decide), ?_⟩
    ((conv => whnf); repeat (first | (refine Br.t ?_; conv => whnf) | (refine Br.f ?_; conv => whnf)))
    refine ⟨szLine (show 12 < 2 ^ 20 by decide), ?_⟩
    ((conv => whnf); repeat (first | (refine Br.t ?_; conv => whnf) | (refine Br.f ?_; conv => whnf)))
    refine ⟨szLine (show 58 < 2 ^ 20 by decide), ?_⟩
    ((conv => whnf); repeat (first | (refine Br.t ?_; conv => whnf) | (refine Br.f ?_; conv => whnf)))
    refine ⟨szLine (show 3 < 2 ^ 20 by decide), ?_⟩
    ((conv => whnf); repeat (first | (refine Br.t ?_; conv => whnf) | (refine Br.f ?_; conv => whnf)))
    refine ⟨szLine (show 61 < 2 ^ 20 by decide), ?_⟩
    ((conv => whnf); repeat (first | (refine Br.t ?_; conv => whnf) | (refine Br.f ?_; conv => whnf)))
    refine LcS.det (leD hh) (szLine (show 61 < 2 ^ 20 by decide)) (fun d hd C hC => ?_) ?_
    · obtain ⟨x, _, rfl⟩ := List.mem_map.mp (show d ∈ sharp.map PyData.int from hd)
      ((conv => whnf); repeat (first | (refine Br.t ?_; conv => whnf) | (refine Br.f ?_; conv => whnf)))
      refine Br.dec (fun hx => ?_) (fun hx => ?_)
      · ((conv => whnf); repeat (first | (refine Br.t ?_; conv => whnf) | (refine Br.f ?_; conv => whnf)))
        rw [leD_y hx] at hC
        exact hC
      · rw [leD_n hx] at hC
        exact hC
    · ((conv => whnf); repeat (first | (refine Br.t ?_; conv => whnf) | (refine Br.f ?_; conv => whnf)))
      have hm : ∀ d ∈ List.filterMap (leD hh) (sharp.map PyData.int), ∃ n : Nat, d = .int n ∧ 2 ≤ n ∧ n ≤ hh ∧ ∃ l, facM n = some l := fun d hd => by
        obtain ⟨e, he, hge⟩ := List.mem_filterMap.mp hd
        obtain ⟨x, hx, rfl⟩ := List.mem_map.mp he
        have hge : (if x ≤ (hh : Int) then some (PyData.int x) else none) = some d := hge
        by_cases hxl : x ≤ (hh : Int)
        · rw [if_pos hxl] at hge
          cases hge
          have := List.all_eq_true.mp sharp_ok x hx
          rw [decide_eq_true (show x ≤ 400 by omega)] at this
          obtain ⟨a, b⟩ := Bool.and_eq_true_iff.mp (show (decide (2 ≤ x) && okM x.toNat) = true from this)
          have a := of_decide_eq_true a
          exact ⟨x.toNat, by rw [Int.toNat_of_nonneg (by omega)], by omega, by omega, facM_okM (by omega) (by omega) b⟩
        · rw [if_neg hxl] at hge
          cases hge
      have hl : (List.filterMap (leD hh) (sharp.map PyData.int)).length ≤ 61 := List.length_filterMap_le _ _
      have hne : List.filterMap (leD hh) (sharp.map PyData.int) ≠ [] := List.ne_nil_of_mem (List.mem_filterMap.mpr ⟨.int 2, List.mem_map.mpr ⟨2, by decide, rfl⟩, if_pos (by omega)⟩)
      refine c_pick hne (Nat.lt_of_le_of_lt hl (by decide)) fun d hd => ?_
      obtain ⟨n, rfl, h1, h2, h3⟩ := hm d hd
      exact h n h1 h2 h3
  · ((conv => whnf); repeat (first | (refine Br.t ?_; conv => whnf) | (refine Br.f ?_; conv => whnf)))
    refine ⟨szLine (show 12 < 2 ^ 20 by decide), ?_⟩
    ((conv => whnf); repeat (first | (refine Br.t ?_; conv => whnf) | (refine Br.f ?_; conv => whnf)))
    refine ⟨szLine (show 12 < 2 ^ 20 by decide), ?_⟩
    ((conv => whnf); repeat (first | (refine Br.t ?_; conv => whnf) | (refine Br.f ?_; conv => whnf)))
    refine ⟨mulL (by decide) (by decide), ?_⟩
    have eif : (if (fun i j : Int => decide (j < i)) (hh : Int) 1000000 = true then (1 : Int) else 0) = 0 := if_neg fun z => by
      have := of_decide_eq_true (show decide ((1000000 : Int) < (hh : Int)) = true from z)
      omega
    ((conv => whnf); repeat (first | (refine Br.t ?_; conv => whnf) | (refine Br.f ?_; conv => whnf)))
    rw [eif]
    refine c_take (by decide) fun r h1 h2 => ?_
    have h2 : r < 7 := h2
    ((conv => whnf); repeat (first | (refine Br.t ?_; conv => whnf) | (refine Br.f ?_; conv => whnf)))
    refine ⟨⟨by omega, by omega⟩, ?_⟩
    ((conv => whnf); repeat (first | (refine Br.t ?_; conv => whnf) | (refine Br.f ?_; conv => whnf)))
    refine ⟨fun i δ => ∃ (ls : List Int) (n : Nat) (a b : Sl), δ = [.sto, .dat (.int hh), .dat (.list (iL pI)), .own (iL ls), .dat (.int n), a, .no, .no, b] ∧ ls.length = 12 ∧ (n = 1 ∨ (2 ≤ n ∧ okM n = true)) ∧ 1 ≤ n ∧ n ≤ hh,
      ⟨[38, 18, 9, 5, 3, 3, 2, 2, 1, 1, 1, 1], 1, _, _, rfl, rfl, .inl rfl, by decide, by omega⟩, ?_, ?_⟩
    · rintro i d δ hd ⟨ls, n, a, b, rfl, hls, hn, hn1, hn2⟩
      ((conv => whnf); repeat (first | (refine Br.t ?_; conv => whnf) | (refine Br.f ?_; conv => whnf)))
      refine c_take (by decide) fun r1 h3 h4 => ?_
      have h4 : r1 < 12 := h4
      ((conv => whnf); repeat (first | (refine Br.t ?_; conv => whnf) | (refine Br.f ?_; conv => whnf)))
      refine c_take (by omega) fun r2 h5 h6 => ?_
      have h6 : r2 < 12 := by omega
      obtain ⟨j, rfl⟩ := Int.eq_ofNat_of_zero_le h5
      have hj : j < 12 := by omega
      obtain ⟨p, hp, hpm⟩ : ∃ p : Nat, pI.getD j 0 = p ∧ p ∈ P12 := by
        have hj2 : j < P12.length := hj
        refine ⟨P12[j], ?_, List.getElem_mem hj2⟩
        rw [pI_nat, List.getD_eq_getElem?_getD, List.getElem?_map, List.getElem?_eq_getElem hj2]
        rfl
      have hp2 : 2 ≤ p ∧ p < 100 := by
        have : ∀ p ∈ P12, 2 ≤ p ∧ p < 100 := by decide
        exact this p hpm
      have ix1 : L2.atI (iL ls) (j : Int) = some (.int (ls.getD j 0)) := atI_iL (by omega) (by omega)
      have ix2 : L2.atI (iL pI) (j : Int) = some (.int (p : Int)) := by rw [← hp]; exact atI_iL (by omega) (show (j : Int) < (12 : Nat) by omega)
      ((conv => whnf); repeat (first | (refine Br.t ?_; conv => whnf) | (refine Br.f ?_; conv => whnf)))
      refine ⟨_, ix1, ?_⟩
      ((conv => whnf); repeat (first | (refine Br.t ?_; conv => whnf) | (refine Br.f ?_; conv => whnf)))
      refine Br.dec (fun hl => ?_) (fun hl => ?_)
      · ((conv => whnf); repeat (first | (refine Br.t ?_; conv => whnf) | (refine Br.f ?_; conv => whnf)))
        refine ⟨_, ix2, ?_⟩
        ((conv => whnf); repeat (first | (refine Br.t ?_; conv => whnf) | (refine Br.f ?_; conv => whnf)))
        refine ⟨mulL (by omega) (by omega), ?_⟩
        ((conv => whnf); repeat (first | (refine Br.t ?_; conv => whnf) | (refine Br.f ?_; conv => whnf)))
        refine Br.dec (fun hnp => ?_) (fun hnp => ?_)
        · ((conv => whnf); repeat (first | (refine Br.t ?_; conv => whnf) | (refine Br.f ?_; conv => whnf)))
          refine ⟨_, ix2, ?_⟩
          ((conv => whnf); repeat (first | (refine Br.t ?_; conv => whnf) | (refine Br.f ?_; conv => whnf)))
          refine ⟨mulL (by omega) (by omega), ?_⟩
          ((conv => whnf); repeat (first | (refine Br.t ?_; conv => whnf) | (refine Br.f ?_; conv => whnf)))
          refine ⟨_, ix1, ?_⟩
          ((conv => whnf); repeat (first | (refine Br.t ?_; conv => whnf) | (refine Br.f ?_; conv => whnf)))
          refine ⟨_, ixN_nat (by omega) (by rw [iL_len]; omega), ?_⟩
          ((conv => whnf); repeat (first | (refine Br.t ?_; conv => whnf) | (refine Br.f ?_; conv => whnf)))
          rw [iL_set]
          have hnp : n * p ≤ hh := by
            have : ((n * p : Nat) : Int) ≤ (hh : Int) := by rw [Int.natCast_mul]; exact hnp
            omega
          have hge : 2 ≤ n * p := Nat.le_trans hp2.1 (Nat.le_mul_of_pos_left _ (by omega))
          exact ⟨_, n * p, _, _, rfl, by rw [List.length_set]; exact hls, .inr ⟨hge, mul_ok hn (by omega) hpm (by omega)⟩, by omega, hnp⟩
        · ((conv => whnf); repeat (first | (refine Br.t ?_; conv => whnf) | (refine Br.f ?_; conv => whnf)))
          exact ⟨ls, n, _, _, rfl, hls, hn, hn1, hn2⟩
      · ((conv => whnf); repeat (first | (refine Br.t ?_; conv => whnf) | (refine Br.f ?_; conv => whnf)))
        exact ⟨ls, n, _, _, rfl, hls, hn, hn1, hn2⟩
    · rintro δ ⟨ls, n, a, b, rfl, hls, hn, hn1, hn2⟩
      ((conv => whnf); repeat (first | (refine Br.t ?_; conv => whnf) | (refine Br.f ?_; conv => whnf)))
      rcases hn with rfl | ⟨hn, ho⟩
      · exact h 2 (by decide) (by omega) (facM_okM (by decide) (by decide) (by decide +kernel))
      · have e : (if (n : Int) > 2 then (n : Int) else 2) = n := by omega
        have := h n hn hn2 (facM_okM hn (by omega) ho)
        rw [← e] at this
        exact this
theorem c_modulus {hh : Nat} (h1 : hh = 60 ∨ hh = 400) (q : ∀ m : Nat, 2 ≤ m → m ≤ hh → (∃ l, facM m = some l) → Q (.dat (.int m))) : Cal (sp__law_modulus K) 2 [.sto, .dat (.int hh)] Q X := ⟨rfl, hh, rfl, h1, q⟩
end
end RB

set_option Elab.async false
set_option linter.all false
set_option maxRecDepth 100000
set_option maxHeartbeats 4000000
/-! L9p: same, copy -/
namespace RB
open PySem PySem.Spec PyProof.Rows L2
theorem at_nat {ds : List D} {i : Nat} (h : i < ds.length) : L2.atI ds (0 + (i : Int)) = some ds[i] := by
  rw [Int.zero_add, atI_nat (by omega) (by omega)]
  rfl
section
variable {K : Fr} {Q : RV → Prop} {X : Addr → Prop} {rs : List RV}
theorem c_same {n : Nat} {d : D} (h : Dep n d) (q : Q (.dat (.bool true))) : Cal (sp__law_same n) 2 [.dat d, .dat d] Q X := ⟨rfl, d, rfl, h, q⟩
theorem c_copy {n : Nat} {d : D} {k : Int} (h : Dep n d) (q : Q (.dat d)) (q2 : ∀ ds, d = .list ds → Q (.own ds)) : Cal (sp__law_copy n) 2 [.dat d, .dat (.int k)] Q X := ⟨rfl, d, k, rfl, h, q, q2⟩
theorem l__law_same (n : Nat) (h : sp__law_same (n + 1) rs Q X) : d__law_same K (sp__law_same n) (endD Q X) (startD ["actual", "due", "i", "key"] rs) := by
  obtain ⟨d, rfl, hd, h⟩ := h
  cases hd with
  | non =>
    ((conv => whnf); repeat (first | (refine Br.t ?_; conv => whnf) | (refine Br.f ?_; conv => whnf)))
    refine ⟨fun δ' => False, ?_, fun δ' z => z.elim⟩
    ((conv => whnf); repeat (first | (refine Br.t ?_; conv => whnf) | (refine Br.f ?_; conv => whnf)))
    exact h
  | bl b =>
    ((conv => whnf); repeat (first | (refine Br.t ?_; conv => whnf) | (refine Br.f ?_; conv => whnf)))
    cases b
    · exact ⟨⟨rfl, rfl⟩, h⟩
    · exact ⟨⟨rfl, rfl⟩, h⟩
  | int i =>
    ((conv => whnf); repeat (first | (refine Br.t ?_; conv => whnf) | (refine Br.f ?_; conv => whnf)))
    rw [show decide (i = i) = true from decide_eq_true rfl]
    exact h
  | str x =>
    ((conv => whnf); repeat (first | (refine Br.t ?_; conv => whnf) | (refine Br.f ?_; conv => whnf)))
    rw [show decide (x = x) = true from decide_eq_true rfl]
    exact h
  | @lst _ ds hl hn =>
    ((conv => whnf); repeat (first | (refine Br.t ?_; conv => whnf) | (refine Br.f ?_; conv => whnf)))
    refine ⟨fun δ' => δ' = [.dat (.list ds), .dat (.list ds), .no, .no], ?_, ?_⟩
    · ((conv => whnf); repeat (first | (refine Br.t ?_; conv => whnf) | (refine Br.f ?_; conv => whnf)))
      rfl
    · rintro δ' rfl
      ((conv => whnf); repeat (first | (refine Br.t ?_; conv => whnf) | (refine Br.f ?_; conv => whnf)))
      refine Br.ndec (fun hc => absurd rfl hc) (fun _ => ?_)
      ((conv => whnf); repeat (first | (refine Br.t ?_; conv => whnf) | (refine Br.f ?_; conv => whnf)))
      refine ⟨⟨by omega, by omega⟩, ?_⟩
      ((conv => whnf); repeat (first | (refine Br.t ?_; conv => whnf) | (refine Br.f ?_; conv => whnf)))
      refine ⟨fun i δ => ∃ a, δ = [.dat (.list ds), .dat (.list ds), a, .no], ⟨_, rfl⟩, ?_, ?_⟩
      · rintro i d hd' hd ⟨a, rfl⟩
        obtain ⟨hi, rfl⟩ := rngD_get hd
        have hi : i < ds.length := by omega
        ((conv => whnf); repeat (first | (refine Br.t ?_; conv => whnf) | (refine Br.f ?_; conv => whnf)))
        refine ⟨_, at_nat hi, ?_⟩
        ((conv => whnf); repeat (first | (refine Br.t ?_; conv => whnf) | (refine Br.f ?_; conv => whnf)))
        refine ⟨_, at_nat hi, ?_⟩
        ((conv => whnf); repeat (first | (refine Br.t ?_; conv => whnf) | (refine Br.f ?_; conv => whnf)))
        refine c_same (hn _ (List.getElem_mem hi)) ?_
        ((conv => whnf); repeat (first | (refine Br.t ?_; conv => whnf) | (refine Br.f ?_; conv => whnf)))
        exact ⟨_, rfl⟩
      · rintro δ ⟨a, rfl⟩
        ((conv => whnf); repeat (first | (refine Br.t ?_; conv => whnf) | (refine Br.f ?_; conv => whnf)))
        exact h
  | @tup _ ds hl hn =>
    ((conv => whnf); repeat (first | (refine Br.t ?_; conv => whnf) | (refine Br.f ?_; conv => whnf)))
    refine ⟨fun δ' => δ' = [.dat (.tuple ds), .dat (.tuple ds), .no, .no], ?_, ?_⟩
    · ((conv => whnf); repeat (first | (refine Br.t ?_; conv => whnf) | (refine Br.f ?_; conv => whnf)))
      rfl
    · rintro δ' rfl
      ((conv => whnf); repeat (first | (refine Br.t ?_; conv => whnf) | (refine Br.f ?_; conv => whnf)))
      refine Br.ndec (fun hc => absurd rfl hc) (fun _ => ?_)
      ((conv => whnf); repeat (first | (refine Br.t ?_; conv => whnf) | (refine Br.f ?_; conv => whnf)))
      refine ⟨⟨by omega, by omega⟩, ?_⟩
      ((conv => whnf); repeat (first | (refine Br.t ?_; conv => whnf) | (refine Br.f ?_; conv => whnf)))
      refine ⟨fun i δ => ∃ a, δ = [.dat (.tuple ds), .dat (.tuple ds), a, .no], ⟨_, rfl⟩, ?_, ?_⟩
      · rintro i d hd' hd ⟨a, rfl⟩
        obtain ⟨hi, rfl⟩ := rngD_get hd
        have hi : i < ds.length := by omega
        ((conv => whnf); repeat (first | (refine Br.t ?_; conv => whnf) | (refine Br.f ?_; conv => whnf)))
        refine ⟨_, at_nat hi, ?_⟩
        ((conv => whnf); repeat (first | (refine Br.t ?_; conv => whnf) | (refine Br.f ?_; conv => whnf)))
        refine ⟨_, at_nat hi, ?_⟩
        ((conv => whnf); repeat (first | (refine Br.t ?_; conv => whnf) | (refine Br.f ?_; conv => whnf)))
        refine c_same (hn _ (List.getElem_mem hi)) ?_
        ((conv => whnf); repeat (first | (refine Br.t ?_; conv => whnf) | (refine Br.f ?_; conv => whnf)))
        exact ⟨_, rfl⟩
      · rintro δ ⟨a, rfl⟩
        ((conv => whnf); repeat (first | (refine Br.t ?_; conv => whnf) | (refine Br.f ?_; conv => whnf)))
        exact h
theorem l__law_copy (n : Nat) (h : sp__law_copy (n + 1) rs Q X) : d__law_copy K (sp__law_copy n) (endD Q X) (startD ["thing", "deep", "one"] rs) := by
  obtain ⟨d, k, rfl, hd, hq, hq2⟩ := h
  cases hd with
  | @lst _ ds hl hn =>
    ((conv => whnf); repeat (first | (refine Br.t ?_; conv => whnf) | (refine Br.f ?_; conv => whnf)))
    refine Br.dec (fun _ => ?_) (fun _ => ?_)
    · ((conv => whnf); repeat (first | (refine Br.t ?_; conv => whnf) | (refine Br.f ?_; conv => whnf)))
      refine LcS.map (fun d => d) (szLine (by omega)) (fun d hd C hC => ?_) ?_
      · ((conv => whnf); repeat (first | (refine Br.t ?_; conv => whnf) | (refine Br.f ?_; conv => whnf)))
        refine c_copy (hn d hd) ?_ fun es e => ?_
        · ((conv => whnf); repeat (first | (refine Br.t ?_; conv => whnf) | (refine Br.f ?_; conv => whnf)))
          exact hC
        · ((conv => whnf); repeat (first | (refine Br.t ?_; conv => whnf) | (refine Br.f ?_; conv => whnf)))
          rw [← e]
          exact hC
      · rw [List.map_id']
        exact hq2 ds rfl
    · ((conv => whnf); repeat (first | (refine Br.t ?_; conv => whnf) | (refine Br.f ?_; conv => whnf)))
      exact hq
  | @tup _ ds hl hn =>
    ((conv => whnf); repeat (first | (refine Br.t ?_; conv => whnf) | (refine Br.f ?_; conv => whnf)))
    refine Br.dec (fun _ => ?_) (fun _ => ?_)
    · ((conv => whnf); repeat (first | (refine Br.t ?_; conv => whnf) | (refine Br.f ?_; conv => whnf)))
      refine LcS.map (fun d => d) (szLine (by omega)) (fun d hd C hC => ?_) ?_
      · ((conv => whnf); repeat (first | (refine Br.t ?_; conv => whnf) | (refine Br.f ?_; conv => whnf)))
        refine c_copy (hn d hd) ?_ fun es e => ?_
        · ((conv => whnf); repeat (first | (refine Br.t ?_; conv => whnf) | (refine Br.f ?_; conv => whnf)))
          exact hC
        · ((conv => whnf); repeat (first | (refine Br.t ?_; conv => whnf) | (refine Br.f ?_; conv => whnf)))
          rw [← e]
          exact hC
      · rw [List.map_id']
        ((conv => whnf); repeat (first | (refine Br.t ?_; conv => whnf) | (refine Br.f ?_; conv => whnf)))
        exact hq
    · ((conv => whnf); repeat (first | (refine Br.t ?_; conv => whnf) | (refine Br.f ?_; conv => whnf)))
      exact hq
  | _ =>
    ((conv => whnf); repeat (first | (refine Br.t ?_; conv => whnf) | (refine Br.f ?_; conv => whnf)))
    exact hq
end
end RB

set_option Elab.async false
set_option linter.all false
set_option maxRecDepth 100000
set_option maxHeartbeats 4000000
/-! L10p: the law's period and answer, the showings drawn -/
namespace RB
open PySem PySem.Spec PyProof.Rows L2
theorem eqv_iL (a b : List Int) : PyData.eqv (.list (iL a)) (.list (iL b)) = decide (a = b) := by
  rw [PyData.eqv]
  exact PySem.W.ked_eqvAll a b
theorem flat_get (xs : List Int) (h : 0 < xs.length) : ∀ (q j : Nat), j < q * xs.length → (List.replicate q xs).flatten.getD j 0 = xs.getD (j % xs.length) 0
  | 0, j, hj => by omega
  | q + 1, j, hj => by
    rw [List.replicate_succ, List.flatten_cons, List.getD_eq_getElem?_getD, List.getD_eq_getElem?_getD]
    by_cases hx : j < xs.length
    · rw [List.getElem?_append_left hx, Nat.mod_eq_of_lt hx]
    · rw [List.getElem?_append_right (by omega)]
      have ih := flat_get xs h q (j - xs.length) (by rw [Nat.succ_mul] at hj; omega)
      rw [List.getD_eq_getElem?_getD, List.getD_eq_getElem?_getD] at ih
      rw [ih]
      have e : (j - xs.length) % xs.length = j % xs.length := by
        conv => rhs; rw [← Nat.sub_add_cancel (show xs.length ≤ j by omega)]
        rw [Nat.add_mod_right]
      rw [e]
theorem flat_len' (xs : List Int) (q : Nat) : (List.replicate q xs).flatten.length = q * xs.length := by
  induction q with
  | zero => simp
  | succ q ih => rw [List.replicate_succ, List.flatten_cons, List.length_append, ih, Nat.succ_mul]; omega
theorem getD_take (ns : List Int) {p j : Nat} (h : j < p) : (ns.take p).getD j 0 = ns.getD j 0 := by
  rw [List.getD_eq_getElem?_getD, List.getD_eq_getElem?_getD, List.getElem?_take_of_lt h]
theorem ext_getD {a b : List Int} (hl : a.length = b.length) (h : ∀ j < a.length, a.getD j 0 = b.getD j 0) : a = b := by
  refine List.ext_getElem hl fun i h1 h2 => ?_
  have := h i h1
  rw [List.getD_eq_getElem?_getD, List.getD_eq_getElem?_getD, List.getElem?_eq_getElem h1, List.getElem?_eq_getElem h2] at this
  exact this
/-- a row of the period p -/
theorem per_iff {ns : List Int} {p : Nat} (h0 : 0 < p) (hp : ns.length % p = 0) (hle : p ≤ ns.length) : ns = (List.replicate (ns.length / p) (ns.take p)).flatten ↔ fbk ns p = none := by
  have hl : (ns.take p).length = p := by rw [List.length_take]; omega
  have hm : ns.length / p * p = ns.length := Nat.div_mul_cancel (Nat.dvd_of_mod_eq_zero hp)
  have key : ∀ j < ns.length, (List.replicate (ns.length / p) (ns.take p)).flatten.getD j 0 = ns.getD (j % p) 0 := fun j hj => by
    rw [flat_get _ (by omega) _ _ (by rw [hl, hm]; exact hj), hl, getD_take _ (Nat.mod_lt _ h0)]
  constructor
  · intro e
    refine fbk_none fun j hj => ?_
    have := key j hj
    rw [← e] at this
    exact this
  · intro e
    refine ext_getD (by rw [flat_len', hl, hm]) fun j hj => ?_
    rw [key j hj]
    by_cases z : ns.getD j 0 = ns.getD (j % p) 0
    · exact z
    · exfalso
      have h2 := List.find?_range_eq_none.mp e j hj
      rw [decide_eq_true z] at h2
      cases h2
section
variable {K : Fr} {Q : RV → Prop} {X : Addr → Prop} {rs : List RV}
theorem c_period {m : Nat} {ns : List Int} (h1 : ∃ l, facM m = some l) (h2 : m ≤ 400) (h3 : ns.length = m) (q : Q (.dat (.int (lper ns)))) : Cal (sp__law_period K) 2 [.dat (.int m), .dat (.list (iL ns))] Q X := ⟨rfl, m, ns, rfl, h1, h2, h3, q⟩
theorem l__law_period (h : sp__law_period K rs Q X) : d__law_period K (endD Q X) (startD ["m", "show", "period"] rs) := by
  obtain ⟨m, ns, rfl, hf, hm, rfl, h⟩ := h
  obtain ⟨l, hl⟩ := hf
  obtain ⟨hm2, _, _⟩ := facM_some hl
  ((conv => whnf); repeat (first | (refine Br.t ?_; conv => whnf) | (refine Br.f ?_; conv => whnf)))
  refine c_divisors ⟨l, hl⟩ hm fun ds hS hD => ?_
  ((conv => whnf); repeat (first | (refine Br.t ?_; conv => whnf) | (refine Br.f ?_; conv => whnf)))
  refine ⟨fun i δ => ∃ a, δ = [.dat (.int ns.length), .dat (.list (iL ns)), a] ∧ ∀ j < i, ∀ p : Nat, ds[j]? = some (p : Int) → p < ns.length ∧ fbk ns p ≠ none, ⟨_, rfl, fun j hj => by omega⟩, ?_, ?_⟩
  · rintro i d δ hd ⟨a, rfl, hb⟩
    obtain ⟨x, hx, rfl⟩ : ∃ x, ds[i]? = some x ∧ d = .int x := by
      rw [List.getElem?_map] at hd
      cases e : ds[i]? with
      | none => rw [e] at hd; cases hd
      | some x => rw [e] at hd; exact ⟨x, rfl, (Option.some.inj hd).symm⟩
    obtain ⟨p, rfl, hp0, hpm⟩ := (hD x).mp (List.mem_of_getElem? hx)
    have hple : p ≤ ns.length := Nat.le_of_dvd (by omega) (Nat.dvd_of_mod_eq_zero hpm)
    have hsm : ∀ s, 1 ≤ s → s < p → stepOk ns s = false := fun s h1 h2 => by
      unfold stepOk
      by_cases hs : ns.length % s = 0
      · obtain ⟨j, hj, ej⟩ := List.mem_iff_getElem.mp ((hD s).mpr ⟨s, rfl, h1, hs⟩)
        have hji : j < i := by
          by_cases hlt : j < i
          · exact hlt
          · exfalso
            obtain ⟨hi, ei⟩ := List.getElem?_eq_some_iff.mp hx
            by_cases hij : i = j
            · subst hij
              rw [ei] at ej
              omega
            · have := List.pairwise_iff_getElem.mp hS i j hi hj (by omega)
              rw [ei, ej] at this
              omega
        have := (hb j hji s (by rw [List.getElem?_eq_getElem hj, ej])).2
        cases e : fbk ns s with
        | none => exact absurd e this
        | some _ => rw [Option.isNone_some, Bool.and_false]
      · rw [decide_eq_false hs, Bool.false_and]
    ((conv => whnf); repeat (first | (refine Br.t ?_; conv => whnf) | (refine Br.f ?_; conv => whnf)))
    refine ⟨divOk (by omega) (by omega), ?_⟩
    ((conv => whnf); repeat (first | (refine Br.t ?_; conv => whnf) | (refine Br.f ?_; conv => whnf)))
    rw [cutD_iL, HT.sIx_none, HT.sIx_nat]
    have e1 : ((ns.drop 0).take (min p ns.length - 0)) = ns.take p := by rw [List.drop_zero]; congr 1; omega
    rw [e1]
    have e2 : ((ns.length : Int) / (p : Int)).toNat = ns.length / p := by rw [← Int.natCast_ediv, Int.toNat_natCast]
    have hlt : (ns.take p).length = p := by rw [List.length_take]; omega
    have hmul : p * (ns.length / p) = ns.length := Nat.mul_div_cancel' (Nat.dvd_of_mod_eq_zero hpm)
    have hdl : ns.length / p ≤ ns.length := Nat.div_le_self _ _
    refine ⟨⟨by omega, by rw [← Int.natCast_ediv]; omega, szLine (by rw [iL_len, hlt, e2, hmul]; omega)⟩, ?_⟩
    ((conv => whnf); repeat (first | (refine Br.t ?_; conv => whnf) | (refine Br.f ?_; conv => whnf)))
    rw [e2]
    have e3 : (List.replicate (ns.length / p) (iL (ns.take p))).flatten = iL (List.replicate (ns.length / p) (ns.take p)).flatten := by
      show _ = List.map _ _
      rw [List.map_flatten, List.map_replicate]
    rw [e3]
    refine ⟨⟨PySem.W.ke_shaped_ints _, PySem.W.ke_shaped_ints _⟩, ?_⟩
    rw [eqv_iL]
    refine Br.dec (fun he => ?_) (fun he => ?_)
    · have hn := (per_iff hp0 hpm hple).mp he
      ((conv => whnf); repeat (first | (refine Br.t ?_; conv => whnf) | (refine Br.f ?_; conv => whnf)))
      have e : lper ns = p := by
        by_cases hlt : p < ns.length
        · exact lper_some hp0 hlt (by unfold stepOk; rw [decide_eq_true hpm, hn]; rfl) hsm
        · have : p = ns.length := by omega
          subst this
          exact lper_none hsm
      rw [e] at h
      exact h
    · have hn : fbk ns p ≠ none := fun z => he ((per_iff hp0 hpm hple).mpr z)
      ((conv => whnf); repeat (first | (refine Br.t ?_; conv => whnf) | (refine Br.f ?_; conv => whnf)))
      refine ⟨_, rfl, fun j hj p' hp' => ?_⟩
      by_cases hji : j = i
      · subst hji
        rw [hx] at hp'
        have : p' = p := by have := Option.some.inj hp'; omega
        subst this
        refine ⟨?_, hn⟩
        by_cases hlt : p' < ns.length
        · exact hlt
        · exfalso
          have : p' = ns.length := by omega
          subst this
          exact hn (fbk_none fun j hj => by rw [Nat.mod_eq_of_lt hj])
      · exact hb j (by omega) p' hp'
  · rintro δ ⟨a, rfl, hb⟩
    exfalso
    obtain ⟨j, hj, ej⟩ := List.mem_iff_getElem.mp ((hD ns.length).mpr ⟨ns.length, rfl, by omega, Nat.mod_self _⟩)
    have := (hb j (by rw [List.length_map]; exact hj) ns.length (by rw [List.getElem?_eq_getElem hj, ej])).1
    omega
theorem c_paper {m : Nat} {ns : List Int} (h1 : ∃ l, facM m = some l) (h2 : m ≤ 400) (h3 : ns.length = m) (q : Q (.dat (ansD ns))) : Cal (sp__law_paper K) 2 [.dat (.int m), .dat (.list (iL ns))] Q X := ⟨rfl, m, ns, rfl, h1, h2, h3, q⟩
theorem prs_sub {n k : Nat} (h : n % k = 0) : (prs n).filter (fun p => decide (k % p = 0)) = prs k := by
  unfold prs
  rw [List.filter_filter]
  refine List.filter_congr fun p _ => ?_
  by_cases hk : k % p = 0
  · have : n % p = 0 := Nat.mod_eq_zero_of_dvd (Nat.dvd_trans (Nat.dvd_of_mod_eq_zero hk) (Nat.dvd_of_mod_eq_zero h))
    rw [decide_eq_true hk, decide_eq_true this]; rfl
  · rw [decide_eq_false hk]; rfl
end
end RB

set_option Elab.async false
set_option linter.all false
set_option maxRecDepth 100000
set_option maxHeartbeats 4000000
/-! L11p: the paper's answer, showings drawn -/
namespace RB
open PySem PySem.Spec PyProof.Rows L2
theorem filt_snoc (f : Nat → Bool) (l : List Nat) (x : Nat) : (l ++ [x]).filter f = l.filter f ++ (if f x = true then [x] else []) := by
  rw [List.filter_append]
  cases h : f x <;> simp [h]
section
variable {K : Fr} {Q : RV → Prop} {X : Addr → Prop} {rs : List RV}
end
end RB

set_option Elab.async false
set_option linter.all false
set_option maxRecDepth 100000
set_option maxHeartbeats 4000000
/-! L12p: showings drawn -/
namespace RB
open PySem PySem.Spec PyProof.Rows L2
/-- ints in a band -/
theorem paired_ints {lo hi : Int} : ∀ {ds es : List D}, Paired (fun _ d' => ∃ y, d' = PyData.int y ∧ lo ≤ y ∧ y ≤ hi) ds es → ∃ fs : List Int, es = iL fs ∧ fs.length = ds.length ∧ ∀ y ∈ fs, lo ≤ y ∧ y ≤ hi
  | [], _, .nil => ⟨[], rfl, rfl, by simp⟩
  | _ :: _, _, .cons h t => by
    obtain ⟨y, rfl, h1, h2⟩ := h
    obtain ⟨fs, rfl, hl, hf⟩ := paired_ints t
    exact ⟨y :: fs, rfl, by rw [List.length_cons, List.length_cons, hl], fun z hz => (List.mem_cons.mp hz).elim (fun e => e ▸ ⟨h1, h2⟩) (hf z)⟩
theorem rngD_mem {lo : Int} {n : Nat} {d : D} (h : d ∈ rngD lo n) : ∃ i : Nat, i < n ∧ d = .int (lo + i) := by
  obtain ⟨i, hi⟩ := List.mem_iff_getElem?.mp h
  obtain ⟨h1, h2⟩ := rngD_get hi
  exact ⟨i, h1, h2⟩
section
variable {K : Fr} {Q : RV → Prop} {X : Addr → Prop} {rs : List RV}
theorem c_showdraw {m : Nat} (h : 0 < m ∧ m ≤ 400) (q : ∀ ns : List Int, ns.length = m → (∀ x ∈ ns, Fit x) → Q (.own (iL ns))) : Cal (sp__law_showdraw K) 2 [.sto, .dat (.int m)] Q X := ⟨rfl, m, rfl, h, q⟩
theorem c_showing {m : Nat} (h : 0 < m ∧ m ≤ 400) (q : ∀ ns : List Int, ns.length = m → (∀ x ∈ ns, Fit x) → Q (.own (iL ns))) : Cal (sp__law_showing K) 2 [.sto, .dat (.int m)] Q X := ⟨rfl, m, rfl, h, q⟩
theorem l__law_showdraw (h : sp__law_showdraw K rs Q X) : d__law_showdraw K (endD Q X) (startD ["store", "m", "period", "kinds", "least", "first", "show", "at", "x"] rs) := by
  obtain ⟨m, rfl, ⟨h0, hm⟩, h⟩ := h
  ((conv => whnf); repeat (first | (refine Br.t ?_; conv => whnf) | (refine Br.f ?_; conv => whnf)))
  refine c_divisor ⟨h0, hm⟩ fun p hp0 hpm => ?_
  have hple : p ≤ m := Nat.le_of_dvd h0 (Nat.dvd_of_mod_eq_zero hpm)
  ((conv => whnf); repeat (first | (refine Br.t ?_; conv => whnf) | (refine Br.f ?_; conv => whnf)))
  refine c_take (by decide) fun r h1 h2 => ?_
  have h2 : r < 4 := h2
  ((conv => whnf); repeat (first | (refine Br.t ?_; conv => whnf) | (refine Br.f ?_; conv => whnf)))
  refine ⟨⟨by decide, by decide⟩, ?_⟩
  ((conv => whnf); repeat (first | (refine Br.t ?_; conv => whnf) | (refine Br.f ?_; conv => whnf)))
  refine ⟨⟨by decide, by decide⟩, ?_⟩
  ((conv => whnf); repeat (first | (refine Br.t ?_; conv => whnf) | (refine Br.f ?_; conv => whnf)))
  refine ⟨szLine (show 7 < 2 ^ 20 by decide), ?_⟩
  ((conv => whnf); repeat (first | (refine Br.t ?_; conv => whnf) | (refine Br.f ?_; conv => whnf)))
  refine c_pick (fun z => nomatch z) (show 7 < 2 ^ 62 by decide) fun d hd => ?_
  obtain ⟨x, hx, rfl⟩ := List.mem_map.mp (show d ∈ [0, 0, 0, -1, 7, (10 : Int) ^ 60 - 5, 0 - (10 : Int) ^ 60].map PyData.int from hd)
  have hxb : -(10 ^ 60) ≤ x ∧ x ≤ (10 : Int) ^ 60 - 5 := by
    have : ∀ x ∈ [0, 0, 0, -1, 7, (10 : Int) ^ 60 - 5, 0 - (10 : Int) ^ 60], -(10 ^ 60) ≤ x ∧ x ≤ (10 : Int) ^ 60 - 5 := by decide
    exact this x hx
  ((conv => whnf); repeat (first | (refine Br.t ?_; conv => whnf) | (refine Br.f ?_; conv => whnf)))
  refine ⟨⟨by omega, by omega⟩, ?_⟩
  ((conv => whnf); repeat (first | (refine Br.t ?_; conv => whnf) | (refine Br.f ?_; conv => whnf)))
  refine LcS.some (fun _ d' => ∃ y, d' = PyData.int y ∧ x ≤ y ∧ y ≤ x + 3) (szLine (by rw [rngD_length]; omega)) (fun d hd C hC => ?_) fun es hes => ?_
  · obtain ⟨i, hi, rfl⟩ := rngD_mem hd
    ((conv => whnf); repeat (first | (refine Br.t ?_; conv => whnf) | (refine Br.f ?_; conv => whnf)))
    refine c_take (by omega) fun t h3 h4 => ?_
    ((conv => whnf); repeat (first | (refine Br.t ?_; conv => whnf) | (refine Br.f ?_; conv => whnf)))
    exact hC _ ⟨x + t, rfl, by omega, by omega⟩
  obtain ⟨fs, rfl, hfl, hfb⟩ := paired_ints hes
  rw [rngD_length, Int.toNat_natCast] at hfl
  ((conv => whnf); repeat (first | (refine Br.t ?_; conv => whnf) | (refine Br.f ?_; conv => whnf)))
  refine ⟨⟨by omega, by omega⟩, ?_⟩
  ((conv => whnf); repeat (first | (refine Br.t ?_; conv => whnf) | (refine Br.f ?_; conv => whnf)))
  refine LcS.some (fun _ d' => ∃ y, d' = PyData.int y ∧ x ≤ y ∧ y ≤ x + 3) (szLine (by rw [rngD_length]; omega)) (fun d hd C hC => ?_) fun es hes => ?_
  · obtain ⟨i, hi, rfl⟩ := rngD_mem hd
    ((conv => whnf); repeat (first | (refine Br.t ?_; conv => whnf) | (refine Br.f ?_; conv => whnf)))
    refine ⟨show (0 : Int) < (p : Int) by omega, ?_⟩
    ((conv => whnf); repeat (first | (refine Br.t ?_; conv => whnf) | (refine Br.f ?_; conv => whnf)))
    have hmod : i % p < p := Nat.mod_lt _ hp0
    have e : (0 + (i : Int)) % (p : Int) = ((i % p : Nat) : Int) := by rw [Int.zero_add, ← Int.natCast_emod]
    rw [e]
    refine ⟨_, atI_iL (i := ((i % p : Nat) : Int)) (by omega) (by omega), ?_⟩
    ((conv => whnf); repeat (first | (refine Br.t ?_; conv => whnf) | (refine Br.f ?_; conv => whnf)))
    exact hC _ ⟨_, rfl, hfb _ (getD_mem (by omega))⟩
  obtain ⟨ss, rfl, hsl, hsb⟩ := paired_ints hes
  rw [rngD_length, Int.toNat_natCast] at hsl
  ((conv => whnf); repeat (first | (refine Br.t ?_; conv => whnf) | (refine Br.f ?_; conv => whnf)))
  refine ⟨fun δ' => ∃ ns a b c d e f, δ' = [.sto, .dat (.int m), a, b, c, d, .own (iL ns), e, f] ∧ ns.length = m ∧ ∀ x ∈ ns, Fit x, ?_, ?_⟩
  · ((conv => whnf); repeat (first | (refine Br.t ?_; conv => whnf) | (refine Br.f ?_; conv => whnf)))
    refine c_seldom (n := 3) (by decide) fun b => ?_
    ((conv => whnf); repeat (first | (refine Br.t ?_; conv => whnf) | (refine Br.f ?_; conv => whnf)))
    refine ⟨fun _ => ?_, fun _ => ⟨ss, _, _, _, _, _, _, rfl, hsl, fun y hy => ?_⟩⟩
    · ((conv => whnf); repeat (first | (refine Br.t ?_; conv => whnf) | (refine Br.f ?_; conv => whnf)))
      refine c_take (by omega) fun t h3 h4 => ?_
      have ht : t < ss.length := by omega
      ((conv => whnf); repeat (first | (refine Br.t ?_; conv => whnf) | (refine Br.f ?_; conv => whnf)))
      refine ⟨_, atI_iL h3 ht, ?_⟩
      ((conv => whnf); repeat (first | (refine Br.t ?_; conv => whnf) | (refine Br.f ?_; conv => whnf)))
      refine ⟨_, ixN_nat h3 (by rw [iL_len]; exact ht), ?_⟩
      rw [iL_set]
      ((conv => whnf); repeat (first | (refine Br.t ?_; conv => whnf) | (refine Br.f ?_; conv => whnf)))
      refine ⟨_, _, _, _, _, _, _, rfl, by rw [List.length_set]; exact hsl, fun y hy => ?_⟩
      rcases List.mem_or_eq_of_mem_set hy with hy | rfl
      · have := hsb y hy
        exact ⟨by omega, by omega⟩
      · have := hsb _ (getD_mem (ns := ss) (k := t.toNat) (by omega))
        exact ⟨by omega, by omega⟩
    · have := hsb y hy
      exact ⟨by omega, by omega⟩
  · rintro δ' ⟨ns, a, b, c, d, e, f, rfl, hl, hf⟩
    ((conv => whnf); repeat (first | (refine Br.t ?_; conv => whnf) | (refine Br.f ?_; conv => whnf)))
    exact h ns hl hf
theorem l__law_showing (h : sp__law_showing K rs Q X) : d__law_showing K (endD Q X) (startD ["store", "m", "kind", "a", "b", "show", "at", "x"] rs) := by
  obtain ⟨m, rfl, ⟨h0, hm⟩, h⟩ := h
  ((conv => whnf); repeat (first | (refine Br.t ?_; conv => whnf) | (refine Br.f ?_; conv => whnf)))
  refine c_take (by decide) fun r h1 h2 => ?_
  ((conv => whnf); repeat (first | (refine Br.t ?_; conv => whnf) | (refine Br.f ?_; conv => whnf)))
  refine Br.dec (fun _ => ?_) (fun _ => ?_)
  · ((conv => whnf); repeat (first | (refine Br.t ?_; conv => whnf) | (refine Br.f ?_; conv => whnf)))
    refine c_order ⟨h0, by omega⟩ fun ns hl hb => ?_
    ((conv => whnf); repeat (first | (refine Br.t ?_; conv => whnf) | (refine Br.f ?_; conv => whnf)))
    exact h ns hl fun x hx => ⟨by have := hb x hx; omega, by have := hb x hx; omega⟩
  ((conv => whnf); repeat (first | (refine Br.t ?_; conv => whnf) | (refine Br.f ?_; conv => whnf)))
  refine Br.dec (fun _ => ?_) (fun _ => ?_)
  · ((conv => whnf); repeat (first | (refine Br.t ?_; conv => whnf) | (refine Br.f ?_; conv => whnf)))
    refine c_divisor ⟨h0, hm⟩ fun a ha hma => ?_
    have hale : a ≤ m := Nat.le_of_dvd h0 (Nat.dvd_of_mod_eq_zero hma)
    ((conv => whnf); repeat (first | (refine Br.t ?_; conv => whnf) | (refine Br.f ?_; conv => whnf)))
    refine ⟨divOk (by omega) (by omega), ?_⟩
    ((conv => whnf); repeat (first | (refine Br.t ?_; conv => whnf) | (refine Br.f ?_; conv => whnf)))
    have hq0 : 0 < m / a := Nat.div_pos hale ha
    have hqle : m / a ≤ m := Nat.div_le_self _ _
    refine c_divisor (m := m / a) ⟨hq0, by omega⟩ fun b hb hmb => ?_
    have hble : b ≤ m / a := Nat.le_of_dvd hq0 (Nat.dvd_of_mod_eq_zero hmb)
    ((conv => whnf); repeat (first | (refine Br.t ?_; conv => whnf) | (refine Br.f ?_; conv => whnf)))
    refine ⟨⟨by omega, by omega⟩, ?_⟩
    ((conv => whnf); repeat (first | (refine Br.t ?_; conv => whnf) | (refine Br.f ?_; conv => whnf)))
    refine LcS.some (fun _ d' => ∃ y, d' = PyData.int y ∧ 0 ≤ y ∧ y ≤ 400) (szLine (by rw [rngD_length]; omega)) (fun d hd C hC => ?_) fun es hes => ?_
    · obtain ⟨i, hi, rfl⟩ := rngD_mem hd
      ((conv => whnf); repeat (first | (refine Br.t ?_; conv => whnf) | (refine Br.f ?_; conv => whnf)))
      refine ⟨divOk (by omega) (by omega), ?_⟩
      ((conv => whnf); repeat (first | (refine Br.t ?_; conv => whnf) | (refine Br.f ?_; conv => whnf)))
      refine ⟨show (0 : Int) < (b : Int) by omega, ?_⟩
      ((conv => whnf); repeat (first | (refine Br.t ?_; conv => whnf) | (refine Br.f ?_; conv => whnf)))
      refine hC _ ⟨_, rfl, Int.emod_nonneg _ (by omega), ?_⟩
      have := Int.emod_lt_of_pos ((0 + (i : Int)) / (a : Int)) (show (0 : Int) < (b : Int) by omega)
      show (0 + (i : Int)) / (a : Int) % (b : Int) ≤ 400
      omega
    obtain ⟨ss, rfl, hsl, hsb⟩ := paired_ints hes
    rw [rngD_length, Int.toNat_natCast] at hsl
    ((conv => whnf); repeat (first | (refine Br.t ?_; conv => whnf) | (refine Br.f ?_; conv => whnf)))
    exact h ss hsl fun x hx => ⟨by have := hsb x hx; omega, by have := hsb x hx; omega⟩
  ((conv => whnf); repeat (first | (refine Br.t ?_; conv => whnf) | (refine Br.f ?_; conv => whnf)))
  refine Br.dec (fun _ => ?_) (fun _ => ?_)
  · ((conv => whnf); repeat (first | (refine Br.t ?_; conv => whnf) | (refine Br.f ?_; conv => whnf)))
    refine ⟨⟨by decide, by decide⟩, ?_⟩
    ((conv => whnf); repeat (first | (refine Br.t ?_; conv => whnf) | (refine Br.f ?_; conv => whnf)))
    refine ⟨szLine (show 3 < 2 ^ 20 by decide), ?_⟩
    ((conv => whnf); repeat (first | (refine Br.t ?_; conv => whnf) | (refine Br.f ?_; conv => whnf)))
    refine c_pick (fun z => nomatch z) (show 3 < 2 ^ 62 by decide) fun d hd => ?_
    obtain ⟨x, hx, rfl⟩ := List.mem_map.mp (show d ∈ [0, 5, (10 : Int) ^ 60].map PyData.int from hd)
    have hxb : 0 ≤ x ∧ x ≤ (10 : Int) ^ 60 := by
      have : ∀ x ∈ [0, 5, (10 : Int) ^ 60], 0 ≤ x ∧ x ≤ (10 : Int) ^ 60 := by decide
      exact this x hx
    ((conv => whnf); repeat (first | (refine Br.t ?_; conv => whnf) | (refine Br.f ?_; conv => whnf)))
    refine ⟨szLine (show 1 < 2 ^ 20 by decide), ?_⟩
    ((conv => whnf); repeat (first | (refine Br.t ?_; conv => whnf) | (refine Br.f ?_; conv => whnf)))
    refine ⟨⟨by omega, by omega, szLine (show 1 * (m : Int).toNat < 2 ^ 20 by omega)⟩, ?_⟩
    ((conv => whnf); repeat (first | (refine Br.t ?_; conv => whnf) | (refine Br.f ?_; conv => whnf)))
    have e : (List.replicate (m : Int).toNat [PyData.int x]).flatten = iL (List.replicate m x) := by
      rw [Int.toNat_natCast]
      show _ = List.map _ _
      rw [List.map_replicate, List.flatten_replicate_singleton]
    rw [e]
    have hl : (List.replicate m x).length = m := List.length_replicate
    have hb : ∀ y ∈ List.replicate m x, y = x := fun y hy => (List.mem_replicate.mp hy).2
    generalize List.replicate m x = ss at hl hb
    refine c_take (by omega) fun t h3 h4 => ?_
    have ht : t < ss.length := by omega
    ((conv => whnf); repeat (first | (refine Br.t ?_; conv => whnf) | (refine Br.f ?_; conv => whnf)))
    refine ⟨_, atI_iL h3 ht, ?_⟩
    ((conv => whnf); repeat (first | (refine Br.t ?_; conv => whnf) | (refine Br.f ?_; conv => whnf)))
    refine ⟨_, ixN_nat h3 (by rw [iL_len]; exact ht), ?_⟩
    rw [iL_set]
    ((conv => whnf); repeat (first | (refine Br.t ?_; conv => whnf) | (refine Br.f ?_; conv => whnf)))
    refine h _ (by rw [List.length_set]; exact hl) fun y hy => ?_
    rcases List.mem_or_eq_of_mem_set hy with hy | rfl
    · rw [hb y hy]
      exact ⟨by omega, by omega⟩
    · have e : ss.getD t.toNat 0 = x := hb _ (getD_mem (by omega))
      rw [e]
      exact ⟨by omega, by omega⟩
  · ((conv => whnf); repeat (first | (refine Br.t ?_; conv => whnf) | (refine Br.f ?_; conv => whnf)))
    exact c_showdraw ⟨h0, hm⟩ h
end
end RB

set_option Elab.async false
set_option linter.all false
set_option maxRecDepth 100000
set_option maxHeartbeats 4000000
/-! L14p: bad rows -/
namespace RB
open PySem PySem.Spec PyProof.Rows L2
structure Bad (m : Nat) (d : D) : Prop where
  r : rowD m d = false
  d : Dep 4 d
theorem bad_len {m : Nat} {ds : List D} (h : ds.length ≠ m) (hl : ds.length < 2 ^ 20) (hd : ∀ d ∈ ds, Dep 3 d) : Bad m (.list ds) := by
  refine ⟨?_, .lst hl hd⟩
  show (decide ((ds.length : Int) = m) && ds.all fitD) = false
  rw [decide_eq_false (by omega), Bool.false_and]
theorem bad_mem {m : Nat} {ds : List D} {e : D} (h : e ∈ ds) (hf : fitD e = false) (hl : ds.length < 2 ^ 20) (hd : ∀ d ∈ ds, Dep 3 d) : Bad m (.list ds) := by
  refine ⟨?_, .lst hl hd⟩
  show (decide ((ds.length : Int) = m) && ds.all fitD) = false
  have : ds.all fitD = false := by
    rw [List.all_eq_false]
    exact ⟨e, h, by rw [hf]; exact Bool.false_ne_true⟩
  rw [this, Bool.and_false]
theorem dep_iL {n : Nat} {ns : List Int} : ∀ d ∈ iL ns, Dep (n + 1) d := fun d hd => by
  obtain ⟨x, _, rfl⟩ := List.mem_map.mp hd
  exact .int x
theorem dep_app {n : Nat} {a b : List D} (h1 : ∀ d ∈ a, Dep n d) (h2 : ∀ d ∈ b, Dep n d) : ∀ d ∈ a ++ b, Dep n d := fun d hd => (List.mem_append.mp hd).elim (h1 d) (h2 d)
theorem dep_one {n : Nat} {d : D} (h : Dep n d) : ∀ e ∈ [d], Dep n e := fun e he => by rw [List.mem_singleton.mp he]; exact h
theorem bad_app {m : Nat} {a b : List D} (h1 : ∀ d ∈ a, Bad m d) (h2 : ∀ d ∈ b, Bad m d) : ∀ d ∈ a ++ b, Bad m d := fun d hd => (List.mem_append.mp hd).elim (h1 d) (h2 d)
theorem bad_cons {m : Nat} {a : D} {b : List D} (h1 : Bad m a) (h2 : ∀ d ∈ b, Bad m d) : ∀ d ∈ a :: b, Bad m d := fun d hd => (List.mem_cons.mp hd).elim (fun e => e ▸ h1) (h2 d)
theorem bad_nil {m : Nat} : ∀ d ∈ ([] : List D), Bad m d := fun d hd => by cases hd
def offs : List D := [.bool true, .bool false, .none, .str "0", .list [.int (-(10 ^ 60))], .tuple [.int (-(10 ^ 60))], .int (-(10 ^ 60) - 1), .int (10 ^ 60 + 1), .int (10 ^ 60 + 10 ^ 40)]
theorem offs_ok : ∀ d ∈ offs, fitD d = false ∧ Dep 3 d := fun d hd => by
  unfold offs at hd
  simp only [List.mem_cons, List.not_mem_nil, or_false] at hd
  rcases hd with rfl | rfl | rfl | rfl | rfl | rfl | rfl | rfl | rfl
  · exact ⟨rfl, .bl _⟩
  · exact ⟨rfl, .bl _⟩
  · exact ⟨rfl, .non⟩
  · exact ⟨rfl, .str _⟩
  · exact ⟨rfl, .lst (by decide) (dep_one (.int _))⟩
  · exact ⟨rfl, .tup (by decide) (dep_one (.int _))⟩
  · exact ⟨by decide, .int _⟩
  · exact ⟨by decide, .int _⟩
  · exact ⟨by decide, .int _⟩
section
variable {K : Fr} {Q : RV → Prop} {X : Addr → Prop} {rs : List RV}
theorem c_badlist {ns : List Int} {m : Nat} (h : ns.length = m ∧ 0 < m ∧ m ≤ 400) (q : ∀ d, rowD m d = false → Dep 4 d → Q (.dat d)) : Cal (sp__law_badlist K) 6 [.sto, .dat (.list (iL ns)), .dat (.int m), .dat (.int m), .dat (.int (-(10 ^ 60))), .dat (.int (10 ^ 60))] Q X := ⟨rfl, ns, m, rfl, h, q⟩
theorem l__law_badlist (h : sp__law_badlist K rs Q X) : d__law_badlist K (endD Q X) (startD ["store", "good", "least", "most", "low", "high", "near", "at", "entry"] rs) := by
  obtain ⟨ns, m, rfl, ⟨rfl, h0, hm⟩, h⟩ := h
  have hL : (iL ns).length = ns.length := iL_len ns
  have lenA : ∀ x : D, (iL ns ++ [x]).length = ns.length + 1 := fun x => by rw [List.length_append, hL]; rfl
  have bA : ∀ x : D, Dep 3 x → Bad ns.length (.list (iL ns ++ [x])) := fun x hx => bad_len (by rw [lenA]; omega) (by rw [lenA]; omega) (dep_app dep_iL (dep_one hx))
  ((conv => whnf); repeat (first | (refine Br.t ?_; conv => whnf) | (refine Br.f ?_; conv => whnf)))
  iterate 11
    refine ⟨(szLine (by first | exact (by decide : (0 : Nat) < 2 ^ 20) | exact (by decide : (1 : Nat) < 2 ^ 20) | exact (by decide : (2 : Nat) < 2 ^ 20) | exact (by decide : (3 : Nat) < 2 ^ 20) | exact (by decide : (9 : Nat) < 2 ^ 20) | exact (by decide : (10 : Nat) < 2 ^ 20) | omega | (simp only [List.length_append, List.length_map, List.length_cons, List.length_nil]; omega))), ?_⟩
    ((conv => whnf); repeat (first | (refine Br.t ?_; conv => whnf) | (refine Br.f ?_; conv => whnf)))
  refine ⟨(szLine (by first | exact (by decide : (0 : Nat) < 2 ^ 20) | exact (by decide : (1 : Nat) < 2 ^ 20) | exact (by decide : (2 : Nat) < 2 ^ 20) | exact (by decide : (3 : Nat) < 2 ^ 20) | exact (by decide : (9 : Nat) < 2 ^ 20) | exact (by decide : (10 : Nat) < 2 ^ 20) | omega | (simp only [List.length_append, List.length_map, List.length_cons, List.length_nil]; omega))), ?_⟩
  ((conv => whnf); repeat (first | (refine Br.t ?_; conv => whnf) | (refine Br.f ?_; conv => whnf)))
  refine ⟨(szLine (by first | exact (by decide : (0 : Nat) < 2 ^ 20) | exact (by decide : (1 : Nat) < 2 ^ 20) | exact (by decide : (2 : Nat) < 2 ^ 20) | exact (by decide : (3 : Nat) < 2 ^ 20) | exact (by decide : (9 : Nat) < 2 ^ 20) | exact (by decide : (10 : Nat) < 2 ^ 20) | omega | (simp only [List.length_append, List.length_map, List.length_cons, List.length_nil]; omega))), ?_⟩
  ((conv => whnf); repeat (first | (refine Br.t ?_; conv => whnf) | (refine Br.f ?_; conv => whnf)))
  refine ⟨Nat.lt_of_lt_of_le (show 10 < 2 ^ 20 by decide) szLine', ?_⟩
  ((conv => whnf); repeat (first | (refine Br.t ?_; conv => whnf) | (refine Br.f ?_; conv => whnf)))
  refine ⟨(szLine (by first | exact (by decide : (0 : Nat) < 2 ^ 20) | exact (by decide : (1 : Nat) < 2 ^ 20) | exact (by decide : (2 : Nat) < 2 ^ 20) | exact (by decide : (3 : Nat) < 2 ^ 20) | exact (by decide : (9 : Nat) < 2 ^ 20) | exact (by decide : (10 : Nat) < 2 ^ 20) | omega | (simp only [List.length_append, List.length_map, List.length_cons, List.length_nil]; omega))), ?_⟩
  ((conv => whnf); repeat (first | (refine Br.t ?_; conv => whnf) | (refine Br.f ?_; conv => whnf)))
  refine ⟨(szLine (by first | exact (by decide : (0 : Nat) < 2 ^ 20) | exact (by decide : (1 : Nat) < 2 ^ 20) | exact (by decide : (2 : Nat) < 2 ^ 20) | exact (by decide : (3 : Nat) < 2 ^ 20) | exact (by decide : (9 : Nat) < 2 ^ 20) | exact (by decide : (10 : Nat) < 2 ^ 20) | omega | (simp only [List.length_append, List.length_map, List.length_cons, List.length_nil]; omega))), ?_⟩
  ((conv => whnf); repeat (first | (refine Br.t ?_; conv => whnf) | (refine Br.f ?_; conv => whnf)))
  refine ⟨divOk (by omega) (by omega), ?_⟩
  have hk : (1 : Int) + (ns.length : Int) / (((iL ns).length : Int) + 1) = 1 := by
    rw [hL, Int.ediv_eq_zero_of_lt (by omega) (by omega)]
    rfl
  ((conv => whnf); repeat (first | (refine Br.t ?_; conv => whnf) | (refine Br.f ?_; conv => whnf)))
  rw [hk]
  refine ⟨⟨by decide, by decide, szLine (show (iL ns ++ [PyData.int (-(10 ^ 60))]).length * 1 < 2 ^ 20 by rw [lenA]; omega)⟩, ?_⟩
  ((conv => whnf); repeat (first | (refine Br.t ?_; conv => whnf) | (refine Br.f ?_; conv => whnf)))
  refine ⟨(szLine (by first | exact (by decide : (0 : Nat) < 2 ^ 20) | exact (by decide : (1 : Nat) < 2 ^ 20) | exact (by decide : (2 : Nat) < 2 ^ 20) | exact (by decide : (3 : Nat) < 2 ^ 20) | exact (by decide : (9 : Nat) < 2 ^ 20) | exact (by decide : (10 : Nat) < 2 ^ 20) | omega | (simp only [List.length_append, List.length_map, List.length_cons, List.length_nil]; omega))), ?_⟩
  ((conv => whnf); repeat (first | (refine Br.t ?_; conv => whnf) | (refine Br.f ?_; conv => whnf)))
  refine ⟨⟨by omega, by omega, szLine (show 1 * (ns.length : Int).toNat < 2 ^ 20 by omega)⟩, ?_⟩
  have lr1 : (List.replicate (1 : Int).toNat (iL ns ++ [PyData.int (-(10 ^ 60))])).flatten = iL ns ++ [PyData.int (-(10 ^ 60))] := List.append_nil _
  have lr2 : (List.replicate (ns.length : Int).toNat [PyData.int (-(10 ^ 60))]).flatten = List.replicate ns.length (PyData.int (-(10 ^ 60))) := by
    rw [Int.toNat_natCast, List.flatten_replicate_singleton]
  have lz := @List.length_replicate D ns.length (PyData.int (-(10 ^ 60)))
  have dz : ∀ d ∈ List.replicate ns.length (PyData.int (-(10 ^ 60))), Dep 3 d := fun d hd => by rw [(List.mem_replicate.mp hd).2]; exact .int _
  ((conv => whnf); repeat (first | (refine Br.t ?_; conv => whnf) | (refine Br.f ?_; conv => whnf)))
  have hX : (List.replicate (1 : Int).toNat (iL ns ++ [PyData.int (-(10 ^ 60))])).flatten.length + (List.replicate (ns.length : Int).toNat [PyData.int (-(10 ^ 60))]).flatten.length = 2 * ns.length + 1 := by rw [lr1, lr2, lenA, lz]; omega
  refine ⟨szLine (show (List.replicate (1 : Int).toNat (iL ns ++ [PyData.int (-(10 ^ 60))])).flatten.length + (List.replicate (ns.length : Int).toNat [PyData.int (-(10 ^ 60))]).flatten.length < 2 ^ 20 by rw [hX]; omega), ?_⟩
  ((conv => whnf); repeat (first | (refine Br.t ?_; conv => whnf) | (refine Br.f ?_; conv => whnf)))
  refine ⟨(szLine (by first | exact (by decide : (0 : Nat) < 2 ^ 20) | exact (by decide : (1 : Nat) < 2 ^ 20) | exact (by decide : (2 : Nat) < 2 ^ 20) | exact (by decide : (3 : Nat) < 2 ^ 20) | exact (by decide : (9 : Nat) < 2 ^ 20) | exact (by decide : (10 : Nat) < 2 ^ 20) | omega | (simp only [List.length_append, List.length_map, List.length_cons, List.length_nil]; omega))), ?_⟩
  ((conv => whnf); repeat (first | (refine Br.t ?_; conv => whnf) | (refine Br.f ?_; conv => whnf)))
  refine ⟨szLine (show ((List.replicate (1 : Int).toNat (iL ns ++ [PyData.int (-(10 ^ 60))])).flatten ++ (List.replicate (ns.length : Int).toNat [PyData.int (-(10 ^ 60))]).flatten).length + 1 < 2 ^ 20 by rw [List.length_append, hX]; omega), ?_⟩
  ((conv => whnf); repeat (first | (refine Br.t ?_; conv => whnf) | (refine Br.f ?_; conv => whnf)))
  refine ⟨(szLine (by first | exact (by decide : (0 : Nat) < 2 ^ 20) | exact (by decide : (1 : Nat) < 2 ^ 20) | exact (by decide : (2 : Nat) < 2 ^ 20) | exact (by decide : (3 : Nat) < 2 ^ 20) | exact (by decide : (9 : Nat) < 2 ^ 20) | exact (by decide : (10 : Nat) < 2 ^ 20) | omega | (simp only [List.length_append, List.length_map, List.length_cons, List.length_nil]; omega))), ?_⟩
  ((conv => whnf); repeat (first | (refine Br.t ?_; conv => whnf) | (refine Br.f ?_; conv => whnf)))
  refine ⟨szLine (show 12 < 2 ^ 20 by decide), ?_⟩
  have e12 : Bad ns.length (.list (((List.replicate (1 : Int).toNat (iL ns ++ [PyData.int (-(10 ^ 60))])).flatten ++ (List.replicate (ns.length : Int).toNat [PyData.int (-(10 ^ 60))]).flatten) ++ [PyData.int (-(10 ^ 60))])) := by
    refine bad_len ?_ ?_ ?_
    · rw [List.length_append, List.length_append, hX]
      show 2 * ns.length + 1 + 1 ≠ ns.length
      omega
    · rw [List.length_append, List.length_append, hX]
      show 2 * ns.length + 1 + 1 < 2 ^ 20
      omega
    · rw [lr1, lr2]
      exact dep_app (dep_app (dep_app dep_iL (dep_one (.int _))) dz) (dep_one (.int _))
  ((conv => whnf); repeat (first | (refine Br.t ?_; conv => whnf) | (refine Br.f ?_; conv => whnf)))
  refine ⟨fun δ' => ∃ near a b, δ' = [.sto, .dat (.list (iL ns)), .dat (.int ns.length), .dat (.int ns.length), .dat (.int (-(10 ^ 60))), .dat (.int (10 ^ 60)), .own near, a, b] ∧ (∀ d ∈ near, Bad ns.length d) ∧ near ≠ [] ∧ near.length ≤ 50, ?_, ?_⟩
  · ((conv => whnf); repeat (first | (refine Br.t ?_; conv => whnf) | (refine Br.f ?_; conv => whnf)))
    refine Br.dec (fun _ => ?_) (fun hz => absurd (show (0 : Int) < (ns.length : Int) by omega) hz)
    ((conv => whnf); repeat (first | (refine Br.t ?_; conv => whnf) | (refine Br.f ?_; conv => whnf)))
    refine ⟨(szLine (by first | exact (by decide : (0 : Nat) < 2 ^ 20) | exact (by decide : (1 : Nat) < 2 ^ 20) | exact (by decide : (2 : Nat) < 2 ^ 20) | exact (by decide : (3 : Nat) < 2 ^ 20) | exact (by decide : (9 : Nat) < 2 ^ 20) | exact (by decide : (10 : Nat) < 2 ^ 20) | omega | (simp only [List.length_append, List.length_map, List.length_cons, List.length_nil]; omega))), ?_⟩
    ((conv => whnf); repeat (first | (refine Br.t ?_; conv => whnf) | (refine Br.f ?_; conv => whnf)))
    refine ⟨(szLine (by first | exact (by decide : (0 : Nat) < 2 ^ 20) | exact (by decide : (1 : Nat) < 2 ^ 20) | exact (by decide : (2 : Nat) < 2 ^ 20) | exact (by decide : (3 : Nat) < 2 ^ 20) | exact (by decide : (9 : Nat) < 2 ^ 20) | exact (by decide : (10 : Nat) < 2 ^ 20) | omega | (simp only [List.length_append, List.length_map, List.length_cons, List.length_nil]; omega))), ?_⟩
    ((conv => whnf); repeat (first | (refine Br.t ?_; conv => whnf) | (refine Br.f ?_; conv => whnf)))
    refine ⟨(szLine (by first | exact (by decide : (0 : Nat) < 2 ^ 20) | exact (by decide : (1 : Nat) < 2 ^ 20) | exact (by decide : (2 : Nat) < 2 ^ 20) | exact (by decide : (3 : Nat) < 2 ^ 20) | exact (by decide : (9 : Nat) < 2 ^ 20) | exact (by decide : (10 : Nat) < 2 ^ 20) | omega | (simp only [List.length_append, List.length_map, List.length_cons, List.length_nil]; omega))), ?_⟩
    have cut : cutD (iL ns) none (some ((ns.length : Int) - 1)) = iL (ns.take (ns.length - 1)) := by
      rw [cutD_iL, show ((ns.length : Int) - 1) = ((ns.length - 1 : Nat) : Int) by omega, HT.sIx_nat, HT.sIx_none, List.drop_zero]
      congr 2
      omega
    have lcut : (ns.take (ns.length - 1)).length = ns.length - 1 := by rw [List.length_take]; omega
    have e15 : Bad ns.length (.list (iL (ns.take (ns.length - 1)))) := bad_len (by rw [iL_len, lcut]; omega) (by rw [iL_len, lcut]; omega) dep_iL
    ((conv => whnf); repeat (first | (refine Br.t ?_; conv => whnf) | (refine Br.f ?_; conv => whnf)))
    rw [cut]
    refine ⟨szLine (show 15 < 2 ^ 20 by decide), ?_⟩
    have e0 : Bad ns.length (.list []) := bad_len (show 0 ≠ ns.length by omega) (by decide) (fun d hd => by cases hd)
    ((conv => whnf); repeat (first | (refine Br.t ?_; conv => whnf) | (refine Br.f ?_; conv => whnf)))
    refine ⟨_, _, _, rfl, bad_app (bad_app (bad_app ?_ (bad_cons (bA _ (.int _)) bad_nil)) (bad_cons e12 bad_nil)) (bad_cons e0 (bad_cons e0 (bad_cons e15 bad_nil))), (fun z => nomatch z), show 15 ≤ 50 by decide⟩
    refine bad_cons ⟨rfl, .tup (by rw [hL]; omega) dep_iL⟩ (bad_cons ⟨rfl, .non⟩ (bad_cons ⟨rfl, .int _⟩ (bad_cons ⟨rfl, .str _⟩ (bad_cons ⟨rfl, .str _⟩ (bad_cons ⟨rfl, .tup (by decide) (fun d hd => by cases hd)⟩ (bad_cons (bA _ .non) (bad_cons (bA _ (.bl _)) (bad_cons (bA _ (.str _)) (bad_cons (bA _ (.lst (by decide) (dep_one (.int _)))) bad_nil)))))))))
  · rintro δ' ⟨near, a, b, rfl, hb, hne, hnl⟩
    ((conv => whnf); repeat (first | (refine Br.t ?_; conv => whnf) | (refine Br.f ?_; conv => whnf)))
    refine ⟨fun δ' => ∃ near a b, δ' = [.sto, .dat (.list (iL ns)), .dat (.int ns.length), .dat (.int ns.length), .dat (.int (-(10 ^ 60))), .dat (.int (10 ^ 60)), .own near, a, b] ∧ (∀ d ∈ near, Bad ns.length d) ∧ near ≠ [] ∧ near.length ≤ 60, ?_, ?_⟩
    · ((conv => whnf); repeat (first | (refine Br.t ?_; conv => whnf) | (refine Br.f ?_; conv => whnf)))
      refine Br.dec (fun _ => ?_) (fun hz => ⟨near, a, b, rfl, hb, hne, by omega⟩)
      ((conv => whnf); repeat (first | (refine Br.t ?_; conv => whnf) | (refine Br.f ?_; conv => whnf)))
      rw [hL]
      refine c_take (by omega) fun t h3 h4 => ?_
      obtain ⟨k, rfl⟩ := Int.eq_ofNat_of_zero_le h3
      have hk2 : k < ns.length := by omega
      ((conv => whnf); repeat (first | (refine Br.t ?_; conv => whnf) | (refine Br.f ?_; conv => whnf)))
      refine ⟨(szLine (by first | exact (by decide : (0 : Nat) < 2 ^ 20) | exact (by decide : (1 : Nat) < 2 ^ 20) | exact (by decide : (2 : Nat) < 2 ^ 20) | exact (by decide : (3 : Nat) < 2 ^ 20) | exact (by decide : (9 : Nat) < 2 ^ 20) | exact (by decide : (10 : Nat) < 2 ^ 20) | omega | (simp only [List.length_append, List.length_map, List.length_cons, List.length_nil]; omega))), ?_⟩
      ((conv => whnf); repeat (first | (refine Br.t ?_; conv => whnf) | (refine Br.f ?_; conv => whnf)))
      refine ⟨(szLine (by first | exact (by decide : (0 : Nat) < 2 ^ 20) | exact (by decide : (1 : Nat) < 2 ^ 20) | exact (by decide : (2 : Nat) < 2 ^ 20) | exact (by decide : (3 : Nat) < 2 ^ 20) | exact (by decide : (9 : Nat) < 2 ^ 20) | exact (by decide : (10 : Nat) < 2 ^ 20) | omega | (simp only [List.length_append, List.length_map, List.length_cons, List.length_nil]; omega))), ?_⟩
      ((conv => whnf); repeat (first | (refine Br.t ?_; conv => whnf) | (refine Br.f ?_; conv => whnf)))
      refine ⟨⟨by decide, by decide⟩, ?_⟩
      ((conv => whnf); repeat (first | (refine Br.t ?_; conv => whnf) | (refine Br.f ?_; conv => whnf)))
      refine ⟨(szLine (by first | exact (by decide : (0 : Nat) < 2 ^ 20) | exact (by decide : (1 : Nat) < 2 ^ 20) | exact (by decide : (2 : Nat) < 2 ^ 20) | exact (by decide : (3 : Nat) < 2 ^ 20) | exact (by decide : (9 : Nat) < 2 ^ 20) | exact (by decide : (10 : Nat) < 2 ^ 20) | omega | (simp only [List.length_append, List.length_map, List.length_cons, List.length_nil]; omega))), ?_⟩
      ((conv => whnf); repeat (first | (refine Br.t ?_; conv => whnf) | (refine Br.f ?_; conv => whnf)))
      refine ⟨fun i δ => ∃ near a, δ = [.sto, .dat (.list (iL ns)), .dat (.int ns.length), .dat (.int ns.length), .dat (.int (-(10 ^ 60))), .dat (.int (10 ^ 60)), .own near, .dat (.int k), a] ∧ (∀ d ∈ near, Bad ns.length d) ∧ near ≠ [] ∧ near.length ≤ 50 + i, ⟨near, _, rfl, hb, hne, hnl⟩, ?_, ?_⟩
      · rintro i d δ hd ⟨near, a, rfl, hb, hne, hnl⟩
        have hi : i < 9 := (List.getElem?_eq_some_iff.mp hd).1
        obtain ⟨hf, hdd⟩ := offs_ok d (List.mem_of_getElem? (show offs[i]? = some d from hd))
        have c1 : cutD (iL ns) none (some (k : Int)) = iL (ns.take k) := by
          rw [cutD_iL, HT.sIx_nat, HT.sIx_none, List.drop_zero]
          congr 2
          omega
        have c2 : cutD (iL ns) (some ((k : Int) + 1)) none = iL (ns.drop (k + 1)) := by
          rw [cutD_iL, show ((k : Int) + 1) = ((k + 1 : Nat) : Int) by omega, HT.sIx_nat, HT.sIx_none]
          rw [show min (k + 1) ns.length = k + 1 by omega, List.take_of_length_le (by rw [List.length_drop]; omega)]
        have l1 : (iL (ns.take k)).length = k := by rw [iL_len, List.length_take]; omega
        have l2 : (iL (ns.drop (k + 1))).length = ns.length - (k + 1) := by rw [iL_len, List.length_drop]
        ((conv => whnf); repeat (first | (refine Br.t ?_; conv => whnf) | (refine Br.f ?_; conv => whnf)))
        rw [c1]
        refine ⟨(szLine (by first | exact (by decide : (0 : Nat) < 2 ^ 20) | exact (by decide : (1 : Nat) < 2 ^ 20) | exact (by decide : (2 : Nat) < 2 ^ 20) | exact (by decide : (3 : Nat) < 2 ^ 20) | exact (by decide : (9 : Nat) < 2 ^ 20) | exact (by decide : (10 : Nat) < 2 ^ 20) | omega | (simp only [List.length_append, List.length_map, List.length_cons, List.length_nil]; omega))), ?_⟩
        ((conv => whnf); repeat (first | (refine Br.t ?_; conv => whnf) | (refine Br.f ?_; conv => whnf)))
        refine ⟨szLine (show (iL (ns.take k)).length + 1 < 2 ^ 20 by rw [l1]; omega), ?_⟩
        ((conv => whnf); repeat (first | (refine Br.t ?_; conv => whnf) | (refine Br.f ?_; conv => whnf)))
        rw [c2]
        have l3 : (iL (ns.take k) ++ [d]).length = k + 1 := by rw [List.length_append, l1]; rfl
        refine ⟨szLine (show (iL (ns.take k) ++ [d]).length + (iL (ns.drop (k + 1))).length < 2 ^ 20 by rw [l3, l2]; omega), ?_⟩
        ((conv => whnf); repeat (first | (refine Br.t ?_; conv => whnf) | (refine Br.f ?_; conv => whnf)))
        refine ⟨Nat.lt_of_lt_of_le (show near.length < 2 ^ 20 by omega) szLine', ?_⟩
        have l4 : ((iL (ns.take k) ++ [d]) ++ iL (ns.drop (k + 1))).length < 2 ^ 20 := by rw [List.length_append, l3, l2]; omega
        have bd : Bad ns.length (.list ((iL (ns.take k) ++ [d]) ++ iL (ns.drop (k + 1)))) := bad_mem (e := d) (by simp) hf l4 (dep_app (dep_app dep_iL (dep_one hdd)) dep_iL)
        ((conv => whnf); repeat (first | (refine Br.t ?_; conv => whnf) | (refine Br.f ?_; conv => whnf)))
        refine ⟨_, _, rfl, bad_app hb (bad_cons bd bad_nil), fun z => absurd (List.append_eq_nil_iff.mp z).2 (fun z => nomatch z), ?_⟩
        rw [List.length_append]
        show near.length + 1 ≤ 50 + (i + 1)
        omega
      · rintro δ ⟨near, a, rfl, hb, hne, hnl⟩
        refine ⟨_, _, _, rfl, hb, hne, ?_⟩
        have : near.length ≤ 50 + 9 := hnl
        omega
    · rintro δ' ⟨near, a, b, rfl, hb, hne, hnl⟩
      ((conv => whnf); repeat (first | (refine Br.t ?_; conv => whnf) | (refine Br.f ?_; conv => whnf)))
      refine c_pick hne (Nat.lt_of_le_of_lt hnl (by decide)) fun d hd => ?_
      exact h d (hb d hd).r (hb d hd).d
end
end RB

set_option Elab.async false
set_option linter.all false
set_option maxRecDepth 100000
set_option maxHeartbeats 4000000
/-! M1: pairs, primes (k23) -/
namespace RB
open PySem PySem.Spec PyProof.Rows L2
theorem pairB_bad {ns : List Int} {p st : Nat} {d : D} (h : ∀ a x y, d ≠ .tuple [.int a, .int x, .int y]) : pairB ns p st d = false := by
  unfold pairB
  split
  · rename_i a x y
    exact absurd rfl (h a x y)
  · rfl
theorem pairB_i {ns : List Int} {p st : Nat} {a x y : Int} : pairB ns p st (.tuple [.int a, .int x, .int y]) = (decide (a = (p : Int)) && (decide (0 ≤ x) && (decide (x < y) && (decide (y < (ns.length : Int)) && (decide ((y - x) % (st : Int) = 0) && !decide (ns.getD x.toNat 0 = ns.getD y.toNat 0)))))) := rfl
theorem int_of {d : D} (h : isIntD d = true) : ∃ x, d = .int x := by cases d <;> first | exact ⟨_, rfl⟩ | cases h
theorem not_int {d : D} (h : isIntD d = false) : ∀ x, d ≠ .int x := by
  intro x e
  subst e
  cases h
section
variable {K : Fr} {Q : RV → Prop} {X : Addr → Prop} {rs : List RV}
theorem c_shows_pair {ns : List Int} {p st : Nat} {d : D} (h : 0 < st) (q : Q (.dat (.bool (pairB ns p st d)))) : Cal (sp_shows_pair K) 4 [.dat (.list (iL ns)), .dat (.int ((p : Nat) : Int)), .dat (.int ((st : Nat) : Int)), .dat d] Q X := ⟨rfl, ns, p, st, d, rfl, h, q⟩
theorem l_shows_pair (h : sp_shows_pair K rs Q X) : d_shows_pair K (endD Q X) (startD ["show", "p", "step", "pair", "named", "x", "y"] rs) := by
  obtain ⟨ns, p, st, d, rfl, hst, h⟩ := h
  have bad : (∀ a x y, d ≠ .tuple [.int a, .int x, .int y]) → Q (.dat (.bool false)) := fun hb => by rw [pairB_bad hb] at h; exact h
  cases d
  case tuple ds =>
    ((conv => whnf); repeat (first | (refine Br.t ?_; conv => whnf) | (refine Br.f ?_; conv => whnf)))
    refine Br.ndec (fun hc => ?_) (fun hc => ?_)
    · ((conv => whnf); repeat (first | (refine Br.t ?_; conv => whnf) | (refine Br.f ?_; conv => whnf)))
      exact bad fun a x y e => hc (by rw [PyData.tuple.inj e]; rfl)
    · ((conv => whnf); repeat (first | (refine Br.t ?_; conv => whnf) | (refine Br.f ?_; conv => whnf)))
      have hl : ds.length = 3 := by omega
      obtain ⟨d1, d2, d3, rfl⟩ : ∃ d1 d2 d3, ds = [d1, d2, d3] := by
        match ds, hl with
        | [a, b, c], _ => exact ⟨a, b, c, rfl⟩
      refine ⟨rfl, ?_⟩
      ((conv => whnf); repeat (first | (refine Br.t ?_; conv => whnf) | (refine Br.f ?_; conv => whnf)))
      refine c_whole_ ?_
      ((conv => whnf); repeat (first | (refine Br.t ?_; conv => whnf) | (refine Br.f ?_; conv => whnf)))
      cases e1 : isIntD d1
      · ((conv => whnf); repeat (first | (refine Br.t ?_; conv => whnf) | (refine Br.f ?_; conv => whnf)))
        exact bad fun a x y e => not_int e1 a (by cases e; rfl)
      obtain ⟨a, rfl⟩ := int_of e1
      ((conv => whnf); repeat (first | (refine Br.t ?_; conv => whnf) | (refine Br.f ?_; conv => whnf)))
      refine c_whole_ ?_
      ((conv => whnf); repeat (first | (refine Br.t ?_; conv => whnf) | (refine Br.f ?_; conv => whnf)))
      cases e2 : isIntD d2
      · ((conv => whnf); repeat (first | (refine Br.t ?_; conv => whnf) | (refine Br.f ?_; conv => whnf)))
        exact bad fun a x y e => not_int e2 x (by cases e; rfl)
      obtain ⟨x, rfl⟩ := int_of e2
      ((conv => whnf); repeat (first | (refine Br.t ?_; conv => whnf) | (refine Br.f ?_; conv => whnf)))
      refine c_whole_ ?_
      ((conv => whnf); repeat (first | (refine Br.t ?_; conv => whnf) | (refine Br.f ?_; conv => whnf)))
      cases e3 : isIntD d3
      · ((conv => whnf); repeat (first | (refine Br.t ?_; conv => whnf) | (refine Br.f ?_; conv => whnf)))
        exact bad fun a x y e => not_int e3 y (by cases e; rfl)
      obtain ⟨y, rfl⟩ := int_of e3
      rw [pairB_i] at h
      ((conv => whnf); repeat (first | (refine Br.t ?_; conv => whnf) | (refine Br.f ?_; conv => whnf)))
      refine Br.ndec (fun hap => ?_) (fun hap => ?_)
      · ((conv => whnf); repeat (first | (refine Br.t ?_; conv => whnf) | (refine Br.f ?_; conv => whnf)))
        rw [decide_eq_false hap] at h
        exact h
      rw [decide_eq_true hap] at h
      ((conv => whnf); repeat (first | (refine Br.t ?_; conv => whnf) | (refine Br.f ?_; conv => whnf)))
      refine Br.dec (fun hx => ?_) (fun hx => ?_)
      · ((conv => whnf); repeat (first | (refine Br.t ?_; conv => whnf) | (refine Br.f ?_; conv => whnf)))
        rw [decide_eq_false (by omega : ¬ 0 ≤ x)] at h
        exact h
      rw [decide_eq_true (by omega : 0 ≤ x)] at h
      ((conv => whnf); repeat (first | (refine Br.t ?_; conv => whnf) | (refine Br.f ?_; conv => whnf)))
      refine Br.dec (fun hy => ?_) (fun hy => ?_)
      · ((conv => whnf); repeat (first | (refine Br.t ?_; conv => whnf) | (refine Br.f ?_; conv => whnf)))
        rw [decide_eq_false (by omega : ¬ x < y)] at h
        exact h
      rw [decide_eq_true (by omega : x < y)] at h
      ((conv => whnf); repeat (first | (refine Br.t ?_; conv => whnf) | (refine Br.f ?_; conv => whnf)))
      refine Br.dec (fun hl => ?_) (fun hl => ?_)
      · ((conv => whnf); repeat (first | (refine Br.t ?_; conv => whnf) | (refine Br.f ?_; conv => whnf)))
        rw [iL_len] at hl
        rw [decide_eq_false (by omega : ¬ y < (ns.length : Int))] at h
        exact h
      rw [iL_len] at hl
      rw [decide_eq_true (by omega : y < (ns.length : Int))] at h
      ((conv => whnf); repeat (first | (refine Br.t ?_; conv => whnf) | (refine Br.f ?_; conv => whnf)))
      refine ⟨by omega, ?_⟩
      ((conv => whnf); repeat (first | (refine Br.t ?_; conv => whnf) | (refine Br.f ?_; conv => whnf)))
      refine Br.dec (fun hm => ?_) (fun hm => ?_)
      · rw [decide_eq_true hm] at h
        ((conv => whnf); repeat (first | (refine Br.t ?_; conv => whnf) | (refine Br.f ?_; conv => whnf)))
        refine ⟨_, atI_iL (by omega) (by omega), ?_⟩
        ((conv => whnf); repeat (first | (refine Br.t ?_; conv => whnf) | (refine Br.f ?_; conv => whnf)))
        refine ⟨_, atI_iL (by omega) (by omega), ?_⟩
        exact h
      · rw [decide_eq_false hm] at h
        ((conv => whnf); repeat (first | (refine Br.t ?_; conv => whnf) | (refine Br.f ?_; conv => whnf)))
        exact h
  all_goals
    ((conv => whnf); repeat (first | (refine Br.t ?_; conv => whnf) | (refine Br.f ?_; conv => whnf)))
    exact bad fun a x y e => nomatch e
/-! primes by a sieve -/
theorem primesF_mem : ∀ {n k p : Nat}, p ∈ primesF n k → 2 ≤ p ∧ p ≤ k + 1 ∧ n % p = 0
  | n, 0, p, h => by cases h
  | n, k + 1, p, h => by
    unfold primesF at h
    split at h
    · rename_i hc
      rcases List.mem_append.mp h with h | h
      · have := primesF_mem h
        omega
      · rw [List.mem_singleton.mp h]
        exact ⟨by omega, by omega, hc.1⟩
    · have := primesF_mem h
      omega
theorem primesF_len : ∀ (n k : Nat), (primesF n k).length ≤ k
  | n, 0 => Nat.le_refl _
  | n, k + 1 => by
    have := primesF_len n k
    unfold primesF
    split
    · rw [List.length_append]; show _ + 1 ≤ k + 1; omega
    · omega
theorem primes_all : ((List.range 401).all fun n => !(decide (n = 1) || (decide (2 ≤ n) && okM n)) || decide (primesF n (n - 1) = prs n)) = true := by decide +kernel
end
end RB

set_option Elab.async false
set_option linter.all false
set_option maxRecDepth 100000
set_option maxHeartbeats 4000000
/-! M2: what proves a period (k23) -/
namespace RB
open PySem PySem.Spec PyProof.Rows L2
theorem primesF_prs {n : Nat} (h : n = 1 ∨ ∃ l, facM n = some l) (hn : n ≤ 400) : primesF n (n - 1) = prs n := by
  have h0 := List.all_eq_true.mp primes_all n (List.mem_range.mpr (by omega))
  have e : (decide (n = 1) || (decide (2 ≤ n) && okM n)) = true := by
    rcases h with h | ⟨l, hl⟩
    · rw [decide_eq_true h]; rfl
    · obtain ⟨h2, _, h3⟩ := facM_some hl
      rw [decide_eq_true h2, show okM n = true by unfold okM; rw [h3]; rfl, Bool.true_and, Bool.or_true]
  rw [e] at h0
  exact of_decide_eq_true h0
theorem allB_cons {ns : List Int} {T p : Nat} {qs : List Nat} {d : D} {ds : List D} : allB ns T (p :: qs) (d :: ds) = (pairB ns p (T / p) d && allB ns T qs ds) := rfl
theorem allB_at : ∀ {ns : List Int} {T : Nat} {qs : List Nat} {ds : List D} {i : Nat} {p : Nat} {d : D}, qs[i]? = some p → ds[i]? = some d → pairB ns p (T / p) d = false → allB ns T qs ds = false
  | ns, T, [], _, i, p, d, h, _, _ => by simp at h
  | ns, T, q :: qs, [], i, p, d, _, h, _ => by simp at h
  | ns, T, q :: qs, e :: es, 0, p, d, h1, h2, hb => by
    simp at h1 h2
    subst h1 h2
    rw [allB_cons, hb, Bool.false_and]
  | ns, T, q :: qs, e :: es, i + 1, p, d, h1, h2, hb => by
    rw [allB_cons, allB_at (i := i) (by simpa using h1) (by simpa using h2) hb, Bool.and_false]
theorem allB_all : ∀ {ns : List Int} {T : Nat} {qs : List Nat} {ds : List D}, (∀ (i p : Nat) (d : D), qs[i]? = some p → ds[i]? = some d → pairB ns p (T / p) d = true) → allB ns T qs ds = true
  | ns, T, [], _, _ => by unfold allB; rfl
  | ns, T, q :: qs, [], _ => by unfold allB; rfl
  | ns, T, q :: qs, e :: es, h => by
    rw [allB_cons, h 0 q e rfl rfl, Bool.true_and]
    exact allB_all fun i p d h1 h2 => h (i + 1) p d (by simpa using h1) (by simpa using h2)
def dvD (k : Int) (d : D) : Option D := match d with
  | .int o => if k % o = 0 then some (.int o) else none
  | _ => none
theorem dvD_y {k o : Int} (h : k % o = 0) : dvD k (.int o) = some (.int o) := if_pos h
theorem dvD_n {k o : Int} (h : ¬ k % o = 0) : dvD k (.int o) = none := if_neg h
theorem dvD_filt (k : Nat) : ∀ F : List Nat, (F.map fun p => PyData.int ((p : Nat) : Int)).filterMap (dvD k) = (F.filter fun o => decide (k % o = 0)).map fun p => PyData.int ((p : Nat) : Int)
  | [] => rfl
  | o :: F => by
    rw [List.map_cons, List.filterMap_cons, List.filter_cons, dvD_filt k F]
    by_cases hc : k % o = 0
    · rw [dvD_y (by rw [← Int.natCast_emod, hc]; rfl), decide_eq_true hc, if_pos rfl]
      rfl
    · rw [dvD_n (fun z => hc (by rw [← Int.natCast_emod] at z; exact Int.ofNat_eq_zero.mp z)), decide_eq_false hc, if_neg Bool.false_ne_true]
section
variable {K : Fr} {Q : RV → Prop} {X : Addr → Prop} {rs : List RV}
theorem c_lwithin {d : D} {lo hi : Int} (q : Q (.dat (.bool (withinD d lo hi)))) : Cal (sp__law_within K) 3 [.dat d, .dat (.int lo), .dat (.int hi)] Q X := ⟨rfl, d, lo, hi, rfl, q⟩
theorem c_primes {n : Nat} (h : 0 < n ∧ n ≤ 400) (q : Q (.own ((primesF n (n - 1)).map fun p => .int ((p : Nat) : Int)))) : Cal (sp__law_primes K) 1 [.dat (.int n)] Q X := ⟨rfl, n, rfl, h, q⟩
theorem c_parts {ns : List Int} {T p : Nat} {d : D} (h : 0 < p ∧ p ≤ 400 ∧ p ≤ T) (q : Q (.dat (.bool (pairB ns p (T / p) d)))) : Cal (sp__law_parts K) 5 [.dat (.int (ns.length : Nat)), .dat (.list (iL ns)), .dat (.int ((T : Nat) : Int)), .dat (.int ((p : Nat) : Int)), .dat d] Q X := ⟨rfl, ns, T, p, d, rfl, h, q⟩
theorem l__law_within (h : sp__law_within K rs Q X) : d__law_within K (endD Q X) (startD ["thing", "low", "high"] rs) := by
  obtain ⟨d, lo, hi, rfl, h⟩ := h
  cases d
  case int x =>
    ((conv => whnf); repeat (first | (refine Br.t ?_; conv => whnf) | (refine Br.f ?_; conv => whnf)))
    refine Br.dec (fun h1 => ?_) (fun h1 => ?_)
    · ((conv => whnf); repeat (first | (refine Br.t ?_; conv => whnf) | (refine Br.f ?_; conv => whnf)))
      have e : withinD (.int x) lo hi = decide (x ≤ hi) := by show (decide (lo ≤ x) && decide (x ≤ hi)) = _; rw [decide_eq_true h1, Bool.true_and]
      rw [e] at h
      exact h
    · ((conv => whnf); repeat (first | (refine Br.t ?_; conv => whnf) | (refine Br.f ?_; conv => whnf)))
      have e : withinD (.int x) lo hi = false := by show (decide (lo ≤ x) && decide (x ≤ hi)) = _; rw [decide_eq_false h1, Bool.false_and]
      rw [e] at h
      exact h
  all_goals
    ((conv => whnf); repeat (first | (refine Br.t ?_; conv => whnf) | (refine Br.f ?_; conv => whnf)))
    exact h
theorem l__law_primes (h : sp__law_primes K rs Q X) : d__law_primes K (endD Q X) (startD ["number", "found", "p", "one"] rs) := by
  obtain ⟨n, rfl, ⟨h0, hn⟩, h⟩ := h
  ((conv => whnf); repeat (first | (refine Br.t ?_; conv => whnf) | (refine Br.f ?_; conv => whnf)))
  refine ⟨(szLine (by first | exact (by decide : (0 : Nat) < 2 ^ 20) | exact (by decide : (1 : Nat) < 2 ^ 20) | exact (by decide : (2 : Nat) < 2 ^ 20) | exact (by decide : (3 : Nat) < 2 ^ 20) | exact (by decide : (9 : Nat) < 2 ^ 20) | exact (by decide : (10 : Nat) < 2 ^ 20) | omega | (simp only [List.length_append, List.length_map, List.length_cons, List.length_nil]; omega))), ?_⟩
  ((conv => whnf); repeat (first | (refine Br.t ?_; conv => whnf) | (refine Br.f ?_; conv => whnf)))
  refine ⟨⟨⟨by decide, by decide⟩, by omega, by omega⟩, ?_⟩
  have e : ((n : Int) + 1 - 2).toNat = n - 1 := by omega
  rw [e]
  ((conv => whnf); repeat (first | (refine Br.t ?_; conv => whnf) | (refine Br.f ?_; conv => whnf)))
  refine ⟨fun i δ => ∃ a, δ = [.dat (.int n), .own ((primesF n i).map fun p => .int ((p : Nat) : Int)), a, .no], ⟨_, rfl⟩, ?_, ?_⟩
  · rintro i d δ hd ⟨a, rfl⟩
    obtain ⟨hi, rfl⟩ := rngD_get hd
    have hl := primesF_len n i
    have e1 : ((2 : Int) + (i : Int)) = ((i + 2 : Nat) : Int) := by omega
    dsimp only
    rw [e1]
    have ep : primesF n (i + 1) = if n % (i + 2) = 0 ∧ ((primesF n i).filter fun o => decide ((i + 2) % o = 0)) = [] then primesF n i ++ [i + 2] else primesF n i := rfl
    rw [ep]
    have hpos : ∀ o ∈ primesF n i, 0 < o := fun o ho => by have := primesF_mem ho; omega
    generalize primesF n i = F at hl hpos
    ((conv => whnf); repeat (first | (refine Br.t ?_; conv => whnf) | (refine Br.f ?_; conv => whnf)))
    refine ⟨by omega, ?_⟩
    ((conv => whnf); repeat (first | (refine Br.t ?_; conv => whnf) | (refine Br.f ?_; conv => whnf)))
    refine Br.dec (fun hm => ?_) (fun hm => ?_)
    · have hm : n % (i + 2) = 0 := Int.ofNat_eq_zero.mp hm
      ((conv => whnf); repeat (first | (refine Br.t ?_; conv => whnf) | (refine Br.f ?_; conv => whnf)))
      refine LcS.det (dvD ((i + 2 : Nat) : Int)) (szLine (by rw [List.length_map]; omega)) (fun d hd C hC => ?_) ?_
      · obtain ⟨o, ho, rfl⟩ := List.mem_map.mp hd
        have ho := hpos o ho
        ((conv => whnf); repeat (first | (refine Br.t ?_; conv => whnf) | (refine Br.f ?_; conv => whnf)))
        refine ⟨by omega, ?_⟩
        ((conv => whnf); repeat (first | (refine Br.t ?_; conv => whnf) | (refine Br.f ?_; conv => whnf)))
        refine Br.dec (fun hc => ?_) (fun hc => ?_)
        · ((conv => whnf); repeat (first | (refine Br.t ?_; conv => whnf) | (refine Br.f ?_; conv => whnf)))
          rw [dvD_y hc] at hC
          exact hC
        · rw [dvD_n hc] at hC
          exact hC
      · ((conv => whnf); repeat (first | (refine Br.t ?_; conv => whnf) | (refine Br.f ?_; conv => whnf)))
        rw [dvD_filt, List.length_map]
        refine Br.dec (fun hz => ?_) (fun hz => ?_)
        · have hz : (F.filter fun o => decide ((i + 2) % o = 0)) = [] := List.eq_nil_of_length_eq_zero (Int.ofNat_eq_zero.mp hz)
          rw [if_pos ⟨hm, hz⟩]
          ((conv => whnf); repeat (first | (refine Br.t ?_; conv => whnf) | (refine Br.f ?_; conv => whnf)))
          refine ⟨Nat.lt_of_lt_of_le (show _ < 2 ^ 20 by rw [List.length_map]; omega) szLine', ?_⟩
          ((conv => whnf); repeat (first | (refine Br.t ?_; conv => whnf) | (refine Br.f ?_; conv => whnf)))
          rw [List.map_append]
          exact ⟨_, rfl⟩
        · rw [if_neg (fun z => hz (by rw [z.2]; rfl))]
          ((conv => whnf); repeat (first | (refine Br.t ?_; conv => whnf) | (refine Br.f ?_; conv => whnf)))
          exact ⟨_, rfl⟩
    · have hm : ¬ n % (i + 2) = 0 := fun z => hm (Int.ofNat_eq_zero.mpr z)
      rw [if_neg (fun z => hm z.1)]
      ((conv => whnf); repeat (first | (refine Br.t ?_; conv => whnf) | (refine Br.f ?_; conv => whnf)))
      exact ⟨_, rfl⟩
  · rintro δ ⟨a, rfl⟩
    rw [rngD_length]
    ((conv => whnf); repeat (first | (refine Br.t ?_; conv => whnf) | (refine Br.f ?_; conv => whnf)))
    exact h
end
end RB

set_option Elab.async false
set_option linter.all false
set_option maxRecDepth 100000
set_option maxHeartbeats 4000000
/-! M3: proofs judged (k23) -/
namespace RB
open PySem PySem.Spec PyProof.Rows L2
theorem within_t {d : D} {lo hi : Int} (h : withinD d lo hi = true) : ∃ x, d = .int x ∧ lo ≤ x ∧ x ≤ hi := by
  cases d
  case int x =>
    obtain ⟨a, b⟩ := Bool.and_eq_true_iff.mp (show (decide (lo ≤ x) && decide (x ≤ hi)) = true from h)
    exact ⟨x, rfl, of_decide_eq_true a, of_decide_eq_true b⟩
  all_goals cases h
theorem within_f {x lo hi : Int} (h : withinD (.int x) lo hi = false) : ¬ (lo ≤ x ∧ x ≤ hi) := fun z => by
  have h : (decide (lo ≤ x) && decide (x ≤ hi)) = false := h
  rw [decide_eq_true z.1, decide_eq_true z.2] at h
  cases h
theorem pairB_f {ns : List Int} {p st : Nat} {d : D} (h : ∀ a x y, d = .tuple [.int a, .int x, .int y] → ¬ (a = (p : Int) ∧ 0 ≤ x ∧ x < y ∧ y < (ns.length : Int))) : pairB ns p st d = false := by
  by_cases e : ∃ a x y, d = .tuple [.int a, .int x, .int y]
  · obtain ⟨a, x, y, rfl⟩ := e
    have := h a x y rfl
    rw [pairB_i]
    by_cases h1 : a = (p : Int)
    · by_cases h2 : 0 ≤ x
      · by_cases h3 : x < y
        · by_cases h4 : y < (ns.length : Int)
          · exact absurd ⟨h1, h2, h3, h4⟩ this
          · rw [decide_eq_false h4]; simp
        · rw [decide_eq_false h3]; simp
      · rw [decide_eq_false h2]; simp
    · rw [decide_eq_false h1]; simp
  · exact pairB_bad fun a x y z => e ⟨a, x, y, z⟩
section
variable {K : Fr} {Q : RV → Prop} {X : Addr → Prop} {rs : List RV}
theorem l__law_parts (h : sp__law_parts K rs Q X) : d__law_parts K (endD Q X) (startD ["m", "show", "period", "p", "entry"] rs) := by
  obtain ⟨ns, T, p, d, rfl, ⟨hp0, hp4, hpT⟩, h⟩ := h
  have hu : 0 < T / p := Nat.div_pos hpT hp0
  have bad : (∀ a x y, d = .tuple [.int a, .int x, .int y] → ¬ (a = (p : Int) ∧ 0 ≤ x ∧ x < y ∧ y < (ns.length : Int))) → Q (.dat (.bool false)) := fun hb => by rw [pairB_f hb] at h; exact h
  cases d
  case tuple ds =>
    ((conv => whnf); repeat (first | (refine Br.t ?_; conv => whnf) | (refine Br.f ?_; conv => whnf)))
    refine Br.ndec (fun hc => ?_) (fun hc => ?_)
    · ((conv => whnf); repeat (first | (refine Br.t ?_; conv => whnf) | (refine Br.f ?_; conv => whnf)))
      exact bad fun a x y e => absurd (by rw [PyData.tuple.inj e]; rfl) hc
    · ((conv => whnf); repeat (first | (refine Br.t ?_; conv => whnf) | (refine Br.f ?_; conv => whnf)))
      have hl : ds.length = 3 := by omega
      obtain ⟨d1, d2, d3, rfl⟩ : ∃ d1 d2 d3, ds = [d1, d2, d3] := by
        match ds, hl with
        | [a, b, c], _ => exact ⟨a, b, c, rfl⟩
      refine ⟨_, rfl, ?_⟩
      ((conv => whnf); repeat (first | (refine Br.t ?_; conv => whnf) | (refine Br.f ?_; conv => whnf)))
      refine c_lwithin ?_
      ((conv => whnf); repeat (first | (refine Br.t ?_; conv => whnf) | (refine Br.f ?_; conv => whnf)))
      cases e1 : withinD d1 p p
      · ((conv => whnf); repeat (first | (refine Br.t ?_; conv => whnf) | (refine Br.f ?_; conv => whnf)))
        exact bad fun a x y e z => by
          cases e
          exact within_f e1 ⟨by omega, by omega⟩
      obtain ⟨a, rfl, ha1, ha2⟩ := within_t e1
      ((conv => whnf); repeat (first | (refine Br.t ?_; conv => whnf) | (refine Br.f ?_; conv => whnf)))
      refine ⟨_, rfl, ?_⟩
      ((conv => whnf); repeat (first | (refine Br.t ?_; conv => whnf) | (refine Br.f ?_; conv => whnf)))
      refine c_lwithin ?_
      ((conv => whnf); repeat (first | (refine Br.t ?_; conv => whnf) | (refine Br.f ?_; conv => whnf)))
      cases e3 : withinD d3 1 ((ns.length : Int) - 1)
      · ((conv => whnf); repeat (first | (refine Br.t ?_; conv => whnf) | (refine Br.f ?_; conv => whnf)))
        exact bad fun a x y e z => by
          cases e
          exact within_f e3 ⟨by omega, by omega⟩
      obtain ⟨y, rfl, hy1, hy2⟩ := within_t e3
      ((conv => whnf); repeat (first | (refine Br.t ?_; conv => whnf) | (refine Br.f ?_; conv => whnf)))
      refine ⟨_, rfl, ?_⟩
      ((conv => whnf); repeat (first | (refine Br.t ?_; conv => whnf) | (refine Br.f ?_; conv => whnf)))
      refine ⟨_, rfl, ?_⟩
      ((conv => whnf); repeat (first | (refine Br.t ?_; conv => whnf) | (refine Br.f ?_; conv => whnf)))
      refine c_lwithin ?_
      ((conv => whnf); repeat (first | (refine Br.t ?_; conv => whnf) | (refine Br.f ?_; conv => whnf)))
      cases e2 : withinD d2 0 (y - 1)
      · ((conv => whnf); repeat (first | (refine Br.t ?_; conv => whnf) | (refine Br.f ?_; conv => whnf)))
        exact bad fun a x y e z => by
          cases e
          exact within_f e2 ⟨by omega, by omega⟩
      obtain ⟨x, rfl, hx1, hx2⟩ := within_t e2
      rw [pairB_i, decide_eq_true (by omega : a = (p : Int)), decide_eq_true hx1, decide_eq_true (by omega : x < y), decide_eq_true (by omega : y < (ns.length : Int))] at h
      ((conv => whnf); repeat (first | (refine Br.t ?_; conv => whnf) | (refine Br.f ?_; conv => whnf)))
      refine ⟨_, rfl, ?_⟩
      ((conv => whnf); repeat (first | (refine Br.t ?_; conv => whnf) | (refine Br.f ?_; conv => whnf)))
      refine ⟨_, rfl, ?_⟩
      ((conv => whnf); repeat (first | (refine Br.t ?_; conv => whnf) | (refine Br.f ?_; conv => whnf)))
      refine ⟨divOk (by omega) (by omega), ?_⟩
      ((conv => whnf); repeat (first | (refine Br.t ?_; conv => whnf) | (refine Br.f ?_; conv => whnf)))
      refine ⟨show (0 : Int) < ((T / p : Nat) : Int) by omega, ?_⟩
      ((conv => whnf); repeat (first | (refine Br.t ?_; conv => whnf) | (refine Br.f ?_; conv => whnf)))
      refine Br.dec (fun hm => ?_) (fun hm => ?_)
      · rw [decide_eq_true (show (y - x) % ((T / p : Nat) : Int) = 0 from hm)] at h
        ((conv => whnf); repeat (first | (refine Br.t ?_; conv => whnf) | (refine Br.f ?_; conv => whnf)))
        refine ⟨_, rfl, ?_⟩
        ((conv => whnf); repeat (first | (refine Br.t ?_; conv => whnf) | (refine Br.f ?_; conv => whnf)))
        refine ⟨_, atI_iL (by omega) (by omega), ?_⟩
        ((conv => whnf); repeat (first | (refine Br.t ?_; conv => whnf) | (refine Br.f ?_; conv => whnf)))
        refine ⟨_, rfl, ?_⟩
        ((conv => whnf); repeat (first | (refine Br.t ?_; conv => whnf) | (refine Br.f ?_; conv => whnf)))
        refine ⟨_, atI_iL (by omega) (by omega), ?_⟩
        exact h
      · rw [decide_eq_false (show ¬ (y - x) % ((T / p : Nat) : Int) = 0 from hm)] at h
        ((conv => whnf); repeat (first | (refine Br.t ?_; conv => whnf) | (refine Br.f ?_; conv => whnf)))
        exact h
  all_goals
    ((conv => whnf); repeat (first | (refine Br.t ?_; conv => whnf) | (refine Br.f ?_; conv => whnf)))
    exact bad fun a x y e => nomatch e
theorem provB_int {ns : List Int} {T : Int} {paper : D} : provB ns (.int T) paper = ((decide (1 ≤ T) && (decide (T ≤ (ns.length : Int)) && (decide ((ns.length : Int) % T = 0) && (fbk ns T.toNat).isNone))) && provN ns T.toNat paper) := rfl
theorem provB_non {ns : List Int} {d paper : D} (h : ∀ x, d ≠ .int x) : provB ns d paper = false := by
  cases d
  case int x => exact absurd rfl (h x)
  all_goals rfl
theorem provN_list {ns : List Int} {T : Nat} {ps : List D} : provN ns T (.list ps) = (decide (ps.length = (prs T).length) && allB ns T (prs T) ps) := rfl
theorem provN_non {ns : List Int} {T : Nat} {d : D} (h : ∀ x, d ≠ .list x) : provN ns T d = false := by
  cases d
  case list x => exact absurd rfl (h x)
  all_goals rfl
theorem prs_at {T i p : Nat} (h : (prs T)[i]? = some p) (h0 : 0 < T) : 2 ≤ p ∧ T % p = 0 ∧ p ≤ T := by
  obtain ⟨a, b⟩ := prs_div (List.mem_of_getElem? h)
  exact ⟨a, b, Nat.le_of_dvd h0 (Nat.dvd_of_mod_eq_zero b)⟩
end
end RB

set_option Elab.async false
set_option linter.all false
set_option maxRecDepth 100000
set_option maxHeartbeats 4000000
/-! M4: the judge and the law's judge (k23) -/
namespace RB
open PySem PySem.Spec PyProof.Rows L2
theorem nat_map_at {F : List Nat} {i : Nat} {d : D} (h : (F.map fun p => PyData.int ((p : Nat) : Int))[i]? = some d) : ∃ p, F[i]? = some p ∧ d = .int (p : Nat) := by
  rw [List.getElem?_map] at h
  cases e : F[i]? with
  | none => rw [e] at h; cases h
  | some p => rw [e] at h; exact ⟨p, rfl, (Option.some.inj h).symm⟩
section
variable {K : Fr} {Q : RV → Prop} {X : Addr → Prop} {rs : List RV}
theorem l__law_proves (h : sp__law_proves K rs Q X) : d__law_proves K (endD Q X) (startD ["m", "show", "period", "pairs", "primes", "i"] rs) := by
  obtain ⟨ns, number, paper, rfl, ⟨l, hf⟩, hm, h⟩ := h
  obtain ⟨hm2, _, _⟩ := facM_some hf
  have h0 : 0 < ns.length := by omega
  ((conv => whnf); repeat (first | (refine Br.t ?_; conv => whnf) | (refine Br.f ?_; conv => whnf)))
  refine c_lwithin ?_
  ((conv => whnf); repeat (first | (refine Br.t ?_; conv => whnf) | (refine Br.f ?_; conv => whnf)))
  cases e1 : withinD number 1 (ns.length : Nat)
  · ((conv => whnf); repeat (first | (refine Br.t ?_; conv => whnf) | (refine Br.f ?_; conv => whnf)))
    have : provB ns number paper = false := by
      cases number
      case int T =>
        have := within_f e1
        rw [provB_int]
        by_cases h1 : 1 ≤ T
        · rw [decide_eq_false (p := T ≤ (ns.length : Int)) (fun z => this ⟨h1, z⟩)]; simp
        · rw [decide_eq_false h1]; simp
      all_goals rfl
    rw [this] at h
    exact h
  obtain ⟨T', rfl, hT1, hT2⟩ := within_t e1
  obtain ⟨T, rfl⟩ := Int.eq_ofNat_of_zero_le (show 0 ≤ T' by omega)
  have hT0 : 0 < T := by omega
  have hTm : T ≤ ns.length := by omega
  rw [provB_int, decide_eq_true hT1, decide_eq_true hT2, Int.toNat_natCast] at h
  ((conv => whnf); repeat (first | (refine Br.t ?_; conv => whnf) | (refine Br.f ?_; conv => whnf)))
  refine ⟨by omega, ?_⟩
  ((conv => whnf); repeat (first | (refine Br.t ?_; conv => whnf) | (refine Br.f ?_; conv => whnf)))
  refine Br.ndec (fun hmod => ?_) (fun hmod => ?_)
  · ((conv => whnf); repeat (first | (refine Br.t ?_; conv => whnf) | (refine Br.f ?_; conv => whnf)))
    rw [decide_eq_false hmod] at h
    exact h
  rw [decide_eq_true hmod] at h
  have hmod' : ns.length % T = 0 := Int.ofNat_eq_zero.mp (show ((ns.length % T : Nat) : Int) = 0 from hmod)
  ((conv => whnf); repeat (first | (refine Br.t ?_; conv => whnf) | (refine Br.f ?_; conv => whnf)))
  refine ⟨divOk (by omega) (by omega), ?_⟩
  ((conv => whnf); repeat (first | (refine Br.t ?_; conv => whnf) | (refine Br.f ?_; conv => whnf)))
  rw [cutD_iL, HT.sIx_none, HT.sIx_nat]
  have e1 : ((ns.drop 0).take (min T ns.length - 0)) = ns.take T := by rw [List.drop_zero]; congr 1; omega
  rw [e1]
  have e2 : ((ns.length : Int) / (T : Int)).toNat = ns.length / T := by rw [← Int.natCast_ediv, Int.toNat_natCast]
  have hlt : (ns.take T).length = T := by rw [List.length_take]; omega
  have hmul : T * (ns.length / T) = ns.length := Nat.mul_div_cancel' (Nat.dvd_of_mod_eq_zero hmod')
  have hdl : ns.length / T ≤ ns.length := Nat.div_le_self _ _
  refine ⟨⟨by omega, by rw [← Int.natCast_ediv]; omega, szLine (by rw [iL_len, hlt, e2, hmul]; omega)⟩, ?_⟩
  ((conv => whnf); repeat (first | (refine Br.t ?_; conv => whnf) | (refine Br.f ?_; conv => whnf)))
  rw [e2]
  have e3 : (List.replicate (ns.length / T) (iL (ns.take T))).flatten = iL (List.replicate (ns.length / T) (ns.take T)).flatten := by
    show _ = List.map _ _
    rw [List.map_flatten, List.map_replicate]
  rw [e3]
  refine ⟨⟨PySem.W.ke_shaped_ints _, PySem.W.ke_shaped_ints _⟩, ?_⟩
  rw [eqv_iL]
  refine Br.ndec (fun he => ?_) (fun he => ?_)
  · ((conv => whnf); repeat (first | (refine Br.t ?_; conv => whnf) | (refine Br.f ?_; conv => whnf)))
    have hn : (fbk ns T).isNone = false := by
      cases e : fbk ns T with
      | none => exact absurd ((per_iff hT0 hmod' hTm).mpr e) he
      | some _ => rfl
    rw [hn] at h
    exact h
  have hn : (fbk ns T).isNone = true := by rw [(per_iff hT0 hmod' hTm).mp he]; rfl
  rw [hn] at h
  replace h : Q (.dat (.bool (provN ns T paper))) := h
  have hTp := primesF_prs (fac_sub hf hm hT0 hmod') (by omega)
  ((conv => whnf); repeat (first | (refine Br.t ?_; conv => whnf) | (refine Br.f ?_; conv => whnf)))
  refine c_primes ⟨hT0, by omega⟩ ?_
  rw [hTp]
  have hlen := prs_len T
  cases paper
  case list ps =>
    rw [provN_list] at h
    ((conv => whnf); repeat (first | (refine Br.t ?_; conv => whnf) | (refine Br.f ?_; conv => whnf)))
    rw [List.length_map]
    refine Br.ndec (fun hl => ?_) (fun hl => ?_)
    · ((conv => whnf); repeat (first | (refine Br.t ?_; conv => whnf) | (refine Br.f ?_; conv => whnf)))
      rw [decide_eq_false (by omega)] at h
      exact h
    have hl : ps.length = (prs T).length := by omega
    rw [decide_eq_true hl, Bool.true_and] at h
    ((conv => whnf); repeat (first | (refine Br.t ?_; conv => whnf) | (refine Br.f ?_; conv => whnf)))
    rw [List.length_map]
    refine ⟨⟨by omega, by omega⟩, ?_⟩
    ((conv => whnf); repeat (first | (refine Br.t ?_; conv => whnf) | (refine Br.f ?_; conv => whnf)))
    refine ⟨fun i δ => ∃ a, δ = [.dat (.int (ns.length : Nat)), .dat (.list (iL ns)), .dat (.int T), .dat (.list ps), .dat (.list ((prs T).map fun p => .int ((p : Nat) : Int))), a] ∧ ∀ (j p : Nat) (d : D), j < i → (prs T)[j]? = some p → ps[j]? = some d → pairB ns p (T / p) d = true, ⟨_, rfl, fun j p d hj => by omega⟩, ?_, ?_⟩
    · rintro i d δ hd ⟨a, rfl, hb⟩
      obtain ⟨hi, rfl⟩ := rngD_get hd
      have hi : i < (prs T).length := by omega
      have g1 : (prs T)[i]? = some (prs T)[i] := List.getElem?_eq_getElem hi
      have g2 : ps[i]? = some (ps[i]'(by omega)) := List.getElem?_eq_getElem (by omega)
      obtain ⟨q2, qd, ql⟩ := prs_at g1 hT0
      generalize (prs T)[i] = p at g1 q2 qd ql
      generalize ps[i]'(by omega) = dd at g2
      have i1 : L2.atI ((prs T).map fun p => PyData.int ((p : Nat) : Int)) (0 + (i : Int)) = some (.int (p : Nat)) := by
        unfold L2.atI
        rw [ixN_nat (by omega) (by rw [List.length_map]; omega), Option.bind_some, List.getElem?_map, show (0 + (i : Int)).toNat = i by omega, g1]
        rfl
      have i2 : L2.atI ps (0 + (i : Int)) = some dd := by
        unfold L2.atI
        rw [ixN_nat (by omega) (by omega), Option.bind_some, show (0 + (i : Int)).toNat = i by omega, g2]
      ((conv => whnf); repeat (first | (refine Br.t ?_; conv => whnf) | (refine Br.f ?_; conv => whnf)))
      refine ⟨_, i1, ?_⟩
      ((conv => whnf); repeat (first | (refine Br.t ?_; conv => whnf) | (refine Br.f ?_; conv => whnf)))
      refine ⟨_, i2, ?_⟩
      ((conv => whnf); repeat (first | (refine Br.t ?_; conv => whnf) | (refine Br.f ?_; conv => whnf)))
      refine c_parts ⟨by omega, by omega, ql⟩ ?_
      ((conv => whnf); repeat (first | (refine Br.t ?_; conv => whnf) | (refine Br.f ?_; conv => whnf)))
      cases hp : pairB ns p (T / p) dd
      · ((conv => whnf); repeat (first | (refine Br.t ?_; conv => whnf) | (refine Br.f ?_; conv => whnf)))
        rw [allB_at g1 g2 hp] at h
        exact h
      · ((conv => whnf); repeat (first | (refine Br.t ?_; conv => whnf) | (refine Br.f ?_; conv => whnf)))
        refine ⟨_, rfl, fun j p' d hj h1 h2 => ?_⟩
        by_cases hji : j = i
        · subst hji
          rw [g1] at h1
          rw [g2] at h2
          cases h1
          cases h2
          exact hp
        · exact hb j p' d (by omega) h1 h2
    · rintro δ ⟨a, rfl, hb⟩
      rw [rngD_length] at hb
      ((conv => whnf); repeat (first | (refine Br.t ?_; conv => whnf) | (refine Br.f ?_; conv => whnf)))
      rw [allB_all fun i p d h1 h2 => hb i p d (by have := (List.getElem?_eq_some_iff.mp h1).1; omega) h1 h2] at h
      exact h
  all_goals
    ((conv => whnf); repeat (first | (refine Br.t ?_; conv => whnf) | (refine Br.f ?_; conv => whnf)))
    exact h
end
end RB

set_option Elab.async false
set_option linter.all false
set_option maxRecDepth 100000
set_option maxHeartbeats 4000000
/-! M5: shows_period (k23) -/
namespace RB
open PySem PySem.Spec PyProof.Rows L2
theorem zip_at {xs ys : List D} {i : Nat} {d : D} (h : (zipD xs ys)[i]? = some d) : ∃ x y, xs[i]? = some x ∧ ys[i]? = some y ∧ d = .tuple [x, y] := by
  unfold zipD at h
  rw [List.getElem?_map] at h
  cases e : (xs.zip ys)[i]? with
  | none => rw [e] at h; cases h
  | some p =>
    rw [e] at h
    obtain ⟨h1, h2⟩ := List.getElem?_zip_eq_some.mp e
    exact ⟨p.1, p.2, h1, h2, (Option.some.inj h).symm⟩
section
variable {K : Fr} {Q : RV → Prop} {X : Addr → Prop} {rs : List RV}
theorem l_shows_period (h : sp_shows_period K rs Q X) : d_shows_period K (endD Q X) (startD ["m", "show", "period", "pairs", "primes", "p", "pair"] rs) := by
  obtain ⟨dm, d, per, paper, rfl, h1, h2, h3, h4⟩ := h
  ((conv => whnf); repeat (first | (refine Br.t ?_; conv => whnf) | (refine Br.f ?_; conv => whnf)))
  refine ⟨rfl, dm, d, rfl, h1, h2, h3, fun m l em hf hr hm => ?_⟩
  subst em
  obtain ⟨ds, rfl⟩ : ∃ ds, d = .list ds := by cases d <;> first | exact ⟨_, rfl⟩ | cases hr
  obtain ⟨hlen, hfit⟩ := Bool.and_eq_true_iff.mp (show (decide ((ds.length : Int) = m) && ds.all fitD) = true from hr)
  have hlen := of_decide_eq_true hlen
  obtain ⟨ns, rfl, hns⟩ := iL_of_fit hfit
  have hlen : (ns.length : Int) = m := by rw [← hlen]; rw [List.length_map]
  subst hlen
  obtain ⟨hm2, hm3, _⟩ := facM_some hf
  have h := h4 ns.length l ns rfl hf (by omega) rfl rfl hr
  clear h1 h2 h3 h4
  have h0 : 0 < ns.length := by omega
  have hm : ns.length ≤ 400 := by omega
  ((conv => whnf); repeat (first | (refine Br.t ?_; conv => whnf) | (refine Br.f ?_; conv => whnf)))
  refine c_whole_ ?_
  ((conv => whnf); repeat (first | (refine Br.t ?_; conv => whnf) | (refine Br.f ?_; conv => whnf)))
  cases e1 : isIntD per
  · ((conv => whnf); repeat (first | (refine Br.t ?_; conv => whnf) | (refine Br.f ?_; conv => whnf)))
    rw [provB_non (not_int e1)] at h
    exact h
  obtain ⟨T', rfl⟩ := int_of e1
  rw [provB_int] at h
  ((conv => whnf); repeat (first | (refine Br.t ?_; conv => whnf) | (refine Br.f ?_; conv => whnf)))
  refine Br.dec (fun hT => ?_) (fun hT => ?_)
  · ((conv => whnf); repeat (first | (refine Br.t ?_; conv => whnf) | (refine Br.f ?_; conv => whnf)))
    rw [decide_eq_false (by omega : ¬ 1 ≤ T')] at h
    exact h
  rw [decide_eq_true (by omega : 1 ≤ T')] at h
  obtain ⟨T, rfl⟩ := Int.eq_ofNat_of_zero_le (show 0 ≤ T' by omega)
  have hT0 : 0 < T := by omega
  ((conv => whnf); repeat (first | (refine Br.t ?_; conv => whnf) | (refine Br.f ?_; conv => whnf)))
  refine ⟨by omega, ?_⟩
  ((conv => whnf); repeat (first | (refine Br.t ?_; conv => whnf) | (refine Br.f ?_; conv => whnf)))
  refine Br.ndec (fun hmod => ?_) (fun hmod => ?_)
  · ((conv => whnf); repeat (first | (refine Br.t ?_; conv => whnf) | (refine Br.f ?_; conv => whnf)))
    rw [decide_eq_false hmod] at h
    by_cases hz : ((T : Nat) : Int) ≤ (ns.length : Int)
    · rw [decide_eq_true hz] at h; exact h
    · rw [decide_eq_false hz] at h; exact h
  have hmod' : ns.length % T = 0 := Int.ofNat_eq_zero.mp (show ((ns.length % T : Nat) : Int) = 0 from hmod)
  have hTm : T ≤ ns.length := Nat.le_of_dvd h0 (Nat.dvd_of_mod_eq_zero hmod')
  rw [decide_eq_true (by omega : ((T : Nat) : Int) ≤ (ns.length : Int)), decide_eq_true hmod, Int.toNat_natCast] at h
  have hlenp := prs_len T
  have nonl : (∀ x, paper ≠ .list x) → Q (.dat (.bool false)) := fun hn => by
    rw [provN_non hn, Bool.and_false] at h
    exact h
  cases paper
  case list ps =>
    ((conv => whnf); repeat (first | (refine Br.t ?_; conv => whnf) | (refine Br.f ?_; conv => whnf)))
    refine c_first_break ⟨hT0, hm⟩ ?_
    ((conv => whnf); repeat (first | (refine Br.t ?_; conv => whnf) | (refine Br.f ?_; conv => whnf)))
    rw [optI_none]
    cases hn : (fbk ns T).isNone
    · ((conv => whnf); repeat (first | (refine Br.t ?_; conv => whnf) | (refine Br.f ?_; conv => whnf)))
      rw [hn] at h
      exact h
    rw [hn] at h
    replace h : Q (.dat (.bool (provN ns T (.list ps)))) := h
    rw [provN_list] at h
    ((conv => whnf); repeat (first | (refine Br.t ?_; conv => whnf) | (refine Br.f ?_; conv => whnf)))
    refine c_primes_of (fac_sub hf hm hT0 hmod') ⟨hT0, by omega⟩ ?_
    ((conv => whnf); repeat (first | (refine Br.t ?_; conv => whnf) | (refine Br.f ?_; conv => whnf)))
    rw [List.length_map]
    refine Br.ndec (fun hl => ?_) (fun hl => ?_)
    · ((conv => whnf); repeat (first | (refine Br.t ?_; conv => whnf) | (refine Br.f ?_; conv => whnf)))
      rw [decide_eq_false (by omega)] at h
      exact h
    have hl : ps.length = (prs T).length := by omega
    rw [decide_eq_true hl, Bool.true_and] at h
    ((conv => whnf); repeat (first | (refine Br.t ?_; conv => whnf) | (refine Br.f ?_; conv => whnf)))
    refine ⟨fun i δ => ∃ a b, δ = [.dat (.int (ns.length : Nat)), .dat (.list (iL ns)), .dat (.int T), .dat (.list ps), .dat (.list ((prs T).map fun p => .int ((p : Nat) : Int))), a, b] ∧ ∀ (j p : Nat) (d : D), j < i → (prs T)[j]? = some p → ps[j]? = some d → pairB ns p (T / p) d = true, ⟨_, _, rfl, fun j p d hj => by omega⟩, ?_, ?_⟩
    · rintro i d hd' hd ⟨a, b, rfl, hb⟩
      obtain ⟨x, dd, gx, g2, rfl⟩ := zip_at hd
      obtain ⟨p, g1, rfl⟩ := nat_map_at gx
      obtain ⟨q2, qd, ql⟩ := prs_at g1 hT0
      ((conv => whnf); repeat (first | (refine Br.t ?_; conv => whnf) | (refine Br.f ?_; conv => whnf)))
      refine ⟨rfl, ?_⟩
      ((conv => whnf); repeat (first | (refine Br.t ?_; conv => whnf) | (refine Br.f ?_; conv => whnf)))
      refine ⟨divOk (by omega) (by omega), ?_⟩
      ((conv => whnf); repeat (first | (refine Br.t ?_; conv => whnf) | (refine Br.f ?_; conv => whnf)))
      refine c_shows_pair (st := T / p) (Nat.div_pos ql (by omega)) ?_
      ((conv => whnf); repeat (first | (refine Br.t ?_; conv => whnf) | (refine Br.f ?_; conv => whnf)))
      cases hp : pairB ns p (T / p) dd
      · ((conv => whnf); repeat (first | (refine Br.t ?_; conv => whnf) | (refine Br.f ?_; conv => whnf)))
        rw [allB_at g1 g2 hp] at h
        exact h
      · ((conv => whnf); repeat (first | (refine Br.t ?_; conv => whnf) | (refine Br.f ?_; conv => whnf)))
        refine ⟨_, _, rfl, fun j p' d hj h1 h2 => ?_⟩
        by_cases hji : j = i
        · subst hji
          rw [g1] at h1
          rw [g2] at h2
          cases h1
          cases h2
          exact hp
        · exact hb j p' d (by omega) h1 h2
    · rintro δ ⟨a, b, rfl, hb⟩
      rw [zipD_length, List.length_map] at hb
      ((conv => whnf); repeat (first | (refine Br.t ?_; conv => whnf) | (refine Br.f ?_; conv => whnf)))
      rw [allB_all fun i p d h1 h2 => hb i p d (by have := (List.getElem?_eq_some_iff.mp h1).1; omega) h1 h2] at h
      exact h
  all_goals
    ((conv => whnf); repeat (first | (refine Br.t ?_; conv => whnf) | (refine Br.f ?_; conv => whnf)))
    exact nonl (fun x e => nomatch e)
end
end RB

set_option Elab.async false
set_option linter.all false
set_option maxRecDepth 100000
set_option maxHeartbeats 4000000
/-! M6: pairs made by the law (k23) -/
namespace RB
open PySem PySem.Spec PyProof.Rows L2
structure Good (ns : List Int) (T : Nat) (e : E3) : Prop where
  ok : EOk T e
  v : (fbk ns (T / e.1)).isSome = true → pairB ns e.1 (T / e.1) (e3 e) = true
theorem sub_mod_self (y u : Int) : (y - y % u) % u = 0 := by
  rw [Int.emod_def y u, show y - (y - u * (y / u)) = u * (y / u) by omega]
  exact Int.mul_emod_right _ _
theorem pairB_mk {ns : List Int} {p u : Nat} {x y : Int} (h0 : 0 ≤ x) (h1 : x < y) (h2 : y < (ns.length : Int)) (h3 : (y - x) % (u : Int) = 0) (h4 : ns.getD x.toNat 0 ≠ ns.getD y.toNat 0) : pairB ns p u (.tuple [.int p, .int x, .int y]) = true := by
  rw [pairB_i, decide_eq_true rfl, decide_eq_true h0, decide_eq_true h1, decide_eq_true h2, decide_eq_true h3, decide_eq_false h4]
  rfl
section
variable {K : Fr} {Q : RV → Prop} {X : Addr → Prop} {rs : List RV}
theorem c_pairsfor {ns : List Int} {T : Nat} (h : 0 < ns.length ∧ ns.length ≤ 400 ∧ 0 < T ∧ T ≤ ns.length) (q : ∀ es : List E3, es.map (·.1) = primesF T (T - 1) → (∀ e ∈ es, Good ns T e) → Q (.own (es.map e3))) : Cal (sp__law_pairsfor K) 4 [.sto, .dat (.int (ns.length : Nat)), .dat (.list (iL ns)), .dat (.int T)] Q X :=
  ⟨rfl, ns, T, rfl, h, fun es h1 h2 => q es h1 fun e he => ⟨(h2 e he).1, (h2 e he).2⟩⟩
theorem l__law_pairsfor (h : sp__law_pairsfor K rs Q X) : d__law_pairsfor K (endD Q X) (startD ["store", "m", "show", "period", "pairs", "p", "unit", "found", "y", "k", "x"] rs) := by
  obtain ⟨ns, T, rfl, ⟨h0, hm, hT0, hT⟩, h⟩ := h
  have hF := primesF_len T (T - 1)
  ((conv => whnf); repeat (first | (refine Br.t ?_; conv => whnf) | (refine Br.f ?_; conv => whnf)))
  refine ⟨(szLine (by first | exact (by decide : (0 : Nat) < 2 ^ 20) | exact (by decide : (1 : Nat) < 2 ^ 20) | exact (by decide : (2 : Nat) < 2 ^ 20) | exact (by decide : (3 : Nat) < 2 ^ 20) | exact (by decide : (9 : Nat) < 2 ^ 20) | exact (by decide : (10 : Nat) < 2 ^ 20) | omega | (simp only [List.length_append, List.length_map, List.length_cons, List.length_nil]; omega))), ?_⟩
  ((conv => whnf); repeat (first | (refine Br.t ?_; conv => whnf) | (refine Br.f ?_; conv => whnf)))
  refine c_primes ⟨hT0, by omega⟩ ?_
  ((conv => whnf); repeat (first | (refine Br.t ?_; conv => whnf) | (refine Br.f ?_; conv => whnf)))
  refine ⟨fun i δ => ∃ (es : List E3) (a b c d e f : Sl), δ = [.sto, .dat (.int (ns.length : Nat)), .dat (.list (iL ns)), .dat (.int T), .own (es.map e3), a, b, c, d, e, f] ∧ es.map (·.1) = (primesF T (T - 1)).take i ∧ ∀ e ∈ es, Good ns T e, ⟨[], _, _, _, _, _, _, rfl, rfl, fun e he => by cases he⟩, ?_, ?_⟩
  · rintro i d δ hd ⟨es, a, b, c, d', e, f, rfl, he1, he2⟩
    obtain ⟨p, g1, rfl⟩ := nat_map_at hd
    have hi := (List.getElem?_eq_some_iff.mp g1).1
    obtain ⟨p2, pk, pd⟩ := primesF_mem (List.mem_of_getElem? g1)
    have hpT : p ≤ T := by omega
    have hu : 0 < T / p := Nat.div_pos hpT (by omega)
    have huT : T / p ≤ T := Nat.div_le_self _ _
    have hel : es.length ≤ 400 := by
      have := congrArg List.length he1
      rw [List.length_map, List.length_take] at this
      omega
    ((conv => whnf); repeat (first | (refine Br.t ?_; conv => whnf) | (refine Br.f ?_; conv => whnf)))
    refine ⟨divOk (by omega) (by omega), ?_⟩
    ((conv => whnf); repeat (first | (refine Br.t ?_; conv => whnf) | (refine Br.f ?_; conv => whnf)))
    refine ⟨(szLine (by first | exact (by decide : (0 : Nat) < 2 ^ 20) | exact (by decide : (1 : Nat) < 2 ^ 20) | exact (by decide : (2 : Nat) < 2 ^ 20) | exact (by decide : (3 : Nat) < 2 ^ 20) | exact (by decide : (9 : Nat) < 2 ^ 20) | exact (by decide : (10 : Nat) < 2 ^ 20) | omega | (simp only [List.length_append, List.length_map, List.length_cons, List.length_nil]; omega))), ?_⟩
    ((conv => whnf); repeat (first | (refine Br.t ?_; conv => whnf) | (refine Br.f ?_; conv => whnf)))
    refine ⟨⟨by omega, by omega⟩, ?_⟩
    ((conv => whnf); repeat (first | (refine Br.t ?_; conv => whnf) | (refine Br.f ?_; conv => whnf)))
    refine ⟨fun k δ => ∃ (x y : Int) (d e f : Sl), δ = [.sto, .dat (.int (ns.length : Nat)), .dat (.list (iL ns)), .dat (.int T), .own (es.map e3), .dat (.int p), .dat (.int (T / p : Nat)), .dat (.tuple [.int p, .int x, .int y]), d, e, f] ∧ (0 ≤ x ∧ x ≤ 400 ∧ 0 ≤ y ∧ y ≤ 400) ∧
      (pairB ns p (T / p) (.tuple [.int p, .int x, .int y]) = true ∨ ∀ j, j < ns.length → ns.length - 1 - j < k → ns.getD j 0 = ns.getD (j % (T / p)) 0), ⟨0, _, _, _, _, rfl, ⟨by decide, by decide, ?_, ?_⟩, .inr fun j _ hj => by omega⟩, ?_, ?_⟩
    · show (0 : Int) ≤ (if (ns.length : Int) - 1 < ((T / p : Nat) : Int) then (ns.length : Int) - 1 else ((T / p : Nat) : Int))
      split <;> omega
    · show (if (ns.length : Int) - 1 < ((T / p : Nat) : Int) then (ns.length : Int) - 1 else ((T / p : Nat) : Int)) ≤ 400
      split <;> omega
    · rintro k d δ hd ⟨x, y, d', e, f, rfl, hxy, hv⟩
      obtain ⟨hk, rfl⟩ := rngD_get hd
      have hk : k < ns.length := by omega
      have hyy : (ns.length : Int) - 1 - (0 + (k : Int)) = ((ns.length - 1 - k : Nat) : Int) := by omega
      have hmd : (ns.length - 1 - k) % (T / p) ≤ ns.length - 1 - k := Nat.mod_le _ _
      have i1 : L2.atI (iL ns) ((ns.length : Int) - 1 - (0 + (k : Int))) = some (.int (ns.getD (ns.length - 1 - k) 0)) := by rw [hyy]; exact atI_iL (by omega) (by omega)
      have i2 : L2.atI (iL ns) (((ns.length : Int) - 1 - (0 + (k : Int))) % ((T / p : Nat) : Int)) = some (.int (ns.getD ((ns.length - 1 - k) % (T / p)) 0)) := by
        rw [hyy, ← Int.natCast_emod]; exact atI_iL (by omega) (by omega)
      ((conv => whnf); repeat (first | (refine Br.t ?_; conv => whnf) | (refine Br.f ?_; conv => whnf)))
      refine ⟨_, i1, ?_⟩
      ((conv => whnf); repeat (first | (refine Br.t ?_; conv => whnf) | (refine Br.f ?_; conv => whnf)))
      refine ⟨show (0 : Int) < ((T / p : Nat) : Int) by omega, ?_⟩
      ((conv => whnf); repeat (first | (refine Br.t ?_; conv => whnf) | (refine Br.f ?_; conv => whnf)))
      refine ⟨_, i2, ?_⟩
      refine Br.ndec (fun hc => ?_) (fun hc => ?_)
      · ((conv => whnf); repeat (first | (refine Br.t ?_; conv => whnf) | (refine Br.f ?_; conv => whnf)))
        refine ⟨show (0 : Int) < ((T / p : Nat) : Int) by omega, ?_⟩
        ((conv => whnf); repeat (first | (refine Br.t ?_; conv => whnf) | (refine Br.f ?_; conv => whnf)))
        refine ⟨(szLine (by first | exact (by decide : (0 : Nat) < 2 ^ 20) | exact (by decide : (1 : Nat) < 2 ^ 20) | exact (by decide : (2 : Nat) < 2 ^ 20) | exact (by decide : (3 : Nat) < 2 ^ 20) | exact (by decide : (9 : Nat) < 2 ^ 20) | exact (by decide : (10 : Nat) < 2 ^ 20) | omega | (simp only [List.length_append, List.length_map, List.length_cons, List.length_nil]; omega))), ?_⟩
        ((conv => whnf); repeat (first | (refine Br.t ?_; conv => whnf) | (refine Br.f ?_; conv => whnf)))
        have hlt : (ns.length - 1 - k) % (T / p) < ns.length - 1 - k := by
          by_cases z : (ns.length - 1 - k) % (T / p) = ns.length - 1 - k
          · rw [z] at hc; exact absurd rfl hc
          · omega
        refine ⟨_, _, _, _, _, rfl, ⟨Int.emod_nonneg _ (by omega), ?_, by omega, by omega⟩, .inl (pairB_mk (Int.emod_nonneg _ (by omega)) ?_ (by omega) (sub_mod_self _ _) ?_)⟩
        · rw [hyy]; show ((ns.length - 1 - k : Nat) : Int) % ((T / p : Nat) : Int) ≤ 400; rw [← Int.natCast_emod]; omega
        · rw [hyy]; show ((ns.length - 1 - k : Nat) : Int) % ((T / p : Nat) : Int) < _; rw [← Int.natCast_emod]; omega
        · rw [hyy]; show ns.getD (((ns.length - 1 - k : Nat) : Int) % ((T / p : Nat) : Int)).toNat 0 ≠ _; rw [← Int.natCast_emod, Int.toNat_natCast, Int.toNat_natCast]; exact fun z => hc z.symm
      · ((conv => whnf); repeat (first | (refine Br.t ?_; conv => whnf) | (refine Br.f ?_; conv => whnf)))
        refine ⟨x, y, _, _, _, rfl, hxy, hv.imp id fun hv j hj hjk => ?_⟩
        by_cases z : ns.length - 1 - j < k
        · exact hv j hj z
        · have : j = ns.length - 1 - k := by omega
          subst this
          exact hc
    · rintro δ ⟨x, y, d', e, f, rfl, hxy, hv⟩
      rw [rngD_length, Int.toNat_natCast] at hv
      have hv : (fbk ns (T / p)).isSome = true → pairB ns p (T / p) (.tuple [.int p, .int x, .int y]) = true := fun hs => by
        rcases hv with hv | hv
        · exact hv
        · exfalso
          obtain ⟨j, ej⟩ := Option.isSome_iff_exists.mp hs
          obtain ⟨b1, b2, _⟩ := fbk_lt ej
          exact b2 (hv j b1 (by omega))
      ((conv => whnf); repeat (first | (refine Br.t ?_; conv => whnf) | (refine Br.f ?_; conv => whnf)))
      refine ⟨⟨by decide, by decide⟩, ?_⟩
      ((conv => whnf); repeat (first | (refine Br.t ?_; conv => whnf) | (refine Br.f ?_; conv => whnf)))
      refine ⟨fun k δ => ∃ (x y : Int) (d e f : Sl), δ = [.sto, .dat (.int (ns.length : Nat)), .dat (.list (iL ns)), .dat (.int T), .own (es.map e3), .dat (.int p), .dat (.int (T / p : Nat)), .dat (.tuple [.int p, .int x, .int y]), d, e, f] ∧ (0 ≤ x ∧ x ≤ 400 ∧ 0 ≤ y ∧ y ≤ 400) ∧
        ((fbk ns (T / p)).isSome = true → pairB ns p (T / p) (.tuple [.int p, .int x, .int y]) = true), ⟨x, y, _, _, _, rfl, hxy, hv⟩, ?_, ?_⟩
      · rintro k d δ hd ⟨x, y, d', e, f, rfl, hxy, hv⟩
        ((conv => whnf); repeat (first | (refine Br.t ?_; conv => whnf) | (refine Br.f ?_; conv => whnf)))
        refine c_take (by omega) fun yy h1 h2 => ?_
        have hyl : yy < ns.length := by omega
        have hdm : yy % ((T / p : Nat) : Int) + ((T / p : Nat) : Int) * (yy / ((T / p : Nat) : Int)) = yy := Int.emod_add_mul_ediv _ _
        have hmn : 0 ≤ yy % ((T / p : Nat) : Int) := Int.emod_nonneg _ (by omega)
        have hdn : 0 ≤ yy / ((T / p : Nat) : Int) := Int.ediv_nonneg h1 (by omega)
        have hdle : yy / ((T / p : Nat) : Int) ≤ yy := Int.ediv_le_self _ h1
        ((conv => whnf); repeat (first | (refine Br.t ?_; conv => whnf) | (refine Br.f ?_; conv => whnf)))
        refine ⟨show (0 : Int) < ((T / p : Nat) : Int) by omega, ?_⟩
        ((conv => whnf); repeat (first | (refine Br.t ?_; conv => whnf) | (refine Br.f ?_; conv => whnf)))
        refine ⟨divOk (show (0 : Int) < ((T / p : Nat) : Int) by omega) (by omega), ?_⟩
        ((conv => whnf); repeat (first | (refine Br.t ?_; conv => whnf) | (refine Br.f ?_; conv => whnf)))
        refine c_take (show yy / ((T / p : Nat) : Int) + 1 < 2 ^ 64 by omega) fun t h3 h4 => ?_
        have h4 : t ≤ yy / ((T / p : Nat) : Int) := by omega
        have hmul : ((T / p : Nat) : Int) * t ≤ ((T / p : Nat) : Int) * (yy / ((T / p : Nat) : Int)) := Int.mul_le_mul_of_nonneg_left h4 (by omega)
        have hm0 : 0 ≤ ((T / p : Nat) : Int) * t := Int.mul_nonneg (by omega) h3
        ((conv => whnf); repeat (first | (refine Br.t ?_; conv => whnf) | (refine Br.f ?_; conv => whnf)))
        refine ⟨mulL (show -(2 ^ 64) < ((T / p : Nat) : Int) by omega) (show ((T / p : Nat) : Int) < 2 ^ 64 by omega), ?_⟩
        have hsub : (yy - (yy % ((T / p : Nat) : Int) + ((T / p : Nat) : Int) * t)) % ((T / p : Nat) : Int) = 0 := by
          rw [show yy - (yy % ((T / p : Nat) : Int) + ((T / p : Nat) : Int) * t) = ((T / p : Nat) : Int) * (yy / ((T / p : Nat) : Int) - t) by rw [Int.mul_sub]; omega]
          exact Int.mul_emod_right _ _
        ((conv => whnf); repeat (first | (refine Br.t ?_; conv => whnf) | (refine Br.f ?_; conv => whnf)))
        refine Br.dec (fun hlt => ?_) (fun hlt => ?_)
        · ((conv => whnf); repeat (first | (refine Br.t ?_; conv => whnf) | (refine Br.f ?_; conv => whnf)))
          refine ⟨_, atI_iL (ns := ns) (i := yy % ((T / p : Nat) : Int) + ((T / p : Nat) : Int) * t) (by omega) (by omega), ?_⟩
          ((conv => whnf); repeat (first | (refine Br.t ?_; conv => whnf) | (refine Br.f ?_; conv => whnf)))
          refine ⟨_, atI_iL h1 hyl, ?_⟩
          ((conv => whnf); repeat (first | (refine Br.t ?_; conv => whnf) | (refine Br.f ?_; conv => whnf)))
          refine Br.ndec (fun hc => ?_) (fun hc => ?_)
          · ((conv => whnf); repeat (first | (refine Br.t ?_; conv => whnf) | (refine Br.f ?_; conv => whnf)))
            refine ⟨(szLine (by first | exact (by decide : (0 : Nat) < 2 ^ 20) | exact (by decide : (1 : Nat) < 2 ^ 20) | exact (by decide : (2 : Nat) < 2 ^ 20) | exact (by decide : (3 : Nat) < 2 ^ 20) | exact (by decide : (9 : Nat) < 2 ^ 20) | exact (by decide : (10 : Nat) < 2 ^ 20) | omega | (simp only [List.length_append, List.length_map, List.length_cons, List.length_nil]; omega))), ?_⟩
            ((conv => whnf); repeat (first | (refine Br.t ?_; conv => whnf) | (refine Br.f ?_; conv => whnf)))
            exact ⟨yy % ((T / p : Nat) : Int) + ((T / p : Nat) : Int) * t, yy, _, _, _, rfl, ⟨by omega, by omega, by omega, by omega⟩, fun _ => pairB_mk (by omega) hlt hyl hsub hc⟩
          · ((conv => whnf); repeat (first | (refine Br.t ?_; conv => whnf) | (refine Br.f ?_; conv => whnf)))
            exact ⟨x, y, _, _, _, rfl, hxy, hv⟩
        · ((conv => whnf); repeat (first | (refine Br.t ?_; conv => whnf) | (refine Br.f ?_; conv => whnf)))
          exact ⟨x, y, _, _, _, rfl, hxy, hv⟩
      · rintro δ ⟨x, y, d', e, f, rfl, hxy, hv⟩
        ((conv => whnf); repeat (first | (refine Br.t ?_; conv => whnf) | (refine Br.f ?_; conv => whnf)))
        refine ⟨Nat.lt_of_lt_of_le (show _ < 2 ^ 20 by rw [List.length_map]; omega) szLine', ?_⟩
        ((conv => whnf); repeat (first | (refine Br.t ?_; conv => whnf) | (refine Br.f ?_; conv => whnf)))
        refine ⟨es ++ [(p, x, y)], _, _, _, _, _, _, by rw [List.map_append]; rfl, ?_, fun e he => ?_⟩
        · rw [List.map_append, he1, List.take_add_one, g1]
          rfl
        · rcases List.mem_append.mp he with he | he
          · exact he2 e he
          · rw [List.mem_singleton.mp he]
            exact ⟨⟨p2, by show p ≤ 400; omega, pd, hxy.1, hxy.2.1, hxy.2.2.1, hxy.2.2.2⟩, hv⟩
  · rintro δ ⟨es, a, b, c, d', e, f, rfl, he1, he2⟩
    rw [List.length_map, List.take_length] at he1
    ((conv => whnf); repeat (first | (refine Br.t ?_; conv => whnf) | (refine Br.f ?_; conv => whnf)))
    exact h es he1 fun e he => ⟨(he2 e he).ok, (he2 e he).v⟩
end
end RB

set_option Elab.async false
set_option linter.all false
set_option maxRecDepth 100000
set_option maxHeartbeats 4000000
/-! M7: odd papers (k23) -/
namespace RB
open PySem PySem.Spec PyProof.Rows L2
theorem Dep.mono {n : Nat} {d : D} (h : Dep n d) : ∀ {m : Nat}, n ≤ m → Dep m d := by
  induction h with
  | non => intro m hm; obtain ⟨k, rfl⟩ : ∃ k, m = k + 1 := ⟨m - 1, by omega⟩; exact .non
  | bl b => intro m hm; obtain ⟨k, rfl⟩ : ∃ k, m = k + 1 := ⟨m - 1, by omega⟩; exact .bl b
  | int i => intro m hm; obtain ⟨k, rfl⟩ : ∃ k, m = k + 1 := ⟨m - 1, by omega⟩; exact .int i
  | str x => intro m hm; obtain ⟨k, rfl⟩ : ∃ k, m = k + 1 := ⟨m - 1, by omega⟩; exact .str x
  | lst hl _ ih => intro m hm; obtain ⟨k, rfl⟩ : ∃ k, m = k + 1 := ⟨m - 1, by omega⟩; exact .lst hl fun d hd => ih d hd (by omega)
  | tup hl _ ih => intro m hm; obtain ⟨k, rfl⟩ : ∃ k, m = k + 1 := ⟨m - 1, by omega⟩; exact .tup hl fun d hd => ih d hd (by omega)
theorem dL_nil {n : Nat} : ∀ d ∈ ([] : List D), Dep n d := fun d hd => by cases hd
theorem dL_cons {n : Nat} {a : D} {b : List D} (h1 : Dep n a) (h2 : ∀ d ∈ b, Dep n d) : ∀ d ∈ a :: b, Dep n d := fun d hd => (List.mem_cons.mp hd).elim (fun e => e ▸ h1) (h2 d)
theorem dep_set {n k : Nat} {ds : List D} {e : D} (h : ∀ d ∈ ds, Dep n d) (he : Dep n e) : ∀ d ∈ ds.set k e, Dep n d := fun d hd => by
  rcases List.mem_or_eq_of_mem_set hd with hd | rfl
  · exact h d hd
  · exact he
section
variable {K : Fr} {Q : RV → Prop} {X : Addr → Prop} {rs : List RV}
theorem c_oddpaper (q : ∀ d, Dep 24 d → Q (.dat d)) : Cal (sp__law_oddpaper K) 1 [.sto] Q X := ⟨rfl, rfl, q⟩
theorem c_kindbent {n k dp : Nat} {d : D} (h : dp < n) (hd : Dep (k + 1) d) (q : ∀ d', Dep (k + 4) d' → Q (.dat d') ∧ ∀ ds, d' = .list ds → Q (.own ds)) : Cal (sp__law_kindbent n) 3 [.sto, .dat d, .dat (.int (dp : Nat))] Q X := ⟨rfl, d, k, dp, rfl, h, hd, q⟩
theorem l__law_oddpaper (h : sp__law_oddpaper K rs Q X) : d__law_oddpaper K (endD Q X) (startD ["store", "plain", "kind", "thing", "k", "other", "third"] rs) := by
  obtain ⟨rfl, h⟩ := h
  ((conv => whnf); repeat (first | (refine Br.t ?_; conv => whnf) | (refine Br.f ?_; conv => whnf)))
  refine ⟨⟨by decide, by decide⟩, ?_⟩
  ((conv => whnf); repeat (first | (refine Br.t ?_; conv => whnf) | (refine Br.f ?_; conv => whnf)))
  refine ⟨⟨by decide, by decide⟩, ?_⟩
  ((conv => whnf); repeat (first | (refine Br.t ?_; conv => whnf) | (refine Br.f ?_; conv => whnf)))
  refine ⟨(szLine (by first | exact (by decide : (0 : Nat) < 2 ^ 20) | exact (by decide : (1 : Nat) < 2 ^ 20) | exact (by decide : (2 : Nat) < 2 ^ 20) | exact (by decide : (3 : Nat) < 2 ^ 20) | exact (by decide : (9 : Nat) < 2 ^ 20) | exact (by decide : (10 : Nat) < 2 ^ 20) | omega | (simp only [List.length_append, List.length_map, List.length_cons, List.length_nil]; omega))), ?_⟩
  ((conv => whnf); repeat (first | (refine Br.t ?_; conv => whnf) | (refine Br.f ?_; conv => whnf)))
  refine ⟨(szLine (by first | exact (by decide : (0 : Nat) < 2 ^ 20) | exact (by decide : (1 : Nat) < 2 ^ 20) | exact (by decide : (2 : Nat) < 2 ^ 20) | exact (by decide : (3 : Nat) < 2 ^ 20) | exact (by decide : (9 : Nat) < 2 ^ 20) | exact (by decide : (10 : Nat) < 2 ^ 20) | omega | (simp only [List.length_append, List.length_map, List.length_cons, List.length_nil]; omega))), ?_⟩
  ((conv => whnf); repeat (first | (refine Br.t ?_; conv => whnf) | (refine Br.f ?_; conv => whnf)))
  refine ⟨szLine (show 15 < 2 ^ 20 by decide), ?_⟩
  ((conv => whnf); repeat (first | (refine Br.t ?_; conv => whnf) | (refine Br.f ?_; conv => whnf)))
  iterate 8
    refine ⟨(szLine (by first | exact (by decide : (0 : Nat) < 2 ^ 20) | exact (by decide : (1 : Nat) < 2 ^ 20) | exact (by decide : (2 : Nat) < 2 ^ 20) | exact (by decide : (3 : Nat) < 2 ^ 20) | exact (by decide : (9 : Nat) < 2 ^ 20) | exact (by decide : (10 : Nat) < 2 ^ 20) | omega | (simp only [List.length_append, List.length_map, List.length_cons, List.length_nil]; omega))), ?_⟩
    ((conv => whnf); repeat (first | (refine Br.t ?_; conv => whnf) | (refine Br.f ?_; conv => whnf)))
  refine ⟨szLine (show 4 < 2 ^ 20 by decide), ?_⟩
  ((conv => whnf); repeat (first | (refine Br.t ?_; conv => whnf) | (refine Br.f ?_; conv => whnf)))
  refine ⟨szLine (show 19 < 2 ^ 20 by decide), ?_⟩
  ((conv => whnf); repeat (first | (refine Br.t ?_; conv => whnf) | (refine Br.f ?_; conv => whnf)))
  refine c_take (by decide) fun kd h1 h2 => ?_
  ((conv => whnf); repeat (first | (refine Br.t ?_; conv => whnf) | (refine Br.f ?_; conv => whnf)))
  have key : ∀ d ∈ [PyData.none, .bool true, .bool false, .int 0, .int 1, .int (-1), .int 2, .int ((10 ^ 60) ^ 5), .str "", .str "ring", .str "short", .str "one", .str "0", .list [], .tuple []] ++ [PyData.list [.list []], .tuple [.tuple []], .list [.tuple []], .tuple [.list []]], Dep 3 d :=
    dep_app (dL_cons .non (dL_cons (.bl _) (dL_cons (.bl _) (dL_cons (.int _) (dL_cons (.int _) (dL_cons (.int _) (dL_cons (.int _) (dL_cons (.int _) (dL_cons (.str _) (dL_cons (.str _) (dL_cons (.str _) (dL_cons (.str _) (dL_cons (.str _) (dL_cons (.lst (by decide) dL_nil) (dL_cons (.tup (by decide) dL_nil) dL_nil)))))))))))))))
      (dL_cons (.lst (by decide) (dL_cons (.lst (by decide) dL_nil) dL_nil)) (dL_cons (.tup (by decide) (dL_cons (.tup (by decide) dL_nil) dL_nil)) (dL_cons (.lst (by decide) (dL_cons (.tup (by decide) dL_nil) dL_nil)) (dL_cons (.tup (by decide) (dL_cons (.lst (by decide) dL_nil) dL_nil)) dL_nil))))
  refine c_pick (fun z => nomatch z) (show 19 < 2 ^ 62 by decide) fun th hth => ?_
  have hth : Dep 3 th := key th hth
  ((conv => whnf); repeat (first | (refine Br.t ?_; conv => whnf) | (refine Br.f ?_; conv => whnf)))
  refine Br.dec (fun _ => ?_) (fun _ => ?_)
  · ((conv => whnf); repeat (first | (refine Br.t ?_; conv => whnf) | (refine Br.f ?_; conv => whnf)))
    exact h th (hth.mono (by decide))
  ((conv => whnf); repeat (first | (refine Br.t ?_; conv => whnf) | (refine Br.f ?_; conv => whnf)))
  refine Br.dec (fun _ => ?_) (fun _ => ?_)
  · ((conv => whnf); repeat (first | (refine Br.t ?_; conv => whnf) | (refine Br.f ?_; conv => whnf)))
    refine c_pick (fun z => nomatch z) (show 19 < 2 ^ 62 by decide) fun ot hot => ?_
    have hot : Dep 3 ot := key ot hot
    ((conv => whnf); repeat (first | (refine Br.t ?_; conv => whnf) | (refine Br.f ?_; conv => whnf)))
    refine c_pick (fun z => nomatch z) (show 19 < 2 ^ 62 by decide) fun tr htr => ?_
    have htr : Dep 3 tr := key tr htr
    ((conv => whnf); repeat (first | (refine Br.t ?_; conv => whnf) | (refine Br.f ?_; conv => whnf)))
    refine ⟨(szLine (by first | exact (by decide : (0 : Nat) < 2 ^ 20) | exact (by decide : (1 : Nat) < 2 ^ 20) | exact (by decide : (2 : Nat) < 2 ^ 20) | exact (by decide : (3 : Nat) < 2 ^ 20) | exact (by decide : (9 : Nat) < 2 ^ 20) | exact (by decide : (10 : Nat) < 2 ^ 20) | omega | (simp only [List.length_append, List.length_map, List.length_cons, List.length_nil]; omega))), ?_⟩
    ((conv => whnf); repeat (first | (refine Br.t ?_; conv => whnf) | (refine Br.f ?_; conv => whnf)))
    refine ⟨(szLine (by first | exact (by decide : (0 : Nat) < 2 ^ 20) | exact (by decide : (1 : Nat) < 2 ^ 20) | exact (by decide : (2 : Nat) < 2 ^ 20) | exact (by decide : (3 : Nat) < 2 ^ 20) | exact (by decide : (9 : Nat) < 2 ^ 20) | exact (by decide : (10 : Nat) < 2 ^ 20) | omega | (simp only [List.length_append, List.length_map, List.length_cons, List.length_nil]; omega))), ?_⟩
    ((conv => whnf); repeat (first | (refine Br.t ?_; conv => whnf) | (refine Br.f ?_; conv => whnf)))
    refine ⟨(szLine (by first | exact (by decide : (0 : Nat) < 2 ^ 20) | exact (by decide : (1 : Nat) < 2 ^ 20) | exact (by decide : (2 : Nat) < 2 ^ 20) | exact (by decide : (3 : Nat) < 2 ^ 20) | exact (by decide : (9 : Nat) < 2 ^ 20) | exact (by decide : (10 : Nat) < 2 ^ 20) | omega | (simp only [List.length_append, List.length_map, List.length_cons, List.length_nil]; omega))), ?_⟩
    ((conv => whnf); repeat (first | (refine Br.t ?_; conv => whnf) | (refine Br.f ?_; conv => whnf)))
    refine ⟨szLine (show 4 < 2 ^ 20 by decide), ?_⟩
    ((conv => whnf); repeat (first | (refine Br.t ?_; conv => whnf) | (refine Br.f ?_; conv => whnf)))
    refine ⟨(szLine (by first | exact (by decide : (0 : Nat) < 2 ^ 20) | exact (by decide : (1 : Nat) < 2 ^ 20) | exact (by decide : (2 : Nat) < 2 ^ 20) | exact (by decide : (3 : Nat) < 2 ^ 20) | exact (by decide : (9 : Nat) < 2 ^ 20) | exact (by decide : (10 : Nat) < 2 ^ 20) | omega | (simp only [List.length_append, List.length_map, List.length_cons, List.length_nil]; omega))), ?_⟩
    ((conv => whnf); repeat (first | (refine Br.t ?_; conv => whnf) | (refine Br.f ?_; conv => whnf)))
    refine ⟨szLine (show 4 < 2 ^ 20 by decide), ?_⟩
    ((conv => whnf); repeat (first | (refine Br.t ?_; conv => whnf) | (refine Br.f ?_; conv => whnf)))
    refine c_pick (fun z => nomatch z) (show 4 < 2 ^ 62 by decide) fun d hd => ?_
    have key2 : ∀ d ∈ [PyData.list [th, ot], .tuple [th, ot], .tuple [th, ot, tr], .list [.tuple [th, ot, tr, .int 0]]], Dep 5 d :=
      dL_cons (.lst (by show 2 < 2 ^ 20; decide) (dL_cons (hth.mono (by decide)) (dL_cons (hot.mono (by decide)) dL_nil))) (dL_cons (.tup (by show 2 < 2 ^ 20; decide) (dL_cons (hth.mono (by decide)) (dL_cons (hot.mono (by decide)) dL_nil)))
        (dL_cons (.tup (by show 3 < 2 ^ 20; decide) (dL_cons (hth.mono (by decide)) (dL_cons (hot.mono (by decide)) (dL_cons (htr.mono (by decide)) dL_nil)))) (dL_cons (.lst (by show 1 < 2 ^ 20; decide) (dL_cons (.tup (by show 4 < 2 ^ 20; decide) (dL_cons hth (dL_cons hot (dL_cons htr (dL_cons (.int _) dL_nil))))) dL_nil)) dL_nil)))
    ((conv => whnf); repeat (first | (refine Br.t ?_; conv => whnf) | (refine Br.f ?_; conv => whnf)))
    exact h d ((key2 d hd).mono (by decide))
  ((conv => whnf); repeat (first | (refine Br.t ?_; conv => whnf) | (refine Br.f ?_; conv => whnf)))
  refine c_take (by decide) fun r h3 h4 => ?_
  have h4 : r < 19 := h4
  ((conv => whnf); repeat (first | (refine Br.t ?_; conv => whnf) | (refine Br.f ?_; conv => whnf)))
  refine ⟨⟨by omega, by omega⟩, ?_⟩
  ((conv => whnf); repeat (first | (refine Br.t ?_; conv => whnf) | (refine Br.f ?_; conv => whnf)))
  refine ⟨fun i δ => ∃ p th a, δ = [.sto, .dat p, .dat (.int kd), .dat th, a, .no, .no] ∧ Dep (i + 3) th, ⟨_, th, _, rfl, hth⟩, ?_, ?_⟩
  · rintro i d δ hd ⟨p, th, a, rfl, hth⟩
    ((conv => whnf); repeat (first | (refine Br.t ?_; conv => whnf) | (refine Br.f ?_; conv => whnf)))
    refine c_seldom (n := 2) (by decide) fun b => ?_
    ((conv => whnf); repeat (first | (refine Br.t ?_; conv => whnf) | (refine Br.f ?_; conv => whnf)))
    refine ⟨fun _ => ?_, fun _ => ?_⟩
    · ((conv => whnf); repeat (first | (refine Br.t ?_; conv => whnf) | (refine Br.f ?_; conv => whnf)))
      refine ⟨(szLine (by first | exact (by decide : (0 : Nat) < 2 ^ 20) | exact (by decide : (1 : Nat) < 2 ^ 20) | exact (by decide : (2 : Nat) < 2 ^ 20) | exact (by decide : (3 : Nat) < 2 ^ 20) | exact (by decide : (9 : Nat) < 2 ^ 20) | exact (by decide : (10 : Nat) < 2 ^ 20) | omega | (simp only [List.length_append, List.length_map, List.length_cons, List.length_nil]; omega))), ?_⟩
      ((conv => whnf); repeat (first | (refine Br.t ?_; conv => whnf) | (refine Br.f ?_; conv => whnf)))
      exact ⟨_, _, _, rfl, show Dep ((i + 3) + 1) _ from .lst (by show 1 < 2 ^ 20; decide) (dL_cons hth dL_nil)⟩
    · ((conv => whnf); repeat (first | (refine Br.t ?_; conv => whnf) | (refine Br.f ?_; conv => whnf)))
      refine ⟨(szLine (by first | exact (by decide : (0 : Nat) < 2 ^ 20) | exact (by decide : (1 : Nat) < 2 ^ 20) | exact (by decide : (2 : Nat) < 2 ^ 20) | exact (by decide : (3 : Nat) < 2 ^ 20) | exact (by decide : (9 : Nat) < 2 ^ 20) | exact (by decide : (10 : Nat) < 2 ^ 20) | omega | (simp only [List.length_append, List.length_map, List.length_cons, List.length_nil]; omega))), ?_⟩
      ((conv => whnf); repeat (first | (refine Br.t ?_; conv => whnf) | (refine Br.f ?_; conv => whnf)))
      exact ⟨_, _, _, rfl, show Dep ((i + 3) + 1) _ from .tup (by show 1 < 2 ^ 20; decide) (dL_cons hth dL_nil)⟩
  · rintro δ ⟨p, th, a, rfl, hth⟩
    rw [rngD_length] at hth
    ((conv => whnf); repeat (first | (refine Br.t ?_; conv => whnf) | (refine Br.f ?_; conv => whnf)))
    exact h th (hth.mono (by omega))
theorem l__law_kindbent (n : Nat) (h : sp__law_kindbent (n + 1) rs Q X) : d__law_kindbent K (sp__law_kindbent n) (endD Q X) (startD ["store", "paper", "deep", "entries", "at"] rs) := by
  obtain ⟨d, k, dp, rfl, hdp, hd, h⟩ := h
  have hQ : ∀ d', Dep (k + 4) d' → Q (.dat d') := fun d' hd' => (h d' hd').1
  have hO : ∀ ds, Dep (k + 4) (.list ds) → Q (.own ds) := fun ds hd' => (h _ hd').2 ds rfl
  cases hd with
  | int i =>
    ((conv => whnf); repeat (first | (refine Br.t ?_; conv => whnf) | (refine Br.f ?_; conv => whnf)))
    iterate 2
      refine ⟨(szLine (by first | exact (by decide : (0 : Nat) < 2 ^ 20) | exact (by decide : (1 : Nat) < 2 ^ 20) | exact (by decide : (2 : Nat) < 2 ^ 20) | exact (by decide : (3 : Nat) < 2 ^ 20) | exact (by decide : (9 : Nat) < 2 ^ 20) | exact (by decide : (10 : Nat) < 2 ^ 20) | omega | (simp only [List.length_append, List.length_map, List.length_cons, List.length_nil]; omega))), ?_⟩
      ((conv => whnf); repeat (first | (refine Br.t ?_; conv => whnf) | (refine Br.f ?_; conv => whnf)))
    refine ⟨szLine (show 6 < 2 ^ 20 by decide), ?_⟩
    ((conv => whnf); repeat (first | (refine Br.t ?_; conv => whnf) | (refine Br.f ?_; conv => whnf)))
    refine c_pick (fun z => nomatch z) (show 6 < 2 ^ 62 by decide) fun d hd => ?_
    have key : ∀ b : Bool, ∀ d ∈ [PyData.bool b, .bool b, .none, .str "1", .list [.int i], .tuple [.int i]], Dep (k + 4) d := fun b => dL_cons (.bl _) (dL_cons (.bl _) (dL_cons .non (dL_cons (.str _) (dL_cons (.lst (by show 1 < 2 ^ 20; decide) (dL_cons (.int _) dL_nil)) (dL_cons (.tup (by show 1 < 2 ^ 20; decide) (dL_cons (.int _) dL_nil)) dL_nil)))))
    ((conv => whnf); repeat (first | (refine Br.t ?_; conv => whnf) | (refine Br.f ?_; conv => whnf)))
    exact hQ d (key _ d hd)
  | @lst _ ds hl hn =>
    have other : Dep (k + 4) (.tuple ds) := .tup hl fun d hd => (hn d hd).mono (by omega)
    ((conv => whnf); repeat (first | (refine Br.t ?_; conv => whnf) | (refine Br.f ?_; conv => whnf)))
    refine Br.dec (fun hd0 => ?_) (fun _ => ?_)
    · ((conv => whnf); repeat (first | (refine Br.t ?_; conv => whnf) | (refine Br.f ?_; conv => whnf)))
      refine Br.dec (fun hl0 => ?_) (fun _ => ?_)
      · ((conv => whnf); repeat (first | (refine Br.t ?_; conv => whnf) | (refine Br.f ?_; conv => whnf)))
        refine c_take (by decide) fun t0 h1 h2 => ?_
        ((conv => whnf); repeat (first | (refine Br.t ?_; conv => whnf) | (refine Br.f ?_; conv => whnf)))
        refine Br.dec (fun _ => ?_) (fun _ => ?_)
        · ((conv => whnf); repeat (first | (refine Br.t ?_; conv => whnf) | (refine Br.f ?_; conv => whnf)))
          refine c_take (by omega) fun t h3 h4 => ?_
          have ht : t < ds.length := by omega
          ((conv => whnf); repeat (first | (refine Br.t ?_; conv => whnf) | (refine Br.f ?_; conv => whnf)))
          refine ⟨_, atI_nat h3 ht, ?_⟩
          have hm := hn _ (List.getElem_mem (show t.toNat < ds.length by omega))
          generalize ds[t.toNat]'(by omega) = e at hm
          ((conv => whnf); repeat (first | (refine Br.t ?_; conv => whnf) | (refine Br.f ?_; conv => whnf)))
          obtain ⟨k', rfl⟩ : ∃ k', k = k' + 1 := by
            cases k with
            | zero => cases hm
            | succ k' => exact ⟨k', rfl⟩
          rw [show ((dp : Int) - 1) = ((dp - 1 : Nat) : Int) by omega]
          refine c_kindbent (k := k') (by omega) hm fun d' hd' => ?_
          have fin : Dep (k' + 1 + 4) (.list (ds.set t.toNat d')) := .lst (by rw [List.length_set]; exact hl) (dep_set (fun d hd => (hn d hd).mono (by omega)) hd')
          refine ⟨?_, fun es ee => ?_⟩
          · ((conv => whnf); repeat (first | (refine Br.t ?_; conv => whnf) | (refine Br.f ?_; conv => whnf)))
            refine ⟨_, ixN_nat h3 ht, ?_⟩
            ((conv => whnf); repeat (first | (refine Br.t ?_; conv => whnf) | (refine Br.f ?_; conv => whnf)))
            exact hO _ fin
          · ((conv => whnf); repeat (first | (refine Br.t ?_; conv => whnf) | (refine Br.f ?_; conv => whnf)))
            refine ⟨_, ixN_nat h3 ht, ?_⟩
            rw [← ee]
            ((conv => whnf); repeat (first | (refine Br.t ?_; conv => whnf) | (refine Br.f ?_; conv => whnf)))
            exact hO _ fin
        · ((conv => whnf); repeat (first | (refine Br.t ?_; conv => whnf) | (refine Br.f ?_; conv => whnf)))
          exact hQ _ other
      · ((conv => whnf); repeat (first | (refine Br.t ?_; conv => whnf) | (refine Br.f ?_; conv => whnf)))
        exact hQ _ other
    · ((conv => whnf); repeat (first | (refine Br.t ?_; conv => whnf) | (refine Br.f ?_; conv => whnf)))
      exact hQ _ other
  | @tup _ ds hl hn =>
    have other : Dep (k + 4) (.list ds) := .lst hl fun d hd => (hn d hd).mono (by omega)
    ((conv => whnf); repeat (first | (refine Br.t ?_; conv => whnf) | (refine Br.f ?_; conv => whnf)))
    refine Br.dec (fun hd0 => ?_) (fun _ => ?_)
    · ((conv => whnf); repeat (first | (refine Br.t ?_; conv => whnf) | (refine Br.f ?_; conv => whnf)))
      refine Br.dec (fun hl0 => ?_) (fun _ => ?_)
      · ((conv => whnf); repeat (first | (refine Br.t ?_; conv => whnf) | (refine Br.f ?_; conv => whnf)))
        refine c_take (by decide) fun t0 h1 h2 => ?_
        ((conv => whnf); repeat (first | (refine Br.t ?_; conv => whnf) | (refine Br.f ?_; conv => whnf)))
        refine Br.dec (fun _ => ?_) (fun _ => ?_)
        · ((conv => whnf); repeat (first | (refine Br.t ?_; conv => whnf) | (refine Br.f ?_; conv => whnf)))
          refine c_take (by omega) fun t h3 h4 => ?_
          have ht : t < ds.length := by omega
          ((conv => whnf); repeat (first | (refine Br.t ?_; conv => whnf) | (refine Br.f ?_; conv => whnf)))
          refine ⟨_, atI_nat h3 ht, ?_⟩
          have hm := hn _ (List.getElem_mem (show t.toNat < ds.length by omega))
          generalize ds[t.toNat]'(by omega) = e at hm
          ((conv => whnf); repeat (first | (refine Br.t ?_; conv => whnf) | (refine Br.f ?_; conv => whnf)))
          obtain ⟨k', rfl⟩ : ∃ k', k = k' + 1 := by
            cases k with
            | zero => cases hm
            | succ k' => exact ⟨k', rfl⟩
          rw [show ((dp : Int) - 1) = ((dp - 1 : Nat) : Int) by omega]
          refine c_kindbent (k := k') (by omega) hm fun d' hd' => ?_
          have fin : Dep (k' + 1 + 4) (.tuple (ds.set t.toNat d')) := .tup (by rw [List.length_set]; exact hl) (dep_set (fun d hd => (hn d hd).mono (by omega)) hd')
          refine ⟨?_, fun es ee => ?_⟩
          · ((conv => whnf); repeat (first | (refine Br.t ?_; conv => whnf) | (refine Br.f ?_; conv => whnf)))
            refine ⟨_, ixN_nat h3 ht, ?_⟩
            ((conv => whnf); repeat (first | (refine Br.t ?_; conv => whnf) | (refine Br.f ?_; conv => whnf)))
            exact hQ _ fin
          · ((conv => whnf); repeat (first | (refine Br.t ?_; conv => whnf) | (refine Br.f ?_; conv => whnf)))
            refine ⟨_, ixN_nat h3 ht, ?_⟩
            rw [← ee]
            ((conv => whnf); repeat (first | (refine Br.t ?_; conv => whnf) | (refine Br.f ?_; conv => whnf)))
            exact hQ _ fin
        · ((conv => whnf); repeat (first | (refine Br.t ?_; conv => whnf) | (refine Br.f ?_; conv => whnf)))
          exact hO _ other
      · ((conv => whnf); repeat (first | (refine Br.t ?_; conv => whnf) | (refine Br.f ?_; conv => whnf)))
        exact hO _ other
    · ((conv => whnf); repeat (first | (refine Br.t ?_; conv => whnf) | (refine Br.f ?_; conv => whnf)))
      exact hO _ other
  | _ =>
    ((conv => whnf); repeat (first | (refine Br.t ?_; conv => whnf) | (refine Br.f ?_; conv => whnf)))
    exact hQ _ (.int _)
end
end RB

set_option Elab.async false
set_option linter.all false
set_option maxRecDepth 100000
set_option maxHeartbeats 8000000
/-! M8: refusals, judgements (k23) -/
namespace RB
open PySem PySem.Spec PyProof.Rows L2
abbrev rr (K : Fr) (x : Str) : Value := .ref (He.ga K x)
structure ToldF (K : Fr) : Prop where
  cm : ExcC K (cM K)
  cr : ExcC K (cR K)
  cl : ExcC K (cL K)
  mm : PySem.W.exmOne K (.ref (cM K)) (.ref (cM K)) = some true
  rm : PySem.W.exmOne K (.ref (cR K)) (.ref (cM K)) = some false
  hrr : PySem.W.exmOne K (.ref (cR K)) (.ref (cR K)) = some true
  lm : PySem.W.exmOne K (.ref (cL K)) (.ref (cM K)) = some false
  lr : PySem.W.exmOne K (.ref (cL K)) (.ref (cR K)) = some false
  ll : PySem.W.exmOne K (.ref (cL K)) (.ref (cL K)) = some true
  kmp : PySem.W.kitOne K (.ref (cM K)) (rr K "BadPoly") = some false
  kmn : PySem.W.kitOne K (.ref (cM K)) (rr K "BadNumber") = some false
  kmr : PySem.W.kitOne K (.ref (cM K)) (rr K "BadRow") = some false
  kml : PySem.W.kitOne K (.ref (cM K)) (rr K "TooLong") = some false
  krp : PySem.W.kitOne K (.ref (cR K)) (rr K "BadPoly") = some false
  krn : PySem.W.kitOne K (.ref (cR K)) (rr K "BadNumber") = some false
  krl : PySem.W.kitOne K (.ref (cR K)) (rr K "TooLong") = some false
  klp : PySem.W.kitOne K (.ref (cL K)) (rr K "BadPoly") = some false
  kln : PySem.W.kitOne K (.ref (cL K)) (rr K "BadNumber") = some false
  klg : PySem.W.kitOne K (.ref (cL K)) (rr K "RingError") = some true
section
variable {K : Fr} {Q : RV → Prop} {X : Addr → Prop} {rs : List RV}
theorem c_copyS {n : Nat} {d : D} {k : Int} (h : Dep n d) (q : Q (.dat d)) (he : ∀ ds, Q (.dat (.list ds)) → Q (.own ds)) : Cal (sp__law_copy n) 2 [.dat d, .dat (.int k)] Q X := c_copy h q fun ds e => he ds (e ▸ q)
theorem l__law_refusal (F : ToldF K) (h : sp__law_refusal K rs Q X) : d__law_refusal K (endD Q X) (startD ["m", "show", "period", "pairs", "e"] rs) := by
  obtain ⟨dm, d, per, paper, rfl, h1, h2, h3, h4⟩ := h
  ((conv => whnf); repeat (first | (refine Br.t ?_; conv => whnf) | (refine Br.f ?_; conv => whnf)))
  refine ⟨rfl, dm, d, per, paper, rfl, fun hn => ?_, fun m l e hf hr => ?_, fun m l e hf hr hm => ?_, fun m l ns e hf hm ed hl hr => (h4 m l ns e hf hm ed hl hr).elim⟩
  · ((conv => whnf); repeat (first | (refine Br.t ?_; conv => whnf) | (refine Br.f ?_; conv => whnf)))
    refine ⟨true, F.mm, Br.t fun a => ?_⟩
    ((conv => whnf); repeat (first | (refine Br.t ?_; conv => whnf) | (refine Br.f ?_; conv => whnf)))
    refine ⟨szLine (show 2 < 2 ^ 20 by decide), ?_⟩
    ((conv => whnf); repeat (first | (refine Br.t ?_; conv => whnf) | (refine Br.f ?_; conv => whnf)))
    refine ⟨F.cm, rfl, false, kitAny_f F.kmp (kitAny_f F.kmn (kitAny_f F.kmr (kitAny_f F.kml kitAny_nil))), ?_⟩
    ((conv => whnf); repeat (first | (refine Br.t ?_; conv => whnf) | (refine Br.f ?_; conv => whnf)))
    refine ⟨_, rfl, ?_⟩
    exact h1 hn
  · ((conv => whnf); repeat (first | (refine Br.t ?_; conv => whnf) | (refine Br.f ?_; conv => whnf)))
    refine ⟨false, F.rm, Br.f ?_⟩
    ((conv => whnf); repeat (first | (refine Br.t ?_; conv => whnf) | (refine Br.f ?_; conv => whnf)))
    refine ⟨true, F.hrr, Br.t fun a => ?_⟩
    ((conv => whnf); repeat (first | (refine Br.t ?_; conv => whnf) | (refine Br.f ?_; conv => whnf)))
    refine ⟨szLine (show 2 < 2 ^ 20 by decide), ?_⟩
    ((conv => whnf); repeat (first | (refine Br.t ?_; conv => whnf) | (refine Br.f ?_; conv => whnf)))
    refine ⟨F.cr, rfl, false, kitAny_f F.krp (kitAny_f F.krn (kitAny_f F.krl kitAny_nil)), ?_⟩
    ((conv => whnf); repeat (first | (refine Br.t ?_; conv => whnf) | (refine Br.f ?_; conv => whnf)))
    refine ⟨_, rfl, ?_⟩
    exact h2 m l e hf hr
  · ((conv => whnf); repeat (first | (refine Br.t ?_; conv => whnf) | (refine Br.f ?_; conv => whnf)))
    refine ⟨false, F.lm, Br.f ?_⟩
    ((conv => whnf); repeat (first | (refine Br.t ?_; conv => whnf) | (refine Br.f ?_; conv => whnf)))
    refine ⟨false, F.lr, Br.f ?_⟩
    ((conv => whnf); repeat (first | (refine Br.t ?_; conv => whnf) | (refine Br.f ?_; conv => whnf)))
    refine ⟨true, F.ll, Br.t fun a => ?_⟩
    ((conv => whnf); repeat (first | (refine Br.t ?_; conv => whnf) | (refine Br.f ?_; conv => whnf)))
    refine ⟨szLine (show 2 < 2 ^ 20 by decide), ?_⟩
    ((conv => whnf); repeat (first | (refine Br.t ?_; conv => whnf) | (refine Br.f ?_; conv => whnf)))
    refine ⟨F.cl, rfl, false, kitAny_f F.klp (kitAny_f F.kln kitAny_nil), ?_⟩
    ((conv => whnf); repeat (first | (refine Br.t ?_; conv => whnf) | (refine Br.f ?_; conv => whnf)))
    refine ⟨F.cl, rfl, true, kitAny_t F.klg, ?_⟩
    ((conv => whnf); repeat (first | (refine Br.t ?_; conv => whnf) | (refine Br.f ?_; conv => whnf)))
    refine ⟨_, rfl, ?_⟩
    exact h3 m l e hf hr hm
theorem rowD_iL {m : Nat} {ns : List Int} (hl : ns.length = m) (hf : ∀ x ∈ ns, Fit x) : rowD m (.list (iL ns)) = true := by
  show (decide (((iL ns).length : Int) = m) && (iL ns).all fitD) = true
  rw [iL_len, hl, decide_eq_true rfl, Bool.true_and, List.all_eq_true]
  intro d hd
  obtain ⟨x, hx, rfl⟩ := List.mem_map.mp hd
  obtain ⟨a, b⟩ := hf x hx
  rw [fitD_int, decide_eq_true a, decide_eq_true b]
  rfl
theorem iL_inj : ∀ {a b : List Int}, iL a = iL b → a = b
  | [], [], _ => rfl
  | [], _ :: _, h => nomatch h
  | _ :: _, [], h => nomatch h
  | x :: a, y :: b, h => by
    obtain ⟨h1, h2⟩ := List.cons.inj (show PyData.int x :: iL a = PyData.int y :: iL b from h)
    rw [PyData.int.inj h1, iL_inj h2]
theorem c_judge {ns : List Int} {per paper : D} {l : List (Nat × Nat)} (hf : facM ns.length = some l) (hm : ns.length ≤ 400) (hfit : ∀ x ∈ ns, Fit x) (q : Q (.dat (.bool (provB ns per paper)))) : Cal (sp_shows_period K) 4 [.dat (.int (ns.length : Nat)), .dat (.list (iL ns)), .dat per, .dat paper] Q X := by
  have hr := rowD_iL rfl hfit
  refine ⟨rfl, _, _, _, _, rfl, fun z => ?_, fun m' l' e _ z => ?_, fun m' l' e _ _ z => ?_, fun m' l' ns' e _ _ ed _ _ => ?_⟩
  · have z : facM ns.length = none := z
    rw [hf] at z; cases z
  · cases PyData.int.inj e
    rw [hr] at z; cases z
  · cases PyData.int.inj e
    omega
  · have := iL_inj (PyData.list.inj ed)
    rw [← this]
    exact q
theorem c_judged {ns : List Int} {number paper : D} (hf : ∃ l, facM ns.length = some l) (hm : ns.length ≤ 400) (hfit : ∀ x ∈ ns, Fit x) (h1 : Dep 27 number) (h2 : Dep 27 paper) (q : Q (.dat (.bool true))) : Cal (sp__law_judged K) 5 [.dat (.int (ns.length : Nat)), .dat (.list (iL ns)), .dat number, .dat paper, .dat (.bool (provB ns number paper))] Q X := ⟨rfl, ns, number, paper, rfl, hf, hm, hfit, h1, h2, q⟩
theorem l__law_judged (h : sp__law_judged K rs Q X) : d__law_judged K (endD Q X) (startD ["m", "show", "period", "pairs", "due", "given", "paper", "answer"] rs) := by
  obtain ⟨ns, number, paper, rfl, ⟨l, hf⟩, hm, hfit, hn, hp, h⟩ := h
  have hn : Dep 30 number := hn.mono (by decide)
  have hp : Dep 30 paper := hp.mono (by decide)
  have hs : Dep 30 (.list (iL ns)) := .lst (by rw [iL_len]; omega) dep_iL
  ((conv => whnf); repeat (first | (refine Br.t ?_; conv => whnf) | (refine Br.f ?_; conv => whnf)))
  refine c_copyS hp ?_ (fun ds z => z)
  ((conv => whnf); repeat (first | (refine Br.t ?_; conv => whnf) | (refine Br.f ?_; conv => whnf)))
  refine c_copyS hn ?_ (fun ds z => z)
  ((conv => whnf); repeat (first | (refine Br.t ?_; conv => whnf) | (refine Br.f ?_; conv => whnf)))
  refine c_judge hf hm hfit ?_
  ((conv => whnf); repeat (first | (refine Br.t ?_; conv => whnf) | (refine Br.f ?_; conv => whnf)))
  refine c_same (.bl _) ?_
  ((conv => whnf); repeat (first | (refine Br.t ?_; conv => whnf) | (refine Br.f ?_; conv => whnf)))
  refine c_same hs ?_
  ((conv => whnf); repeat (first | (refine Br.t ?_; conv => whnf) | (refine Br.f ?_; conv => whnf)))
  refine c_same hp ?_
  exact h
end
end RB

set_option Elab.async false
set_option linter.all false
set_option maxRecDepth 100000
set_option maxHeartbeats 8000000
/-! M9: all refusals (k23) -/
namespace RB
open PySem PySem.Spec PyProof.Rows L2
def big12 : List Nat := [403, 405, 406, 408, 416, 420, 441, 500, 512, 600, 720, 1000]
theorem big_ok : big12.all (fun n => decide (401 ≤ n) && (decide (n ≤ 1000) && okM n)) = true := by decide +kernel
theorem no41 : ((List.range 401).all fun m => !(decide (2 ≤ m)) || (facRun PR (41 * m)).isNone) = true := by decide +kernel
theorem no_few : facM 1 = none ∧ facM 0 = none ∧ facM 41 = none ∧ facM 529 = none ∧ facM (10 ^ 10 + 1) = none := by decide +kernel
theorem okM_facM {n : Nat} (h2 : 2 ≤ n) (h3 : n ≤ 10000000000) (h : okM n = true) : ∃ l, facM n = some l := by
  obtain ⟨l, e⟩ := Option.isSome_iff_exists.mp h
  exact ⟨l, facM_of h2 h3 e⟩
structure Refs (K : Fr) (one two per paper : D) (word : Str) : Prop where
  h : ∀ (Q : RV → Prop) (X : Addr → Prop), Q (.dat (.str word)) → Cal (sp__law_refusal K) 4 [.dat one, .dat two, .dat per, .dat paper] Q X
section
variable {K : Fr} {Q : RV → Prop} {X : Addr → Prop} {rs : List RV}
theorem ref_mod {dm d per paper : D} (h : facD dm = none) : Refs K dm d per paper "modulus" := ⟨fun Q X q => by
  refine ⟨rfl, _, _, _, _, rfl, fun _ => q, fun m' l' e hf _ => ?_, fun m' l' e hf _ _ => ?_, fun m' l' ns' e hf _ _ _ _ => ?_⟩
  all_goals
    subst e
    have h : facM _ = none := h
    rw [hf] at h
    cases h⟩
theorem ref_row {m : Nat} {d per paper : D} {l : List (Nat × Nat)} (hf : facM m = some l) (hr : rowD m d = false) : Refs K (.int m) d per paper "row" := ⟨fun Q X q => by
  refine ⟨rfl, _, _, _, _, rfl, fun z => ?_, fun m' l' e _ z => q, fun m' l' e _ z _ => ?_, fun m' l' ns' e _ hm ed hl z => ?_⟩
  · have z : facM m = none := z
    rw [hf] at z; cases z
  · cases PyData.int.inj e
    rw [hr] at z; cases z
  · cases PyData.int.inj e
    rw [hr] at z; cases z⟩
theorem ref_long {m : Nat} {d per paper : D} {l : List (Nat × Nat)} (hf : facM m = some l) (hr : rowD m d = true) (hm : 400 < m) : Refs K (.int m) d per paper "long" := ⟨fun Q X q => by
  refine ⟨rfl, _, _, _, _, rfl, fun z => ?_, fun m' l' e _ z => ?_, fun m' l' e _ z _ => q, fun m' l' ns' e _ hm' ed hl _ => ?_⟩
  · have z : facM m = none := z
    rw [hf] at z; cases z
  · cases PyData.int.inj e
    rw [hr] at z; cases z
  · have := PyData.int.inj e
    omega⟩
theorem c_refusals {ns : List Int} {m : Nat} {per paper : D} (h1 : ∃ l, facM m = some l) (h2 : m ≤ 400) (h3 : ns.length = m) (h4 : ∀ x ∈ ns, Fit x) (q : Q (.dat (.bool true))) : Cal (sp__law_refusals K) 5 [.sto, .dat (.int m), .dat (.list (iL ns)), .dat per, .dat paper] Q X := ⟨rfl, ns, m, per, paper, rfl, h1, h2, h3, h4, q⟩
theorem l__law_refusals (h : sp__law_refusals K rs Q X) : d__law_refusals K (endD Q X) (startD ["store", "m", "show", "period", "pairs", "bad", "big", "badmodulus", "one", "two", "word"] rs) := by
  obtain ⟨ns, m, per, paper, rfl, ⟨l, hf⟩, hm4, hnl, hfit, h⟩ := h
  have hm2 := (facM_some hf).1
  ((conv => whnf); repeat (first | (refine Br.t ?_; conv => whnf) | (refine Br.f ?_; conv => whnf)))
  refine ⟨⟨by decide, by decide⟩, ?_⟩
  ((conv => whnf); repeat (first | (refine Br.t ?_; conv => whnf) | (refine Br.f ?_; conv => whnf)))
  refine ⟨⟨by decide, by decide⟩, ?_⟩
  ((conv => whnf); repeat (first | (refine Br.t ?_; conv => whnf) | (refine Br.f ?_; conv => whnf)))
  rw [show (0 : Int) - 10 ^ Int.toNat 60 = -(10 ^ 60) from Int.zero_sub _]
  refine c_badlist ⟨hnl, by omega, hm4⟩ fun bad hbr hbd => ?_
  ((conv => whnf); repeat (first | (refine Br.t ?_; conv => whnf) | (refine Br.f ?_; conv => whnf)))
  refine ⟨szLine (show 12 < 2 ^ 20 by decide), ?_⟩
  ((conv => whnf); repeat (first | (refine Br.t ?_; conv => whnf) | (refine Br.f ?_; conv => whnf)))
  refine c_pick (fun z => nomatch z) (show 12 < 2 ^ 62 by decide) fun d hd => ?_
  obtain ⟨big, hbig, rfl⟩ : ∃ big, big ∈ big12 ∧ d = .int ((big : Nat) : Int) := by
    obtain ⟨x, hx, rfl⟩ := List.mem_map.mp (show d ∈ big12.map (fun x : Nat => PyData.int ((x : Nat) : Int)) from hd)
    exact ⟨x, hx, rfl⟩
  obtain ⟨hb1, hb2⟩ := Bool.and_eq_true_iff.mp (List.all_eq_true.mp big_ok big hbig)
  obtain ⟨hb2, hb3⟩ := Bool.and_eq_true_iff.mp hb2
  have hb1 : 401 ≤ big := of_decide_eq_true hb1
  have hb2 : big ≤ 1000 := of_decide_eq_true hb2
  obtain ⟨lb, hfb⟩ := okM_facM (by omega) (by omega) hb3
  clear hd
  ((conv => whnf); repeat (first | (refine Br.t ?_; conv => whnf) | (refine Br.f ?_; conv => whnf)))
  refine ⟨mulL (by decide) (by decide), ?_⟩
  ((conv => whnf); repeat (first | (refine Br.t ?_; conv => whnf) | (refine Br.f ?_; conv => whnf)))
  refine ⟨⟨by decide, by decide⟩, ?_⟩
  ((conv => whnf); repeat (first | (refine Br.t ?_; conv => whnf) | (refine Br.f ?_; conv => whnf)))
  refine ⟨(szLine (by first | exact (by decide : (0 : Nat) < 2 ^ 20) | exact (by decide : (1 : Nat) < 2 ^ 20) | exact (by decide : (2 : Nat) < 2 ^ 20) | exact (by decide : (3 : Nat) < 2 ^ 20) | exact (by decide : (9 : Nat) < 2 ^ 20) | exact (by decide : (10 : Nat) < 2 ^ 20) | omega | (simp only [List.length_append, List.length_map, List.length_cons, List.length_nil]; omega))), ?_⟩
  ((conv => whnf); repeat (first | (refine Br.t ?_; conv => whnf) | (refine Br.f ?_; conv => whnf)))
  refine ⟨szLine (show 11 < 2 ^ 20 by decide), ?_⟩
  ((conv => whnf); repeat (first | (refine Br.t ?_; conv => whnf) | (refine Br.f ?_; conv => whnf)))
  refine c_pick (fun z => nomatch z) (show 11 < 2 ^ 62 by decide) fun bm hd => ?_
  have hbm : facD bm = none := by
    have hd : bm ∈ [PyData.int 1, .int 0, .int (0 - m), .int 41, .int (41 * m), .bool true, .none, .str "6", .int (10 ^ 10 + 1), .int 529, .list [.int m]] := hd
    simp only [List.mem_cons, List.not_mem_nil, or_false] at hd
    obtain ⟨f1, f0, f41, f529, fx⟩ := no_few
    rcases hd with rfl | rfl | rfl | rfl | rfl | rfl | rfl | rfl | rfl | rfl | rfl
    · exact f1
    · exact f0
    · exact if_neg (by omega)
    · exact f41
    · have := List.all_eq_true.mp no41 m (List.mem_range.mpr (by omega))
      rw [decide_eq_true hm2] at this
      have h2 : facRun PR (41 * m) = none := Option.isNone_iff_eq_none.mp this
      have e : ((41 : Int) * (m : Int)) = ((41 * m : Nat) : Int) := by omega
      show facM ((41 : Int) * (m : Int)) = none
      rw [e]
      unfold facM
      rw [if_pos ⟨by omega, by omega⟩]
      exact h2
    · rfl
    · rfl
    · rfl
    · exact fx
    · exact f529
    · rfl
  clear hd
  have zz : ∀ n : Nat, (List.replicate (n : Int).toNat [PyData.int 0]).flatten = List.replicate n (PyData.int 0) := fun n => by
    rw [Int.toNat_natCast, List.flatten_replicate_singleton]
  have zl : ∀ n : Nat, (List.replicate n (PyData.int 0)).length = n := fun n => List.length_replicate
  ((conv => whnf); repeat (first | (refine Br.t ?_; conv => whnf) | (refine Br.f ?_; conv => whnf)))
  refine ⟨(szLine (by first | exact (by decide : (0 : Nat) < 2 ^ 20) | exact (by decide : (1 : Nat) < 2 ^ 20) | exact (by decide : (2 : Nat) < 2 ^ 20) | exact (by decide : (3 : Nat) < 2 ^ 20) | exact (by decide : (9 : Nat) < 2 ^ 20) | exact (by decide : (10 : Nat) < 2 ^ 20) | omega | (simp only [List.length_append, List.length_map, List.length_cons, List.length_nil]; omega))), ?_⟩
  ((conv => whnf); repeat (first | (refine Br.t ?_; conv => whnf) | (refine Br.f ?_; conv => whnf)))
  refine ⟨(szLine (by first | exact (by decide : (0 : Nat) < 2 ^ 20) | exact (by decide : (1 : Nat) < 2 ^ 20) | exact (by decide : (2 : Nat) < 2 ^ 20) | exact (by decide : (3 : Nat) < 2 ^ 20) | exact (by decide : (9 : Nat) < 2 ^ 20) | exact (by decide : (10 : Nat) < 2 ^ 20) | omega | (simp only [List.length_append, List.length_map, List.length_cons, List.length_nil]; omega))), ?_⟩
  ((conv => whnf); repeat (first | (refine Br.t ?_; conv => whnf) | (refine Br.f ?_; conv => whnf)))
  refine ⟨(szLine (by first | exact (by decide : (0 : Nat) < 2 ^ 20) | exact (by decide : (1 : Nat) < 2 ^ 20) | exact (by decide : (2 : Nat) < 2 ^ 20) | exact (by decide : (3 : Nat) < 2 ^ 20) | exact (by decide : (9 : Nat) < 2 ^ 20) | exact (by decide : (10 : Nat) < 2 ^ 20) | omega | (simp only [List.length_append, List.length_map, List.length_cons, List.length_nil]; omega))), ?_⟩
  ((conv => whnf); repeat (first | (refine Br.t ?_; conv => whnf) | (refine Br.f ?_; conv => whnf)))
  refine ⟨(szLine (by first | exact (by decide : (0 : Nat) < 2 ^ 20) | exact (by decide : (1 : Nat) < 2 ^ 20) | exact (by decide : (2 : Nat) < 2 ^ 20) | exact (by decide : (3 : Nat) < 2 ^ 20) | exact (by decide : (9 : Nat) < 2 ^ 20) | exact (by decide : (10 : Nat) < 2 ^ 20) | omega | (simp only [List.length_append, List.length_map, List.length_cons, List.length_nil]; omega))), ?_⟩
  ((conv => whnf); repeat (first | (refine Br.t ?_; conv => whnf) | (refine Br.f ?_; conv => whnf)))
  refine ⟨⟨by omega, by omega, szLine (show 1 * ((big : Int)).toNat < 2 ^ 20 by omega)⟩, ?_⟩
  rw [show (List.replicate ((big : Int)).toNat ((fun x => PyData.int 0 :: x) [])).flatten = List.replicate big (PyData.int 0) from zz _]
  ((conv => whnf); repeat (first | (refine Br.t ?_; conv => whnf) | (refine Br.f ?_; conv => whnf)))
  refine ⟨(szLine (by first | exact (by decide : (0 : Nat) < 2 ^ 20) | exact (by decide : (1 : Nat) < 2 ^ 20) | exact (by decide : (2 : Nat) < 2 ^ 20) | exact (by decide : (3 : Nat) < 2 ^ 20) | exact (by decide : (9 : Nat) < 2 ^ 20) | exact (by decide : (10 : Nat) < 2 ^ 20) | omega | (simp only [List.length_append, List.length_map, List.length_cons, List.length_nil]; omega))), ?_⟩
  ((conv => whnf); repeat (first | (refine Br.t ?_; conv => whnf) | (refine Br.f ?_; conv => whnf)))
  refine ⟨(szLine (by first | exact (by decide : (0 : Nat) < 2 ^ 20) | exact (by decide : (1 : Nat) < 2 ^ 20) | exact (by decide : (2 : Nat) < 2 ^ 20) | exact (by decide : (3 : Nat) < 2 ^ 20) | exact (by decide : (9 : Nat) < 2 ^ 20) | exact (by decide : (10 : Nat) < 2 ^ 20) | omega | (simp only [List.length_append, List.length_map, List.length_cons, List.length_nil]; omega))), ?_⟩
  ((conv => whnf); repeat (first | (refine Br.t ?_; conv => whnf) | (refine Br.f ?_; conv => whnf)))
  rw [show ((big : Int) - 1) = ((big - 1 : Nat) : Int) by omega]
  refine ⟨⟨by omega, by omega, szLine (show 1 * (((big - 1 : Nat) : Int)).toNat < 2 ^ 20 by omega)⟩, ?_⟩
  rw [show (List.replicate (((big - 1 : Nat) : Int)).toNat ((fun x => PyData.int 0 :: x) [])).flatten = List.replicate (big - 1) (PyData.int 0) from zz _]
  ((conv => whnf); repeat (first | (refine Br.t ?_; conv => whnf) | (refine Br.f ?_; conv => whnf)))
  refine ⟨(szLine (by first | exact (by decide : (0 : Nat) < 2 ^ 20) | exact (by decide : (1 : Nat) < 2 ^ 20) | exact (by decide : (2 : Nat) < 2 ^ 20) | exact (by decide : (3 : Nat) < 2 ^ 20) | exact (by decide : (9 : Nat) < 2 ^ 20) | exact (by decide : (10 : Nat) < 2 ^ 20) | omega | (simp only [List.length_append, List.length_map, List.length_cons, List.length_nil]; omega))), ?_⟩
  ((conv => whnf); repeat (first | (refine Br.t ?_; conv => whnf) | (refine Br.f ?_; conv => whnf)))
  refine ⟨(szLine (by first | exact (by decide : (0 : Nat) < 2 ^ 20) | exact (by decide : (1 : Nat) < 2 ^ 20) | exact (by decide : (2 : Nat) < 2 ^ 20) | exact (by decide : (3 : Nat) < 2 ^ 20) | exact (by decide : (9 : Nat) < 2 ^ 20) | exact (by decide : (10 : Nat) < 2 ^ 20) | omega | (simp only [List.length_append, List.length_map, List.length_cons, List.length_nil]; omega))), ?_⟩
  ((conv => whnf); repeat (first | (refine Br.t ?_; conv => whnf) | (refine Br.f ?_; conv => whnf)))
  refine ⟨szLine (show 6 < 2 ^ 20 by decide), ?_⟩
  have hbr2 : rowD big (.list (List.replicate big (.int 0))) = true := by
    show (decide (((List.replicate big (PyData.int 0)).length : Int) = big) && (List.replicate big (PyData.int 0)).all fitD) = true
    rw [zl, decide_eq_true rfl, Bool.true_and, List.all_eq_true]
    intro d hd
    rw [(List.mem_replicate.mp hd).2]
    decide
  have hbr3 : rowD big (.list (List.replicate (big - 1) (.int 0))) = false := by
    show (decide (((List.replicate (big - 1) (PyData.int 0)).length : Int) = big) && (List.replicate (big - 1) (PyData.int 0)).all fitD) = false
    rw [zl, decide_eq_false (by omega), Bool.false_and]
  have hsr : rowD big (.list (iL ns)) = false := by
    show (decide (((iL ns).length : Int) = big) && (iL ns).all fitD) = false
    rw [iL_len, decide_eq_false (by omega), Bool.false_and]
  have ht : ∀ d ∈ [PyData.tuple [.int m, bad, .str "row"], .tuple [bm, .list (iL ns), .str "modulus"], .tuple [bm, bad, .str "modulus"], .tuple [.int big, .list (List.replicate big (.int 0)), .str "long"], .tuple [.int big, .list (List.replicate (big - 1) (.int 0)), .str "row"], .tuple [.int big, .list (iL ns), .str "row"]],
      ∃ one two word, d = .tuple [one, two, .str word] ∧ Refs K one two per paper word := fun d hd => by
    simp only [List.mem_cons, List.not_mem_nil, or_false] at hd
    rcases hd with rfl | rfl | rfl | rfl | rfl | rfl
    · exact ⟨_, _, _, rfl, ref_row hf hbr⟩
    · exact ⟨_, _, _, rfl, ref_mod hbm⟩
    · exact ⟨_, _, _, rfl, ref_mod hbm⟩
    · exact ⟨_, _, _, rfl, ref_long hfb hbr2 (by omega)⟩
    · exact ⟨_, _, _, rfl, ref_row hfb hbr3⟩
    · exact ⟨_, _, _, rfl, ref_row hfb hsr⟩
  ((conv => whnf); repeat (first | (refine Br.t ?_; conv => whnf) | (refine Br.f ?_; conv => whnf)))
  refine ⟨fun i δ => ∃ x y z, δ = [.sto, .dat (.int m), .dat (.list (iL ns)), .dat per, .dat paper, .dat bad, .dat (.int big), .dat bm, x, y, z], ⟨_, _, _, rfl⟩, ?_, ?_⟩
  · rintro i d δ hd ⟨x, y, z, rfl⟩
    obtain ⟨one, two, word, rfl, T⟩ := ht d (List.mem_of_getElem? hd)
    ((conv => whnf); repeat (first | (refine Br.t ?_; conv => whnf) | (refine Br.f ?_; conv => whnf)))
    refine ⟨rfl, ?_⟩
    ((conv => whnf); repeat (first | (refine Br.t ?_; conv => whnf) | (refine Br.f ?_; conv => whnf)))
    refine T.h _ _ ?_
    ((conv => whnf); repeat (first | (refine Br.t ?_; conv => whnf) | (refine Br.f ?_; conv => whnf)))
    refine Br.ndec (fun h => absurd rfl h) (fun _ => ?_)
    ((conv => whnf); repeat (first | (refine Br.t ?_; conv => whnf) | (refine Br.f ?_; conv => whnf)))
    exact ⟨_, _, _, rfl⟩
  · rintro δ ⟨x, y, z, rfl⟩
    ((conv => whnf); repeat (first | (refine Br.t ?_; conv => whnf) | (refine Br.f ?_; conv => whnf)))
    exact h
end
end RB

set_option Elab.async false
set_option linter.all false
set_option maxRecDepth 100000
set_option maxHeartbeats 8000000
/-! M10: twisted papers (k23) -/
namespace RB
open PySem PySem.Spec PyProof.Rows L2
theorem cutD_mem {ds : List D} {lo hi : Option Int} {d : D} (h : d ∈ cutD ds lo hi) : d ∈ ds := List.mem_of_mem_drop (List.mem_of_mem_take h)
theorem cutD_len (ds : List D) (lo hi : Option Int) : (cutD ds lo hi).length ≤ ds.length := by
  unfold cutD
  rw [List.length_take, List.length_drop]
  omega
theorem dep_cut {n : Nat} {ds : List D} {lo hi : Option Int} (h : ∀ d ∈ ds, Dep n d) : ∀ d ∈ cutD ds lo hi, Dep n d := fun d hd => h d (cutD_mem hd)
theorem dep_rev {n : Nat} {ds : List D} (h : ∀ d ∈ ds, Dep n d) : ∀ d ∈ ds.reverse, Dep n d := fun d hd => h d (List.mem_reverse.mp hd)
theorem dep_e3 (e : E3) : Dep 2 (e3 e) := .tup (by show 3 < 2 ^ 20; decide) (dL_cons (.int _) (dL_cons (.int _) (dL_cons (.int _) dL_nil)))
theorem dep3 {n : Nat} {a b c : Int} : Dep (n + 2) (.tuple [.int a, .int b, .int c]) := .tup (by show 3 < 2 ^ 20; decide) (dL_cons (.int _) (dL_cons (.int _) (dL_cons (.int _) dL_nil)))
section
variable {K : Fr} {Q : RV → Prop} {X : Addr → Prop} {rs : List RV}
theorem c_twist {m T : Nat} {es : List E3} (h1 : 0 < m ∧ m ≤ 400 ∧ 0 < T ∧ T ≤ 400) (h2 : es.length ≤ 400) (h3 : ∀ e ∈ es, EOk T e) (q : ∀ a b, Dep 27 a → Dep 27 b → Q (.dat (.tuple [a, b]))) : Cal (sp__law_twist K) 4 [.sto, .dat (.int m), .dat (.int T), .dat (.list (es.map e3))] Q X := ⟨rfl, m, T, es, rfl, h1, h2, h3, q⟩
theorem l__law_twist (h : sp__law_twist K rs Q X) : d__law_twist K (endD Q X) (startD ["store", "m", "period", "pairs", "kind", "p", "at", "unit", "near", "odd", "q", "x", "y", "entry", "z"] rs) := by
  obtain ⟨m, T, es, rfl, ⟨hm0, hm, hT0, hT⟩, hel, heo, h⟩ := h
  have hL : ∀ d ∈ es.map e3, Dep 2 d := fun d hd => by
    obtain ⟨e, _, rfl⟩ := List.mem_map.mp hd
    exact dep_e3 e
  have hll : (es.map e3).length = es.length := List.length_map ..
  have hget : ∀ i (hi : i < (es.map e3).length), ∃ e, e ∈ es ∧ (es.map e3)[i] = e3 e := fun i hi => ⟨es[i]'(by rwa [hll] at hi), List.getElem_mem _, List.getElem_map ..⟩
  generalize es.map e3 = L at hL hll hget
  have hL8 : ∀ n, ∀ d ∈ L, Dep (n + 2) d := fun n d hd => (hL d hd).mono (by omega)
  ((conv => whnf); repeat (first | (refine Br.t ?_; conv => whnf) | (refine Br.f ?_; conv => whnf)))
  refine c_take (by decide) fun kd k1 k2 => ?_
  ((conv => whnf); repeat (first | (refine Br.t ?_; conv => whnf) | (refine Br.f ?_; conv => whnf)))
  refine ⟨szLine (show 4 < 2 ^ 20 by decide), ?_⟩
  ((conv => whnf); repeat (first | (refine Br.t ?_; conv => whnf) | (refine Br.f ?_; conv => whnf)))
  refine c_pick (fun z => nomatch z) (show 4 < 2 ^ 62 by decide) fun d hd => ?_
  obtain ⟨p, hp, rfl⟩ : ∃ p : Int, (2 ≤ p ∧ p ≤ 7) ∧ d = .int p := by
    obtain ⟨x, hx, rfl⟩ := List.mem_map.mp (show d ∈ [2, 3, 5, 7].map PyData.int from hd)
    have : ∀ x ∈ [2, 3, 5, (7 : Int)], 2 ≤ x ∧ x ≤ 7 := by decide
    exact ⟨x, this x hx, rfl⟩
  clear hd
  ((conv => whnf); repeat (first | (refine Br.t ?_; conv => whnf) | (refine Br.f ?_; conv => whnf)))
  refine Br.dec (fun _ => ?_) (fun _ => ?_)
  · ((conv => whnf); repeat (first | (refine Br.t ?_; conv => whnf) | (refine Br.f ?_; conv => whnf)))
    refine ⟨mulL (by omega) (by omega), ?_⟩
    ((conv => whnf); repeat (first | (refine Br.t ?_; conv => whnf) | (refine Br.f ?_; conv => whnf)))
    refine ⟨divOk (by omega) (by omega), ?_⟩
    ((conv => whnf); repeat (first | (refine Br.t ?_; conv => whnf) | (refine Br.f ?_; conv => whnf)))
    refine ⟨mulL (by decide) (by decide), ?_⟩
    ((conv => whnf); repeat (first | (refine Br.t ?_; conv => whnf) | (refine Br.f ?_; conv => whnf)))
    refine ⟨(szLine (by first | exact (by decide : (0 : Nat) < 2 ^ 20) | exact (by decide : (1 : Nat) < 2 ^ 20) | exact (by decide : (2 : Nat) < 2 ^ 20) | exact (by decide : (3 : Nat) < 2 ^ 20) | exact (by decide : (9 : Nat) < 2 ^ 20) | exact (by decide : (10 : Nat) < 2 ^ 20) | omega | (simp only [List.length_append, List.length_map, List.length_cons, List.length_nil]; omega))), ?_⟩
    ((conv => whnf); repeat (first | (refine Br.t ?_; conv => whnf) | (refine Br.f ?_; conv => whnf)))
    refine ⟨szLine (show 12 < 2 ^ 20 by decide), ?_⟩
    ((conv => whnf); repeat (first | (refine Br.t ?_; conv => whnf) | (refine Br.f ?_; conv => whnf)))
    refine c_pick (fun z => nomatch z) (show 12 < 2 ^ 62 by decide) fun d hd => ?_
    ((conv => whnf); repeat (first | (refine Br.t ?_; conv => whnf) | (refine Br.f ?_; conv => whnf)))
    refine ⟨(szLine (by first | exact (by decide : (0 : Nat) < 2 ^ 20) | exact (by decide : (1 : Nat) < 2 ^ 20) | exact (by decide : (2 : Nat) < 2 ^ 20) | exact (by decide : (3 : Nat) < 2 ^ 20) | exact (by decide : (9 : Nat) < 2 ^ 20) | exact (by decide : (10 : Nat) < 2 ^ 20) | omega | (simp only [List.length_append, List.length_map, List.length_cons, List.length_nil]; omega))), ?_⟩
    refine h d _ ?_ (.lst (by rw [hll]; omega) (hL8 24))
    refine (show ∀ d ∈ _, Dep 27 d from dL_cons (.int _) (dL_cons (.int _) (dL_cons (.int _) (dL_cons (.int _) (dL_cons (.int _) (dL_cons (.int _) (dL_cons (.int _) (dL_cons (.int _) (dL_cons (.bl _) (dL_cons .non (dL_cons (.str _) (dL_cons (.lst (by show 1 < 2 ^ 20; decide) (dL_cons (.int _) dL_nil)) dL_nil)))))))))))) d hd
  ((conv => whnf); repeat (first | (refine Br.t ?_; conv => whnf) | (refine Br.f ?_; conv => whnf)))
  refine Br.dec (fun _ => ?_) (fun _ => ?_)
  · ((conv => whnf); repeat (first | (refine Br.t ?_; conv => whnf) | (refine Br.f ?_; conv => whnf)))
    refine c_oddpaper fun od hod => ?_
    ((conv => whnf); repeat (first | (refine Br.t ?_; conv => whnf) | (refine Br.f ?_; conv => whnf)))
    refine ⟨(szLine (by first | exact (by decide : (0 : Nat) < 2 ^ 20) | exact (by decide : (1 : Nat) < 2 ^ 20) | exact (by decide : (2 : Nat) < 2 ^ 20) | exact (by decide : (3 : Nat) < 2 ^ 20) | exact (by decide : (9 : Nat) < 2 ^ 20) | exact (by decide : (10 : Nat) < 2 ^ 20) | omega | (simp only [List.length_append, List.length_map, List.length_cons, List.length_nil]; omega))), ?_⟩
    ((conv => whnf); repeat (first | (refine Br.t ?_; conv => whnf) | (refine Br.f ?_; conv => whnf)))
    refine ⟨(szLine (by first | exact (by decide : (0 : Nat) < 2 ^ 20) | exact (by decide : (1 : Nat) < 2 ^ 20) | exact (by decide : (2 : Nat) < 2 ^ 20) | exact (by decide : (3 : Nat) < 2 ^ 20) | exact (by decide : (9 : Nat) < 2 ^ 20) | exact (by decide : (10 : Nat) < 2 ^ 20) | omega | (simp only [List.length_append, List.length_map, List.length_cons, List.length_nil]; omega))), ?_⟩
    ((conv => whnf); repeat (first | (refine Br.t ?_; conv => whnf) | (refine Br.f ?_; conv => whnf)))
    refine ⟨(szLine (by first | exact (by decide : (0 : Nat) < 2 ^ 20) | exact (by decide : (1 : Nat) < 2 ^ 20) | exact (by decide : (2 : Nat) < 2 ^ 20) | exact (by decide : (3 : Nat) < 2 ^ 20) | exact (by decide : (9 : Nat) < 2 ^ 20) | exact (by decide : (10 : Nat) < 2 ^ 20) | omega | (simp only [List.length_append, List.length_map, List.length_cons, List.length_nil]; omega))), ?_⟩
    ((conv => whnf); repeat (first | (refine Br.t ?_; conv => whnf) | (refine Br.f ?_; conv => whnf)))
    refine ⟨szLine (show L.length + 1 < 2 ^ 20 by omega), ?_⟩
    ((conv => whnf); repeat (first | (refine Br.t ?_; conv => whnf) | (refine Br.f ?_; conv => whnf)))
    refine ⟨(szLine (by first | exact (by decide : (0 : Nat) < 2 ^ 20) | exact (by decide : (1 : Nat) < 2 ^ 20) | exact (by decide : (2 : Nat) < 2 ^ 20) | exact (by decide : (3 : Nat) < 2 ^ 20) | exact (by decide : (9 : Nat) < 2 ^ 20) | exact (by decide : (10 : Nat) < 2 ^ 20) | omega | (simp only [List.length_append, List.length_map, List.length_cons, List.length_nil]; omega))), ?_⟩
    ((conv => whnf); repeat (first | (refine Br.t ?_; conv => whnf) | (refine Br.f ?_; conv => whnf)))
    refine ⟨szLine (show L.length + 1 < 2 ^ 20 by omega), ?_⟩
    ((conv => whnf); repeat (first | (refine Br.t ?_; conv => whnf) | (refine Br.f ?_; conv => whnf)))
    refine ⟨(szLine (by first | exact (by decide : (0 : Nat) < 2 ^ 20) | exact (by decide : (1 : Nat) < 2 ^ 20) | exact (by decide : (2 : Nat) < 2 ^ 20) | exact (by decide : (3 : Nat) < 2 ^ 20) | exact (by decide : (9 : Nat) < 2 ^ 20) | exact (by decide : (10 : Nat) < 2 ^ 20) | omega | (simp only [List.length_append, List.length_map, List.length_cons, List.length_nil]; omega))), ?_⟩
    ((conv => whnf); repeat (first | (refine Br.t ?_; conv => whnf) | (refine Br.f ?_; conv => whnf)))
    refine ⟨szLine (show 7 < 2 ^ 20 by decide), ?_⟩
    ((conv => whnf); repeat (first | (refine Br.t ?_; conv => whnf) | (refine Br.f ?_; conv => whnf)))
    refine c_pick (fun z => nomatch z) (show 7 < 2 ^ 62 by decide) fun d hd => ?_
    ((conv => whnf); repeat (first | (refine Br.t ?_; conv => whnf) | (refine Br.f ?_; conv => whnf)))
    refine ⟨(szLine (by first | exact (by decide : (0 : Nat) < 2 ^ 20) | exact (by decide : (1 : Nat) < 2 ^ 20) | exact (by decide : (2 : Nat) < 2 ^ 20) | exact (by decide : (3 : Nat) < 2 ^ 20) | exact (by decide : (9 : Nat) < 2 ^ 20) | exact (by decide : (10 : Nat) < 2 ^ 20) | omega | (simp only [List.length_append, List.length_map, List.length_cons, List.length_nil]; omega))), ?_⟩
    refine h _ d (.int _) ?_
    have l1 : ∀ x : D, (L ++ [x]).length < 2 ^ 20 := fun x => by rw [List.length_append]; show L.length + 1 < 2 ^ 20; omega
    refine (show ∀ d ∈ _, Dep 27 d from dL_cons (.tup (by omega) (hL8 24)) (dL_cons (.lst (by decide) dL_nil) (dL_cons .non (dL_cons (hod.mono (by decide)) (dL_cons (.lst (l1 _) (dep_app (hL8 24) (dL_cons (.tup (by decide) dL_nil) dL_nil)))
      (dL_cons (.lst (l1 _) (dep_app (hL8 24) (dL_cons .non dL_nil))) (dL_cons (.lst (by show 1 < 2 ^ 20; decide) (dL_cons (.lst (by omega) (hL8 23)) dL_nil)) dL_nil))))))) d hd
  ((conv => whnf); repeat (first | (refine Br.t ?_; conv => whnf) | (refine Br.f ?_; conv => whnf)))
  refine Br.dec (fun _ => ?_) (fun hne => ?_)
  · ((conv => whnf); repeat (first | (refine Br.t ?_; conv => whnf) | (refine Br.f ?_; conv => whnf)))
    refine c_take (by omega) fun t h1 h2 => ?_
    ((conv => whnf); repeat (first | (refine Br.t ?_; conv => whnf) | (refine Br.f ?_; conv => whnf)))
    refine ⟨(szLine (by first | exact (by decide : (0 : Nat) < 2 ^ 20) | exact (by decide : (1 : Nat) < 2 ^ 20) | exact (by decide : (2 : Nat) < 2 ^ 20) | exact (by decide : (3 : Nat) < 2 ^ 20) | exact (by decide : (9 : Nat) < 2 ^ 20) | exact (by decide : (10 : Nat) < 2 ^ 20) | omega | (simp only [List.length_append, List.length_map, List.length_cons, List.length_nil]; omega))), ?_⟩
    ((conv => whnf); repeat (first | (refine Br.t ?_; conv => whnf) | (refine Br.f ?_; conv => whnf)))
    refine ⟨(szLine (by first | exact (by decide : (0 : Nat) < 2 ^ 20) | exact (by decide : (1 : Nat) < 2 ^ 20) | exact (by decide : (2 : Nat) < 2 ^ 20) | exact (by decide : (3 : Nat) < 2 ^ 20) | exact (by decide : (9 : Nat) < 2 ^ 20) | exact (by decide : (10 : Nat) < 2 ^ 20) | omega | (simp only [List.length_append, List.length_map, List.length_cons, List.length_nil]; omega))), ?_⟩
    ((conv => whnf); repeat (first | (refine Br.t ?_; conv => whnf) | (refine Br.f ?_; conv => whnf)))
    refine ⟨(szLine (by first | exact (by decide : (0 : Nat) < 2 ^ 20) | exact (by decide : (1 : Nat) < 2 ^ 20) | exact (by decide : (2 : Nat) < 2 ^ 20) | exact (by decide : (3 : Nat) < 2 ^ 20) | exact (by decide : (9 : Nat) < 2 ^ 20) | exact (by decide : (10 : Nat) < 2 ^ 20) | omega | (simp only [List.length_append, List.length_map, List.length_cons, List.length_nil]; omega))), ?_⟩
    exact h _ _ (.int _) (.lst (by show 1 < 2 ^ 20; decide) (dL_cons dep3 dL_nil))
  have hpos : 0 < L.length := by omega
  ((conv => whnf); repeat (first | (refine Br.t ?_; conv => whnf) | (refine Br.f ?_; conv => whnf)))
  refine c_take (by omega) fun at_ h1 h2 => ?_
  have hat : at_ < L.length := by omega
  have hcl := cutD_len L
  ((conv => whnf); repeat (first | (refine Br.t ?_; conv => whnf) | (refine Br.f ?_; conv => whnf)))
  refine Br.dec (fun _ => ?_) (fun _ => ?_)
  · ((conv => whnf); repeat (first | (refine Br.t ?_; conv => whnf) | (refine Br.f ?_; conv => whnf)))
    refine ⟨szLine (by have := hcl none (some at_); have := hcl (some (at_ + 1)) none; omega), ?_⟩
    ((conv => whnf); repeat (first | (refine Br.t ?_; conv => whnf) | (refine Br.f ?_; conv => whnf)))
    refine ⟨_, atI_nat h1 hat, ?_⟩
    have hm := hL _ (List.getElem_mem (show at_.toNat < L.length by omega))
    generalize L[at_.toNat]'(by omega) = el at hm
    ((conv => whnf); repeat (first | (refine Br.t ?_; conv => whnf) | (refine Br.f ?_; conv => whnf)))
    refine ⟨(szLine (by first | exact (by decide : (0 : Nat) < 2 ^ 20) | exact (by decide : (1 : Nat) < 2 ^ 20) | exact (by decide : (2 : Nat) < 2 ^ 20) | exact (by decide : (3 : Nat) < 2 ^ 20) | exact (by decide : (9 : Nat) < 2 ^ 20) | exact (by decide : (10 : Nat) < 2 ^ 20) | omega | (simp only [List.length_append, List.length_map, List.length_cons, List.length_nil]; omega))), ?_⟩
    ((conv => whnf); repeat (first | (refine Br.t ?_; conv => whnf) | (refine Br.f ?_; conv => whnf)))
    refine ⟨szLine (show L.length + 1 < 2 ^ 20 by omega), ?_⟩
    ((conv => whnf); repeat (first | (refine Br.t ?_; conv => whnf) | (refine Br.f ?_; conv => whnf)))
    refine ⟨szLine (by have := hcl none (some at_); have := hcl (some at_) none; omega), ?_⟩
    ((conv => whnf); repeat (first | (refine Br.t ?_; conv => whnf) | (refine Br.f ?_; conv => whnf)))
    refine ⟨szLine (show 4 < 2 ^ 20 by decide), ?_⟩
    ((conv => whnf); repeat (first | (refine Br.t ?_; conv => whnf) | (refine Br.f ?_; conv => whnf)))
    refine ⟨(szLine (by first | exact (by decide : (0 : Nat) < 2 ^ 20) | exact (by decide : (1 : Nat) < 2 ^ 20) | exact (by decide : (2 : Nat) < 2 ^ 20) | exact (by decide : (3 : Nat) < 2 ^ 20) | exact (by decide : (9 : Nat) < 2 ^ 20) | exact (by decide : (10 : Nat) < 2 ^ 20) | omega | (simp only [List.length_append, List.length_map, List.length_cons, List.length_nil]; omega))), ?_⟩
    ((conv => whnf); repeat (first | (refine Br.t ?_; conv => whnf) | (refine Br.f ?_; conv => whnf)))
    refine ⟨(szLine (by first | exact (by decide : (0 : Nat) < 2 ^ 20) | exact (by decide : (1 : Nat) < 2 ^ 20) | exact (by decide : (2 : Nat) < 2 ^ 20) | exact (by decide : (3 : Nat) < 2 ^ 20) | exact (by decide : (9 : Nat) < 2 ^ 20) | exact (by decide : (10 : Nat) < 2 ^ 20) | omega | (simp only [List.length_append, List.length_map, List.length_cons, List.length_nil]; omega))), ?_⟩
    ((conv => whnf); repeat (first | (refine Br.t ?_; conv => whnf) | (refine Br.f ?_; conv => whnf)))
    refine ⟨szLine (show L.length + 1 < 2 ^ 20 by omega), ?_⟩
    ((conv => whnf); repeat (first | (refine Br.t ?_; conv => whnf) | (refine Br.f ?_; conv => whnf)))
    refine ⟨(szLine (by first | exact (by decide : (0 : Nat) < 2 ^ 20) | exact (by decide : (1 : Nat) < 2 ^ 20) | exact (by decide : (2 : Nat) < 2 ^ 20) | exact (by decide : (3 : Nat) < 2 ^ 20) | exact (by decide : (9 : Nat) < 2 ^ 20) | exact (by decide : (10 : Nat) < 2 ^ 20) | omega | (simp only [List.length_append, List.length_map, List.length_cons, List.length_nil]; omega))), ?_⟩
    ((conv => whnf); repeat (first | (refine Br.t ?_; conv => whnf) | (refine Br.f ?_; conv => whnf)))
    refine ⟨szLine (show 5 < 2 ^ 20 by decide), ?_⟩
    ((conv => whnf); repeat (first | (refine Br.t ?_; conv => whnf) | (refine Br.f ?_; conv => whnf)))
    refine c_pick (fun z => nomatch z) (show 5 < 2 ^ 62 by decide) fun d hd => ?_
    ((conv => whnf); repeat (first | (refine Br.t ?_; conv => whnf) | (refine Br.f ?_; conv => whnf)))
    refine ⟨(szLine (by first | exact (by decide : (0 : Nat) < 2 ^ 20) | exact (by decide : (1 : Nat) < 2 ^ 20) | exact (by decide : (2 : Nat) < 2 ^ 20) | exact (by decide : (3 : Nat) < 2 ^ 20) | exact (by decide : (9 : Nat) < 2 ^ 20) | exact (by decide : (10 : Nat) < 2 ^ 20) | omega | (simp only [List.length_append, List.length_map, List.length_cons, List.length_nil]; omega))), ?_⟩
    refine h _ d (.int _) ?_
    have l1 : ∀ x : D, (L ++ [x]).length < 2 ^ 20 := fun x => by rw [List.length_append]; show L.length + 1 < 2 ^ 20; omega
    have l2 : ∀ a b c d, (cutD L a b ++ cutD L c d).length < 2 ^ 20 := fun a b c d => by rw [List.length_append]; have := hcl a b; have := hcl c d; omega
    refine (show ∀ d ∈ _, Dep 27 d from dep_app (dL_cons (.lst (l2 _ _ _ _) (dep_app (dep_cut (hL8 24)) (dep_cut (hL8 24)))) (dL_cons (.lst (l1 _) (dep_app (hL8 24) (dL_cons (hm.mono (by decide)) dL_nil))) (dL_cons (.lst (by rw [List.length_reverse]; omega) (dep_rev (hL8 24))) (dL_cons (.lst (l2 _ _ _ _) (dep_app (dep_cut (hL8 24)) (dep_cut (hL8 24)))) dL_nil))))
      (dL_cons (.lst (l1 _) (dep_app (hL8 24) (dL_cons dep3 dL_nil))) dL_nil)) d hd
  ((conv => whnf); repeat (first | (refine Br.t ?_; conv => whnf) | (refine Br.f ?_; conv => whnf)))
  refine ⟨_, atI_nat h1 hat, ?_⟩
  obtain ⟨e, hem, ee⟩ := hget at_.toNat (by omega)
  rw [ee]
  have eo := heo e hem
  obtain ⟨q, x, y⟩ := e
  have q2 : 2 ≤ q := eo.q2
  have q4 : q ≤ 400 := eo.q4
  have qd : T % q = 0 := eo.d
  have qT : q ≤ T := Nat.le_of_dvd hT0 (Nat.dvd_of_mod_eq_zero qd)
  have hu : 0 < T / q := Nat.div_pos qT (by omega)
  have huT : T / q ≤ T := Nat.div_le_self _ _
  ((conv => whnf); repeat (first | (refine Br.t ?_; conv => whnf) | (refine Br.f ?_; conv => whnf)))
  refine ⟨rfl, ?_⟩
  ((conv => whnf); repeat (first | (refine Br.t ?_; conv => whnf) | (refine Br.f ?_; conv => whnf)))
  refine ⟨divOk (by omega) (by omega), ?_⟩
  ((conv => whnf); repeat (first | (refine Br.t ?_; conv => whnf) | (refine Br.f ?_; conv => whnf)))
  refine ⟨fun δ' => ∃ (en : D) (a b c d e : Sl), δ' = [.sto, .dat (.int m), .dat (.int T), .dat (.list L), .dat (.int kd), .dat (.int p), .dat (.int at_), a, .no, .no, b, c, d, .dat en, e] ∧ Dep 7 en, ?_, ?_⟩
  · ((conv => whnf); repeat (first | (refine Br.t ?_; conv => whnf) | (refine Br.f ?_; conv => whnf)))
    refine Br.dec (fun _ => ?_) (fun _ => ?_)
    · ((conv => whnf); repeat (first | (refine Br.t ?_; conv => whnf) | (refine Br.f ?_; conv => whnf)))
      iterate 5
        refine ⟨(szLine (by first | exact (by decide : (0 : Nat) < 2 ^ 20) | exact (by decide : (1 : Nat) < 2 ^ 20) | exact (by decide : (2 : Nat) < 2 ^ 20) | exact (by decide : (3 : Nat) < 2 ^ 20) | exact (by decide : (9 : Nat) < 2 ^ 20) | exact (by decide : (10 : Nat) < 2 ^ 20) | omega | (simp only [List.length_append, List.length_map, List.length_cons, List.length_nil]; omega))), ?_⟩
        ((conv => whnf); repeat (first | (refine Br.t ?_; conv => whnf) | (refine Br.f ?_; conv => whnf)))
      refine ⟨szLine (show 5 < 2 ^ 20 by decide), ?_⟩
      ((conv => whnf); repeat (first | (refine Br.t ?_; conv => whnf) | (refine Br.f ?_; conv => whnf)))
      refine c_pick (fun z => nomatch z) (show 5 < 2 ^ 62 by decide) fun d hd => ?_
      ((conv => whnf); repeat (first | (refine Br.t ?_; conv => whnf) | (refine Br.f ?_; conv => whnf)))
      refine ⟨d, _, _, _, _, _, rfl, ?_⟩
      refine (show ∀ d ∈ _, Dep 7 d from dL_cons dep3 (dL_cons dep3 (dL_cons dep3 (dL_cons dep3 (dL_cons dep3 dL_nil))))) d hd
    ((conv => whnf); repeat (first | (refine Br.t ?_; conv => whnf) | (refine Br.f ?_; conv => whnf)))
    refine Br.dec (fun _ => ?_) (fun _ => ?_)
    · ((conv => whnf); repeat (first | (refine Br.t ?_; conv => whnf) | (refine Br.f ?_; conv => whnf)))
      refine c_take (by omega) fun z h3 h4 => ?_
      ((conv => whnf); repeat (first | (refine Br.t ?_; conv => whnf) | (refine Br.f ?_; conv => whnf)))
      iterate 4
        refine ⟨(szLine (by first | exact (by decide : (0 : Nat) < 2 ^ 20) | exact (by decide : (1 : Nat) < 2 ^ 20) | exact (by decide : (2 : Nat) < 2 ^ 20) | exact (by decide : (3 : Nat) < 2 ^ 20) | exact (by decide : (9 : Nat) < 2 ^ 20) | exact (by decide : (10 : Nat) < 2 ^ 20) | omega | (simp only [List.length_append, List.length_map, List.length_cons, List.length_nil]; omega))), ?_⟩
        ((conv => whnf); repeat (first | (refine Br.t ?_; conv => whnf) | (refine Br.f ?_; conv => whnf)))
      refine ⟨szLine (show 4 < 2 ^ 20 by decide), ?_⟩
      ((conv => whnf); repeat (first | (refine Br.t ?_; conv => whnf) | (refine Br.f ?_; conv => whnf)))
      refine c_pick (fun z => nomatch z) (show 4 < 2 ^ 62 by decide) fun d hd => ?_
      ((conv => whnf); repeat (first | (refine Br.t ?_; conv => whnf) | (refine Br.f ?_; conv => whnf)))
      refine ⟨d, _, _, _, _, _, rfl, ?_⟩
      refine (show ∀ d ∈ _, Dep 7 d from dL_cons dep3 (dL_cons dep3 (dL_cons dep3 (dL_cons dep3 dL_nil)))) d hd
    ((conv => whnf); repeat (first | (refine Br.t ?_; conv => whnf) | (refine Br.f ?_; conv => whnf)))
    refine Br.dec (fun _ => ?_) (fun _ => ?_)
    · ((conv => whnf); repeat (first | (refine Br.t ?_; conv => whnf) | (refine Br.f ?_; conv => whnf)))
      refine ⟨(szLine (by first | exact (by decide : (0 : Nat) < 2 ^ 20) | exact (by decide : (1 : Nat) < 2 ^ 20) | exact (by decide : (2 : Nat) < 2 ^ 20) | exact (by decide : (3 : Nat) < 2 ^ 20) | exact (by decide : (9 : Nat) < 2 ^ 20) | exact (by decide : (10 : Nat) < 2 ^ 20) | omega | (simp only [List.length_append, List.length_map, List.length_cons, List.length_nil]; omega))), ?_⟩
      ((conv => whnf); repeat (first | (refine Br.t ?_; conv => whnf) | (refine Br.f ?_; conv => whnf)))
      refine ⟨(szLine (by first | exact (by decide : (0 : Nat) < 2 ^ 20) | exact (by decide : (1 : Nat) < 2 ^ 20) | exact (by decide : (2 : Nat) < 2 ^ 20) | exact (by decide : (3 : Nat) < 2 ^ 20) | exact (by decide : (9 : Nat) < 2 ^ 20) | exact (by decide : (10 : Nat) < 2 ^ 20) | omega | (simp only [List.length_append, List.length_map, List.length_cons, List.length_nil]; omega))), ?_⟩
      ((conv => whnf); repeat (first | (refine Br.t ?_; conv => whnf) | (refine Br.f ?_; conv => whnf)))
      refine ⟨mulL (by omega) (by omega), ?_⟩
      ((conv => whnf); repeat (first | (refine Br.t ?_; conv => whnf) | (refine Br.f ?_; conv => whnf)))
      refine ⟨(szLine (by first | exact (by decide : (0 : Nat) < 2 ^ 20) | exact (by decide : (1 : Nat) < 2 ^ 20) | exact (by decide : (2 : Nat) < 2 ^ 20) | exact (by decide : (3 : Nat) < 2 ^ 20) | exact (by decide : (9 : Nat) < 2 ^ 20) | exact (by decide : (10 : Nat) < 2 ^ 20) | omega | (simp only [List.length_append, List.length_map, List.length_cons, List.length_nil]; omega))), ?_⟩
      ((conv => whnf); repeat (first | (refine Br.t ?_; conv => whnf) | (refine Br.f ?_; conv => whnf)))
      refine ⟨(szLine (by first | exact (by decide : (0 : Nat) < 2 ^ 20) | exact (by decide : (1 : Nat) < 2 ^ 20) | exact (by decide : (2 : Nat) < 2 ^ 20) | exact (by decide : (3 : Nat) < 2 ^ 20) | exact (by decide : (9 : Nat) < 2 ^ 20) | exact (by decide : (10 : Nat) < 2 ^ 20) | omega | (simp only [List.length_append, List.length_map, List.length_cons, List.length_nil]; omega))), ?_⟩
      ((conv => whnf); repeat (first | (refine Br.t ?_; conv => whnf) | (refine Br.f ?_; conv => whnf)))
      refine ⟨szLine (show 4 < 2 ^ 20 by decide), ?_⟩
      ((conv => whnf); repeat (first | (refine Br.t ?_; conv => whnf) | (refine Br.f ?_; conv => whnf)))
      refine ⟨(szLine (by first | exact (by decide : (0 : Nat) < 2 ^ 20) | exact (by decide : (1 : Nat) < 2 ^ 20) | exact (by decide : (2 : Nat) < 2 ^ 20) | exact (by decide : (3 : Nat) < 2 ^ 20) | exact (by decide : (9 : Nat) < 2 ^ 20) | exact (by decide : (10 : Nat) < 2 ^ 20) | omega | (simp only [List.length_append, List.length_map, List.length_cons, List.length_nil]; omega))), ?_⟩
      ((conv => whnf); repeat (first | (refine Br.t ?_; conv => whnf) | (refine Br.f ?_; conv => whnf)))
      refine ⟨szLine (show 6 < 2 ^ 20 by decide), ?_⟩
      ((conv => whnf); repeat (first | (refine Br.t ?_; conv => whnf) | (refine Br.f ?_; conv => whnf)))
      refine c_pick (fun z => nomatch z) (show 6 < 2 ^ 62 by decide) fun d hd => ?_
      ((conv => whnf); repeat (first | (refine Br.t ?_; conv => whnf) | (refine Br.f ?_; conv => whnf)))
      refine ⟨d, _, _, _, _, _, rfl, ?_⟩
      refine (show ∀ d ∈ _, Dep 7 d from dL_cons dep3 (dL_cons dep3 (dL_cons dep3 (dL_cons (.tup (by show 2 < 2 ^ 20; decide) (dL_cons (.int _) (dL_cons (.int _) dL_nil))) (dL_cons (.tup (by show 4 < 2 ^ 20; decide) (dL_cons (.int _) (dL_cons (.int _) (dL_cons (.int _) (dL_cons (.int _) dL_nil))))) (dL_cons (.lst (by show 3 < 2 ^ 20; decide) (dL_cons (.int _) (dL_cons (.int _) (dL_cons (.int _) dL_nil)))) dL_nil)))))) d hd
    ((conv => whnf); repeat (first | (refine Br.t ?_; conv => whnf) | (refine Br.f ?_; conv => whnf)))
    refine Br.dec (fun _ => ?_) (fun _ => ?_)
    · ((conv => whnf); repeat (first | (refine Br.t ?_; conv => whnf) | (refine Br.f ?_; conv => whnf)))
      refine c_take (by omega) fun xx h3 h4 => ?_
      ((conv => whnf); repeat (first | (refine Br.t ?_; conv => whnf) | (refine Br.f ?_; conv => whnf)))
      refine ⟨divOk (show (0 : Int) < ((T / q : Nat) : Int) by omega) (show ((T / q : Nat) : Int) < 2 ^ 64 by omega), ?_⟩
      ((conv => whnf); repeat (first | (refine Br.t ?_; conv => whnf) | (refine Br.f ?_; conv => whnf)))
      have hmu : (m : Int) / ((T / q : Nat) : Int) ≤ m := Int.ediv_le_self _ (by omega)
      refine c_take (show 1 + (m : Int) / ((T / q : Nat) : Int) < 2 ^ 64 by omega) fun t h5 h6 => ?_
      ((conv => whnf); repeat (first | (refine Br.t ?_; conv => whnf) | (refine Br.f ?_; conv => whnf)))
      refine ⟨mulL (show -(2 ^ 64) < ((T / q : Nat) : Int) by omega) (show ((T / q : Nat) : Int) < 2 ^ 64 by omega), ?_⟩
      ((conv => whnf); repeat (first | (refine Br.t ?_; conv => whnf) | (refine Br.f ?_; conv => whnf)))
      refine ⟨(szLine (by first | exact (by decide : (0 : Nat) < 2 ^ 20) | exact (by decide : (1 : Nat) < 2 ^ 20) | exact (by decide : (2 : Nat) < 2 ^ 20) | exact (by decide : (3 : Nat) < 2 ^ 20) | exact (by decide : (9 : Nat) < 2 ^ 20) | exact (by decide : (10 : Nat) < 2 ^ 20) | omega | (simp only [List.length_append, List.length_map, List.length_cons, List.length_nil]; omega))), ?_⟩
      ((conv => whnf); repeat (first | (refine Br.t ?_; conv => whnf) | (refine Br.f ?_; conv => whnf)))
      exact ⟨_, _, _, _, _, _, rfl, dep3⟩
    · ((conv => whnf); repeat (first | (refine Br.t ?_; conv => whnf) | (refine Br.f ?_; conv => whnf)))
      refine ⟨_, atI_nat h1 hat, ?_⟩
      have hm := hL _ (List.getElem_mem (show at_.toNat < L.length by omega))
      generalize L[at_.toNat]'(by omega) = el at hm
      ((conv => whnf); repeat (first | (refine Br.t ?_; conv => whnf) | (refine Br.f ?_; conv => whnf)))
      refine c_kindbent (n := 30) (k := 1) (dp := 1) (by decide) hm fun d' hd' => ⟨?_, fun ds ed => ?_⟩
      · ((conv => whnf); repeat (first | (refine Br.t ?_; conv => whnf) | (refine Br.f ?_; conv => whnf)))
        exact ⟨_, _, _, _, _, _, rfl, hd'.mono (by decide)⟩
      · subst ed
        ((conv => whnf); repeat (first | (refine Br.t ?_; conv => whnf) | (refine Br.f ?_; conv => whnf)))
        exact ⟨_, _, _, _, _, _, rfl, hd'.mono (by decide)⟩
  · rintro δ' ⟨en, a, b, c, d, e, rfl, hen⟩
    ((conv => whnf); repeat (first | (refine Br.t ?_; conv => whnf) | (refine Br.f ?_; conv => whnf)))
    refine ⟨(szLine (by first | exact (by decide : (0 : Nat) < 2 ^ 20) | exact (by decide : (1 : Nat) < 2 ^ 20) | exact (by decide : (2 : Nat) < 2 ^ 20) | exact (by decide : (3 : Nat) < 2 ^ 20) | exact (by decide : (9 : Nat) < 2 ^ 20) | exact (by decide : (10 : Nat) < 2 ^ 20) | omega | (simp only [List.length_append, List.length_map, List.length_cons, List.length_nil]; omega))), ?_⟩
    have c1 := hcl none (some at_)
    have c2 := hcl (some (at_ + 1)) none
    have l3 : ∀ a b, (cutD L a b ++ [en]).length ≤ L.length + 1 := fun a b => by rw [List.length_append]; have := hcl a b; show _ + 1 ≤ _; omega
    ((conv => whnf); repeat (first | (refine Br.t ?_; conv => whnf) | (refine Br.f ?_; conv => whnf)))
    refine ⟨szLine (show (cutD L none (some at_)).length + 1 < 2 ^ 20 by omega), ?_⟩
    ((conv => whnf); repeat (first | (refine Br.t ?_; conv => whnf) | (refine Br.f ?_; conv => whnf)))
    refine ⟨szLine (show (cutD L none (some at_) ++ [en]).length + (cutD L (some (at_ + 1)) none).length < 2 ^ 20 by have := l3 none (some at_); omega), ?_⟩
    ((conv => whnf); repeat (first | (refine Br.t ?_; conv => whnf) | (refine Br.f ?_; conv => whnf)))
    refine ⟨(szLine (by first | exact (by decide : (0 : Nat) < 2 ^ 20) | exact (by decide : (1 : Nat) < 2 ^ 20) | exact (by decide : (2 : Nat) < 2 ^ 20) | exact (by decide : (3 : Nat) < 2 ^ 20) | exact (by decide : (9 : Nat) < 2 ^ 20) | exact (by decide : (10 : Nat) < 2 ^ 20) | omega | (simp only [List.length_append, List.length_map, List.length_cons, List.length_nil]; omega))), ?_⟩
    refine h _ _ (.int _) (.lst ?_ (dep_app (dep_app (dep_cut (hL8 24)) (dL_cons (hen.mono (by decide)) dL_nil)) (dep_cut (hL8 24))))
    rw [List.length_append]
    have := l3 none (some at_)
    have c3 := hcl (some (at_ + 1)) none
    exact Nat.lt_of_le_of_lt (Nat.add_le_add this c3) (by omega)
end
end RB

set_option Elab.async false
set_option linter.all false
set_option maxRecDepth 100000
set_option maxHeartbeats 8000000
/-! M11: the law (k23) -/
namespace RB
open PySem PySem.Spec PyProof.Rows L2
theorem lper_fbk {ns : List Int} (h : 0 < ns.length) : fbk ns (lper ns) = none := by
  unfold lper
  cases e : (List.range' 1 (ns.length - 1)).find? (fun s => decide (ns.length % s = 0) && (fbk ns s).isNone) with
  | none => exact fbk_none fun j hj => by rw [show (none : Option Nat).getD ns.length = ns.length from rfl, Nat.mod_eq_of_lt hj]
  | some p =>
    obtain ⟨h1, h2, h3⟩ := List.find?_range'_eq_some.mp e
    have := (Bool.and_eq_true_iff.mp h1).2
    show fbk ns p = none
    exact Option.isNone_iff_eq_none.mp this
structure Cs (m : Nat) (d : D) : Prop where
  h : ∃ ns number paper, d = .tuple [.list (iL ns), number, paper] ∧ ns.length = m ∧ (∀ x ∈ ns, Fit x) ∧ Dep 27 number ∧ Dep 27 paper
structure C3 (m : Nat) (d : D) : Prop where
  h : ∃ (ns : List Int) (T : Nat) (es : List E3), d = .tuple [.list (iL ns), .int T, .list (es.map e3)] ∧ ns.length = m ∧ (∀ x ∈ ns, Fit x) ∧ (0 < T ∧ T ≤ m) ∧ es.length ≤ 400 ∧ ∀ e ∈ es, EOk T e
theorem C3.cs {m : Nat} {d : D} (c : C3 m d) : Cs m d := by
  obtain ⟨ns, T, es, rfl, h1, h2, h3, h4, h5⟩ := c.h
  refine ⟨ns, _, _, rfl, h1, h2, .int _, .lst (by rw [List.length_map]; omega) fun d hd => ?_⟩
  obtain ⟨e, _, rfl⟩ := List.mem_map.mp hd
  exact (dep_e3 e).mono (by decide)
theorem es_len {T : Nat} {es : List E3} (h : es.map (·.1) = primesF T (T - 1)) (hT : T ≤ 400) : es.length ≤ 400 := by
  have := congrArg List.length h
  rw [List.length_map] at this
  have := primesF_len T (T - 1)
  omega
section
variable {K : Fr} {Q : RV → Prop} {X : Addr → Prop}
theorem c_judgedE {ns : List Int} {number paper : D} {due : Bool} (e : due = provB ns number paper) (hf : ∃ l, facM ns.length = some l) (hm : ns.length ≤ 400) (hfit : ∀ x ∈ ns, Fit x) (h1 : Dep 27 number) (h2 : Dep 27 paper) (q : Q (.dat (.bool true))) : Cal (sp__law_judged K) 5 [.dat (.int (ns.length : Nat)), .dat (.list (iL ns)), .dat number, .dat paper, .dat (.bool due)] Q X := by
  subst e
  exact c_judged hf hm hfit h1 h2 q
theorem c_proves {ns : List Int} {number paper : D} (hf : ∃ l, facM ns.length = some l) (hm : ns.length ≤ 400) (q : Q (.dat (.bool (provB ns number paper)))) : Cal (sp__law_proves K) 4 [.dat (.int (ns.length : Nat)), .dat (.list (iL ns)), .dat number, .dat paper] Q X := ⟨rfl, ns, number, paper, rfl, hf, hm, q⟩
theorem prov_true {ns : List Int} {es : List E3} (h0 : 0 < ns.length) (hm : ns.length ≤ 400) (hf : ∃ l, facM ns.length = some l) (h1 : es.map (·.1) = primesF (lper ns) (lper ns - 1)) (h2 : ∀ e ∈ es, Good ns (lper ns) e) : provB ns (.int (lper ns)) (.list (es.map e3)) = true := by
  obtain ⟨a, b, c, d⟩ := lper_ok h0
  obtain ⟨l, hf⟩ := hf
  rw [primesF_prs (fac_sub hf hm a b) (by omega)] at h1
  rw [provB_int, Int.toNat_natCast, lper_fbk h0, decide_eq_true (by omega : (1 : Int) ≤ (lper ns : Nat)), decide_eq_true (by omega : ((lper ns : Nat) : Int) ≤ (ns.length : Int)), decide_eq_true (show (ns.length : Int) % ((lper ns : Nat) : Int) = 0 by rw [← Int.natCast_emod, b]; rfl), provN_list]
  have hl : (es.map e3).length = (prs (lper ns)).length := by rw [← h1, List.length_map, List.length_map]
  rw [decide_eq_true hl, allB_all]
  · rfl
  · intro i p d g1 g2
    rw [← h1, List.getElem?_map] at g1
    rw [List.getElem?_map] at g2
    cases e : es[i]? with
    | none => rw [e] at g1; cases g1
    | some x =>
      rw [e] at g1 g2
      cases g1
      cases g2
      have hx := List.mem_of_getElem? e
      have hp : x.1 ∈ prs (lper ns) := by rw [← h1]; exact List.mem_map.mpr ⟨x, hx, rfl⟩
      obtain ⟨_, _, _, y, hy⟩ := per_part h0 hp
      exact (h2 x hx).v (by rw [hy]; rfl)
theorem c_pairsforL {ns : List Int} {m T : Nat} (hl : ns.length = m) (h : 0 < m ∧ m ≤ 400 ∧ 0 < T ∧ T ≤ m) (q : ∀ es : List E3, es.map (·.1) = primesF T (T - 1) → (∀ e ∈ es, Good ns T e) → Q (.own (es.map e3))) : Cal (sp__law_pairsfor K) 4 [.sto, .dat (.int m), .dat (.list (iL ns)), .dat (.int T)] Q X := by
  subst hl
  exact c_pairsfor h q
theorem c_judgedL {ns : List Int} {m : Nat} {number paper : D} (hl : ns.length = m) (hf : ∃ l, facM m = some l) (hm : m ≤ 400) (hfit : ∀ x ∈ ns, Fit x) (h1 : Dep 27 number) (h2 : Dep 27 paper) (q : Q (.dat (.bool true))) : Cal (sp__law_judged K) 5 [.dat (.int m), .dat (.list (iL ns)), .dat number, .dat paper, .dat (.bool (provB ns number paper))] Q X := by
  subst hl
  exact c_judged hf hm hfit h1 h2 q
theorem c_provesL {ns : List Int} {m : Nat} {number paper : D} (hl : ns.length = m) (hf : ∃ l, facM m = some l) (hm : m ≤ 400) (q : Q (.dat (.bool (provB ns number paper)))) : Cal (sp__law_proves K) 4 [.dat (.int m), .dat (.list (iL ns)), .dat number, .dat paper] Q X := by
  subst hl
  exact c_proves hf hm q
theorem l_law : d_law K endL (lawSt 17) := by
  ((conv => whnf); repeat (first | (refine Br.t ?_; conv => whnf) | (refine Br.f ?_; conv => whnf)))
  refine ⟨szLine (show 10 < 2 ^ 20 by decide), ?_⟩
  ((conv => whnf); repeat (first | (refine Br.t ?_; conv => whnf) | (refine Br.f ?_; conv => whnf)))
  refine c_pick (fun z => nomatch z) (show 10 < 2 ^ 62 by decide) fun d hd => ?_
  obtain ⟨hh, hhv, rfl⟩ : ∃ h : Nat, (h = 60 ∨ h = 400) ∧ d = .int h := by
    obtain ⟨x, hx, rfl⟩ := List.mem_map.mp (show d ∈ [60, 60, 60, 60, 60, 60, 60, 60, 60, 400].map (fun x : Nat => PyData.int ((x : Nat) : Int)) from hd)
    have : ∀ x ∈ [60, 60, 60, 60, 60, 60, 60, 60, 60, 400], x = 60 ∨ x = 400 := by decide
    exact ⟨x, this x hx, rfl⟩
  clear hd
  ((conv => whnf); repeat (first | (refine Br.t ?_; conv => whnf) | (refine Br.f ?_; conv => whnf)))
  refine c_modulus hhv fun m0 hm2 hmh hf0 => ?_
  ((conv => whnf); repeat (first | (refine Br.t ?_; conv => whnf) | (refine Br.f ?_; conv => whnf)))
  refine ⟨fun δ' => ∃ m : Nat, δ' = [.no, .sto, .dat (.int m), .no, .no, .no, .no, .no, .no, .no, .no, .no, .no, .no, .no, .no, .no] ∧ (∃ l, facM m = some l) ∧ m ≤ 400, ?_, ?_⟩
  · ((conv => whnf); repeat (first | (refine Br.t ?_; conv => whnf) | (refine Br.f ?_; conv => whnf)))
    refine c_seldom (n := 20) (by decide) fun b => ?_
    ((conv => whnf); repeat (first | (refine Br.t ?_; conv => whnf) | (refine Br.f ?_; conv => whnf)))
    refine ⟨fun _ => ⟨400, rfl, facM_okM (by decide) (by decide) (by decide +kernel), Nat.le_refl _⟩, fun _ => ⟨m0, rfl, hf0, by omega⟩⟩
  rintro δ' ⟨m, rfl, hf, hm4⟩
  have hm2 : 2 ≤ m := (facM_some hf.choose_spec).1
  ((conv => whnf); repeat (first | (refine Br.t ?_; conv => whnf) | (refine Br.f ?_; conv => whnf)))
  refine c_showing ⟨by omega, hm4⟩ fun ns hnl hfit => ?_
  subst hnl
  obtain ⟨p0, pd, pl, pm⟩ := lper_ok (ns := ns) (by omega)
  ((conv => whnf); repeat (first | (refine Br.t ?_; conv => whnf) | (refine Br.f ?_; conv => whnf)))
  refine c_period hf hm4 rfl ?_
  ((conv => whnf); repeat (first | (refine Br.t ?_; conv => whnf) | (refine Br.f ?_; conv => whnf)))
  refine c_pairsfor ⟨by omega, hm4, p0, pl⟩ fun es he1 he2 => ?_
  have hel := es_len he1 (by omega)
  have dL : ∀ es : List E3, es.length ≤ 400 → Dep 27 (.list (es.map e3)) := fun es h => .lst (by rw [List.length_map]; omega) fun d hd => by
    obtain ⟨e, _, rfl⟩ := List.mem_map.mp hd
    exact (dep_e3 e).mono (by decide)
  ((conv => whnf); repeat (first | (refine Br.t ?_; conv => whnf) | (refine Br.f ?_; conv => whnf)))
  refine c_judgedE (prov_true (by omega) hm4 hf he1 he2).symm hf hm4 hfit (.int _) (dL es hel) ?_
  ((conv => whnf); repeat (first | (refine Br.t ?_; conv => whnf) | (refine Br.f ?_; conv => whnf)))
  refine ⟨(szLine (by first | exact (by decide : (0 : Nat) < 2 ^ 20) | exact (by decide : (1 : Nat) < 2 ^ 20) | exact (by decide : (2 : Nat) < 2 ^ 20) | exact (by decide : (3 : Nat) < 2 ^ 20) | exact (by decide : (9 : Nat) < 2 ^ 20) | exact (by decide : (10 : Nat) < 2 ^ 20) | omega | (simp only [List.length_append, List.length_map, List.length_cons, List.length_nil]; omega))), ?_⟩
  ((conv => whnf); repeat (first | (refine Br.t ?_; conv => whnf) | (refine Br.f ?_; conv => whnf)))
  refine ⟨(szLine (by first | exact (by decide : (0 : Nat) < 2 ^ 20) | exact (by decide : (1 : Nat) < 2 ^ 20) | exact (by decide : (2 : Nat) < 2 ^ 20) | exact (by decide : (3 : Nat) < 2 ^ 20) | exact (by decide : (9 : Nat) < 2 ^ 20) | exact (by decide : (10 : Nat) < 2 ^ 20) | omega | (simp only [List.length_append, List.length_map, List.length_cons, List.length_nil]; omega))), ?_⟩
  ((conv => whnf); repeat (first | (refine Br.t ?_; conv => whnf) | (refine Br.f ?_; conv => whnf)))
  refine c_divisor ⟨by omega, hm4⟩ fun T2 t20 t2m => ?_
  have t2l : T2 ≤ ns.length := Nat.le_of_dvd (by omega) (Nat.dvd_of_mod_eq_zero t2m)
  ((conv => whnf); repeat (first | (refine Br.t ?_; conv => whnf) | (refine Br.f ?_; conv => whnf)))
  refine c_pairsfor ⟨by omega, hm4, t20, t2l⟩ fun es2 hf1 hf2 => ?_
  have hel2 := es_len hf1 (by omega)
  ((conv => whnf); repeat (first | (refine Br.t ?_; conv => whnf) | (refine Br.f ?_; conv => whnf)))
  refine ⟨(szLine (by first | exact (by decide : (0 : Nat) < 2 ^ 20) | exact (by decide : (1 : Nat) < 2 ^ 20) | exact (by decide : (2 : Nat) < 2 ^ 20) | exact (by decide : (3 : Nat) < 2 ^ 20) | exact (by decide : (9 : Nat) < 2 ^ 20) | exact (by decide : (10 : Nat) < 2 ^ 20) | omega | (simp only [List.length_append, List.length_map, List.length_cons, List.length_nil]; omega))), ?_⟩
  ((conv => whnf); repeat (first | (refine Br.t ?_; conv => whnf) | (refine Br.f ?_; conv => whnf)))
  refine ⟨Nat.lt_of_lt_of_le (show 1 < 2 ^ 20 by decide) szLine', ?_⟩
  ((conv => whnf); repeat (first | (refine Br.t ?_; conv => whnf) | (refine Br.f ?_; conv => whnf)))
  refine c_take (by omega) fun t h1 h2 => ?_
  obtain ⟨cn, hcn, hcl⟩ : ∃ cn : Nat, (1 : Int) + t = (cn : Nat) ∧ 0 < cn ∧ cn ≤ ns.length := ⟨(1 + t).toNat, by omega, by omega, by omega⟩
  ((conv => whnf); repeat (first | (refine Br.t ?_; conv => whnf) | (refine Br.f ?_; conv => whnf)))
  rw [hcn]
  refine ⟨⟨by omega, by omega⟩, ?_⟩
  ((conv => whnf); repeat (first | (refine Br.t ?_; conv => whnf) | (refine Br.f ?_; conv => whnf)))
  refine LcS.some (fun _ d' => ∃ y, d' = PyData.int y ∧ 0 ≤ y ∧ y ≤ 2) (szLine (by rw [rngD_length]; omega)) (fun d hd C hC => ?_) fun fs hfs => ?_
  · obtain ⟨i, hi, rfl⟩ := rngD_mem hd
    ((conv => whnf); repeat (first | (refine Br.t ?_; conv => whnf) | (refine Br.f ?_; conv => whnf)))
    refine c_take (by decide) fun t h3 h4 => ?_
    have h4 : t < 3 := h4
    ((conv => whnf); repeat (first | (refine Br.t ?_; conv => whnf) | (refine Br.f ?_; conv => whnf)))
    exact hC _ ⟨t, rfl, by omega, by omega⟩
  obtain ⟨ff, rfl, hfl, hfb⟩ := paired_ints hfs
  rw [rngD_length, Int.toNat_natCast] at hfl
  ((conv => whnf); repeat (first | (refine Br.t ?_; conv => whnf) | (refine Br.f ?_; conv => whnf)))
  refine ⟨⟨by omega, by omega⟩, ?_⟩
  ((conv => whnf); repeat (first | (refine Br.t ?_; conv => whnf) | (refine Br.f ?_; conv => whnf)))
  refine LcS.some (fun _ d' => ∃ y, d' = PyData.int y ∧ 0 ≤ y ∧ y ≤ 2) (szLine (by rw [rngD_length]; omega)) (fun d hd C hC => ?_) fun gs hgs => ?_
  · obtain ⟨i, hi, rfl⟩ := rngD_mem hd
    ((conv => whnf); repeat (first | (refine Br.t ?_; conv => whnf) | (refine Br.f ?_; conv => whnf)))
    refine ⟨show (0 : Int) < (cn : Int) by omega, ?_⟩
    ((conv => whnf); repeat (first | (refine Br.t ?_; conv => whnf) | (refine Br.f ?_; conv => whnf)))
    have hmod : i % cn < cn := Nat.mod_lt _ hcl.1
    have e : (0 + (i : Int)) % (cn : Int) = ((i % cn : Nat) : Int) := by rw [Int.zero_add, ← Int.natCast_emod]
    rw [e]
    refine ⟨_, atI_iL (i := ((i % cn : Nat) : Int)) (by omega) (by omega), ?_⟩
    ((conv => whnf); repeat (first | (refine Br.t ?_; conv => whnf) | (refine Br.f ?_; conv => whnf)))
    exact hC _ ⟨_, rfl, hfb _ (getD_mem (by omega))⟩
  obtain ⟨th, rfl, htl, htb⟩ := paired_ints hgs
  rw [rngD_length, Int.toNat_natCast] at htl
  have htf : ∀ x ∈ th, Fit x := fun x hx => ⟨by have := htb x hx; omega, by have := htb x hx; omega⟩
  ((conv => whnf); repeat (first | (refine Br.t ?_; conv => whnf) | (refine Br.f ?_; conv => whnf)))
  refine c_pairsforL htl ⟨by omega, hm4, hcl.1, hcl.2⟩ fun es3 hg1 hg2 => ?_
  have hel3 := es_len hg1 (by omega)
  ((conv => whnf); repeat (first | (refine Br.t ?_; conv => whnf) | (refine Br.f ?_; conv => whnf)))
  refine ⟨(szLine (by first | exact (by decide : (0 : Nat) < 2 ^ 20) | exact (by decide : (1 : Nat) < 2 ^ 20) | exact (by decide : (2 : Nat) < 2 ^ 20) | exact (by decide : (3 : Nat) < 2 ^ 20) | exact (by decide : (9 : Nat) < 2 ^ 20) | exact (by decide : (10 : Nat) < 2 ^ 20) | omega | (simp only [List.length_append, List.length_map, List.length_cons, List.length_nil]; omega))), ?_⟩
  ((conv => whnf); repeat (first | (refine Br.t ?_; conv => whnf) | (refine Br.f ?_; conv => whnf)))
  refine ⟨Nat.lt_of_lt_of_le (show 2 < 2 ^ 20 by decide) szLine', ?_⟩
  have k1 : C3 ns.length (.tuple [.list (iL ns), .int (lper ns : Nat), .list (es.map e3)]) := ⟨ns, lper ns, es, rfl, rfl, hfit, ⟨p0, pl⟩, hel, fun e he => (he2 e he).ok⟩
  have k2 : C3 ns.length (.tuple [.list (iL ns), .int (T2 : Nat), .list (es2.map e3)]) := ⟨ns, T2, es2, rfl, rfl, hfit, ⟨t20, t2l⟩, hel2, fun e he => (hf2 e he).ok⟩
  have k3 : C3 ns.length (.tuple [.list (iL th), .int (cn : Nat), .list (es3.map e3)]) := ⟨th, cn, es3, rfl, htl, htf, hcl, hel3, fun e he => (hg2 e he).ok⟩
  ((conv => whnf); repeat (first | (refine Br.t ?_; conv => whnf) | (refine Br.f ?_; conv => whnf)))
  refine ⟨⟨by decide, by decide⟩, ?_⟩
  ((conv => whnf); repeat (first | (refine Br.t ?_; conv => whnf) | (refine Br.f ?_; conv => whnf)))
  refine ⟨fun i δ => ∃ (cs : List D) (a b c d e : Sl), δ = [.no, .sto, .dat (.int ns.length), .dat (.list (iL ns)), .dat (.int (lper ns)), .dat (.list (es.map e3)), .own cs, .dat (.int T2), .dat (.int cn), .dat (.list (iL ff)), .dat (.list (iL th)), a, b, c, d, e, .no] ∧ cs.length = 3 + i ∧ (∀ d ∈ cs, Cs ns.length d) ∧ ∀ j < 3, ∃ d, cs[j]? = some d ∧ C3 ns.length d,
    ⟨[.tuple [.list (iL ns), .int (lper ns : Nat), .list (es.map e3)], .tuple [.list (iL ns), .int (T2 : Nat), .list (es2.map e3)], .tuple [.list (iL th), .int (cn : Nat), .list (es3.map e3)]], _, _, _, _, _, rfl, rfl, fun d hd => ?_, fun j hj => ?_⟩, ?_, ?_⟩
  · rcases List.mem_cons.mp hd with rfl | hd
    · exact k1.cs
    rcases List.mem_cons.mp hd with rfl | hd
    · exact k2.cs
    rcases List.mem_cons.mp hd with rfl | hd
    · exact k3.cs
    cases hd
  · match j, hj with
    | 0, _ => exact ⟨_, rfl, k1⟩
    | 1, _ => exact ⟨_, rfl, k2⟩
    | 2, _ => exact ⟨_, rfl, k3⟩
  · rintro i d δ hd ⟨cs, a, b, c, d', e, rfl, hcl2, hcs, hc3⟩
    obtain ⟨hi, rfl⟩ := rngD_get hd
    have hi : i < 10 := hi
    obtain ⟨j, hj3, hj⟩ : ∃ j : Nat, j < 3 ∧ L2.atI [PyData.int 0, .int 0, .int 0, .int 0, .int 0, .int 0, .int 1, .int 1, .int 2, .int 2] (0 + (i : Int)) = some (.int (j : Nat)) := by
      match i, hi with
      | 0, _ => exact ⟨0, by decide, rfl⟩
      | 1, _ => exact ⟨0, by decide, rfl⟩
      | 2, _ => exact ⟨0, by decide, rfl⟩
      | 3, _ => exact ⟨0, by decide, rfl⟩
      | 4, _ => exact ⟨0, by decide, rfl⟩
      | 5, _ => exact ⟨0, by decide, rfl⟩
      | 6, _ => exact ⟨1, by decide, rfl⟩
      | 7, _ => exact ⟨1, by decide, rfl⟩
      | 8, _ => exact ⟨2, by decide, rfl⟩
      | 9, _ => exact ⟨2, by decide, rfl⟩
    obtain ⟨dd, gd, ⟨ns', T', es', rfl, q1, q2, q3, q4, q5⟩⟩ := hc3 j hj3
    have gj : L2.atI cs ((j : Nat) : Int) = some (.tuple [.list (iL ns'), .int T', .list (es'.map e3)]) := by
      unfold L2.atI
      rw [ixN_nat (by omega) (by omega), Option.bind_some, Int.toNat_natCast, gd]
    ((conv => whnf); repeat (first | (refine Br.t ?_; conv => whnf) | (refine Br.f ?_; conv => whnf)))
    refine ⟨szLine (show 10 < 2 ^ 20 by decide), ?_⟩
    ((conv => whnf); repeat (first | (refine Br.t ?_; conv => whnf) | (refine Br.f ?_; conv => whnf)))
    refine ⟨_, hj, ?_⟩
    ((conv => whnf); repeat (first | (refine Br.t ?_; conv => whnf) | (refine Br.f ?_; conv => whnf)))
    refine ⟨_, gj, ?_⟩
    ((conv => whnf); repeat (first | (refine Br.t ?_; conv => whnf) | (refine Br.f ?_; conv => whnf)))
    refine ⟨rfl, ?_⟩
    ((conv => whnf); repeat (first | (refine Br.t ?_; conv => whnf) | (refine Br.f ?_; conv => whnf)))
    refine c_twist ⟨by omega, hm4, q3.1, by omega⟩ q4 q5 fun x y hx hy => ?_
    ((conv => whnf); repeat (first | (refine Br.t ?_; conv => whnf) | (refine Br.f ?_; conv => whnf)))
    refine ⟨_, rfl, ?_⟩
    ((conv => whnf); repeat (first | (refine Br.t ?_; conv => whnf) | (refine Br.f ?_; conv => whnf)))
    refine ⟨_, rfl, ?_⟩
    ((conv => whnf); repeat (first | (refine Br.t ?_; conv => whnf) | (refine Br.f ?_; conv => whnf)))
    refine ⟨(szLine (by first | exact (by decide : (0 : Nat) < 2 ^ 20) | exact (by decide : (1 : Nat) < 2 ^ 20) | exact (by decide : (2 : Nat) < 2 ^ 20) | exact (by decide : (3 : Nat) < 2 ^ 20) | exact (by decide : (9 : Nat) < 2 ^ 20) | exact (by decide : (10 : Nat) < 2 ^ 20) | omega | (simp only [List.length_append, List.length_map, List.length_cons, List.length_nil]; omega))), ?_⟩
    ((conv => whnf); repeat (first | (refine Br.t ?_; conv => whnf) | (refine Br.f ?_; conv => whnf)))
    refine ⟨Nat.lt_of_lt_of_le (show cs.length < 2 ^ 20 by omega) szLine', ?_⟩
    have kn : Cs ns.length (.tuple [.list (iL ns'), x, y]) := ⟨ns', x, y, rfl, q1, q2, hx, hy⟩
    ((conv => whnf); repeat (first | (refine Br.t ?_; conv => whnf) | (refine Br.f ?_; conv => whnf)))
    refine ⟨_, _, _, _, _, _, rfl, by rw [List.length_append, hcl2]; rfl, fun d hd => ?_, fun j hj => ?_⟩
    · rcases List.mem_append.mp hd with hd | hd
      · exact hcs d hd
      · rw [List.mem_singleton.mp hd]
        exact kn
    · obtain ⟨dd, g, c3⟩ := hc3 j hj
      exact ⟨dd, by rw [List.getElem?_append_left (List.getElem?_eq_some_iff.mp g).1]; exact g, c3⟩
  · rintro δ ⟨cs, a, b, c, d, e, rfl, hcl2, hcs, hc3⟩
    ((conv => whnf); repeat (first | (refine Br.t ?_; conv => whnf) | (refine Br.f ?_; conv => whnf)))
    refine ⟨fun i δ => ∃ (c d e : Sl), δ = [.no, .sto, .dat (.int ns.length), .dat (.list (iL ns)), .dat (.int (lper ns)), .dat (.list (es.map e3)), .dat (.list cs), .dat (.int T2), .dat (.int cn), .dat (.list (iL ff)), .dat (.list (iL th)), a, b, c, d, e, .no], ⟨_, _, _, rfl⟩, ?_, ?_⟩
    · rintro i d δ hd ⟨c, d', e, rfl⟩
      obtain ⟨ns', number, paper, rfl, q1, q2, q3, q4⟩ := (hcs d (List.mem_of_getElem? hd)).h
      ((conv => whnf); repeat (first | (refine Br.t ?_; conv => whnf) | (refine Br.f ?_; conv => whnf)))
      refine ⟨rfl, ?_⟩
      ((conv => whnf); repeat (first | (refine Br.t ?_; conv => whnf) | (refine Br.f ?_; conv => whnf)))
      refine c_provesL q1 hf hm4 ?_
      ((conv => whnf); repeat (first | (refine Br.t ?_; conv => whnf) | (refine Br.f ?_; conv => whnf)))
      refine c_judgedL q1 hf hm4 q2 q3 q4 ?_
      ((conv => whnf); repeat (first | (refine Br.t ?_; conv => whnf) | (refine Br.f ?_; conv => whnf)))
      exact ⟨_, _, _, rfl⟩
    · rintro δ ⟨c, d, e, rfl⟩
      ((conv => whnf); repeat (first | (refine Br.t ?_; conv => whnf) | (refine Br.f ?_; conv => whnf)))
      refine ⟨(szLine (by first | exact (by decide : (0 : Nat) < 2 ^ 20) | exact (by decide : (1 : Nat) < 2 ^ 20) | exact (by decide : (2 : Nat) < 2 ^ 20) | exact (by decide : (3 : Nat) < 2 ^ 20) | exact (by decide : (9 : Nat) < 2 ^ 20) | exact (by decide : (10 : Nat) < 2 ^ 20) | omega | (simp only [List.length_append, List.length_map, List.length_cons, List.length_nil]; omega))), ?_⟩
      ((conv => whnf); repeat (first | (refine Br.t ?_; conv => whnf) | (refine Br.f ?_; conv => whnf)))
      refine ⟨szLine (show 4 < 2 ^ 20 by decide), ?_⟩
      ((conv => whnf); repeat (first | (refine Br.t ?_; conv => whnf) | (refine Br.f ?_; conv => whnf)))
      refine c_pick (fun z => nomatch z) (show 4 < 2 ^ 62 by decide) fun bent _ => ?_
      ((conv => whnf); repeat (first | (refine Br.t ?_; conv => whnf) | (refine Br.f ?_; conv => whnf)))
      refine ⟨(szLine (by first | exact (by decide : (0 : Nat) < 2 ^ 20) | exact (by decide : (1 : Nat) < 2 ^ 20) | exact (by decide : (2 : Nat) < 2 ^ 20) | exact (by decide : (3 : Nat) < 2 ^ 20) | exact (by decide : (9 : Nat) < 2 ^ 20) | exact (by decide : (10 : Nat) < 2 ^ 20) | omega | (simp only [List.length_append, List.length_map, List.length_cons, List.length_nil]; omega))), ?_⟩
      ((conv => whnf); repeat (first | (refine Br.t ?_; conv => whnf) | (refine Br.f ?_; conv => whnf)))
      refine c_pick (fun z => nomatch z) (show 3 < 2 ^ 62 by decide) fun per _ => ?_
      ((conv => whnf); repeat (first | (refine Br.t ?_; conv => whnf) | (refine Br.f ?_; conv => whnf)))
      exact c_refusals hf hm4 rfl hfit rfl
end
end RB

set_option Elab.async false
set_option linter.all false
set_option maxRecDepth 100000
set_option maxHeartbeats 8000000
/-! the defs joined, the head; printed by gen_end.py -/
namespace RB
open PySem PySem.Spec PyProof.Rows L2
section
variable {P : Program} {w : World} {K : PySem.W.Frag} {mg : Str → Option Value} {base : Heap}
theorem okD0 (X : K.In base) (G : base.Ns mainGlobals mg) (c : SaysR fa fn K) {x : Str} {st : Stmt} {ps : List Str} {dsp : DSp} (i : Nat) (hdef : fn[i]? = some (dfd x st)) (g : mg x = some (.ref (He.ga K x)))
    (hbd : ∀ (kV doc pm : Value) (an : Option Addr) (cdv ct : Value) (us : List Value), us.length = ps.length → bindArgs (PySem.W.fnOf x x (defArgs st) (defBody st) (defScope st) .none kV doc pm an cdv ct) ⟨us, []⟩ = pure (ps.zip us)) (no : ∀ rs Q X, ¬ dsp rs Q X) {k : Nat} : Ok P w K mg base k x ps.length dsp := by
  obtain ⟨fd, F, FD⟩ := c.fun_ i hdef
  have no2 : ∀ vs H Q E, ¬ spD K ps.length dsp vs H Q E := fun vs H Q E h => by
    obtain ⟨_, _, _, _, _, _, _, _, _, h, _⟩ := h
    exact no _ _ _ h
  refine ⟨_, fd, ps, ⟨fun vs H Q E h => (no2 _ _ _ _ h).elim, ?_⟩, g, F.kp, FD.bindsN hbd⟩
  intro A outer s H args us vs Q E _ _ _ _ h
  exact (no2 _ _ _ _ h).elim
theorem toldF (c : SaysR fa fn K) : ToldF K := ⟨f_23 c, f_41 c, f_31 c, f_24 c, f_42 c, f_47 c, f_32 c, f_37 c, f_38 c, f_26 c, f_28 c, f_29 c, f_30 c, f_43 c, f_44 c, f_46 c, f_33 c, f_34 c, f_40 c⟩
theorem r_within (X0 : K.In base) (G0 : base.Ns mainGlobals mg) (c : SaysR fa fn K) : Ok P w K mg base 1 "within" 3 (sp_within K) :=
  okD (ps := ["x", "low", "high"]) X0 G0 c 0 rfl (g_48 X0 G0 c) sc_within (fun _ _ _ _ _ _ us hl => match us, hl with | [_, _, _], _ => rfl) (w_within X0 G0 c) (fun rs Q2 X2 _ h => l_within h)
theorem r_factors (X0 : K.In base) (G0 : base.Ns mainGlobals mg) (c : SaysR fa fn K) : Ok P w K mg base 2 "factors" 1 (sp_factors K) :=
  okD (ps := ["m"]) X0 G0 c 1 rfl (g_49 X0 G0 c) sc_factors (fun _ _ _ _ _ _ us hl => match us, hl with | [_], _ => rfl) (w_factors X0 G0 c (r_within X0 G0 c)) (fun rs Q2 X2 _ h => l_factors h)
theorem r_check_modulus (X0 : K.In base) (G0 : base.Ns mainGlobals mg) (c : SaysR fa fn K) : Ok P w K mg base 3 "check_modulus" 1 (sp_check_modulus K) :=
  okD (ps := ["m"]) X0 G0 c 2 rfl (g_50 X0 G0 c) sc_check_modulus (fun _ _ _ _ _ _ us hl => match us, hl with | [_], _ => rfl) (w_check_modulus X0 G0 c (r_factors X0 G0 c)) (fun rs Q2 X2 _ h => l_check_modulus h)
theorem r_whole (X0 : K.In base) (G0 : base.Ns mainGlobals mg) (c : SaysR fa fn K) : Ok P w K mg base 1 "whole" 1 (sp_whole K) :=
  okD (ps := ["x"]) X0 G0 c 3 rfl (g_51 X0 G0 c) sc_whole (fun _ _ _ _ _ _ us hl => match us, hl with | [_], _ => rfl) (w_whole X0 G0 c) (fun rs Q2 X2 _ h => l_whole h)
theorem r_all_entries_fit (X0 : K.In base) (G0 : base.Ns mainGlobals mg) (c : SaysR fa fn K) : Ok P w K mg base 2 "all_entries_fit" 1 (sp_all_entries_fit K) :=
  okD (ps := ["entries"]) X0 G0 c 4 rfl (g_52 X0 G0 c) sc_all_entries_fit (fun _ _ _ _ _ _ us hl => match us, hl with | [_], _ => rfl) (w_all_entries_fit X0 G0 c (r_whole X0 G0 c)) (fun rs Q2 X2 _ h => l_all_entries_fit h)
theorem r_check_length (X0 : K.In base) (G0 : base.Ns mainGlobals mg) (c : SaysR fa fn K) : Ok P w K mg base 1 "check_length" 1 (sp_check_length K) :=
  okD (ps := ["m"]) X0 G0 c 5 rfl (g_53 X0 G0 c) sc_check_length (fun _ _ _ _ _ _ us hl => match us, hl with | [_], _ => rfl) (w_check_length X0 G0 c) (fun rs Q2 X2 _ h => l_check_length h)
theorem r_check_showing (X0 : K.In base) (G0 : base.Ns mainGlobals mg) (c : SaysR fa fn K) : Ok P w K mg base 4 "check_showing" 2 (sp_check_showing K) :=
  okD (ps := ["m", "show"]) X0 G0 c 6 rfl (g_54 X0 G0 c) sc_check_showing (fun _ _ _ _ _ _ us hl => match us, hl with | [_, _], _ => rfl) (w_check_showing X0 G0 c (r_check_length X0 G0 c) (r_all_entries_fit X0 G0 c) (r_check_modulus X0 G0 c)) (fun rs Q2 X2 _ h => l_check_showing h)
theorem r_first_break (X0 : K.In base) (G0 : base.Ns mainGlobals mg) (c : SaysR fa fn K) : Ok P w K mg base 1 "first_break" 2 (sp_first_break K) :=
  okD (ps := ["entries", "step"]) X0 G0 c 7 rfl (g_55 X0 G0 c) sc_first_break (fun _ _ _ _ _ _ us hl => match us, hl with | [_, _], _ => rfl) (w_first_break X0 G0 c) (fun rs Q2 X2 _ h => l_first_break h)
theorem r_primes_of (X0 : K.In base) (G0 : base.Ns mainGlobals mg) (c : SaysR fa fn K) : Ok P w K mg base 3 "primes_of" 1 (sp_primes_of K) :=
  okD (ps := ["period"]) X0 G0 c 8 rfl (g_56 X0 G0 c) sc_primes_of (fun _ _ _ _ _ _ us hl => match us, hl with | [_], _ => rfl) (w_primes_of X0 G0 c (r_factors X0 G0 c)) (fun rs Q2 X2 _ h => l_primes_of h)
theorem r_shows_pair (X0 : K.In base) (G0 : base.Ns mainGlobals mg) (c : SaysR fa fn K) : Ok P w K mg base 2 "shows_pair" 4 (sp_shows_pair K) :=
  okD (ps := ["show", "p", "step", "pair"]) X0 G0 c 9 rfl (g_57 X0 G0 c) sc_shows_pair (fun _ _ _ _ _ _ us hl => match us, hl with | [_, _, _, _], _ => rfl) (w_shows_pair X0 G0 c (r_whole X0 G0 c)) (fun rs Q2 X2 _ h => l_shows_pair h)
theorem r_shows_period (X0 : K.In base) (G0 : base.Ns mainGlobals mg) (c : SaysR fa fn K) : Ok P w K mg base 5 "shows_period" 4 (sp_shows_period K) :=
  okD (ps := ["m", "show", "period", "pairs"]) X0 G0 c 10 rfl (g_58 X0 G0 c) sc_shows_period (fun _ _ _ _ _ _ us hl => match us, hl with | [_, _, _, _], _ => rfl) (w_shows_period X0 G0 c (r_shows_pair X0 G0 c) (r_primes_of X0 G0 c) (r_first_break X0 G0 c) (r_whole X0 G0 c) (r_check_showing X0 G0 c)) (fun rs Q2 X2 _ h => l_shows_period h)
theorem r__law_mixed (X0 : K.In base) (G0 : base.Ns mainGlobals mg) (c : SaysR fa fn K) : Ok P w K mg base 1 "_law_mixed" 2 (sp__law_mixed K) :=
  okD (ps := ["number", "turn"]) X0 G0 c 11 rfl (g_59 X0 G0 c) sc__law_mixed (fun _ _ _ _ _ _ us hl => match us, hl with | [_, _], _ => rfl) (w__law_mixed X0 G0 c) (fun rs Q2 X2 _ h => l__law_mixed h)
theorem r__law_take (X0 : K.In base) (G0 : base.Ns mainGlobals mg) (c : SaysR fa fn K) : Ok P w K mg base 2 "_law_take" 2 spTake :=
  okD (ps := ["store", "many"]) X0 G0 c 12 rfl (g_60 X0 G0 c) sc__law_take (fun _ _ _ _ _ _ us hl => match us, hl with | [_, _], _ => rfl) (w__law_take X0 G0 c (r__law_mixed X0 G0 c)) (fun rs Q2 X2 _ h => l__law_take h)
theorem r__law_takewide (X0 : K.In base) (G0 : base.Ns mainGlobals mg) (c : SaysR fa fn K) : Ok P w K mg base 3 "_law_takewide" 2 (sp__law_takewide K) :=
  okD (ps := ["store", "many"]) X0 G0 c 13 rfl (g_61 X0 G0 c) sc__law_takewide (fun _ _ _ _ _ _ us hl => match us, hl with | [_, _], _ => rfl) (w__law_takewide X0 G0 c (r__law_take X0 G0 c)) (fun rs Q2 X2 _ h => l__law_takewide h)
theorem r__law_seldom (X0 : K.In base) (G0 : base.Ns mainGlobals mg) (c : SaysR fa fn K) : Ok P w K mg base 3 "_law_seldom" 2 (sp__law_seldom K) :=
  okD (ps := ["store", "many"]) X0 G0 c 14 rfl (g_62 X0 G0 c) sc__law_seldom (fun _ _ _ _ _ _ us hl => match us, hl with | [_, _], _ => rfl) (w__law_seldom X0 G0 c (r__law_take X0 G0 c)) (fun rs Q2 X2 _ h => l__law_seldom h)
theorem r__law_pick (X0 : K.In base) (G0 : base.Ns mainGlobals mg) (c : SaysR fa fn K) : Ok P w K mg base 3 "_law_pick" 2 (sp__law_pick K) :=
  okD (ps := ["store", "items"]) X0 G0 c 15 rfl (g_63 X0 G0 c) sc__law_pick (fun _ _ _ _ _ _ us hl => match us, hl with | [_, _], _ => rfl) (w__law_pick X0 G0 c (r__law_take X0 G0 c)) (fun rs Q2 X2 _ h => l__law_pick h)
theorem r__law_whole (X0 : K.In base) (G0 : base.Ns mainGlobals mg) (c : SaysR fa fn K) : Ok P w K mg base 4 "_law_whole" 3 (sp__law_whole K) :=
  okD (ps := ["store", "low", "high"]) X0 G0 c 16 rfl (g_64 X0 G0 c) sc__law_whole (fun _ _ _ _ _ _ us hl => match us, hl with | [_, _, _], _ => rfl) (w__law_whole X0 G0 c (r__law_takewide X0 G0 c) (r__law_seldom X0 G0 c) (r__law_pick X0 G0 c)) (fun rs Q2 X2 _ h => l__law_whole h)
theorem r__law_order (X0 : K.In base) (G0 : base.Ns mainGlobals mg) (c : SaysR fa fn K) : Ok P w K mg base 3 "_law_order" 2 (sp__law_order K) :=
  okD (ps := ["store", "n"]) X0 G0 c 17 rfl (g_65 X0 G0 c) sc__law_order (fun _ _ _ _ _ _ us hl => match us, hl with | [_, _], _ => rfl) (w__law_order X0 G0 c (r__law_take X0 G0 c)) (fun rs Q2 X2 _ h => l__law_order h)
theorem r__law_power (X0 : K.In base) (G0 : base.Ns mainGlobals mg) (c : SaysR fa fn K) : Ok P w K mg base 1 "_law_power" 2 (sp__law_power K) :=
  okD (ps := ["base", "e"]) X0 G0 c 18 rfl (g_66 X0 G0 c) sc__law_power (fun _ _ _ _ _ _ us hl => match us, hl with | [_, _], _ => rfl) (w__law_power X0 G0 c) (fun rs Q2 X2 _ h => l__law_power h)
theorem r__law_factors (X0 : K.In base) (G0 : base.Ns mainGlobals mg) (c : SaysR fa fn K) : Ok P w K mg base 1 "_law_factors" 1 (sp__law_factors K) :=
  okD (ps := ["m"]) X0 G0 c 19 rfl (g_67 X0 G0 c) sc__law_factors (fun _ _ _ _ _ _ us hl => match us, hl with | [_], _ => rfl) (w__law_factors X0 G0 c) (fun rs Q2 X2 _ h => l__law_factors h)
theorem r__law_divisors (X0 : K.In base) (G0 : base.Ns mainGlobals mg) (c : SaysR fa fn K) : Ok P w K mg base 2 "_law_divisors" 1 (sp__law_divisors K) :=
  okD (ps := ["m"]) X0 G0 c 20 rfl (g_68 X0 G0 c) sc__law_divisors (fun _ _ _ _ _ _ us hl => match us, hl with | [_], _ => rfl) (w__law_divisors X0 G0 c (r__law_factors X0 G0 c)) (fun rs Q2 X2 _ h => l__law_divisors h)
theorem r__law_modulus (X0 : K.In base) (G0 : base.Ns mainGlobals mg) (c : SaysR fa fn K) : Ok P w K mg base 4 "_law_modulus" 2 (sp__law_modulus K) :=
  okD (ps := ["store", "high"]) X0 G0 c 21 rfl (g_69 X0 G0 c) sc__law_modulus (fun _ _ _ _ _ _ us hl => match us, hl with | [_, _], _ => rfl) (w__law_modulus X0 G0 c (r__law_take X0 G0 c) (r__law_seldom X0 G0 c) (r__law_pick X0 G0 c)) (fun rs Q2 X2 _ h => l__law_modulus h)
theorem r__law_divisor (X0 : K.In base) (G0 : base.Ns mainGlobals mg) (c : SaysR fa fn K) : Ok P w K mg base 5 "_law_divisor" 2 (sp__law_divisor K) :=
  okD (ps := ["store", "m"]) X0 G0 c 22 rfl (g_70 X0 G0 c) sc__law_divisor (fun _ _ _ _ _ _ us hl => match us, hl with | [_, _], _ => rfl) (w__law_divisor X0 G0 c (r__law_factors X0 G0 c) (r__law_power X0 G0 c) (r__law_whole X0 G0 c) (r__law_take X0 G0 c)) (fun rs Q2 X2 _ h => l__law_divisor h)
theorem r__law_same (X0 : K.In base) (G0 : base.Ns mainGlobals mg) (c : SaysR fa fn K) : ∀ n : Nat, Ok P w K mg base (0 + n) "_law_same" 2 (sp__law_same n)
  | 0 => okD0 (ps := ["actual", "due"]) X0 G0 c 23 rfl (g_71 X0 G0 c) (fun _ _ _ _ _ _ us hl => match us, hl with | [_, _], _ => rfl) (fun rs Q X h => by obtain ⟨_, _, h, _⟩ := h; cases h)
  | n + 1 => okD (ps := ["actual", "due"]) X0 G0 c 23 rfl (g_71 X0 G0 c) sc__law_same (fun _ _ _ _ _ _ us hl => match us, hl with | [_, _], _ => rfl) (w__law_same X0 G0 c (r__law_same X0 G0 c n)) (fun rs Q2 X2 _ h => l__law_same n h)
theorem r__law_copy (X0 : K.In base) (G0 : base.Ns mainGlobals mg) (c : SaysR fa fn K) : ∀ n : Nat, Ok P w K mg base (0 + n) "_law_copy" 2 (sp__law_copy n)
  | 0 => okD0 (ps := ["thing", "deep"]) X0 G0 c 24 rfl (g_72 X0 G0 c) (fun _ _ _ _ _ _ us hl => match us, hl with | [_, _], _ => rfl) (fun rs Q X h => by obtain ⟨_, _, _, h, _⟩ := h; cases h)
  | n + 1 => okD (ps := ["thing", "deep"]) X0 G0 c 24 rfl (g_72 X0 G0 c) sc__law_copy (fun _ _ _ _ _ _ us hl => match us, hl with | [_, _], _ => rfl) (w__law_copy X0 G0 c (r__law_copy X0 G0 c n)) (fun rs Q2 X2 _ h => l__law_copy n h)
theorem r__law_within (X0 : K.In base) (G0 : base.Ns mainGlobals mg) (c : SaysR fa fn K) : Ok P w K mg base 1 "_law_within" 3 (sp__law_within K) :=
  okD (ps := ["thing", "low", "high"]) X0 G0 c 25 rfl (g_73 X0 G0 c) sc__law_within (fun _ _ _ _ _ _ us hl => match us, hl with | [_, _, _], _ => rfl) (w__law_within X0 G0 c) (fun rs Q2 X2 _ h => l__law_within h)
theorem r__law_kindbent (X0 : K.In base) (G0 : base.Ns mainGlobals mg) (c : SaysR fa fn K) : ∀ n : Nat, Ok P w K mg base (3 + n) "_law_kindbent" 3 (sp__law_kindbent n)
  | 0 => okD0 (ps := ["store", "paper", "deep"]) X0 G0 c 26 rfl (g_74 X0 G0 c) (fun _ _ _ _ _ _ us hl => match us, hl with | [_, _, _], _ => rfl) (fun rs Q X h => by obtain ⟨_, _, _, _, h, _⟩ := h; exact absurd h (Nat.not_lt_zero _))
  | n + 1 => okD (ps := ["store", "paper", "deep"]) X0 G0 c 26 rfl (g_74 X0 G0 c) sc__law_kindbent (fun _ _ _ _ _ _ us hl => match us, hl with | [_, _, _], _ => rfl) (w__law_kindbent X0 G0 c (r__law_pick X0 G0 c) (r__law_take X0 G0 c) (r__law_kindbent X0 G0 c n)) (fun rs Q2 X2 _ h => l__law_kindbent n h)
theorem r__law_oddpaper (X0 : K.In base) (G0 : base.Ns mainGlobals mg) (c : SaysR fa fn K) : Ok P w K mg base 4 "_law_oddpaper" 1 (sp__law_oddpaper K) :=
  okD (ps := ["store"]) X0 G0 c 27 rfl (g_75 X0 G0 c) sc__law_oddpaper (fun _ _ _ _ _ _ us hl => match us, hl with | [_], _ => rfl) (w__law_oddpaper X0 G0 c (r__law_take X0 G0 c) (r__law_seldom X0 G0 c) (r__law_pick X0 G0 c)) (fun rs Q2 X2 _ h => l__law_oddpaper h)
theorem r__law_badlist (X0 : K.In base) (G0 : base.Ns mainGlobals mg) (c : SaysR fa fn K) : Ok P w K mg base 4 "_law_badlist" 6 (sp__law_badlist K) :=
  okD (ps := ["store", "good", "least", "most", "low", "high"]) X0 G0 c 28 rfl (g_76 X0 G0 c) sc__law_badlist (fun _ _ _ _ _ _ us hl => match us, hl with | [_, _, _, _, _, _], _ => rfl) (w__law_badlist X0 G0 c (r__law_pick X0 G0 c) (r__law_take X0 G0 c)) (fun rs Q2 X2 _ h => l__law_badlist h)
theorem r__law_showdraw (X0 : K.In base) (G0 : base.Ns mainGlobals mg) (c : SaysR fa fn K) : Ok P w K mg base 6 "_law_showdraw" 2 (sp__law_showdraw K) :=
  okD (ps := ["store", "m"]) X0 G0 c 29 rfl (g_77 X0 G0 c) sc__law_showdraw (fun _ _ _ _ _ _ us hl => match us, hl with | [_, _], _ => rfl) (w__law_showdraw X0 G0 c (r__law_seldom X0 G0 c) (r__law_take X0 G0 c) (r__law_pick X0 G0 c) (r__law_divisor X0 G0 c)) (fun rs Q2 X2 _ h => l__law_showdraw h)
theorem r__law_period (X0 : K.In base) (G0 : base.Ns mainGlobals mg) (c : SaysR fa fn K) : Ok P w K mg base 3 "_law_period" 2 (sp__law_period K) :=
  okD (ps := ["m", "show"]) X0 G0 c 30 rfl (g_78 X0 G0 c) sc__law_period (fun _ _ _ _ _ _ us hl => match us, hl with | [_, _], _ => rfl) (w__law_period X0 G0 c (r__law_divisors X0 G0 c)) (fun rs Q2 X2 _ h => l__law_period h)
theorem r__law_primes (X0 : K.In base) (G0 : base.Ns mainGlobals mg) (c : SaysR fa fn K) : Ok P w K mg base 1 "_law_primes" 1 (sp__law_primes K) :=
  okD (ps := ["number"]) X0 G0 c 31 rfl (g_79 X0 G0 c) sc__law_primes (fun _ _ _ _ _ _ us hl => match us, hl with | [_], _ => rfl) (w__law_primes X0 G0 c) (fun rs Q2 X2 _ h => l__law_primes h)
theorem r__law_parts (X0 : K.In base) (G0 : base.Ns mainGlobals mg) (c : SaysR fa fn K) : Ok P w K mg base 2 "_law_parts" 5 (sp__law_parts K) :=
  okD (ps := ["m", "show", "period", "p", "entry"]) X0 G0 c 32 rfl (g_80 X0 G0 c) sc__law_parts (fun _ _ _ _ _ _ us hl => match us, hl with | [_, _, _, _, _], _ => rfl) (w__law_parts X0 G0 c (r__law_within X0 G0 c)) (fun rs Q2 X2 _ h => l__law_parts h)
theorem r__law_proves (X0 : K.In base) (G0 : base.Ns mainGlobals mg) (c : SaysR fa fn K) : Ok P w K mg base 3 "_law_proves" 4 (sp__law_proves K) :=
  okD (ps := ["m", "show", "period", "pairs"]) X0 G0 c 33 rfl (g_81 X0 G0 c) sc__law_proves (fun _ _ _ _ _ _ us hl => match us, hl with | [_, _, _, _], _ => rfl) (w__law_proves X0 G0 c (r__law_parts X0 G0 c) (r__law_primes X0 G0 c) (r__law_within X0 G0 c)) (fun rs Q2 X2 _ h => l__law_proves h)
theorem r__law_pairsfor (X0 : K.In base) (G0 : base.Ns mainGlobals mg) (c : SaysR fa fn K) : Ok P w K mg base 3 "_law_pairsfor" 4 (sp__law_pairsfor K) :=
  okD (ps := ["store", "m", "show", "period"]) X0 G0 c 34 rfl (g_82 X0 G0 c) sc__law_pairsfor (fun _ _ _ _ _ _ us hl => match us, hl with | [_, _, _, _], _ => rfl) (w__law_pairsfor X0 G0 c (r__law_primes X0 G0 c) (r__law_take X0 G0 c)) (fun rs Q2 X2 _ h => l__law_pairsfor h)
theorem r__law_showing (X0 : K.In base) (G0 : base.Ns mainGlobals mg) (c : SaysR fa fn K) : Ok P w K mg base 7 "_law_showing" 2 (sp__law_showing K) :=
  okD (ps := ["store", "m"]) X0 G0 c 35 rfl (g_83 X0 G0 c) sc__law_showing (fun _ _ _ _ _ _ us hl => match us, hl with | [_, _], _ => rfl) (w__law_showing X0 G0 c (r__law_showdraw X0 G0 c) (r__law_take X0 G0 c) (r__law_pick X0 G0 c) (r__law_divisor X0 G0 c) (r__law_order X0 G0 c)) (fun rs Q2 X2 _ h => l__law_showing h)
theorem r__law_twist (X0 : K.In base) (G0 : base.Ns mainGlobals mg) (c : SaysR fa fn K) : Ok P w K mg base 34 "_law_twist" 4 (sp__law_twist K) :=
  okD (ps := ["store", "m", "period", "pairs"]) X0 G0 c 36 rfl (g_84 X0 G0 c) sc__law_twist (fun _ _ _ _ _ _ us hl => match us, hl with | [_, _, _, _], _ => rfl) (w__law_twist X0 G0 c (r__law_pick X0 G0 c) (r__law_take X0 G0 c) (r__law_kindbent X0 G0 c 30) (r__law_oddpaper X0 G0 c)) (fun rs Q2 X2 _ h => l__law_twist h)
theorem r__law_judged (X0 : K.In base) (G0 : base.Ns mainGlobals mg) (c : SaysR fa fn K) : Ok P w K mg base 31 "_law_judged" 5 (sp__law_judged K) :=
  okD (ps := ["m", "show", "period", "pairs", "due"]) X0 G0 c 37 rfl (g_85 X0 G0 c) sc__law_judged (fun _ _ _ _ _ _ us hl => match us, hl with | [_, _, _, _, _], _ => rfl) (w__law_judged X0 G0 c (r__law_same X0 G0 c 30) (r_shows_period X0 G0 c) (r__law_copy X0 G0 c 30)) (fun rs Q2 X2 _ h => l__law_judged h)
theorem r__law_refusal (X0 : K.In base) (G0 : base.Ns mainGlobals mg) (c : SaysR fa fn K) : Ok P w K mg base 6 "_law_refusal" 4 (sp__law_refusal K) :=
  okD (ps := ["m", "show", "period", "pairs"]) X0 G0 c 38 rfl (g_86 X0 G0 c) sc__law_refusal (fun _ _ _ _ _ _ us hl => match us, hl with | [_, _, _, _], _ => rfl) (w__law_refusal X0 G0 c (r_shows_period X0 G0 c)) (fun rs Q2 X2 _ h => l__law_refusal (toldF c) h)
theorem r__law_refusals (X0 : K.In base) (G0 : base.Ns mainGlobals mg) (c : SaysR fa fn K) : Ok P w K mg base 7 "_law_refusals" 5 (sp__law_refusals K) :=
  okD (ps := ["store", "m", "show", "period", "pairs"]) X0 G0 c 39 rfl (g_87 X0 G0 c) sc__law_refusals (fun _ _ _ _ _ _ us hl => match us, hl with | [_, _, _, _, _], _ => rfl) (w__law_refusals X0 G0 c (r__law_refusal X0 G0 c) (r__law_pick X0 G0 c) (r__law_badlist X0 G0 c)) (fun rs Q2 X2 _ h => l__law_refusals h)
theorem sc__law_open : FnScope ["script", "prime", "base", "cell"] ["script"] (defScope (top 27)) := ⟨rfl, rfl, rfl, by decide +kernel, rfl, by decide +kernel, by decide +kernel⟩
theorem r__law_open (X0 : K.In base) (G0 : base.Ns mainGlobals mg) (c : SaysR fa fn K) : ∃ f fd, FnOk P w K mg base (L2.CX P w) 1 f fd ["script"] (spOpen K) ∧ mg "_law_open" = some (.ref f) ∧ PySem.W.keepIn K (.ref f) = true ∧ Binds K fd ["script"] [] := by
  obtain ⟨fd, F, FD⟩ := c.fun_ 41 (x := "_law_open") (st := top 27) rfl
  refine ⟨_, fd, F.okX sc__law_open (fun vs H Q E h => by obtain ⟨a, ns, rfl, _⟩ := h; rfl) (fun cdv A outer s H vs Q E hr h => ⟨_, pss_cons (ps_set (i := 1) sc__law_open.nd rfl (.inl rfl) pe_int) (pss_cons (ps_set (i := 2) sc__law_open.nd rfl (.inl rfl) pe_int)
    (pss_cons (ps_for (passes_of rfl) rfl (pi_list (pv 0)) (pg_name (i := 3) sc__law_open.nd rfl (.inl rfl)) (pss_one (ps_set (i := 2) sc__law_open.nd rfl (.inl rfl) (pe_op op_mod (pe_callTy call_int1 rfl (g_0 X0 G0 c) boot_int (pa_cons (pe_op op_add (pe_op op_add (pe_op op_mul (pv 2) pe_int) (pe_op op_mod (pe_callTy call_int1 rfl (g_0 X0 G0 c) boot_int (pa_cons (pv 3) pa_nil)) (pv 1))) pe_int) pa_nil)) (pv 1)))))
    (pss_one (ps_ret (pe_lst (pa_cons (pe_callTy call_list_of rfl (g_11 X0 G0 c) boot_list (pa_cons (pv 0) pa_nil)) (pa_cons pe_int (pa_cons pe_int (pa_cons pe_int (pa_cons pe_int (pa_cons pe_int (pa_cons (pv 2) pa_nil)))))))))))), ?_⟩), g_89 X0 G0 c, F.kp, FD.bindsN (fun _ _ _ _ _ _ us hl => match us, hl with | [_], _ => rfl)⟩
  obtain ⟨a, ns, rfl, hS, hl, hq⟩ := h
  refine ⟨_, rfl, ⟨_, rfl, ⟨_, hS⟩, ?_⟩⟩
  refine ⟨fun i m σ H1 => H1 = H ∧ i ≤ ns.length ∧ m = ns.length - i ∧ ∃ (b : Int) (z : Option V), σ = [some (.ref a), some (.int 2305843009213693951), some (.int b), z] , ⟨ns.length, rfl, Nat.zero_le _, rfl, 11, _, rfl⟩, ?_⟩
  rintro i m σ H1 ⟨rfl, hi, rfl, b, z, rfl⟩
  have hlen : (ns.map V.int).length = ns.length := List.length_map ..
  by_cases hlt : i < ns.length
  · have hg : (ns.map V.int)[i]? = some (.int ns[i]) := by rw [List.getElem?_map, List.getElem?_eq_getElem hlt]; rfl
    refine .inr ⟨⟨_, _, hS, hg⟩, fun σ' H' => H' = H1 ∧ ∃ (b : Int) (z : Option V), σ' = [some (.ref a), some (.int 2305843009213693951), some (.int b), z], fun σ' H' ⟨e1, b, z, e2⟩ => ⟨ns.length - (i + 1), by omega, e1, hlt, rfl, b, z, e2⟩, ?_⟩
    rintro x H' ⟨rfl, hx⟩
    obtain rfl : x = .int ns[i] := Option.some.inj ((hx _ hS).symm.trans hg)
    refine ⟨_, rfl, _, _, rfl, rfl, .inr ⟨by decide, by decide⟩, _, rfl, .inl ⟨_, rfl, _, rfl, _, _, rfl, rfl, (show (0 : Int) < 2305843009213693951 by decide), _, _, rfl, rfl, _, _, rfl, rfl, .inl ⟨_, rfl, _, rfl, _, _, rfl, rfl, (show (0 : Int) < 2305843009213693951 by decide), ?_⟩⟩⟩
    exact ⟨rfl, _, _, rfl⟩
  · refine .inl ⟨⟨_, hS, by rw [hlen]; omega⟩, ?_⟩
    refine ⟨_, rfl, a, _, rfl, .inl hS, fun cc hc => ?_⟩
    exact ⟨_, rfl, (by decide : 7 ≤ sizeLine), fun p hp => hq cc p b hc hp⟩
theorem r_law (X0 : K.In base) (G0 : base.Ns mainGlobals mg) (c : SaysR fa fn K) {fd : FuncData} (F : Fun K "law" "law" (top 56) (He.ga K "law") fd) : FnOk P w K mg base (L2.CX P w) 35 (He.ga K "law") fd ["script"] (spLaw K) := by
  obtain ⟨fo, fdo, FO, hmo, hko, hbo⟩ := r__law_open (P := P) (w := w) X0 G0 c
  refine F.okX sc_law (fun vs H Q E h => by obtain ⟨a, ns, rfl, _⟩ := h; rfl) (fun cdv A outer s H vs Q E hr h => ⟨_, pss_cons (ps_set (i := 1) sc_law.nd rfl (by first | exact .inl rfl | exact .inr rfl) (pe_callS (E := WE (WE0 E)) FO (hr.mono (by decide)) rfl hmo hko hbo (fun σ => passAt (takes_of rfl rfl rfl rfl) σ) (pa_cons (pv 0) pa_nil)))
    (w_law X0 G0 c (r__law_refusals X0 G0 c) (r__law_pick X0 G0 c) (r__law_judged X0 G0 c) (r__law_proves X0 G0 c) (r__law_twist X0 G0 c) (r__law_pairsfor X0 G0 c) (r__law_take X0 G0 c) (r__law_divisor X0 G0 c) (r__law_period X0 G0 c) (r__law_showing X0 G0 c) (r__law_seldom X0 G0 c) (r__law_modulus X0 G0 c) _ cdv A outer s H E hr (takes_of rfl rfl rfl rfl) (passes_of rfl)), ?_⟩)
  obtain ⟨a, ns, rfl, hS, hl, hq⟩ := h
  refine ⟨_, rfl, a, ns, rfl, hS, Nat.le_trans hl (by decide), fun cc p b hc hp => ?_⟩
  exact law_lS (n := 17) hc hp rfl rfl hq l_law
end
def nm0 : List Str := ["RingError", "BadPoly", "BadModulus", "BadNumber", "BadRow", "TooLong", "GREATEST", "PRIMES", "LARGE", "LONGEST", "within", "factors", "check_modulus", "whole", "all_entries_fit", "check_length", "check_showing", "first_break", "primes_of", "shows_pair", "shows_period", "_law_mixed", "_law_open", "_law_take", "_law_takewide", "_law_seldom", "_law_pick", "_law_whole", "_law_order", "_law_power"]
def nm1 : List Str := ["_law_factors", "_law_divisors", "_law_modulus", "_law_divisor", "_law_same", "_law_copy", "_law_within", "_law_kindbent", "_law_oddpaper", "_law_badlist", "_law_showdraw", "_law_period", "_law_primes", "_law_parts", "_law_proves", "_law_pairsfor", "_law_showing", "_law_twist", "_law_judged", "_law_refusal", "_law_refusals"]
abbrev R : PySem.W.OpenRow := PySem.W.OpenLaw.row PySem.Challenge.rw_ringofall_k23_shows_period
abbrev hk : PySem.W.Hook := hookR 5 fa fn
def ob (s : PySem.W.SharedT) : He.AlD := obsRG 5 fa fn (HandSHeadRun.getT s)
theorem ob_eq (s : PySem.W.SharedT) : ob s = hk.obs s.abs := obsRG_eq (HandSHeadRun.getT_eq s)
theorem run (w : World) : HandSHeadRun.RunEq R (PySem.W.view R.prog [56]) hk ob 3000 (nm0 ++ nm1) w := by
  intro os
  kernel_rfl
theorem facts {P : Program} {w : World} {K : PySem.W.Frag} {h : Heap} {mg : Str → Option Value} {f : Addr} (X : K.In h) (G : h.Ns mainGlobals mg) (hfa : mg ("law" : Str) = some (.ref f)) (c : SaysR fa fn K) :
    ∃ fd : FuncData, (∀ (s : Shared) (v : Value), BindsTo s fd ⟨[v], []⟩ [("script", v)]) ∧ ∀ base : Heap, K.In base → base.Ns mainGlobals mg → FnOk P w K mg base (L2.CX P w) 35 f fd ["script"] (spLaw K) := by
  obtain ⟨fd, F, FD⟩ := c.fun_ 40 (x := "law") (st := top 56) rfl
  have e := hfa.symm.trans (g_88 X G c)
  cases e
  have b := FunD.bindsA (ps := ["script"]) FD fun _ _ _ _ _ _ us hl => match us, hl with | [_], _ => rfl
  exact ⟨fd, fun s v => b s [v] rfl, fun base X0 G0 => r_law X0 G0 c F⟩
end RB
open PySem PySem.W PySem.Calls PyProof.Rows
theorem PySem.Challenge.cw_ringofall_k23_shows_period_holds : PySem.Challenge.rw_ringofall_k23_shows_period.Holds := by
  w_on; o_law
  refine HandSHeadRun.head_any (r := OpenLaw.row PySem.Challenge.rw_ringofall_k23_shows_period) (q := view (OpenLaw.row PySem.Challenge.rw_ringofall_k23_shows_period).prog [56]) (H := RB.hk) (ob := RB.ob) (M := 3000) (loose := RB.nm0 ++ RB.nm1) (d := HandSHeadRun.topDef (OpenLaw.row PySem.Challenge.rw_ringofall_k23_shows_period).prog 56) (kwd := []) RB.ob_eq
    (by kernel_rfl) (fun s => by kernel_rfl) RB.run (by kernel_rfl) (by kernel_rfl) (by kernel_rfl) (by rfl) (by first | assumption | decide +kernel) (by decide +kernel) ⟨rfl, rfl, rfl, rfl, rfl, by decide +kernel⟩ ?hw ?hc
  case hw => w_witness2
  case hc =>
    refine RB.walkW (l := PySem.Challenge.rw_ringofall_k23_shows_period) (n := 63) (k := 35) (x := "script") rfl (by decide) (by kernel_rfl) ⟨rfl, by decide, by decide⟩ ?F
    case F =>
      intro w mg fa h Y G hmg0
      obtain ⟨K, KX, c⟩ := Y
      have hmg : mg ("law" : PySem.Str) = some (.ref fa) := by
        have e : (HandSHeadRun.topDef (OpenLaw.row PySem.Challenge.rw_ringofall_k23_shows_period).prog 56).name = ("law" : PySem.Str) := by kernel_rfl
        rw [← e]
        exact hmg0
      obtain ⟨fd, hb, hF⟩ := RB.facts (P := (PySem.Challenge.rw_ringofall_k23_shows_period).prog) (w := w) KX G hmg c
      exact ⟨K, fd, RB.spLaw K, KX, hb, fun H a ns hl _ hS => ⟨a, ns, rfl, hS, hl, fun _ => rfl⟩, hF⟩
