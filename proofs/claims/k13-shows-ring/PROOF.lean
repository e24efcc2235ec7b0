import PyProof.Rows.All
import Wide.All
import OpenK.AllK
import Wide.FinOn
import HandS.ForExc
import HandS.Comp
import HandS.Iter
import HandS.Text
import HandS.IsInst
import HandS.TryMany
import HandS.ExcIs
import HandS.Wide
import HandS.WideBits
import HandS.SortInts
import HandS.CallSlots
import HandS.Style
import HandS.TupAny
import HandS.Flow
import HandS.Conv
import HandS.ExcCtx
import HandS.HeadNt
import HandS.HeadHook2
import HandS.HeadEnd
import HandS.Head2
import KE.KStateDown
import PySem.Challenge.RW_ringofall_k13_shows_ring
import HandS.Zip
import HandS.Dict
import HandS.WordsDict
import HandS.HotCalls
import HandS.NoneIn
import HandS.Flt
import PyProof.ReprRoads
import PyProof.CallFns
import PyProof.ReprText
import PyProof.FitsInt
import PyProof.IsRules
import KE.SortData
import HandS.Strs
import HandS.SetBool

set_option Elab.async false
set_option linter.all false
set_option maxRecDepth 100000
set_option maxHeartbeats 4000000
/-! RB1: the data layer: values are data (PyData), lists that a def makes are its own until they are handed on, the store of draws is opaque -/
namespace RB
open PySem PySem.Spec PyProof.Rows L2

abbrev D := PyData
abbrev St := L2.St
/-! ### data at a value, over the frozen heap G -/
mutual
inductive Dt (K : PySem.W.Frag) (G : Hp) : V → D → Prop
  | non : Dt K G .non .none
  | bl (b : Bool) : Dt K G (.bl b) (.bool b)
  | int (i : Int) : Dt K G (.int i) (.int i)
  | str (x : Str) : Dt K G (.str x) (.str x)
  | lst {a : Addr} {xs : List V} {ds : List D} : G a = some (.lst xs) → DtA K G xs ds → Dt K G (.ref a) (.list ds)
  | tup {a : Addr} {xs : List V} {ds : List D} : SqT K G a xs → DtA K G xs ds → Dt K G (.ref a) (.tuple ds)
inductive DtA (K : PySem.W.Frag) (G : Hp) : List V → List D → Prop
  | nil : DtA K G [] []
  | cons {v : V} {vs : List V} {d : D} {ds : List D} : Dt K G v d → DtA K G vs ds → DtA K G (v :: vs) (d :: ds)
end
theorem same_sqT {K : PySem.W.Frag} {H H' : Hp} {a : Addr} {xs : List V} (e : Same H H') (h : SqT K H a xs) : SqT K H' a xs := by
  rcases h with (h | ⟨o, h⟩) | h
  · exact .inl (.inl (e _ _ h))
  · exact .inl (.inr ⟨o, e _ _ h⟩)
  · exact .inr h
section
variable {K : PySem.W.Frag} {G G' : Hp}
mutual
theorem Dt.mono (e : Same G G') : ∀ {d : D} {v : V}, Dt K G v d → Dt K G' v d
  | .none, _, h => by cases h; exact .non
  | .bool b, _, h => by cases h; exact .bl b
  | .int i, _, h => by cases h; exact .int i
  | .str x, _, h => by cases h; exact .str x
  | .list ds, _, h => by
    cases h with
    | lst h1 h2 => exact .lst (e _ _ h1) (DtA.mono e h2)
  | .tuple ds, _, h => by
    cases h with
    | tup h1 h2 => exact .tup (same_sqT e h1) (DtA.mono e h2)
  | .dict _, _, h => by cases h
theorem DtA.mono (e : Same G G') : ∀ {ds : List D} {vs : List V}, DtA K G vs ds → DtA K G' vs ds
  | [], _, h => by cases h; exact .nil
  | d :: ds, _, h => by
    cases h with
    | cons h1 h2 => exact .cons (Dt.mono e h1) (DtA.mono e h2)
end
mutual
theorem Dt.dp (e : Same G G') : ∀ {d : D} {v : V}, Dt K G v d → Dp K G' v d
  | .none, _, h => by cases h; exact .non
  | .bool b, _, h => by cases h; exact .bl b
  | .int i, _, h => by cases h; exact .int i
  | .str x, _, h => by cases h; exact .str x
  | .list ds, _, h => by
    cases h with
    | lst h1 h2 => exact .lst (SqL.of (e _ _ h1)) (DtA.dp e h2)
  | .tuple ds, _, h => by
    cases h with
    | tup h1 h2 => exact .tup (same_sqT e h1) (DtA.dp e h2)
  | .dict _, _, h => by cases h
theorem DtA.dp (e : Same G G') : ∀ {ds : List D} {vs : List V}, DtA K G vs ds → DpAll K G' vs ds
  | [], _, h => by cases h; exact .nil
  | d :: ds, _, h => by
    cases h with
    | cons h1 h2 => exact .cons (Dt.dp e h1) (DtA.dp e h2)
end
theorem DtA.length : ∀ {ds : List D} {vs : List V}, DtA K G vs ds → vs.length = ds.length
  | [], _, h => by cases h; rfl
  | d :: ds, _, h => by
    cases h with
    | cons h1 h2 => rw [List.length_cons, List.length_cons, DtA.length h2]
theorem DtA.get : ∀ {ds : List D} {vs : List V} {i : Nat} {d : D}, DtA K G vs ds → ds[i]? = some d → ∃ v, vs[i]? = some v ∧ Dt K G v d
  | [], _, i, d, h, e => by simp at e
  | c :: ds, _, 0, d, h, e => by
    cases h with
    | cons h1 h2 =>
      simp at e
      subst e
      exact ⟨_, rfl, h1⟩
  | c :: ds, _, i + 1, d, h, e => by
    cases h with
    | cons h1 h2 =>
      obtain ⟨v, q, z⟩ := DtA.get (i := i) h2 (by simpa using e)
      exact ⟨v, by simpa using q, z⟩
theorem DtA.getV : ∀ {ds : List D} {vs : List V} {i : Nat} {v : V}, DtA K G vs ds → vs[i]? = some v → ∃ d, ds[i]? = some d ∧ Dt K G v d
  | [], _, i, d, h, e => by cases h; simp at e
  | c :: ds, _, 0, d, h, e => by
    cases h with
    | cons h1 h2 =>
      simp at e
      subst e
      exact ⟨_, rfl, h1⟩
  | c :: ds, _, i + 1, d, h, e => by
    cases h with
    | cons h1 h2 =>
      obtain ⟨v, q, z⟩ := DtA.getV (i := i) h2 (by simpa using e)
      exact ⟨v, by simpa using q, z⟩
theorem DtA.append : ∀ {ds es : List D} {vs us : List V}, DtA K G vs ds → DtA K G us es → DtA K G (vs ++ us) (ds ++ es)
  | [], _, _, _, h, k => by cases h; exact k
  | d :: ds, _, _, _, h, k => by
    cases h with
    | cons h1 h2 => exact .cons h1 (DtA.append h2 k)
theorem DtA.set {d : D} {v : V} (q : Dt K G v d) : ∀ {ds : List D} {vs : List V} (i : Nat), DtA K G vs ds → DtA K G (vs.set i v) (ds.set i d)
  | [], _, i, h => by cases h; exact .nil
  | c :: ds, _, 0, h => by
    cases h with
    | cons h1 h2 => exact .cons q h2
  | c :: ds, _, i + 1, h => by
    cases h with
    | cons h1 h2 => exact .cons h1 (DtA.set q i h2)
theorem DtA.take : ∀ {ds : List D} {vs : List V} (n : Nat), DtA K G vs ds → DtA K G (vs.take n) (ds.take n)
  | _, _, 0, h => .nil
  | [], _, n + 1, h => by cases h; exact .nil
  | c :: ds, _, n + 1, h => by
    cases h with
    | cons h1 h2 => exact .cons h1 (DtA.take n h2)
theorem DtA.drop : ∀ {ds : List D} {vs : List V} (n : Nat), DtA K G vs ds → DtA K G (vs.drop n) (ds.drop n)
  | _, _, 0, h => h
  | [], _, n + 1, h => by cases h; exact .nil
  | c :: ds, _, n + 1, h => by
    cases h with
    | cons h1 h2 => exact DtA.drop n h2
theorem DtA.flat {ds : List D} {vs : List V} (h : DtA K G vs ds) : ∀ n : Nat, DtA K G (List.replicate n vs).flatten (List.replicate n ds).flatten
  | 0 => .nil
  | n + 1 => by
    rw [List.replicate_succ, List.replicate_succ, List.flatten_cons, List.flatten_cons]
    exact DtA.append h (DtA.flat h n)
theorem DtA.rev : ∀ {ds : List D} {vs : List V}, DtA K G vs ds → DtA K G vs.reverse ds.reverse
  | [], _, h => by cases h; exact .nil
  | d :: ds, _, h => by
    cases h with
    | cons h1 h2 =>
      rw [List.reverse_cons, List.reverse_cons]
      exact DtA.append (DtA.rev h2) (.cons h1 .nil)
theorem DtA.ints : ∀ ns : List Int, DtA K G (ns.map V.int) (ns.map PyData.int)
  | [] => .nil
  | n :: r => .cons (.int n) (DtA.ints r)
theorem DtA.intsV : ∀ {ns : List Int} {vs : List V}, DtA K G vs (ns.map PyData.int) → vs = ns.map V.int
  | [], _, h => by cases h; rfl
  | n :: r, _, h => by
    cases h with
    | cons h1 h2 =>
      cases h1
      rw [DtA.intsV h2]
      rfl
end

/-! ### data whose lists are new since the heap HB -/
mutual
inductive Nw (K : PySem.W.Frag) (HB G : Hp) : V → D → Prop
  | non : Nw K HB G .non .none
  | bl (b : Bool) : Nw K HB G (.bl b) (.bool b)
  | int (i : Int) : Nw K HB G (.int i) (.int i)
  | str (x : Str) : Nw K HB G (.str x) (.str x)
  | lst {a : Addr} {xs : List V} {ds : List D} : HB a = none → G a = some (.lst xs) → NwA K HB G xs ds → Nw K HB G (.ref a) (.list ds)
  | tup {a : Addr} {xs : List V} {ds : List D} : SqT K G a xs → NwA K HB G xs ds → Nw K HB G (.ref a) (.tuple ds)
inductive NwA (K : PySem.W.Frag) (HB G : Hp) : List V → List D → Prop
  | nil : NwA K HB G [] []
  | cons {v : V} {vs : List V} {d : D} {ds : List D} : Nw K HB G v d → NwA K HB G vs ds → NwA K HB G (v :: vs) (d :: ds)
end
/-- no list within -/
inductive NoL : D → Prop
  | non : NoL .none
  | bl (b : Bool) : NoL (.bool b)
  | int (i : Int) : NoL (.int i)
  | str (x : Str) : NoL (.str x)
  | tup {ds : List D} : (∀ d ∈ ds, NoL d) → NoL (.tuple ds)
section
variable {K : PySem.W.Frag} {HB HB' G G' : Hp}
mutual
theorem Nw.dt : ∀ {d : D} {v : V}, Nw K HB G v d → Dt K G v d
  | .none, _, h => by cases h; exact .non
  | .bool b, _, h => by cases h; exact .bl b
  | .int i, _, h => by cases h; exact .int i
  | .str x, _, h => by cases h; exact .str x
  | .list ds, _, h => by
    cases h with
    | lst h0 h1 h2 => exact .lst h1 (NwA.dt h2)
  | .tuple ds, _, h => by
    cases h with
    | tup h1 h2 => exact .tup h1 (NwA.dt h2)
  | .dict _, _, h => by cases h
theorem NwA.dt : ∀ {ds : List D} {vs : List V}, NwA K HB G vs ds → DtA K G vs ds
  | [], _, h => by cases h; exact .nil
  | d :: ds, _, h => by
    cases h with
    | cons h1 h2 => exact .cons (Nw.dt h1) (NwA.dt h2)
end
mutual
theorem Nw.mono (e : Same G G') (k : ∀ b, HB b = none → HB' b = none) : ∀ {d : D} {v : V}, Nw K HB G v d → Nw K HB' G' v d
  | .none, _, h => by cases h; exact .non
  | .bool b, _, h => by cases h; exact .bl b
  | .int i, _, h => by cases h; exact .int i
  | .str x, _, h => by cases h; exact .str x
  | .list ds, _, h => by
    cases h with
    | lst h0 h1 h2 => exact .lst (k _ h0) (e _ _ h1) (NwA.mono e k h2)
  | .tuple ds, _, h => by
    cases h with
    | tup h1 h2 => exact .tup (same_sqT e h1) (NwA.mono e k h2)
  | .dict _, _, h => by cases h
theorem NwA.mono (e : Same G G') (k : ∀ b, HB b = none → HB' b = none) : ∀ {ds : List D} {vs : List V}, NwA K HB G vs ds → NwA K HB' G' vs ds
  | [], _, h => by cases h; exact .nil
  | d :: ds, _, h => by
    cases h with
    | cons h1 h2 => exact .cons (Nw.mono e k h1) (NwA.mono e k h2)
end
mutual
theorem Nw.of : ∀ {d : D} {v : V}, Dt K G v d → NoL d → Nw K HB G v d
  | .none, _, h, _ => by cases h; exact .non
  | .bool b, _, h, _ => by cases h; exact .bl b
  | .int i, _, h, _ => by cases h; exact .int i
  | .str x, _, h, _ => by cases h; exact .str x
  | .list ds, _, h, n => nomatch n
  | .tuple ds, _, h, n => by
    cases n with
    | tup n =>
      cases h with
      | tup h1 h2 => exact .tup h1 (NwA.of h2 n)
  | .dict _, _, h, _ => by cases h
theorem NwA.of : ∀ {ds : List D} {vs : List V}, DtA K G vs ds → (∀ d ∈ ds, NoL d) → NwA K HB G vs ds
  | [], _, h, _ => by cases h; exact .nil
  | d :: ds, _, h, n => by
    cases h with
    | cons h1 h2 => exact .cons (Nw.of h1 (n _ List.mem_cons_self)) (NwA.of h2 fun c m => n c (List.mem_cons_of_mem _ m))
end
end

/-! ### the store of draws: opaque -/
structure StoOk (G H : Hp) (st : Addr) : Prop where
  ex : ∃ (c : Addr) (ns : List Int) (a1 a2 a3 a4 a5 a6 : Int), H st = some (.lst [.ref c, .int a1, .int a2, .int a3, .int a4, .int a5, .int a6]) ∧ G c = some (.lst (ns.map V.int)) ∧ 0 ≤ a1
  fr : G st = none

/-- G: what never changes any more; M: the stores -/
structure Wd (M : Addr → Prop) (G H : Hp) : Prop where
  sub : Same G H
  sto : ∀ a, M a → StoOk G H a
structure Ext (M : Addr → Prop) (G H G' H' : Hp) : Prop where
  hh : ∀ b o, ¬ M b → H b = some o → H' b = some o
  gg : Same G G'
  fr : ∀ b, H b ≠ none → G b = none → G' b = none
  hm : ∀ b, H b ≠ none → H' b ≠ none
section
variable {M : Addr → Prop} {G H G' H' G2 H2 : Hp}
theorem Ext.refl : Ext M G H G H := ⟨fun _ _ _ h => h, fun _ _ h => h, fun _ _ h => h, fun _ h => h⟩
theorem Ext.trans (a : Ext M G H G' H') (b : Ext M G' H' G2 H2) : Ext M G H G2 H2 :=
  ⟨fun c o m h => b.hh c o m (a.hh c o m h), fun c o h => b.gg c o (a.gg c o h), fun c h g => b.fr c (a.hm c h) (a.fr c h g), fun c h => b.hm c (a.hm c h)⟩
theorem Wd.noG (w : Wd M G H) {p : Addr} (h : H p = none) : G p = none := by
  cases e : G p with
  | none => rfl
  | some o => rw [w.sub _ _ e] at h; cases h
theorem StoOk.there {st : Addr} (s : StoOk G H st) : H st ≠ none := by
  obtain ⟨_, _, _, _, _, _, _, _, e, _⟩ := s.ex
  rw [e]
  exact fun z => nomatch z
theorem Wd.nm (w : Wd M G H) {p : Addr} (h : H p = none) : ¬ M p := fun m => (w.sto p m).there h
/-- a new own object -/
theorem Ext.alloc {p : Addr} {o : HO} (h : H p = none) : Ext M G H G (upd H p o) :=
  ⟨fun b u m e => by rw [upd_ne (ne_of_none e h)]; exact e, fun _ _ z => z, fun _ _ z => z, fun b z => by
    by_cases e : b = p
    · subst e; exact absurd h z
    · rw [upd_ne e]; exact z⟩
theorem Wd.alloc {p : Addr} {o : HO} (w : Wd M G H) (h : H p = none) : Wd M G (upd H p o) :=
  ⟨fun b u e => by rw [upd_ne (ne_of_none (w.sub _ _ e) h)]; exact w.sub _ _ e, fun a m => by
    obtain ⟨⟨c, ns, a1, a2, a3, a4, a5, a6, e1, e2, e3⟩, f⟩ := w.sto a m
    exact ⟨⟨c, ns, a1, a2, a3, a4, a5, a6, by rw [upd_ne (ne_of_none e1 h)]; exact e1, e2, e3⟩, f⟩⟩
/-- a new frozen object -/
theorem same_upd {p : Addr} {o : HO} (h : G p = none) : Same G (upd G p o) := fun b u e => by rw [upd_ne (ne_of_none e h)]; exact e
theorem Ext.allocG {p : Addr} {o : HO} (w : Wd M G H) (h : H p = none) : Ext M G H (upd G p o) (upd H p o) :=
  ⟨fun b u m e => by rw [upd_ne (ne_of_none e h)]; exact e, same_upd (w.noG h), fun b z g => by
    have e : b ≠ p := fun e => z (by rw [e]; exact h)
    rw [upd_ne e]; exact g, fun b z => by
    by_cases e : b = p
    · subst e; exact absurd h z
    · rw [upd_ne e]; exact z⟩
theorem StoOk.mono {st : Addr} (s : StoOk G H st) (g : Same G G') (f : G' st = none) (e : H' st = H st) : StoOk G' H' st := by
  obtain ⟨⟨c, ns, a1, a2, a3, a4, a5, a6, e1, e2, e3⟩, _⟩ := s
  exact ⟨⟨c, ns, a1, a2, a3, a4, a5, a6, e.trans e1, g _ _ e2, e3⟩, f⟩
theorem Wd.allocG {p : Addr} {o : HO} (w : Wd M G H) (h : H p = none) : Wd M (upd G p o) (upd H p o) :=
  ⟨fun b u e => by
    by_cases z : b = p
    · subst z; rw [upd_same] at e ⊢; exact e
    · rw [upd_ne z] at e ⊢; exact w.sub _ _ e, fun a m => by
    have s := w.sto a m
    have ne : a ≠ p := fun z => s.there (by rw [z]; exact h)
    exact s.mono (same_upd (w.noG h)) (by rw [upd_ne ne]; exact s.fr) (upd_ne ne)⟩
/-- an own list is frozen -/
theorem Wd.freeze {p : Addr} {o : HO} (w : Wd M G H) (h : H p = some o) (g : G p = none) (m : ¬ M p) : Wd M (upd G p o) H :=
  ⟨fun b u e => by
    by_cases z : b = p
    · subst z; rw [upd_same] at e; rw [h]; exact e
    · rw [upd_ne z] at e; exact w.sub _ _ e, fun a ma => by
    have ne : a ≠ p := fun z => m (z ▸ ma)
    exact (w.sto a ma).mono (same_upd g) (by rw [upd_ne ne]; exact (w.sto a ma).fr) rfl⟩
/-- behind a call that knows no store -/
theorem Ext.weak (e : Ext (fun _ => False) G H G' H') : Ext M G H G' H' := ⟨fun b o _ h => e.hh b o (fun z => z) h, e.gg, e.fr, e.hm⟩
theorem Wd.weak (w : Wd M G H) (e : Ext (fun _ => False) G H G' H') (s : Same G' H') : Wd M G' H' := ⟨s, fun a m => by
  have q := w.sto a m
  obtain ⟨c, ns, a1, a2, a3, a4, a5, a6, e1, e2, e3⟩ := q.ex
  exact ⟨⟨c, ns, a1, a2, a3, a4, a5, a6, e.hh _ _ (fun z => z) e1, e.gg _ _ e2, e3⟩, e.fr _ q.there q.fr⟩⟩
end

/-! ### slots, results -/
inductive RV where
  | dat (d : D) | new (d : D) | own (ds : List D) | view (ds : List D) | raw (v : V) | sto
inductive Sl where
  | no | dat (d : D) | new (d : D) | own (ds : List D) | raw (v : V) | sto | dic (kvs : List (Int × D)) | tre (d : D)
abbrev DSt := List Sl
/-- a dict whose keys are ints: the data of its values -/
inductive DicA (K : PySem.W.Frag) (G : Hp) : List (Key × V) → List (Int × D) → Prop
  | nil : DicA K G [] []
  | cons {i : Int} {v : V} {d : D} {hs : List (Key × V)} {kvs : List (Int × D)} : Dt K G v d → DicA K G hs kvs → DicA K G ((.inl i, v) :: hs) ((i, d) :: kvs)
theorem DicA.mono {K : PySem.W.Frag} {G G' : Hp} (e : Same G G') : ∀ {hs : List (Key × V)} {kvs : List (Int × D)}, DicA K G hs kvs → DicA K G' hs kvs
  | _, _, .nil => .nil
  | _, _, .cons h t => .cons (h.mono e) (t.mono e)
structure Base where
  M : Addr → Prop
  G : Hp
  H : Hp
  /-- lists that are kept for one slot and may be changed through it -/
  T : Addr → Prop
abbrev noT : Addr → Prop := fun _ => False
def Base.MT (B : Base) (b : Addr) : Prop := B.M b ∨ B.T b
theorem Ext.wk {M T : Addr → Prop} {G H G' H' : Hp} (t : Ext M G H G' H') : Ext (fun b => M b ∨ T b) G H G' H' := ⟨fun b o m h => t.hh b o (fun z => m (.inl z)) h, t.gg, t.fr, t.hm⟩
theorem Ext.mt {B : Base} {G H G' H' : Hp} (t : Ext B.M G H G' H') : Ext B.MT G H G' H' := t.wk
/-! data whose own lists are not frozen: they stand in the base heap, known to no one else -/
mutual
inductive Tr (K : PySem.W.Frag) (M T : Addr → Prop) (HB G H : Hp) : V → D → Prop
  | old {v : V} {d : D} : NoL d → Dt K G v d → Tr K M T HB G H v d
  | lst {a : Addr} {xs : List V} {ds : List D} : HB a ≠ none → T a → G a = none → ¬ M a → H a = some (.lst xs) → TrA K M T HB G H xs ds → Tr K M T HB G H (.ref a) (.list ds)
  | tup {a : Addr} {xs : List V} {ds : List D} : SqT K H a xs → (¬ M a ∨ ∀ Z, SqT K Z a xs) → TrA K M T HB G H xs ds → Tr K M T HB G H (.ref a) (.tuple ds)
inductive TrA (K : PySem.W.Frag) (M T : Addr → Prop) (HB G H : Hp) : List V → List D → Prop
  | nil : TrA K M T HB G H [] []
  | cons {v : V} {vs : List V} {d : D} {ds : List D} : Tr K M T HB G H v d → TrA K M T HB G H vs ds → TrA K M T HB G H (v :: vs) (d :: ds)
end
section
variable {K : PySem.W.Frag} {M M' T T' : Addr → Prop} {HB HB' G H G' H' : Hp}
mutual
theorem Tr.imp (hl : ∀ a xs, HB a ≠ none → T a → G a = none → ¬ M a → H a = some (.lst xs) → HB' a ≠ none ∧ T' a ∧ G' a = none ∧ ¬ M' a ∧ H' a = some (.lst xs)) (ht : ∀ a xs, SqT K H a xs → (¬ M a ∨ ∀ Z, SqT K Z a xs) → SqT K H' a xs ∧ (¬ M' a ∨ ∀ Z, SqT K Z a xs)) (ho : Same G G') : ∀ {d : D} {v : V}, Tr K M T HB G H v d → Tr K M' T' HB' G' H' v d
  | .none, _, h => by cases h with | old n h => exact .old n (h.mono ho)
  | .bool b, _, h => by cases h with | old n h => exact .old n (h.mono ho)
  | .int i, _, h => by cases h with | old n h => exact .old n (h.mono ho)
  | .str x, _, h => by cases h with | old n h => exact .old n (h.mono ho)
  | .list ds, _, h => by
    cases h with
    | old n h => exact .old n (h.mono ho)
    | lst h1 h0 h2 h3 h4 h5 =>
      obtain ⟨k1, k0, k2, k3, k4⟩ := hl _ _ h1 h0 h2 h3 h4
      exact .lst k1 k0 k2 k3 k4 (TrA.imp hl ht ho h5)
  | .tuple ds, _, h => by
    cases h with
    | old n h => exact .old n (h.mono ho)
    | tup h1 h2 h3 => exact .tup (ht _ _ h1 h2).1 (ht _ _ h1 h2).2 (TrA.imp hl ht ho h3)
  | .dict _, _, h => by cases h with | old n h => exact .old n (h.mono ho)
theorem TrA.imp (hl : ∀ a xs, HB a ≠ none → T a → G a = none → ¬ M a → H a = some (.lst xs) → HB' a ≠ none ∧ T' a ∧ G' a = none ∧ ¬ M' a ∧ H' a = some (.lst xs)) (ht : ∀ a xs, SqT K H a xs → (¬ M a ∨ ∀ Z, SqT K Z a xs) → SqT K H' a xs ∧ (¬ M' a ∨ ∀ Z, SqT K Z a xs)) (ho : Same G G') : ∀ {ds : List D} {vs : List V}, TrA K M T HB G H vs ds → TrA K M' T' HB' G' H' vs ds
  | [], _, h => by cases h; exact .nil
  | d :: ds, _, h => by
    cases h with
    | cons h1 h2 => exact .cons (Tr.imp hl ht ho h1) (TrA.imp hl ht ho h2)
end
end
theorem sqT_ext {K : PySem.W.Frag} {M : Addr → Prop} {G H G' H' : Hp} {a : Addr} {xs : List V} (t : Ext M G H G' H') (m : ¬ M a ∨ ∀ Z, SqT K Z a xs) (h : SqT K H a xs) : SqT K H' a xs := by
  rcases m with m | m
  rotate_left
  · exact m _
  rcases h with (h | ⟨o, h⟩) | h
  · exact .inl (.inl (t.hh _ _ m h))
  · exact .inl (.inr ⟨o, t.hh _ _ m h⟩)
  · exact .inr h
theorem sqT_upd {K : PySem.W.Frag} {H : Hp} {p a : Addr} {o u : HO} {xs : List V} (hp : H p = some u) (hu : (∀ ys, u ≠ .tup ys) ∧ ∀ e ys, u ≠ .frz e (.tup ys)) (h : SqT K H a xs) : SqT K (upd H p o) a xs := by
  rcases h with (h | ⟨e, h⟩) | h
  · exact .inl (.inl (by
      have ne : a ≠ p := fun z => by rw [z, hp] at h; exact hu.1 _ (Option.some.inj h)
      rw [upd_ne ne]; exact h))
  · exact .inl (.inr ⟨e, by
      have ne : a ≠ p := fun z => by rw [z, hp] at h; exact hu.2 _ _ (Option.some.inj h)
      rw [upd_ne ne]; exact h⟩)
  · exact .inr h
theorem Tr.mono {K : PySem.W.Frag} {M T : Addr → Prop} {HB G H G' H' : Hp} {d : D} {v : V} (h : Tr K M T HB G H v d) (t : Ext M G H G' H') : Tr K M T HB G' H' v d :=
  h.imp (fun a xs h1 h0 h2 h3 h4 => ⟨h1, h0, t.fr _ (by rw [h4]; exact fun z => nomatch z) h2, h3, t.hh _ _ h3 h4⟩) (fun a xs h1 h2 => ⟨sqT_ext t h2 h1, h2⟩) t.gg
def SlOk (K : PySem.W.Frag) (B : Base) (G H : Hp) (x : Option V) : Sl → Prop
  | .no => True
  | .dat d => ∃ v, x = some v ∧ Dt K G v d
  | .new d => ∃ v, x = some v ∧ Nw K B.H G v d
  | .own ds => ∃ a xs, x = some (.ref a) ∧ B.H a = none ∧ G a = none ∧ ¬ B.M a ∧ H a = some (.lst xs) ∧ DtA K G xs ds
  | .raw v => x = some v
  | .sto => ∃ a, x = some (.ref a) ∧ B.M a
  | .dic kvs => ∃ a hs, x = some (.ref a) ∧ B.H a = none ∧ G a = none ∧ ¬ B.M a ∧ H a = some (.dK hs) ∧ DicA K G hs kvs
  | .tre d => ∃ v, x = some v ∧ Tr K B.M B.T B.H G H v d
/-- HB: the heap at the def's entry; H0: the heap ahead of the expression -/
def RvOk (K : PySem.W.Frag) (M : Addr → Prop) (HB H0 G H : Hp) (v : V) : RV → Prop
  | .dat d => Dt K G v d
  | .new d => Nw K HB G v d
  | .own ds => ∃ a xs, v = .ref a ∧ H0 a = none ∧ G a = none ∧ ¬ M a ∧ H a = some (.lst xs) ∧ DtA K G xs ds
  | .view ds => ∃ a xs, v = .ref a ∧ ¬ M a ∧ H a = some (.lst xs) ∧ DtA K G xs ds
  | .raw w => v = w
  | .sto => ∃ a, v = .ref a ∧ M a
structure Rel (K : PySem.W.Frag) (B : Base) (δ : DSt) (σ : St) (G H : Hp) : Prop where
  wd : Wd B.M G H
  ext : Ext B.MT B.G B.H G H
  len : δ.length = σ.length
  sl : ∀ (i : Nat) (s : Sl) (x : Option V), δ[i]? = some s → σ[i]? = some x → SlOk K B G H x s
  sep : ∀ (i j : Nat) (a : Addr) (ds es : List D), δ[i]? = some (.own ds) → δ[j]? = some (.own es) → σ[i]? = some (some (.ref a)) → σ[j]? = some (some (.ref a)) → i = j
theorem none_early {H0 H1 : Hp} (t : ∀ b, H0 b ≠ none → H1 b ≠ none) : ∀ b, H1 b = none → H0 b = none := fun b e => by
  cases z : H0 b with
  | none => rfl
  | some o => exact absurd e (t b (by rw [z]; exact fun y => nomatch y))
section
variable {K : PySem.W.Frag} {B : Base} {δ : DSt} {σ : St} {G H G' H' H0 HB HB' : Hp} {M : Addr → Prop}
theorem SlOk.mono {x : Option V} : ∀ {s : Sl}, SlOk K B G H x s → Ext B.M G H G' H' → SlOk K B G' H' x s
  | .no, _, _ => trivial
  | .dat d, ⟨v, e, h⟩, t => ⟨v, e, h.mono t.gg⟩
  | .new d, ⟨v, e, h⟩, t => ⟨v, e, h.mono t.gg fun _ z => z⟩
  | .own ds, ⟨a, xs, e, b, g, m, h, q⟩, t => ⟨a, xs, e, b, t.fr _ (by rw [h]; exact fun z => nomatch z) g, m, t.hh _ _ m h, q.mono t.gg⟩
  | .raw v, e, _ => e
  | .sto, e, _ => e
  | .dic kvs, ⟨a, xs, e, b, g, m, h, q⟩, t => ⟨a, xs, e, b, t.fr _ (by rw [h]; exact fun z => nomatch z) g, m, t.hh _ _ m h, q.mono t.gg⟩
  | .tre d, ⟨v, e, h⟩, t => ⟨v, e, h.mono t⟩
theorem RvOk.mono {v : V} : ∀ {r : RV}, RvOk K M HB H0 G H v r → Ext M G H G' H' → RvOk K M HB H0 G' H' v r
  | .dat d, h, t => Dt.mono t.gg h
  | .new d, h, t => Nw.mono t.gg (fun _ z => z) h
  | .own ds, ⟨a, xs, e, b, g, m, h, q⟩, t => ⟨a, xs, e, b, t.fr _ (by rw [h]; exact fun z => nomatch z) g, m, t.hh _ _ m h, q.mono t.gg⟩
  | .view ds, ⟨a, xs, e, m, h, q⟩, t => ⟨a, xs, e, m, t.hh _ _ m h, q.mono t.gg⟩
  | .raw v, e, _ => e
  | .sto, e, _ => e
theorem RvOk.early {H1 : Hp} {v : V} : ∀ {r : RV}, RvOk K M HB H1 G H v r → (∀ b, H0 b ≠ none → H1 b ≠ none) → RvOk K M HB H0 G H v r
  | .dat d, h, t => h
  | .new d, h, t => h
  | .own ds, ⟨a, xs, e, b, g, m, h, q⟩, t => ⟨a, xs, e, none_early t a b, g, m, h, q⟩
  | .view ds, h, t => h
  | .raw v, e, _ => e
  | .sto, e, _ => e
theorem RvOk.base {v : V} : ∀ {r : RV}, RvOk K M HB' H0 G H v r → (∀ b, HB b ≠ none → HB' b ≠ none) → RvOk K M HB H0 G H v r
  | .dat d, h, t => h
  | .new d, h, t => Nw.mono (fun _ _ z => z) (none_early t) h
  | .own ds, h, t => h
  | .view ds, h, t => h
  | .raw v, e, _ => e
  | .sto, e, _ => e
theorem Rel.step (R : Rel K B δ σ G H) (w : Wd B.M G' H') (t : Ext B.M G H G' H') : Rel K B δ σ G' H' :=
  ⟨w, R.ext.trans t.mt, R.len, fun i s x h1 h2 => (R.sl i s x h1 h2).mono t, R.sep⟩
theorem Rel.at (R : Rel K B δ σ G H) {i : Nat} {s : Sl} (h : δ[i]? = some s) : ∃ x, σ[i]? = some x ∧ SlOk K B G H x s := by
  have hi : i < δ.length := (List.getElem?_eq_some_iff.mp h).1
  have hj : i < σ.length := by rw [← R.len]; exact hi
  exact ⟨_, List.getElem?_eq_getElem hj, R.sl i s _ h (List.getElem?_eq_getElem hj)⟩
/-- a slot is stored; an own list is new since H -/
theorem Rel.set (R : Rel K B δ σ G H) (w : Wd B.M G' H') (t : Ext B.M G H G' H') {i : Nat} {v : V} {s : Sl} (h : SlOk K B G' H' (some v) s) (hn : ∀ a ds, s = .own ds → v = .ref a → H a = none) : Rel K B (δ.set i s) (σ.set i (some v)) G' H' := by
  have S := R.step w t
  have nw : ∀ (j : Nat) (a : Addr) (ds es : List D), s = .own ds → δ[j]? = some (.own es) → σ[j]? = some (some (.ref a)) → v = .ref a → False := fun j a ds es es1 e2 e3 e4 => by
    obtain ⟨b, xs, eb, _, _, _, q, _⟩ := R.sl j _ _ e2 e3
    cases eb
    rw [hn a ds es1 e4] at q
    cases q
  refine ⟨w, R.ext.trans t.mt, by rw [List.length_set, List.length_set]; exact R.len, fun j s' x e1 e2 => ?_, fun j k a ds es e1 e2 e3 e4 => ?_⟩
  · by_cases hj : i = j
    · subst hj
      rw [List.getElem?_set] at e1 e2
      rw [if_pos rfl] at e1 e2
      split at e1
      · split at e2
        · cases e1; cases e2; exact h
        · cases e2
      · cases e1
    · rw [List.getElem?_set_ne hj] at e1 e2
      exact S.sl j s' x e1 e2
  · by_cases hj : i = j
    · by_cases hk : i = k
      · exact hj.symm.trans hk
      · subst hj
        rw [List.getElem?_set_ne hk] at e2 e4
        rw [List.getElem?_set, if_pos rfl] at e1 e3
        split at e1
        · split at e3
          · cases e1; cases e3; exact (nw k a ds es rfl e2 e4 rfl).elim
          · cases e3
        · cases e1
    · rw [List.getElem?_set_ne hj] at e1 e3
      by_cases hk : i = k
      · subst hk
        rw [List.getElem?_set, if_pos rfl] at e2 e4
        split at e2
        · split at e4
          · cases e2; cases e4; exact (nw j a es ds rfl e1 e3 rfl).elim
          · cases e4
        · cases e2
      · rw [List.getElem?_set_ne hk] at e2 e4
        exact R.sep j k a ds es e1 e2 e3 e4
/-- a slot is said less of -/
theorem Rel.say (R : Rel K B δ σ G H) {i : Nat} {s : Sl} (h : ∀ x, σ[i]? = some x → SlOk K B G H x s) (hn : ∀ ds, s ≠ .own ds) : Rel K B (δ.set i s) σ G H := by
  refine ⟨R.wd, R.ext, by rw [List.length_set]; exact R.len, fun j s' x e1 e2 => ?_, fun j k a ds es e1 e2 e3 e4 => ?_⟩
  · by_cases hj : i = j
    · subst hj
      rw [List.getElem?_set, if_pos rfl] at e1
      split at e1
      · cases e1; exact h x e2
      · cases e1
    · rw [List.getElem?_set_ne hj] at e1
      exact R.sl j s' x e1 e2
  · have ne : ∀ {j : Nat} {ds : List D}, (δ.set i s)[j]? = some (.own ds) → δ[j]? = some (.own ds) := fun {j ds} e => by
      by_cases hj : i = j
      · subst hj
        rw [List.getElem?_set, if_pos rfl] at e
        split at e
        · cases e; exact absurd rfl (hn ds)
        · cases e
      · rw [List.getElem?_set_ne hj] at e
        exact e
    exact R.sep j k a ds es (ne e1) (ne e2) e3 e4
end
/-- the data of a result -/
def RV.d? : RV → Option D
  | .dat d => some d
  | .new d => some d
  | .own ds => some (.list ds)
  | .view ds => some (.list ds)
  | _ => none
def D.lst? : D → Option (List D)
  | .list ds => some ds
  | _ => none
def RV.lst? (r : RV) : Option (List D) := match r.d? with
  | some (.list ds) => some ds
  | _ => none
theorem RvOk.lst {K : PySem.W.Frag} {M : Addr → Prop} {HB H0 G H : Hp} {v : V} {ds : List D} (s : Same G H) : ∀ {r : RV}, RvOk K M HB H0 G H v r → r.d? = some (.list ds) → ∃ a xs, v = .ref a ∧ H a = some (.lst xs) ∧ DtA K G xs ds
  | .dat d, h, e => by
    cases e
    cases (show Dt K G v (.list ds) from h) with
    | lst h1 h2 => exact ⟨_, _, rfl, s _ _ h1, h2⟩
  | .new d, h, e => by
    cases e
    cases Nw.dt h with
    | lst h1 h2 => exact ⟨_, _, rfl, s _ _ h1, h2⟩
  | .own es, ⟨a, xs, e1, _, _, _, h, q⟩, e => by cases e; exact ⟨a, xs, e1, h, q⟩
  | .view es, ⟨a, xs, e1, _, h, q⟩, e => by cases e; exact ⟨a, xs, e1, h, q⟩
  | .raw _, _, e => nomatch e
  | .sto, _, e => nomatch e
theorem RvOk.dp {K : PySem.W.Frag} {M : Addr → Prop} {HB H0 G H : Hp} {v : V} {d : D} (s : Same G H) : ∀ {r : RV}, RvOk K M HB H0 G H v r → r.d? = some d → Dp K H v d
  | .dat c, h, e => by cases e; exact Dt.dp s h
  | .new c, h, e => by cases e; exact Dt.dp s (Nw.dt h)
  | .own es, ⟨a, xs, e1, _, _, _, h, q⟩, e => by cases e; subst e1; exact .lst (SqL.of h) (q.dp s)
  | .view es, ⟨a, xs, e1, _, h, q⟩, e => by cases e; subst e1; exact .lst (SqL.of h) (q.dp s)
  | .raw _, _, e => nomatch e
  | .sto, _, e => nomatch e
/-- what is no list is frozen data as it stands -/
theorem RvOk.dt {K : PySem.W.Frag} {M : Addr → Prop} {HB H0 G H : Hp} {v : V} {d : D} (n : ∀ ds, d ≠ .list ds) : ∀ {r : RV}, RvOk K M HB H0 G H v r → r.d? = some d → Dt K G v d
  | .dat c, h, e => by cases e; exact h
  | .new c, h, e => by cases e; exact Nw.dt h
  | .own es, _, e => by cases e; exact absurd rfl (n es)
  | .view es, _, e => by cases e; exact absurd rfl (n es)
  | .raw _, _, e => nomatch e
  | .sto, _, e => nomatch e
/-- a result as an argument, an item: frozen data, or a value as it stands -/
def RV.fz : RV → Option RV
  | .dat d => some (.dat d)
  | .new d => some (.new d)
  | .own ds => some (.dat (.list ds))
  | .view _ => none
  | .raw v => some (.raw v)
  | .sto => some .sto
def AOk (K : PySem.W.Frag) (M : Addr → Prop) (HB G : Hp) (v : V) : RV → Prop
  | .dat d => Dt K G v d
  | .new d => Nw K HB G v d
  | .raw w => v = w
  | .sto => ∃ a, v = .ref a ∧ M a
  | _ => False
theorem AOk.mono {K : PySem.W.Frag} {M : Addr → Prop} {HB G G' : Hp} {v : V} (s : Same G G') : ∀ {r : RV}, AOk K M HB G v r → AOk K M HB G' v r
  | .dat d, h => Dt.mono s h
  | .new d, h => Nw.mono s (fun _ z => z) h
  | .raw v, h => h
  | .sto, h => h
  | .own _, h => h.elim
  | .view _, h => h.elim
/-- an own new list is frozen -/
theorem RvOk.fz {K : PySem.W.Frag} {M : Addr → Prop} {HB G1 H1 G H : Hp} {v : V} (w : Wd M G H) (t : Ext M G1 H1 G H) : ∀ {r r' : RV}, RvOk K M HB H1 G H v r → r.fz = some r' →
    ∃ G', Wd M G' H ∧ Ext M G1 H1 G' H ∧ Same G G' ∧ AOk K M HB G' v r'
  | .dat c, _, h, e => by cases e; exact ⟨G, w, t, fun _ _ z => z, h⟩
  | .new c, _, h, e => by cases e; exact ⟨G, w, t, fun _ _ z => z, h⟩
  | .own es, _, ⟨a, xs, e1, b, g, m, h, q⟩, e => by
    cases e
    subst e1
    have s1 : Same G (upd G a (.lst xs)) := same_upd g
    refine ⟨upd G a (.lst xs), w.freeze h g m, ⟨t.hh, fun c o z => s1 _ _ (t.gg c o z), fun c z z2 => ?_, t.hm⟩, s1, .lst upd_same (q.mono s1)⟩
    have ne : c ≠ a := fun z3 => z (by rw [z3]; exact b)
    rw [upd_ne ne]
    exact t.fr c z z2
  | .view _, _, _, e => nomatch e
  | .raw _, _, h, e => by cases e; exact ⟨G, w, t, fun _ _ z => z, h⟩
  | .sto, _, h, e => by cases e; exact ⟨G, w, t, fun _ _ z => z, h⟩
end RB

set_option Elab.async false
set_option linter.all false
set_option maxRecDepth 100000
set_option maxHeartbeats 4000000
/-! RB2: expressions over data -/
namespace RB
open PySem PySem.Spec PyProof.Rows L2
abbrev DTE := DSt → (RV → Prop) → (Addr → Prop) → Prop
abbrev DTT := DSt → (Bool → Prop) → (Addr → Prop) → Prop
abbrev DTA := DSt → (List RV → Prop) → (Addr → Prop) → Prop
/-- what is wished of an own error's class -/
def XOk (K : PySem.W.Frag) (W : WX) (B : Base) (δ : DSt) (σ : St) (X2 : Addr → Prop) : Prop := ∀ C G' H', Rel K B δ σ G' H' → X2 C → W (.ref C) none σ H'
def lE (K : PySem.W.Frag) (W : WX) (de : DTE) : TE := fun σ H Q => ∃ (B : Base) (δ : DSt) (G : Hp) (Q2 : RV → Prop) (X2 : Addr → Prop), Rel K B δ σ G H ∧ de δ Q2 X2 ∧
  (∀ r v G' H', Wd B.M G' H' → Ext B.M G H G' H' → RvOk K B.M B.H H G' H' v r → Q2 r → Q v H') ∧ XOk K W B δ σ X2
def lT (K : PySem.W.Frag) (W : WX) (dt : DTT) : TT := fun σ H Q => ∃ (B : Base) (δ : DSt) (G : Hp) (Q2 : Bool → Prop) (X2 : Addr → Prop), Rel K B δ σ G H ∧ dt δ Q2 X2 ∧
  (∀ b G' H', Wd B.M G' H' → Ext B.M G H G' H' → Q2 b → Q b H') ∧ XOk K W B δ σ X2
def lA (K : PySem.W.Frag) (W : WX) (da : DTA) : TA := fun σ H Q => ∃ (B : Base) (δ : DSt) (G : Hp) (Q2 : List RV → Prop) (X2 : Addr → Prop), Rel K B δ σ G H ∧ da δ Q2 X2 ∧
  (∀ rs vs G' H', Wd B.M G' H' → Ext B.M G H G' H' → Paired (fun v r => AOk K B.M B.H G' v r) vs rs → Q2 rs → Q vs H') ∧ XOk K W B δ σ X2
theorem _root_.L2.PE.imp {X : Cx} {e : Expr} {t t' : TE} (h : PE X e t) (i : ∀ σ H Q, t' σ H Q → t σ H Q) : PE X e t' := ⟨fun pins s σ H Q I q => h.run pins s σ H Q I (i _ _ _ q)⟩
theorem _root_.L2.PT.imp {X : Cx} {e : Expr} {t t' : TT} (h : PT X e t) (i : ∀ σ H Q, t' σ H Q → t σ H Q) : PT X e t' := ⟨fun pins s σ H Q I q => h.run pins s σ H Q I (i _ _ _ q)⟩
theorem _root_.L2.PW.imp {X : Cx} {e : Expr} {t t' : TT} (h : PW X e t) (i : ∀ σ H Q, t' σ H Q → t σ H Q) : PW X e t' := ⟨fun wh pins s σ H Q I q => h.run wh pins s σ H Q I (i _ _ _ q)⟩
theorem _root_.L2.PA.imp {X : Cx} {e : List Expr} {t t' : TA} (h : PA X e t) (i : ∀ σ H Q, t' σ H Q → t σ H Q) : PA X e t' := ⟨fun pos pins s σ H Q I q => h.run pos pins s σ H Q I (i _ _ _ q)⟩

/-- a fork -/
structure Br (b : Bool) (A B : Prop) : Prop where
  y : b = true → A
  n : b = false → B
theorem Br.ite {b : Bool} {A B : Prop} (h : Br b A B) : if b = true then A else B := by
  cases b with
  | true => rw [if_pos rfl]; exact h.y rfl
  | false => rw [if_neg Bool.false_ne_true]; exact h.n rfl
def isB (r : RV) (Q : Bool → Prop) : Prop := match r with
  | .dat (.bool b) => Q b
  | _ => False
theorem isB_ok {K : PySem.W.Frag} {M : Addr → Prop} {HB H0 G H : Hp} {v : V} {Q : Bool → Prop} : ∀ {r : RV}, RvOk K M HB H0 G H v r → isB r Q → ∃ b, v = .bl b ∧ Q b
  | .dat (.bool b), h, q => by
    cases (show Dt K G v (.bool b) from h)
    exact ⟨b, rfl, q⟩
  | .dat .none, _, q => q.elim
  | .dat (.int _), _, q => q.elim
  | .dat (.str _), _, q => q.elim
  | .dat (.list _), _, q => q.elim
  | .dat (.tuple _), _, q => q.elim
  | .dat (.dict _), _, q => q.elim
  | .new _, _, q => q.elim
  | .own _, _, q => q.elim
  | .view _, _, q => q.elim
  | .raw _, _, q => q.elim
  | .sto, _, q => q.elim

section
variable {X : Cx} {W : WX} {a b c e : Expr} {es : List Expr} {da db dc de : DTE} {pos pos' p p2 : Pos} {x : Str}
/-! ### names, constants -/
def slR (s : Sl) (Q : RV → Prop) : Prop := match s with
  | .no => False
  | .dat d => Q (.dat d)
  | .new d => Q (.new d)
  | .own ds => Q (.view ds)
  | .raw v => Q (.raw v)
  | .sto => Q .sto
  | .dic _ => False
  | .tre _ => False
def dVar (i : Nat) : DTE := fun δ Q _ => slR (δ.getD i .no) Q
def dK (d : D) : DTE := fun _ Q _ => Q (.dat d)
theorem getD_some {δ : DSt} {i : Nat} {s : Sl} (h : δ.getD i .no = s) (n : s ≠ .no) : δ[i]? = some s := by
  rw [List.getD_eq_getElem?_getD] at h
  cases e : δ[i]? with
  | none => rw [e] at h; exact absurd h.symm n
  | some t => rw [e] at h; rw [← h]; rfl
theorem var_ok {K : PySem.W.Frag} {B : Base} {δ : DSt} {σ : St} {G H : Hp} {i : Nat} {Q2 : RV → Prop} (R : Rel K B δ σ G H) (h : slR (δ.getD i .no) Q2) : ∃ v r, σ[i]? = some (some v) ∧ RvOk K B.M B.H H G H v r ∧ Q2 r := by
  generalize e : δ.getD i .no = s at h
  cases s with
  | no => exact h.elim
  | dat d =>
    obtain ⟨x, e1, v, rfl, k⟩ := R.at (getD_some e fun z => nomatch z)
    exact ⟨v, .dat d, e1, k, h⟩
  | new d =>
    obtain ⟨x, e1, v, rfl, k⟩ := R.at (getD_some e fun z => nomatch z)
    exact ⟨v, .new d, e1, k, h⟩
  | own ds =>
    obtain ⟨x, e1, a, xs, rfl, k1, k2, k3, k4, k5⟩ := R.at (getD_some e fun z => nomatch z)
    exact ⟨_, .view ds, e1, ⟨a, xs, rfl, k3, k4, k5⟩, h⟩
  | raw v =>
    obtain ⟨x, e1, k⟩ := R.at (getD_some e fun z => nomatch z)
    cases (show x = some v from k)
    exact ⟨v, .raw v, e1, rfl, h⟩
  | sto =>
    obtain ⟨x, e1, a, rfl, k⟩ := R.at (getD_some e fun z => nomatch z)
    exact ⟨_, .sto, e1, ⟨a, rfl, k⟩, h⟩
  | dic kvs => exact h.elim
  | tre d => exact h.elim
theorem de_var (i : Nat) (hN : X.N[i]? = some x := by rfl) (hv : Vis X.env.scope x := by first | exact Or.inl rfl | exact Or.inr (Or.inl rfl) | exact Or.inr (Or.inr rfl)) (hd : (x == ("__debug__" : Str)) = false := by decide)
    (hcd : (x == ("__classdict__" : Str)) = false := by decide) : PE X (.Name x pos) (lE X.K W (dVar i)) := by
  refine (pe_var hN hv hd hcd).imp fun σ H Q h => ?_
  obtain ⟨B, δ, G, Q2, X2, R, h, k, kx⟩ := h
  obtain ⟨v, r, e, o, q⟩ := var_ok R h
  exact ⟨v, e, k r v G H R.wd .refl o q⟩
theorem lE_K {K : PySem.W.Frag} {σ : St} {H : Hp} {Q : VK} {d : D} {v : V} (hd : ∀ G, Dt K G v d) (h : lE K W (dK d) σ H Q) : tC v σ H Q := by
  obtain ⟨B, δ, G, Q2, X2, R, h, k, kx⟩ := h
  exact k (.dat d) v G H R.wd .refl (hd G) h
theorem de_int {i : Int} {j} : PE X (.Constant (.int i) j pos) (lE X.K W (dK (.int i))) := pe_int.imp fun _ _ _ h => lE_K (fun _ => .int i) h
theorem de_bl {i : Bool} {j} : PE X (.Constant (.bool i) j pos) (lE X.K W (dK (.bool i))) := pe_bl.imp fun _ _ _ h => lE_K (fun _ => .bl i) h
theorem de_non {j} : PE X (.Constant .none j pos) (lE X.K W (dK .none)) := pe_non.imp fun _ _ _ h => lE_K (fun _ => .non) h
theorem de_str {z : Str} {j} : PE X (.Constant (.str z) j pos) (lE X.K W (dK (.str z))) := pe_str.imp fun _ _ _ h => lE_K (fun _ => .str z) h
/-- a constant of the module -/
theorem de_glob {d : D} {v : V} {u : Value} (hm : X.mg x = some u) (r : RelV v u) (hd : ∀ G, Dt X.K G v d) (hg : Gl X x := by rfl) (hdb : (x == ("__debug__" : Str)) = false := by decide) : PE X (.Name x pos) (lE X.K W (dK d)) :=
  (pe_glob hg hm r hdb).imp fun _ _ _ h => lE_K hd h
theorem de_globI {i : Int} (hm : ∃ t, X.mg x = some (.int i t)) (hg : Gl X x := by rfl) (hdb : (x == ("__debug__" : Str)) = false := by decide) : PE X (.Name x pos) (lE X.K W (dK (.int i))) := by
  obtain ⟨t, hm⟩ := hm
  exact de_glob (v := .int i) hm ⟨_, rfl⟩ (fun _ => .int i) hg hdb

/-! ### operations by data -/
def Op2 (K : PySem.W.Frag) (r : R2) (f : RV → RV → (RV → Prop) → Prop) : Prop := ∀ (M : Addr → Prop) (HB H0 G H : Hp) (x y : V) (r1 r2 : RV) (Q2 : RV → Prop) (Q : VK), Wd M G H → RvOk K M HB H0 G H x r1 → RvOk K M HB H0 G H y r2 → f r1 r2 Q2 →
  (∀ q v G' H', Wd M G' H' → Ext M G H G' H' → RvOk K M HB H G' H' v q → Q2 q → Q v H') → r x y H Q
def dBin (f : RV → RV → (RV → Prop) → Prop) (da db : DTE) : DTE := fun δ Q X => da δ (fun r1 => db δ (fun r2 => f r1 r2 Q) X) X
theorem lE_bin {K : PySem.W.Frag} {r : R2} {f : RV → RV → (RV → Prop) → Prop} (hr : Op2 K r f) {σ : St} {H : Hp} {Q : VK} (h : lE K W (dBin f da db) σ H Q) : tOp r (lE K W da) (lE K W db) σ H Q := by
  obtain ⟨B, δ, G, Q2, X2, R, h, k, kx⟩ := h
  refine ⟨B, δ, G, _, X2, R, h, fun r1 x G1 H1 w1 t1 o1 q1 => ?_, kx⟩
  refine ⟨B, δ, G1, _, X2, R.step w1 t1, q1, fun r2 y G2 H2 w2 t2 o2 q2 => ?_, kx⟩
  exact hr B.M B.H H G2 H2 x y r1 r2 Q2 Q w2 (o1.mono t2) (o2.early t1.hm) q2 fun q v G3 H3 w3 t3 o3 q3 => k q v G3 H3 w3 ((t1.trans t2).trans t3) (o3.early (t1.trans t2).hm) q3
theorem de_bin {op : Operator} {r : R2} {f : RV → RV → (RV → Prop) → Prop} (ho : OpR X (binaryOp op) r) (hr : Op2 X.K r f) (ha : PE X a (lE X.K W da)) (hb : PE X b (lE X.K W db)) : PE X (.BinOp a op b pos) (lE X.K W (dBin f da db)) :=
  (pe_op ho ha hb).imp fun _ _ _ h => lE_bin hr h
theorem de_cmp {op : CmpOp} {r : R2} {f : RV → RV → (RV → Prop) → Prop} (ho : OpR X (compareOp op) r) (hr : Op2 X.K r f) (ha : PE X a (lE X.K W da)) (hb : PE X b (lE X.K W db)) (hm : behindInMarks op b = false) : PE X (.Compare a [op] [b] pos) (lE X.K W (dBin f da db)) :=
  (pe_cmpR ho ha hb hm).imp fun _ _ _ h => lE_bin hr h
/-- a test of a value that is a bool -/
def dB (de : DTE) : DTT := fun δ Q X => de δ (fun r => isB r Q) X
theorem lT_of {K : PySem.W.Frag} {t : TE} (i : ∀ σ H Q, lE K W de σ H Q → t σ H Q) {σ : St} {H : Hp} {Q : Bool → Hp → Prop} (h : lT K W (dB de) σ H Q) : tTest t σ H Q := by
  obtain ⟨B, δ, G, Q2, X2, R, h, k, kx⟩ := h
  refine i _ _ _ ⟨B, δ, G, _, X2, R, h, fun r v G1 H1 w1 t1 o1 q1 => ?_, kx⟩
  obtain ⟨b, rfl, q⟩ := isB_ok o1 q1
  exact ⟨b, rfl, k b G1 H1 w1 t1 q⟩
theorem dt_cmp {op : CmpOp} {r : R2} {f : RV → RV → (RV → Prop) → Prop} (ho : OpR X (compareOp op) r) (hr : Op2 X.K r f) (ha : PE X a (lE X.K W da)) (hb : PE X b (lE X.K W db)) (hm : behindInMarks op b = false) : PT X (.Compare a [op] [b] pos) (lT X.K W (dB (dBin f da db))) :=
  (pt_cmpR ho ha hb hm).imp fun _ _ _ h => lT_of (fun _ _ _ h => lE_bin hr h) h
theorem dt_val (h : PE X e (lE X.K W de)) (he : ∀ whole, isTrue e X.env whole = (do let v ← whole; standAt e.pos; holding [v] (truthy v)) := by intro _; rfl) : PT X e (lT X.K W (dB de)) :=
  (pt_val h he).imp fun _ _ _ h => lT_of (fun _ _ _ h => h) h

/-! ### and, or, not -/
variable {dt du : DTT} {rest : List Expr}
def dAnd (t u : DTT) : DTT := fun δ Q X => t δ (fun b => Br b (u δ Q X) (Q false)) X
def dOr (t u : DTT) : DTT := fun δ Q X => t δ (fun b => Br b (Q true) (u δ Q X)) X
def dNot (t : DTT) : DTT := fun δ Q X => t δ (fun b => Q (!b)) X
theorem dw_and1 (ha : PT X a (lT X.K W dt)) : PW X (.BoolOp .And [a] pos) (lT X.K W dt) := pw_and1 ha
theorem dw_or1 (ha : PT X a (lT X.K W dt)) : PW X (.BoolOp .Or [a] pos) (lT X.K W dt) := pw_or1 ha
theorem dw_and (ha : PT X a (lT X.K W dt)) (hb : PW X (.BoolOp .And (b :: rest) pos) (lT X.K W du)) : PW X (.BoolOp .And (a :: b :: rest) pos) (lT X.K W (dAnd dt du)) := by
  refine (pw_and ha hb).imp fun σ H Q h => ?_
  obtain ⟨B, δ, G, Q2, X2, R, h, k, kx⟩ := h
  refine ⟨B, δ, G, _, X2, R, h, fun b G1 H1 w1 t1 q1 => ?_, kx⟩
  exact Br.ite ⟨fun e => ⟨B, δ, G1, _, X2, R.step w1 t1, q1.y e, fun b2 G2 H2 w2 t2 q2 => k b2 G2 H2 w2 (t1.trans t2) q2, kx⟩, fun e => k false G1 H1 w1 t1 (q1.n e)⟩
theorem dw_or (ha : PT X a (lT X.K W dt)) (hb : PW X (.BoolOp .Or (b :: rest) pos) (lT X.K W du)) : PW X (.BoolOp .Or (a :: b :: rest) pos) (lT X.K W (dOr dt du)) := by
  refine (pw_or ha hb).imp fun σ H Q h => ?_
  obtain ⟨B, δ, G, Q2, X2, R, h, k, kx⟩ := h
  refine ⟨B, δ, G, _, X2, R, h, fun b G1 H1 w1 t1 q1 => ?_, kx⟩
  exact Br.ite ⟨fun e => k true G1 H1 w1 t1 (q1.y e), fun e => ⟨B, δ, G1, _, X2, R.step w1 t1, q1.n e, fun b2 G2 H2 w2 t2 q2 => k b2 G2 H2 w2 (t1.trans t2) q2, kx⟩⟩
theorem dt_not (ha : PT X a (lT X.K W dt)) : PT X (.UnaryOp .Not a pos) (lT X.K W (dNot dt)) := by
  refine (pt_not ha).imp fun σ H Q h => ?_
  obtain ⟨B, δ, G, Q2, X2, R, h, k, kx⟩ := h
  exact ⟨B, δ, G, _, X2, R, h, fun b G1 H1 w1 t1 q1 => k (!b) G1 H1 w1 t1 q1, kx⟩
def dAndV (da db : DTE) : DTE := fun δ Q X => da δ (fun r => isB r fun b => Br b (db δ Q X) (Q (.dat (.bool false)))) X
def dOrV (da db : DTE) : DTE := fun δ Q X => da δ (fun r => isB r fun b => Br b (Q (.dat (.bool true))) (db δ Q X)) X
def dNotV (da : DTE) : DTE := fun δ Q X => da δ (fun r => isB r fun b => Q (.dat (.bool (!b)))) X
theorem de_one {op} (h : PE X a (lE X.K W da)) : PE X (.BoolOp op [a] pos) (lE X.K W da) := pe_one h
theorem de_and (ha : PE X a (lE X.K W da)) (hb : PE X (.BoolOp .And (b :: rest) pos) (lE X.K W db)) : PE X (.BoolOp .And (a :: b :: rest) pos) (lE X.K W (dAndV da db)) := by
  refine (pe_and ha hb).imp fun σ H Q h => ?_
  obtain ⟨B, δ, G, Q2, X2, R, h, k, kx⟩ := h
  refine ⟨B, δ, G, _, X2, R, h, fun r v G1 H1 w1 t1 o1 q1 => ?_, kx⟩
  obtain ⟨b, rfl, q⟩ := isB_ok o1 q1
  refine ⟨b, rfl, Br.ite ⟨fun e => ⟨B, δ, G1, _, X2, R.step w1 t1, q.y e, fun r2 v2 G2 H2 w2 t2 o2 q2 => k r2 v2 G2 H2 w2 (t1.trans t2) (o2.early t1.hm) q2, kx⟩, fun e => k (.dat (.bool false)) (.bl false) G1 H1 w1 t1 (Dt.bl false) (q.n e)⟩⟩
theorem de_or (ha : PE X a (lE X.K W da)) (hb : PE X (.BoolOp .Or (b :: rest) pos) (lE X.K W db)) : PE X (.BoolOp .Or (a :: b :: rest) pos) (lE X.K W (dOrV da db)) := by
  refine (pe_or ha hb).imp fun σ H Q h => ?_
  obtain ⟨B, δ, G, Q2, X2, R, h, k, kx⟩ := h
  refine ⟨B, δ, G, _, X2, R, h, fun r v G1 H1 w1 t1 o1 q1 => ?_, kx⟩
  obtain ⟨b, rfl, q⟩ := isB_ok o1 q1
  refine ⟨b, rfl, Br.ite ⟨fun e => k (.dat (.bool true)) (.bl true) G1 H1 w1 t1 (Dt.bl true) (q.y e), fun e => ⟨B, δ, G1, _, X2, R.step w1 t1, q.n e, fun r2 v2 G2 H2 w2 t2 o2 q2 => k r2 v2 G2 H2 w2 (t1.trans t2) (o2.early t1.hm) q2, kx⟩⟩⟩
theorem de_not (ha : PE X a (lE X.K W da)) : PE X (.UnaryOp .Not a pos) (lE X.K W (dNotV da)) := by
  refine (pe_not ha).imp fun σ H Q h => ?_
  obtain ⟨B, δ, G, Q2, X2, R, h, k, kx⟩ := h
  refine ⟨B, δ, G, _, X2, R, h, fun r v G1 H1 w1 t1 o1 q1 => ?_, kx⟩
  obtain ⟨b, rfl, q⟩ := isB_ok o1 q1
  exact ⟨b, rfl, k (.dat (.bool (!b))) (.bl (!b)) G1 H1 w1 t1 (Dt.bl _) q⟩
def dIfE (t : DTT) (da db : DTE) : DTE := fun δ Q X => t δ (fun b => Br b (da δ Q X) (db δ Q X)) X
theorem de_if (hc : PT X c (lT X.K W dt)) (ha : PE X a (lE X.K W da)) (hb : PE X b (lE X.K W db)) : PE X (.IfExp c a b pos) (lE X.K W (dIfE dt da db)) := by
  refine (pe_ifExp hc ha hb).imp fun σ H Q h => ?_
  obtain ⟨B, δ, G, Q2, X2, R, h, k, kx⟩ := h
  refine ⟨B, δ, G, _, X2, R, h, fun b G1 H1 w1 t1 q1 => ?_, kx⟩
  exact Br.ite ⟨fun e => ⟨B, δ, G1, _, X2, R.step w1 t1, q1.y e, fun r2 v2 G2 H2 w2 t2 o2 q2 => k r2 v2 G2 H2 w2 (t1.trans t2) (o2.early t1.hm) q2, kx⟩,
    fun e => ⟨B, δ, G1, _, X2, R.step w1 t1, q1.n e, fun r2 v2 G2 H2 w2 t2 o2 q2 => k r2 v2 G2 H2 w2 (t1.trans t2) (o2.early t1.hm) q2, kx⟩⟩
/-- a op b op' c -/
def dChain (f f' : RV → RV → (RV → Prop) → Prop) (da db dc : DTE) : DTE := fun δ Q X => da δ (fun r1 => db δ (fun r2 => f r1 r2 fun q => isB q fun b => Br b (dc δ (fun r3 => f' r2 r3 Q) X) (Q (.dat (.bool false)))) X) X
theorem lE_chain {K : PySem.W.Frag} {r r' : R2} {f f' : RV → RV → (RV → Prop) → Prop} (hr : Op2 K r f) (hr' : Op2 K r' f') {σ : St} {H : Hp} {Q : VK} (h : lE K W (dChain f f' da db dc) σ H Q) : tChain r r' (lE K W da) (lE K W db) (lE K W dc) σ H Q := by
  obtain ⟨B, δ, G, Q2, X2, R, h, k, kx⟩ := h
  refine ⟨B, δ, G, _, X2, R, h, fun r1 x G1 H1 w1 t1 o1 q1 => ?_, kx⟩
  refine ⟨B, δ, G1, _, X2, R.step w1 t1, q1, fun r2 y G2 H2 w2 t2 o2 q2 => ?_, kx⟩
  refine hr B.M B.H H G2 H2 x y r1 r2 _ _ w2 (o1.mono t2) (o2.early t1.hm) q2 fun q v G3 H3 w3 t3 o3 q3 => ?_
  obtain ⟨b, rfl, q⟩ := isB_ok o3 q3
  refine ⟨b, rfl, Br.ite ⟨fun e => ?_, fun e => k (.dat (.bool false)) (.bl false) G3 H3 w3 ((t1.trans t2).trans t3) (Dt.bl false) (q.n e)⟩⟩
  refine ⟨B, δ, G3, _, X2, ((R.step w1 t1).step w2 t2).step w3 t3, q.y e, fun r3 z G4 H4 w4 t4 o4 q4 => ?_, kx⟩
  have t14 := ((t1.trans t2).trans t3).trans t4
  exact hr' B.M B.H H1 G4 H4 y z r2 r3 Q2 Q w4 (o2.mono (t3.trans t4)) (o4.early (t2.trans t3).hm) q4 fun q5 v G5 H5 w5 t5 o5 q6 => k q5 v G5 H5 w5 (t14.trans t5) (o5.early t14.hm) q6
theorem de_chain {op op' : CmpOp} {r r' : R2} {f f' : RV → RV → (RV → Prop) → Prop} (ho : OpR X (compareOp op) r) (ho' : OpR X (compareOp op') r') (hr : Op2 X.K r f) (hr' : Op2 X.K r' f') (ha : PE X a (lE X.K W da)) (hb : PE X b (lE X.K W db)) (hc : PE X c (lE X.K W dc))
    (hm : lastMarks [op, op'] [b, c] = false := by with_unfolding_all rfl) : PE X (.Compare a [op, op'] [b, c] pos) (lE X.K W (dChain f f' da db dc)) := (pe_chain ho ho' ha hb hc hm).imp fun _ _ _ h => lE_chain hr hr' h
theorem dt_chain {op op' : CmpOp} {r r' : R2} {f f' : RV → RV → (RV → Prop) → Prop} (ho : OpR X (compareOp op) r) (ho' : OpR X (compareOp op') r') (hr : Op2 X.K r f) (hr' : Op2 X.K r' f') (ha : PE X a (lE X.K W da)) (hb : PE X b (lE X.K W db)) (hc : PE X c (lE X.K W dc))
    (hm : lastMarks [op, op'] [b, c] = false := by with_unfolding_all rfl) : PT X (.Compare a [op, op'] [b, c] pos) (lT X.K W (dB (dChain f f' da db dc))) := (pt_chain ho ho' ha hb hc hm).imp fun _ _ _ h => lT_of (fun _ _ _ h => lE_chain hr hr' h) h

/-! ### arguments, displays -/
variable {dA : DTA}
def dNil : DTA := fun _ Q _ => Q []
def fzQ (r : RV) (Q : RV → Prop) : Prop := match r.fz with
  | some r' => Q r'
  | none => False
def dCons (de : DTE) (dA : DTA) : DTA := fun δ Q X => de δ (fun r => fzQ r fun r' => dA δ (fun rs => Q (r' :: rs)) X) X
theorem fzQ_some {r : RV} {Q : RV → Prop} (h : fzQ r Q) : ∃ r', r.fz = some r' ∧ Q r' := by
  unfold fzQ at h
  cases e : r.fz with
  | none => rw [e] at h; exact h.elim
  | some r' => rw [e] at h; exact ⟨r', rfl, h⟩
theorem da_nil : PA X [] (lA X.K W dNil) := pa_nil.imp fun σ H Q h => by
  obtain ⟨B, δ, G, Q2, X2, R, h, k, kx⟩ := h
  exact k [] [] G H R.wd .refl .nil h
theorem pairedImp {α β : Type} {F F' : α → β → Prop} (i : ∀ x y, F x y → F' x y) : ∀ {l : List α} {l' : List β}, Paired F l l' → Paired F' l l'
  | _, _, .nil => .nil
  | _, _, .cons h t => .cons (i _ _ h) (pairedImp i t)
theorem da_cons (he : PE X e (lE X.K W de)) (hs : PA X es (lA X.K W dA)) (hst : starEach (e :: es) X.env = (false, eval e X.env) :: starEach es X.env := by rfl) : PA X (e :: es) (lA X.K W (dCons de dA)) := by
  refine (pa_cons he hs hst).imp fun σ H Q h => ?_
  obtain ⟨B, δ, G, Q2, X2, R, h, k, kx⟩ := h
  refine ⟨B, δ, G, _, X2, R, h, fun r v G1 H1 w1 t1 o1 q1 => ?_, kx⟩
  obtain ⟨r', e1, q1⟩ := fzQ_some q1
  obtain ⟨G2, w2, t2, s2, o2⟩ := o1.fz w1 t1 e1
  refine ⟨B, δ, G2, _, X2, R.step w2 t2, q1, fun rs vs G3 H3 w3 t3 o3 q3 => ?_, kx⟩
  exact k _ _ G3 H3 w3 (t2.trans t3) (.cons (o2.mono t3.gg) o3) q3
/-- the items of a display: all data -/
def datas : List RV → Option (List D)
  | [] => some []
  | .dat d :: rs => (datas rs).map (d :: ·)
  | .new d :: rs => (datas rs).map (d :: ·)
  | _ :: _ => none
theorem datas_ok {K : PySem.W.Frag} {M : Addr → Prop} {HB G : Hp} : ∀ {rs : List RV} {vs : List V} {ds : List D}, Paired (fun v r => AOk K M HB G v r) vs rs → datas rs = some ds → DtA K G vs ds
  | [], _, _, .nil, e => by cases e; exact .nil
  | .dat d :: rs, _, _, .cons h t, e => by
    unfold datas at e
    cases z : datas rs with
    | none => rw [z] at e; cases e
    | some es => rw [z] at e; cases e; exact .cons h (datas_ok t z)
  | .new d :: rs, _, _, .cons h t, e => by
    unfold datas at e
    cases z : datas rs with
    | none => rw [z] at e; cases e
    | some es => rw [z] at e; cases e; exact .cons (Nw.dt h) (datas_ok t z)
  | .own _ :: _, _, _, _, e => nomatch e
  | .view _ :: _, _, _, _, e => nomatch e
  | .raw _ :: _, _, _, _, e => nomatch e
  | .sto :: _, _, _, _, e => nomatch e
def dsQ (rs : List RV) (Q : List D → Prop) : Prop := match datas rs with
  | some ds => ds.length ≤ sizeLine ∧ Q ds
  | none => False
theorem dsQ_some {rs : List RV} {Q : List D → Prop} (h : dsQ rs Q) : ∃ ds, datas rs = some ds ∧ ds.length ≤ sizeLine ∧ Q ds := by
  unfold dsQ at h
  cases e : datas rs with
  | none => rw [e] at h; exact h.elim
  | some ds => rw [e] at h; exact ⟨ds, rfl, h.1, h.2⟩
def dTup (dA : DTA) : DTE := fun δ Q X => dA δ (fun rs => dsQ rs fun ds => Q (.dat (.tuple ds))) X
def dLst (dA : DTA) : DTE := fun δ Q X => dA δ (fun rs => dsQ rs fun ds => Q (.own ds)) X
theorem de_tup {k : Nat} (hs : PA X es (lA X.K W dA)) : PE X (.Tuple es k pos) (lE X.K W (dTup dA)) := by
  refine (pe_tup hs).imp fun σ H Q h => ?_
  obtain ⟨B, δ, G, Q2, X2, R, h, k, kx⟩ := h
  refine ⟨B, δ, G, _, X2, R, h, fun rs vs G1 H1 w1 t1 o1 q1 => ?_, kx⟩
  obtain ⟨ds, e, hz, q⟩ := dsQ_some q1
  have dt := datas_ok o1 e
  refine ⟨by rw [dt.length]; exact hz, fun p hp => ?_⟩
  have s : Same G1 (upd G1 p (.tup vs)) := same_upd (w1.noG hp)
  exact k (.dat (.tuple ds)) _ (upd G1 p (.tup vs)) _ (w1.allocG hp) (t1.trans (Ext.allocG w1 hp)) (Dt.tup (SqT.of upd_same) (dt.mono s)) q
theorem de_lst (hs : PA X es (lA X.K W dA)) : PE X (.List es pos) (lE X.K W (dLst dA)) := by
  refine (pe_lst hs).imp fun σ H Q h => ?_
  obtain ⟨B, δ, G, Q2, X2, R, h, k, kx⟩ := h
  refine ⟨B, δ, G, _, X2, R, h, fun rs vs G1 H1 w1 t1 o1 q1 => ?_, kx⟩
  obtain ⟨ds, e, hz, q⟩ := dsQ_some q1
  have dt := datas_ok o1 e
  refine ⟨by rw [dt.length]; exact hz, fun p hp => ?_⟩
  exact k (.own ds) _ G1 _ (w1.alloc hp) (t1.trans (Ext.alloc hp)) ⟨p, vs, rfl, none_early t1.hm p hp, w1.noG hp, w1.nm hp, upd_same, dt⟩ q
end
end RB

set_option Elab.async false
set_option linter.all false
set_option maxRecDepth 100000
set_option maxHeartbeats 4000000
/-! RB3: operators, subscripts, built-ins, calls over data -/
namespace RB
open PySem PySem.Spec PyProof.Rows L2
def isNone (d : D) : Bool := match d with
  | .none => true
  | _ => false
section
variable {K : PySem.W.Frag} {M : Addr → Prop} {HB H0 G H : Hp} {v : V} {r : RV}
theorem RvOk.int {i : Int} (h : RvOk K M HB H0 G H v r) (e : r.d? = some (.int i)) : v = .int i := by
  have q := RvOk.dt (by intro _ z; cases z) h e
  cases q
  rfl
theorem RvOk.bool {i : Bool} (h : RvOk K M HB H0 G H v r) (e : r.d? = some (.bool i)) : v = .bl i := by
  have q := RvOk.dt (by intro _ z; cases z) h e
  cases q
  rfl
theorem RvOk.str {i : Str} (h : RvOk K M HB H0 G H v r) (e : r.d? = some (.str i)) : v = .str i := by
  have q := RvOk.dt (by intro _ z; cases z) h e
  cases q
  rfl
theorem RvOk.tup {ds : List D} (h : RvOk K M HB H0 G H v r) (e : r.d? = some (.tuple ds)) : ∃ a xs, v = .ref a ∧ SqT K G a xs ∧ DtA K G xs ds := by
  have q := RvOk.dt (by intro _ z; cases z) h e
  cases q with
  | tup h1 h2 => exact ⟨_, _, rfl, h1, h2⟩
theorem RvOk.non {d : D} (h : RvOk K M HB H0 G H v r) (e : r.d? = some d) : decide (v = .non) = isNone d := by
  cases d with
  | none =>
    have q := RvOk.dt (by intro _ z; cases z) h e
    cases q
    rfl
  | bool b => rw [h.bool e]; rfl
  | int b => rw [h.int e]; rfl
  | str b => rw [h.str e]; rfl
  | list ds =>
    cases r with
    | dat d => cases e; cases h; rfl
    | new d => cases e; cases Nw.dt h; rfl
    | own es => obtain ⟨a, xs, rfl, _⟩ := h; rfl
    | view es => obtain ⟨a, xs, rfl, _⟩ := h; rfl
    | raw _ => cases e
    | sto => cases e
  | tuple ds => obtain ⟨a, xs, rfl, _⟩ := h.tup e; rfl
  | dict _ =>
    have q := RvOk.dt (by intro _ z; cases z) h e
    cases q
end
/-! ### arithmetic -/
def MulOk (i j : Int) : Prop := CMul i j ∨ CMulX i j
def DivOk (j : Int) : Prop := 0 < j ∧ j.natAbs.log2 < 9000
def PowOk (i j : Int) : Prop := 0 ≤ j ∧ (Builtin.Int.intBits i : Int) * j ≤ 2 ^ 27
def bAdd (r1 r2 : RV) (Q : RV → Prop) : Prop := match r1.d?, r2.d? with
  | some (.int i), some (.int j) => Q (.dat (.int (i + j)))
  | some (.list xs), some (.list ys) => xs.length + ys.length ≤ sizeLine ∧ Q (.own (xs ++ ys))
  | some (.tuple xs), some (.tuple ys) => xs.length + ys.length ≤ sizeLine ∧ Q (.dat (.tuple (xs ++ ys)))
  | some (.str x), some (.str y) => x.length + y.length ≤ sizeLine ∧ Q (.dat (.str (x ++ y)))
  | _, _ => False
def bSub (r1 r2 : RV) (Q : RV → Prop) : Prop := match r1.d?, r2.d? with
  | some (.int i), some (.int j) => Q (.dat (.int (i - j)))
  | _, _ => False
def bMul (r1 r2 : RV) (Q : RV → Prop) : Prop := match r1.d?, r2.d? with
  | some (.int i), some (.int j) => MulOk i j ∧ Q (.dat (.int (i * j)))
  | some (.list xs), some (.int k) => (-(2 ^ 63) ≤ k ∧ k < 2 ^ 63 ∧ xs.length * k.toNat ≤ sizeLine) ∧ Q (.own (List.replicate k.toNat xs).flatten)
  | _, _ => False
def bDiv (r1 r2 : RV) (Q : RV → Prop) : Prop := match r1.d?, r2.d? with
  | some (.int i), some (.int j) => DivOk j ∧ Q (.dat (.int (i / j)))
  | _, _ => False
def bMod (r1 r2 : RV) (Q : RV → Prop) : Prop := match r1.d?, r2.d? with
  | some (.int i), some (.int j) => 0 < j ∧ Q (.dat (.int (i % j)))
  | _, _ => False
def bPow (r1 r2 : RV) (Q : RV → Prop) : Prop := match r1.d?, r2.d? with
  | some (.int i), some (.int j) => PowOk i j ∧ Q (.dat (.int (i ^ j.toNat)))
  | _, _ => False
def bI2 (g : Int → Int → Int) (r1 r2 : RV) (Q : RV → Prop) : Prop := match r1.d?, r2.d? with
  | some (.int i), some (.int j) => Q (.dat (.int (g i j)))
  | _, _ => False
def bShr (r1 r2 : RV) (Q : RV → Prop) : Prop := match r1.d?, r2.d? with
  | some (.int i), some (.int j) => 0 ≤ j ∧ Q (.dat (.int (i / 2 ^ j.toNat)))
  | _, _ => False
def bC2 (g : Int → Int → Bool) (r1 r2 : RV) (Q : RV → Prop) : Prop := match r1.d?, r2.d? with
  | some (.int i), some (.int j) => Q (.dat (.bool (g i j)))
  | _, _ => False
abbrev bLt := bC2 fun i j => decide (i < j)
abbrev bLe := bC2 fun i j => decide (i ≤ j)
abbrev bGt := bC2 fun i j => decide (j < i)
abbrev bGe := bC2 fun i j => decide (j ≤ i)
def shp (d : D) : Prop := SeqAt.shaped d = true
def bEq (r1 r2 : RV) (Q : RV → Prop) : Prop := match r1.d?, r2.d? with
  | some (.int i), some (.int j) => Q (.dat (.bool (decide (i = j))))
  | some (.str i), some (.str j) => Q (.dat (.bool (decide (i = j))))
  | some d, some e => (shp d ∧ shp e) ∧ Q (.dat (.bool (PyData.eqv d e)))
  | _, _ => False
def bNe (r1 r2 : RV) (Q : RV → Prop) : Prop := match r1.d?, r2.d? with
  | some (.int i), some (.int j) => Q (.dat (.bool (!decide (i = j))))
  | some (.str i), some (.str j) => Q (.dat (.bool (!decide (i = j))))
  | some d, some e => (shp d ∧ shp e) ∧ Q (.dat (.bool (!PyData.eqv d e)))
  | _, _ => False
def bIsN (r1 r2 : RV) (Q : RV → Prop) : Prop := match r1.d?, r2.d? with
  | some d, some .none => Q (.dat (.bool (isNone d)))
  | _, _ => False
def bNotN (r1 r2 : RV) (Q : RV → Prop) : Prop := match r1.d?, r2.d? with
  | some d, some .none => Q (.dat (.bool (!isNone d)))
  | _, _ => False
def bIn (neg : Bool) (r1 r2 : RV) (Q : RV → Prop) : Prop := match r1.d?, r2.d? with
  | some (.int i), some (.list ds) => ∃ ns : List Int, ds = ns.map PyData.int ∧ Q (.dat (.bool (if neg then !decide (i ∈ ns) else decide (i ∈ ns))))
  | _, _ => False
section
variable {K : PySem.W.Frag}
theorem op2_I {C : Int → Int → Prop} {g : Int → Int → Int} {f : RV → RV → (RV → Prop) → Prop} (h : ∀ r1 r2 Q, f r1 r2 Q → ∃ i j, r1.d? = some (.int i) ∧ r2.d? = some (.int j) ∧ C i j ∧ Q (.dat (.int (g i j)))) : Op2 K (rI C fun i j => .int (g i j)) f := by
  intro M HB H0 G H x y r1 r2 Q2 Q w o1 o2 hf k
  obtain ⟨i, j, e1, e2, c, q⟩ := h _ _ _ hf
  exact ⟨i, j, o1.int e1, o2.int e2, c, k (.dat (.int (g i j))) _ G H w .refl (Dt.int _) q⟩
theorem op2_B {g : Int → Int → Bool} : Op2 K (rI0 fun i j => .bl (g i j)) (bC2 g) := by
  intro M HB H0 G H x y r1 r2 Q2 Q w o1 o2 hf k
  unfold bC2 at hf
  split at hf
  · rename_i i j e1 e2
    exact ⟨i, j, o1.int e1, o2.int e2, k (.dat (.bool (g i j))) _ G H w .refl (Dt.bl _) hf⟩
  · exact hf.elim
theorem op2_I0 {g : Int → Int → Int} : Op2 K (rI0 fun i j => .int (g i j)) (bI2 g) := by
  intro M HB H0 G H x y r1 r2 Q2 Q w o1 o2 hf k
  unfold bI2 at hf
  split at hf
  · rename_i i j e1 e2
    exact ⟨i, j, o1.int e1, o2.int e2, k (.dat (.int (g i j))) _ G H w .refl (Dt.int _) hf⟩
  · exact hf.elim
def rAddA (K : PySem.W.Frag) : R2 := fun x y H Q => rI0 (fun i j => .int (i + j)) x y H Q ∨ (rCat x y H Q ∨ (rCatA K x y H Q ∨ (∃ i j, x = .str i ∧ y = .str j ∧ i.length + j.length ≤ sizeLine ∧ Q (.str (i ++ j)) H)))
theorem op_addA {X : Cx} : OpR X (binaryOp .Add) (rAddA X.K) := OpR.or op_add (OpR.or op_cat (OpR.or op_catA op_add_str))
theorem o2_add : Op2 K (rAddA K) bAdd := by
  intro M HB H0 G H x y r1 r2 Q2 Q w o1 o2 hf k
  unfold bAdd at hf
  split at hf
  · rename_i i j e1 e2
    exact .inl ⟨i, j, o1.int e1, o2.int e2, k (.dat (.int (i + j))) _ G H w .refl (Dt.int _) hf⟩
  · rename_i xs ys e1 e2
    obtain ⟨a, us, rfl, h1, d1⟩ := o1.lst w.sub e1
    obtain ⟨b, vs, rfl, h2, d2⟩ := o2.lst w.sub e2
    refine .inr (.inl ⟨a, b, us, vs, rfl, rfl, h1, h2, by rw [d1.length, d2.length]; exact hf.1, fun p hp => ?_⟩)
    exact k (.own (xs ++ ys)) _ G _ (w.alloc hp) (Ext.alloc hp) ⟨p, _, rfl, hp, w.noG hp, w.nm hp, upd_same, d1.append d2⟩ hf.2
  · rename_i xs ys e1 e2
    obtain ⟨a, us, rfl, h1, d1⟩ := o1.tup e1
    obtain ⟨b, vs, rfl, h2, d2⟩ := o2.tup e2
    refine .inr (.inr (.inl ⟨a, b, us, vs, rfl, rfl, same_sqT w.sub h1, same_sqT w.sub h2, by rw [d1.length, d2.length]; exact hf.1, fun e => ?_, fun _ e => ?_, fun _ _ p hp => ?_⟩))
    · subst e
      cases d1
      exact k (.dat (.tuple ([] ++ ys))) _ G H w .refl (Dt.tup h2 d2) hf.2
    · subst e
      cases d2
      refine k (.dat (.tuple (xs ++ []))) _ G H w .refl ?_ hf.2
      rw [List.append_nil]
      exact Dt.tup h1 d1
    · have s : Same G (upd G p (.tup (us ++ vs))) := same_upd (w.noG hp)
      exact k (.dat (.tuple (xs ++ ys))) _ _ _ (w.allocG hp) (Ext.allocG w hp) (Dt.tup (SqT.of upd_same) ((d1.append d2).mono s)) hf.2
  · rename_i xs ys e1 e2
    exact .inr (.inr (.inr ⟨xs, ys, o1.str e1, o2.str e2, hf.1, k (.dat (.str (xs ++ ys))) _ G H w .refl (Dt.str _) hf.2⟩))
  · exact hf.elim
theorem o2_sub : Op2 K (rI0 fun i j => .int (i - j)) bSub := op2_I0 (g := fun i j => i - j)
def rMulA : R2 := fun x y H Q => rI CMul (fun i j => .int (i * j)) x y H Q ∨ (rI CMulX (fun i j => .int (i * j)) x y H Q ∨ rRep x y H Q)
theorem op_mulA {X : Cx} : OpR X (binaryOp .Mult) rMulA := OpR.or op_mul (OpR.or op_mulX op_rep)
theorem o2_mul : Op2 K rMulA bMul := by
  intro M HB H0 G H x y r1 r2 Q2 Q w o1 o2 hf k
  unfold bMul at hf
  split at hf
  · rename_i i j e1 e2
    have q := k (.dat (.int (i * j))) _ G H w .refl (Dt.int _) hf.2
    rcases hf.1 with c | c
    · exact .inl ⟨i, j, o1.int e1, o2.int e2, c, q⟩
    · exact .inr (.inl ⟨i, j, o1.int e1, o2.int e2, c, q⟩)
  · rename_i xs n e1 e2
    obtain ⟨a, us, rfl, h1, d1⟩ := o1.lst w.sub e1
    refine .inr (.inr ⟨a, n, us, rfl, o2.int e2, h1, hf.1.1, hf.1.2.1, by rw [d1.length]; exact hf.1.2.2, fun p hp => ?_⟩)
    exact k (.own _) _ G _ (w.alloc hp) (Ext.alloc hp) ⟨p, _, rfl, hp, w.noG hp, w.nm hp, upd_same, d1.flat n.toNat⟩ hf.2
  · exact hf.elim
theorem o2_div : Op2 K (rI CDivW fun i j => .int (i / j)) bDiv := op2_I (g := fun i j => i / j) fun r1 r2 Q h => by
  unfold bDiv at h
  split at h
  · rename_i i j e1 e2
    exact ⟨i, j, e1, e2, h.1, h.2⟩
  · exact h.elim
theorem o2_mod : Op2 K (rI (fun _ j => 0 < j) fun i j => .int (i % j)) bMod := op2_I (g := fun i j => i % j) fun r1 r2 Q h => by
  unfold bMod at h
  split at h
  · rename_i i j e1 e2
    exact ⟨i, j, e1, e2, h.1, h.2⟩
  · exact h.elim
theorem op_powW {X : Cx} : OpR X (binaryOp .Pow) (rI PowOk fun i j => .int (i ^ j.toNat)) := opI fun _ _ _ _ _ _ _ hc q => pow_int hc.1 hc.2 q
theorem o2_pow : Op2 K (rI PowOk fun i j => .int (i ^ j.toNat)) bPow := op2_I (g := fun i j => i ^ j.toNat) fun r1 r2 Q h => by
  unfold bPow at h
  split at h
  · rename_i i j e1 e2
    exact ⟨i, j, e1, e2, h.1, h.2⟩
  · exact h.elim
theorem o2_shr : Op2 K (rI (fun _ j => 0 ≤ j) fun i j => .int (i / 2 ^ j.toNat)) bShr := op2_I (g := fun i j => i / 2 ^ j.toNat) fun r1 r2 Q h => by
  unfold bShr at h
  split at h
  · rename_i i j e1 e2
    exact ⟨i, j, e1, e2, h.1, h.2⟩
  · exact h.elim
def rEqA (K : PySem.W.Frag) : R2 := fun x y H Q => rEq x y H Q ∨ rEqD K x y H Q
theorem op_eqA {X : Cx} (hu : X.A.units + 64 < cLine) : OpR X (compareOp .Eq) (rEqA X.K) := OpR.or op_eq (op_eqD hu)
def rNeA (K : PySem.W.Frag) : R2 := fun x y H Q => rNe x y H Q ∨ rNeD K x y H Q
theorem op_neA {X : Cx} (hu : X.A.units + 64 < cLine) : OpR X (compareOp .NotEq) (rNeA X.K) := OpR.or op_ne (op_neD hu)
theorem dec_int (i j : Int) : decide (V.int i = V.int j) = decide (i = j) := by
  by_cases h : i = j
  · subst h; rw [decide_eq_true rfl, decide_eq_true rfl]
  · rw [decide_eq_false h, decide_eq_false fun e => h (V.int.inj e)]
theorem dec_str (i j : Str) : decide (V.str i = V.str j) = decide (i = j) := by
  by_cases h : i = j
  · subst h; rw [decide_eq_true rfl, decide_eq_true rfl]
  · rw [decide_eq_false h, decide_eq_false fun e => h (V.str.inj e)]
theorem o2_eq : Op2 K (rEqA K) bEq := by
  intro M HB H0 G H x y r1 r2 Q2 Q w o1 o2 hf k
  unfold bEq at hf
  split at hf
  · rename_i i j e1 e2
    have ex := o1.int e1
    have ey := o2.int e2
    subst ex ey
    refine .inl ⟨rfl, ?_⟩
    rw [dec_int]
    exact k (.dat (.bool _)) _ G H w .refl (Dt.bl _) hf
  · rename_i i j e1 e2
    have ex := o1.str e1
    have ey := o2.str e2
    subst ex ey
    refine .inl ⟨rfl, ?_⟩
    rw [dec_str]
    exact k (.dat (.bool _)) _ G H w .refl (Dt.bl _) hf
  · rename_i d e _ _ e1 e2
    exact .inr ⟨d, e, o1.dp w.sub e1, o2.dp w.sub e2, hf.1.1, hf.1.2, k (.dat (.bool _)) _ G H w .refl (Dt.bl _) hf.2⟩
  · exact hf.elim
theorem o2_ne : Op2 K (rNeA K) bNe := by
  intro M HB H0 G H x y r1 r2 Q2 Q w o1 o2 hf k
  unfold bNe at hf
  split at hf
  · rename_i i j e1 e2
    have ex := o1.int e1
    have ey := o2.int e2
    subst ex ey
    refine .inl ⟨rfl, ?_⟩
    rw [dec_int]
    exact k (.dat (.bool _)) _ G H w .refl (Dt.bl _) hf
  · rename_i i j e1 e2
    have ex := o1.str e1
    have ey := o2.str e2
    subst ex ey
    refine .inl ⟨rfl, ?_⟩
    rw [dec_str]
    exact k (.dat (.bool _)) _ G H w .refl (Dt.bl _) hf
  · rename_i d e _ _ e1 e2
    exact .inr ⟨d, e, o1.dp w.sub e1, o2.dp w.sub e2, hf.1.1, hf.1.2, k (.dat (.bool _)) _ G H w .refl (Dt.bl _) hf.2⟩
  · exact hf.elim
theorem o2_isN : Op2 K (fun x y H Q => y = .non ∧ Q (.bl (decide (x = .non))) H) bIsN := by
  intro M HB H0 G H x y r1 r2 Q2 Q w o1 o2 hf k
  unfold bIsN at hf
  split at hf
  · rename_i d e1 e2
    have e := o2.non e2
    refine ⟨of_decide_eq_true e, ?_⟩
    rw [o1.non e1]
    exact k (.dat (.bool (isNone d))) _ G H w .refl (Dt.bl _) hf
  · exact hf.elim
theorem o2_notN : Op2 K (fun x y H Q => y = .non ∧ Q (.bl (!decide (x = .non))) H) bNotN := by
  intro M HB H0 G H x y r1 r2 Q2 Q w o1 o2 hf k
  unfold bNotN at hf
  split at hf
  · rename_i d e1 e2
    have e := o2.non e2
    refine ⟨of_decide_eq_true e, ?_⟩
    rw [o1.non e1]
    exact k (.dat (.bool (!isNone d))) _ G H w .refl (Dt.bl _) hf
  · exact hf.elim
theorem inV_ints (i : Int) (ns : List Int) : inV (.int i) (ns.map V.int) = decide (i ∈ ns) := by
  unfold inV
  induction ns with
  | nil => rfl
  | cons n r ih =>
    rw [List.map_cons, List.any_cons, ih]
    have e : eqV (V.int n) (V.int i) = decide (n = i) := by
      unfold eqV
      by_cases h : n = i
      · subst h; simp
      · simp [h]
    rw [e]
    by_cases h : n = i
    · subst h; simp
    · by_cases h2 : i ∈ r
      · simp [h2]
      · simp [h, h2, Ne.symm h]
theorem o2_in {neg : Bool} : Op2 K (rIn K neg) (bIn neg) := by
  intro M HB H0 G H x y r1 r2 Q2 Q w o1 o2 hf k
  unfold bIn at hf
  split at hf
  · rename_i i ds e1 e2
    obtain ⟨ns, rfl, q⟩ := hf
    obtain ⟨a, us, rfl, h1, d1⟩ := o2.lst w.sub e2
    have eu := DtA.intsV d1
    have ex := o1.int e1
    subst eu ex
    refine ⟨a, _, rfl, .inl (SqL.of h1), rfl, by rw [List.all_eq_true]; intro v hv; obtain ⟨n, _, rfl⟩ := List.mem_map.mp hv; rfl, ?_⟩
    rw [inV_ints]
    exact k (.dat (.bool _)) _ G H w .refl (Dt.bl _) q
  · exact hf.elim
end
section
variable {X : Cx} {W : WX} {a b c e : Expr} {es : List Expr} {da db dc de : DTE} {pos pos' p p2 : Pos} {x : Str}
theorem de_add (ha : PE X a (lE X.K W da)) (hb : PE X b (lE X.K W db)) : PE X (.BinOp a .Add b pos) (lE X.K W (dBin bAdd da db)) := de_bin op_addA o2_add ha hb
theorem de_sub (ha : PE X a (lE X.K W da)) (hb : PE X b (lE X.K W db)) : PE X (.BinOp a .Sub b pos) (lE X.K W (dBin bSub da db)) := de_bin op_sub o2_sub ha hb
theorem de_mul (ha : PE X a (lE X.K W da)) (hb : PE X b (lE X.K W db)) : PE X (.BinOp a .Mult b pos) (lE X.K W (dBin bMul da db)) := de_bin op_mulA o2_mul ha hb
theorem de_div (ha : PE X a (lE X.K W da)) (hb : PE X b (lE X.K W db)) : PE X (.BinOp a .FloorDiv b pos) (lE X.K W (dBin bDiv da db)) := de_bin op_fdivW o2_div ha hb
theorem de_mod (ha : PE X a (lE X.K W da)) (hb : PE X b (lE X.K W db)) : PE X (.BinOp a .Mod b pos) (lE X.K W (dBin bMod da db)) := de_bin op_mod o2_mod ha hb
theorem de_pow (ha : PE X a (lE X.K W da)) (hb : PE X b (lE X.K W db)) : PE X (.BinOp a .Pow b pos) (lE X.K W (dBin bPow da db)) := de_bin op_powW o2_pow ha hb
theorem de_xor (ha : PE X a (lE X.K W da)) (hb : PE X b (lE X.K W db)) : PE X (.BinOp a .BitXor b pos) (lE X.K W (dBin (bI2 Builtin.bitXor) da db)) := de_bin op_xor op2_I0 ha hb
theorem de_or_ (ha : PE X a (lE X.K W da)) (hb : PE X b (lE X.K W db)) : PE X (.BinOp a .BitOr b pos) (lE X.K W (dBin (bI2 Builtin.bitOr) da db)) := de_bin op_or op2_I0 ha hb
theorem de_shr (ha : PE X a (lE X.K W da)) (hb : PE X b (lE X.K W db)) : PE X (.BinOp a .RShift b pos) (lE X.K W (dBin bShr da db)) := de_bin op_shr o2_shr ha hb
theorem de_lt (ha : PE X a (lE X.K W da)) (hb : PE X b (lE X.K W db)) : PE X (.Compare a [.Lt] [b] pos) (lE X.K W (dBin bLt da db)) := de_cmp op_lt op2_B ha hb (nomark _)
theorem de_le (ha : PE X a (lE X.K W da)) (hb : PE X b (lE X.K W db)) : PE X (.Compare a [.LtE] [b] pos) (lE X.K W (dBin bLe da db)) := de_cmp op_le op2_B ha hb (nomark _)
theorem de_gt (ha : PE X a (lE X.K W da)) (hb : PE X b (lE X.K W db)) : PE X (.Compare a [.Gt] [b] pos) (lE X.K W (dBin bGt da db)) := de_cmp op_gt op2_B ha hb (nomark _)
theorem de_ge (ha : PE X a (lE X.K W da)) (hb : PE X b (lE X.K W db)) : PE X (.Compare a [.GtE] [b] pos) (lE X.K W (dBin bGe da db)) := de_cmp op_ge op2_B ha hb (nomark _)
theorem dt_lt (ha : PE X a (lE X.K W da)) (hb : PE X b (lE X.K W db)) : PT X (.Compare a [.Lt] [b] pos) (lT X.K W (dB (dBin bLt da db))) := dt_cmp op_lt op2_B ha hb (nomark _)
theorem dt_le (ha : PE X a (lE X.K W da)) (hb : PE X b (lE X.K W db)) : PT X (.Compare a [.LtE] [b] pos) (lT X.K W (dB (dBin bLe da db))) := dt_cmp op_le op2_B ha hb (nomark _)
theorem dt_gt (ha : PE X a (lE X.K W da)) (hb : PE X b (lE X.K W db)) : PT X (.Compare a [.Gt] [b] pos) (lT X.K W (dB (dBin bGt da db))) := dt_cmp op_gt op2_B ha hb (nomark _)
theorem dt_ge (ha : PE X a (lE X.K W da)) (hb : PE X b (lE X.K W db)) : PT X (.Compare a [.GtE] [b] pos) (lT X.K W (dB (dBin bGe da db))) := dt_cmp op_ge op2_B ha hb (nomark _)
theorem de_eq (hu : X.A.units + 64 < cLine) (ha : PE X a (lE X.K W da)) (hb : PE X b (lE X.K W db)) : PE X (.Compare a [.Eq] [b] pos) (lE X.K W (dBin bEq da db)) := de_cmp (op_eqA hu) o2_eq ha hb (nomark _)
theorem dt_eq (hu : X.A.units + 64 < cLine) (ha : PE X a (lE X.K W da)) (hb : PE X b (lE X.K W db)) : PT X (.Compare a [.Eq] [b] pos) (lT X.K W (dB (dBin bEq da db))) := dt_cmp (op_eqA hu) o2_eq ha hb (nomark _)
theorem de_ne (hu : X.A.units + 64 < cLine) (ha : PE X a (lE X.K W da)) (hb : PE X b (lE X.K W db)) : PE X (.Compare a [.NotEq] [b] pos) (lE X.K W (dBin bNe da db)) := de_cmp (op_neA hu) o2_ne ha hb (nomark _)
theorem dt_ne (hu : X.A.units + 64 < cLine) (ha : PE X a (lE X.K W da)) (hb : PE X b (lE X.K W db)) : PT X (.Compare a [.NotEq] [b] pos) (lT X.K W (dB (dBin bNe da db))) := dt_cmp (op_neA hu) o2_ne ha hb (nomark _)
theorem de_isN (ha : PE X a (lE X.K W da)) (hb : PE X b (lE X.K W db)) : PE X (.Compare a [.Is] [b] pos) (lE X.K W (dBin bIsN da db)) := de_cmp op_isN o2_isN ha hb (nomark _)
theorem dt_isN (ha : PE X a (lE X.K W da)) (hb : PE X b (lE X.K W db)) : PT X (.Compare a [.Is] [b] pos) (lT X.K W (dB (dBin bIsN da db))) := dt_cmp op_isN o2_isN ha hb (nomark _)
theorem de_notN (ha : PE X a (lE X.K W da)) (hb : PE X b (lE X.K W db)) : PE X (.Compare a [.IsNot] [b] pos) (lE X.K W (dBin bNotN da db)) := de_cmp op_notN o2_notN ha hb (nomark _)
theorem dt_notN (ha : PE X a (lE X.K W da)) (hb : PE X b (lE X.K W db)) : PT X (.Compare a [.IsNot] [b] pos) (lT X.K W (dB (dBin bNotN da db))) := dt_cmp op_notN o2_notN ha hb (nomark _)
theorem de_in (ha : PE X a (lE X.K W da)) (hb : PE X b (lE X.K W db)) (hm : behindInMarks .In b = false) : PE X (.Compare a [.In] [b] pos) (lE X.K W (dBin (bIn false) da db)) := de_cmp op_in_seq o2_in ha hb hm
theorem dt_in (ha : PE X a (lE X.K W da)) (hb : PE X b (lE X.K W db)) (hm : behindInMarks .In b = false) : PT X (.Compare a [.In] [b] pos) (lT X.K W (dB (dBin (bIn false) da db))) := dt_cmp op_in_seq o2_in ha hb hm
theorem de_notin (ha : PE X a (lE X.K W da)) (hb : PE X b (lE X.K W db)) (hm : behindInMarks .NotIn b = false) : PE X (.Compare a [.NotIn] [b] pos) (lE X.K W (dBin (bIn true) da db)) := de_cmp op_notIn_seq o2_in ha hb hm
theorem dt_notin (ha : PE X a (lE X.K W da)) (hb : PE X b (lE X.K W db)) (hm : behindInMarks .NotIn b = false) : PT X (.Compare a [.NotIn] [b] pos) (lT X.K W (dB (dBin (bIn true) da db))) := dt_cmp op_notIn_seq o2_in ha hb hm
theorem de_lele (ha : PE X a (lE X.K W da)) (hb : PE X b (lE X.K W db)) (hc : PE X c (lE X.K W dc)) (hm : lastMarks [.LtE, .LtE] [b, c] = false := by with_unfolding_all rfl) : PE X (.Compare a [.LtE, .LtE] [b, c] pos) (lE X.K W (dChain bLe bLe da db dc)) := de_chain op_le op_le op2_B op2_B ha hb hc hm
theorem dt_lele (ha : PE X a (lE X.K W da)) (hb : PE X b (lE X.K W db)) (hc : PE X c (lE X.K W dc)) (hm : lastMarks [.LtE, .LtE] [b, c] = false := by with_unfolding_all rfl) : PT X (.Compare a [.LtE, .LtE] [b, c] pos) (lT X.K W (dB (dChain bLe bLe da db dc))) := dt_chain op_le op_le op2_B op2_B ha hb hc hm
/-- -a -/
def bNeg (r : RV) (Q : RV → Prop) : Prop := match r.d? with
  | some (.int i) => Q (.dat (.int (-i)))
  | _ => False
def dUn (f : RV → (RV → Prop) → Prop) (da : DTE) : DTE := fun δ Q X => da δ (fun r => f r Q) X
theorem de_neg (ha : PE X a (lE X.K W da)) : PE X (.UnaryOp .USub a pos) (lE X.K W (dUn bNeg da)) := by
  refine (pe_un un_neg ha).imp fun σ H Q h => ?_
  obtain ⟨B, δ, G, Q2, X2, R, h, k, kx⟩ := h
  refine ⟨B, δ, G, _, X2, R, h, fun r v G1 H1 w1 t1 o1 q1 => ?_, kx⟩
  unfold bNeg at q1
  split at q1
  · rename_i i e
    exact ⟨i, o1.int e, k (.dat (.int (-i))) _ G1 H1 w1 t1 (Dt.int _) q1⟩
  · exact q1.elim
end
end RB

set_option Elab.async false
set_option linter.all false
set_option maxRecDepth 100000
set_option maxHeartbeats 4000000
/-! RB4: subscripts, slices, built-in functions, calls, what is walked, comprehensions -/
namespace RB
open PySem PySem.Spec PyProof.Rows L2
/-! ### places, slices -/
theorem DtA.atI {K : PySem.W.Frag} {G : Hp} {ds : List D} {vs : List V} {i : Int} {d : D} (h : DtA K G vs ds) (e : L2.atI ds i = some d) : ∃ v, L2.atI vs i = some v ∧ Dt K G v d := by
  unfold L2.atI at e ⊢
  rw [h.length]
  cases z : ixN ds.length i with
  | none => rw [z] at e; cases e
  | some j => rw [z] at e; exact h.get e
def bIx (r1 r2 : RV) (Q : RV → Prop) : Prop := match r1.d?, r2.d? with
  | some (.list ds), some (.int i) => ∃ d, L2.atI ds i = some d ∧ Q (.dat d)
  | some (.tuple ds), some (.int i) => ∃ d, L2.atI ds i = some d ∧ Q (.dat d)
  | some (.str z), some (.int i) => ∃ c, z.length ≤ sizeLine ∧ L2.atI z.cps.toList i = some c ∧ Q (.dat (.str ⟨#[c]⟩))
  | _, _ => False
section
variable {K : PySem.W.Frag}
theorem o2_ix : Op2 K (rIx K) bIx := by
  intro M HB H0 G H x y r1 r2 Q2 Q w o1 o2 hf k
  unfold bIx at hf
  split at hf
  · rename_i ds i e1 e2
    obtain ⟨d, e, q⟩ := hf
    obtain ⟨a, us, rfl, h1, d1⟩ := o1.lst w.sub e1
    obtain ⟨v, ev, dv⟩ := d1.atI e
    exact .inl ⟨a, us, i, v, rfl, o2.int e2, SqL.of h1, ev, k (.dat d) v G H w .refl dv q⟩
  · rename_i ds i e1 e2
    obtain ⟨d, e, q⟩ := hf
    obtain ⟨a, us, rfl, h1, d1⟩ := o1.tup e1
    obtain ⟨v, ev, dv⟩ := d1.atI e
    exact .inr (.inl ⟨a, us, i, v, rfl, o2.int e2, same_sqT w.sub h1, ev, k (.dat d) v G H w .refl dv q⟩)
  · rename_i z i e1 e2
    obtain ⟨c, hz, e, q⟩ := hf
    exact .inr (.inr ⟨z, i, c, o1.str e1, o2.int e2, hz, e, k (.dat (.str _)) _ G H w .refl (Dt.str _) q⟩)
  · exact hf.elim
end
abbrev DTO := DSt → (Option Int → Prop) → (Addr → Prop) → Prop
def lO (K : PySem.W.Frag) (W : WX) (dp : DTO) : TO := fun σ H Q => ∃ (B : Base) (δ : DSt) (G : Hp) (Q2 : Option Int → Prop) (X2 : Addr → Prop), Rel K B δ σ G H ∧ dp δ Q2 X2 ∧
  (∀ o G' H', Wd B.M G' H' → Ext B.M G H G' H' → Q2 o → Q o H') ∧ XOk K W B δ σ X2
def dNoP : DTO := fun _ Q _ => Q none
def isI (r : RV) (Q : Int → Prop) : Prop := match r.d? with
  | some (.int i) => Q i
  | _ => False
def dPart (de : DTE) : DTO := fun δ Q X => de δ (fun r => isI r fun i => Q (some i)) X
def cutD (ds : List D) (lo hi : Option Int) : List D := (ds.drop (HT.sIx ds.length 0 lo)).take (HT.sIx ds.length ds.length hi - HT.sIx ds.length 0 lo)
theorem DtA.cut {K : PySem.W.Frag} {G : Hp} {ds : List D} {vs : List V} {lo hi : Option Int} (h : DtA K G vs ds) : DtA K G (cutV vs lo hi) (cutD ds lo hi) := by
  unfold cutV cutD
  rw [h.length]
  exact (h.drop _).take _
def bSl (lo hi : Option Int) (r : RV) (Q : RV → Prop) : Prop := match r.d? with
  | some (.list ds) => Q (.own (cutD ds lo hi))
  | some (.tuple ds) => Q (.dat (.tuple (cutD ds lo hi)))
  | some (.str z) => z.length ≤ sizeLine ∧ Q (.dat (.str (cutS z lo hi)))
  | _ => False
def dSl (de : DTE) (dl du : DTO) : DTE := fun δ Q X => de δ (fun r => dl δ (fun lo => du δ (fun hi => bSl lo hi r Q) X) X) X
def rSlAll (K : PySem.W.Frag) : V → Option Int → Option Int → Hp → VK → Prop := fun x lo hi H Q => rSlL K x lo hi H Q ∨ (rSlA K x lo hi H Q ∨ rSlS x lo hi H Q)
theorem sl_all {X : Cx} : SlR X (rSlAll X.K) := SlR.or sl_list (SlR.or sl_tupA sl_str)
/-! ### built-in functions of one and two arguments -/
def Op1 (K : PySem.W.Frag) (r : List V → Hp → VK → Prop) (f : RV → (RV → Prop) → Prop) : Prop := ∀ (M : Addr → Prop) (HB H0 G H : Hp) (x : V) (r1 : RV) (Q2 : RV → Prop) (Q : VK), Wd M G H → RvOk K M HB H0 G H x r1 → f r1 Q2 →
  (∀ q v G' H', Wd M G' H' → Ext M G H G' H' → RvOk K M HB H G' H' v q → Q2 q → Q v H') → r [x] H Q
section
variable {X : Cx} {W : WX} {a b c e : Expr} {es : List Expr} {da db dc de : DTE} {dl du : DTO} {lo hi : Option Expr} {pos pos' p p2 : Pos} {x : Str} {id T : String} {r : List V → Hp → VK → Prop}
theorem de_ix (ha : PE X a (lE X.K W da)) (hb : PE X b (lE X.K W db)) (hs : PlainIx b) : PE X (.Subscript a b pos) (lE X.K W (dBin bIx da db)) := (pe_ix ix_seq ha hb hs).imp fun _ _ _ h => lE_bin o2_ix h
theorem do_none : PO X none (lO X.K W dNoP) := ⟨fun pins s σ H Q I h => by
  obtain ⟨B, δ, G, Q2, X2, R, h, k, kx⟩ := h
  exact po_none.run pins s σ H Q I (k none G H R.wd .refl h)⟩
theorem do_some (he : PE X e (lE X.K W de)) : PO X (some e) (lO X.K W (dPart de)) := ⟨fun pins s σ H Q I h => by
  obtain ⟨B, δ, G, Q2, X2, R, h, k, kx⟩ := h
  refine (po_some he).run pins s σ H Q I ⟨B, δ, G, _, X2, R, h, fun r v G1 H1 w1 t1 o1 q1 => ?_, kx⟩
  unfold isI at q1
  split at q1
  · rename_i i e
    exact ⟨i, o1.int e, k (some i) G1 H1 w1 t1 q1⟩
  · exact q1.elim⟩
theorem de_sl (he : PE X e (lE X.K W de)) (hl : PO X lo (lO X.K W dl)) (hu : PO X hi (lO X.K W du)) : PE X (.Subscript e (.Slice lo hi none p2) pos) (lE X.K W (dSl de dl du)) := by
  refine (pe_slice sl_all he hl hu).imp fun σ H Q h => ?_
  obtain ⟨B, δ, G, Q2, X2, R, h, k, kx⟩ := h
  refine ⟨B, δ, G, _, X2, R, h, fun r v G1 H1 w1 t1 o1 q1 => ?_, kx⟩
  refine ⟨B, δ, G1, _, X2, R.step w1 t1, q1, fun l G2 H2 w2 t2 q2 => ?_, kx⟩
  refine ⟨B, δ, G2, _, X2, (R.step w1 t1).step w2 t2, q2, fun u G3 H3 w3 t3 q3 => ?_, kx⟩
  have o3 := (o1.mono t2).mono t3
  have t13 := (t1.trans t2).trans t3
  unfold bSl at q3
  split at q3
  · rename_i ds e
    obtain ⟨a, us, rfl, h1, d1⟩ := o3.lst w3.sub e
    exact .inl ⟨a, us, rfl, SqL.of h1, fun p hp => k (.own _) _ G3 _ (w3.alloc hp) (t13.trans (Ext.alloc hp)) ⟨p, _, rfl, none_early t13.hm p hp, w3.noG hp, w3.nm hp, upd_same, d1.cut⟩ q3⟩
  · rename_i ds e
    obtain ⟨a, us, rfl, h1, d1⟩ := o3.tup e
    refine .inr (.inl ⟨a, us, rfl, same_sqT w3.sub h1, fun e => ?_, fun _ p hp => ?_⟩)
    · have ec : cutD ds l u = ds := by
        unfold cutD
        rw [d1.length] at e
        rw [e.1, e.2]
        simp
      refine k (.dat (.tuple (cutD ds l u))) _ G3 H3 w3 t13 ?_ q3
      rw [ec]
      exact Dt.tup h1 d1
    · have s : Same G3 (upd G3 p (.tup (cutV us l u))) := same_upd (w3.noG hp)
      exact k (.dat (.tuple _)) _ _ _ (w3.allocG hp) (t13.trans (Ext.allocG w3 hp)) (Dt.tup (SqT.of upd_same) (d1.cut.mono s)) q3
  · rename_i z e
    exact .inr (.inr ⟨z, o3.str e, q3.1, k (.dat (.str _)) _ G3 H3 w3 t13 (Dt.str _) q3.2⟩)
  · exact q3.elim
def bRev (r : RV) (Q : RV → Prop) : Prop := match r.d? with
  | some (.list ds) => Q (.own ds.reverse)
  | _ => False
theorem de_rev {k : Nat} {p1 p3 : Pos} (he : PE X e (lE X.K W de)) : PE X (.Subscript e (.Slice none none (some (.UnaryOp .USub (.Constant (.int 1) k p1) p2)) p3) pos) (lE X.K W (dUn bRev de)) := by
  refine (pe_revL he).imp fun σ H Q h => ?_
  obtain ⟨B, δ, G, Q2, X2, R, h, k, kx⟩ := h
  refine ⟨B, δ, G, _, X2, R, h, fun r v G1 H1 w1 t1 o1 q1 => ?_, kx⟩
  unfold bRev at q1
  split at q1
  · rename_i ds e
    obtain ⟨a, us, rfl, h1, d1⟩ := o1.lst w1.sub e
    exact ⟨a, us, rfl, SqL.of h1, fun p hp => k (.own _) _ G1 _ (w1.alloc hp) (t1.trans (Ext.alloc hp)) ⟨p, _, rfl, none_early t1.hm p hp, w1.noG hp, w1.nm hp, upd_same, d1.rev⟩ q1⟩
  · exact q1.elim
theorem lE_un {f : RV → (RV → Prop) → Prop} {K : PySem.W.Frag} (hr : Op1 K r f) {σ : St} {H : Hp} {Q : VK} (h : lE K W (dUn f da) σ H Q) : tCB r (tCons (lE K W da) tNil) σ H Q := by
  obtain ⟨B, δ, G, Q2, X2, R, h, k, kx⟩ := h
  refine ⟨B, δ, G, _, X2, R, h, fun r1 x G1 H1 w1 t1 o1 q1 => ?_, kx⟩
  exact hr B.M B.H H G1 H1 x r1 Q2 Q w1 o1 q1 fun q v G2 H2 w2 t2 o2 q2 => k q v G2 H2 w2 (t1.trans t2) (o2.early t1.hm) q2
theorem de_b1 {f : RV → (RV → Prop) → Prop} (hc : CallR X (.builtin id) r) (hv : bootBuiltins x = some (.builtin id)) (hr : Op1 X.K r f) (hm : X.mg x = none) (ha : PE X a (lE X.K W da)) (hg : Gl X x := by rfl) (hn : x ≠ "__name__" := by decide) (hdb : (x == ("__debug__" : Str)) = false := by decide)
    (he : starEach [a] X.env = (false, eval a X.env) :: starEach [] X.env := by rfl) (hpl : (backTo pos (starEach [] X.env)).any (·.1) = false := by rfl) : PE X (.Call (.Name x p) [a] [] pos) (lE X.K W (dUn f da)) :=
  (pe_callB hc hg hm hv (pa_cons ha pa_nil he) hn hdb he hpl).imp fun _ _ _ h => lE_un hr h
theorem de_t1 {f : RV → (RV → Prop) → Prop} (hc : CallR X (.type T) r) (hv : bootBuiltins x = some (.type T)) (hr : Op1 X.K r f) (hm : X.mg x = none) (ha : PE X a (lE X.K W da)) (hg : Gl X x := by rfl) (hn : x ≠ "__name__" := by decide) (hdb : (x == ("__debug__" : Str)) = false := by decide)
    (he : starEach [a] X.env = (false, eval a X.env) :: starEach [] X.env := by rfl) (hpl : (backTo pos (starEach [] X.env)).any (·.1) = false := by rfl) : PE X (.Call (.Name x p) [a] [] pos) (lE X.K W (dUn f da)) :=
  (pe_callTy hc hg hm hv (pa_cons ha pa_nil he) hn hdb he hpl).imp fun _ _ _ h => lE_un hr h
/-- of two arguments -/
def Opl2 (K : PySem.W.Frag) (r : List V → Hp → VK → Prop) (f : RV → RV → (RV → Prop) → Prop) : Prop := Op2 K (fun x y H Q => r [x, y] H Q) f
theorem lE_un2 {f : RV → RV → (RV → Prop) → Prop} {K : PySem.W.Frag} (hr : Opl2 K r f) {σ : St} {H : Hp} {Q : VK} (h : lE K W (dBin f da db) σ H Q) : tCB r (tCons (lE K W da) (tCons (lE K W db) tNil)) σ H Q := lE_bin (r := fun x y H Q => r [x, y] H Q) hr h
theorem de_b2 {f : RV → RV → (RV → Prop) → Prop} (hc : CallR X (.builtin id) r) (hv : bootBuiltins x = some (.builtin id)) (hr : Opl2 X.K r f) (hm : X.mg x = none) (ha : PE X a (lE X.K W da)) (hb : PE X b (lE X.K W db)) (hg : Gl X x := by rfl) (hn : x ≠ "__name__" := by decide) (hdb : (x == ("__debug__" : Str)) = false := by decide)
    (he : starEach [a, b] X.env = (false, eval a X.env) :: starEach [b] X.env := by rfl) (he2 : starEach [b] X.env = (false, eval b X.env) :: starEach [] X.env := by rfl) (hpl : (backTo pos (starEach [b] X.env)).any (·.1) = false := by rfl) : PE X (.Call (.Name x p) [a, b] [] pos) (lE X.K W (dBin f da db)) :=
  (pe_callB hc hg hm hv (pa_cons ha (pa_cons hb pa_nil he2) he) hn hdb he hpl).imp fun _ _ _ h => lE_un2 hr h
end
section
variable {K : PySem.W.Frag}
def bLen (r : RV) (Q : RV → Prop) : Prop := match r.d? with
  | some (.list ds) => Q (.dat (.int ds.length))
  | some (.tuple ds) => Q (.dat (.int ds.length))
  | some (.str z) => z.length ≤ sizeLine ∧ Q (.dat (.int z.length))
  | _ => False
theorem o1_len : Op1 K (fun xs H Q => ∃ x n, xs = [x] ∧ LenV K x H n ∧ Q (.int n) H) bLen := by
  intro M HB H0 G H x r1 Q2 Q w o1 hf k
  unfold bLen at hf
  split at hf
  · rename_i ds e
    obtain ⟨a, us, rfl, h1, d1⟩ := o1.lst w.sub e
    exact ⟨_, ds.length, rfl, .inl ⟨us, SqL.of h1, d1.length.symm⟩, k (.dat (.int _)) _ G H w .refl (Dt.int _) hf⟩
  · rename_i ds e
    obtain ⟨a, us, rfl, h1, d1⟩ := o1.tup e
    exact ⟨_, ds.length, rfl, .inr ⟨us, same_sqT w.sub h1, d1.length.symm⟩, k (.dat (.int _)) _ G H w .refl (Dt.int _) hf⟩
  · rename_i z e
    have ez := o1.str e
    subst ez
    exact ⟨_, z.length, rfl, ⟨hf.1, rfl⟩, k (.dat (.int _)) _ G H w .refl (Dt.int _) hf.2⟩
  · exact hf.elim
def bInt (r : RV) (Q : RV → Prop) : Prop := match r.d? with
  | some (.int i) => Q (.dat (.int i))
  | some (.bool b) => Q (.dat (.int (if b then 1 else 0)))
  | _ => False
theorem o1_int : Op1 K (fun xs H Q => (∃ i, xs = [.int i] ∧ Q (.int i) H) ∨ ∃ k, xs = [.bl k] ∧ Q (.int (if k then 1 else 0)) H) bInt := by
  intro M HB H0 G H x r1 Q2 Q w o1 hf k
  unfold bInt at hf
  split at hf
  · rename_i i e
    have ez := o1.int e
    subst ez
    exact .inl ⟨i, rfl, k (.dat (.int _)) _ G H w .refl (Dt.int _) hf⟩
  · rename_i i e
    have ez := o1.bool e
    subst ez
    exact .inr ⟨i, rfl, k (.dat (.int _)) _ G H w .refl (Dt.int _) hf⟩
  · exact hf.elim
def bAbs (r : RV) (Q : RV → Prop) : Prop := match r.d? with
  | some (.int i) => Q (.dat (.int (if i < 0 then -i else i)))
  | _ => False
theorem o1_abs : Op1 K (fun xs H Q => ∃ i, xs = [.int i] ∧ Q (.int (if i < 0 then -i else i)) H) bAbs := by
  intro M HB H0 G H x r1 Q2 Q w o1 hf k
  unfold bAbs at hf
  split at hf
  · rename_i i e
    have ez := o1.int e
    subst ez
    exact ⟨i, rfl, k (.dat (.int _)) _ G H w .refl (Dt.int _) hf⟩
  · exact hf.elim
def bStr (r : RV) (Q : RV → Prop) : Prop := match r.d? with
  | some (.int i) => i.natAbs.log2 < 1920 ∧ Q (.dat (.str (toString i)))
  | _ => False
theorem o1_str : Op1 K (fun xs H Q => ∃ i, xs = [.int i] ∧ i.natAbs.log2 < 1920 ∧ Q (.str (toString i)) H) bStr := by
  intro M HB H0 G H x r1 Q2 Q w o1 hf k
  unfold bStr at hf
  split at hf
  · rename_i i e
    have ez := o1.int e
    subst ez
    exact ⟨i, rfl, hf.1, k (.dat (.str _)) _ G H w .refl (Dt.str _) hf.2⟩
  · exact hf.elim
def bList (r : RV) (Q : RV → Prop) : Prop := match r.d? with
  | some (.list ds) => Q (.own ds)
  | some (.tuple ds) => Q (.own ds)
  | _ => False
theorem o1_list : Op1 K (fun xs H Q => ∃ p ys, xs = [.ref p] ∧ (SqL K H p ys ∨ SqT K H p ys) ∧ ∀ l, H l = none → Q (.ref l) (upd H l (.lst ys))) bList := by
  intro M HB H0 G H x r1 Q2 Q w o1 hf k
  unfold bList at hf
  split at hf
  · rename_i ds e
    obtain ⟨a, us, rfl, h1, d1⟩ := o1.lst w.sub e
    exact ⟨a, us, rfl, .inl (SqL.of h1), fun p hp => k (.own _) _ G _ (w.alloc hp) (Ext.alloc hp) ⟨p, _, rfl, hp, w.noG hp, w.nm hp, upd_same, d1⟩ hf⟩
  · rename_i ds e
    obtain ⟨a, us, rfl, h1, d1⟩ := o1.tup e
    exact ⟨a, us, rfl, .inr (same_sqT w.sub h1), fun p hp => k (.own _) _ G _ (w.alloc hp) (Ext.alloc hp) ⟨p, _, rfl, hp, w.noG hp, w.nm hp, upd_same, d1⟩ hf⟩
  · exact hf.elim
def bTuple (r : RV) (Q : RV → Prop) : Prop := match r.d? with
  | some (.list ds) => Q (.dat (.tuple ds))
  | some (.tuple ds) => Q (.dat (.tuple ds))
  | _ => False
theorem o1_tuple : Op1 K (fun xs H Q => ∃ p ys, xs = [.ref p] ∧ ((SqL K H p ys ∧ ∀ l, H l = none → Q (.ref l) (upd H l (.tup ys))) ∨ (SqT K H p ys ∧ Q (.ref p) H))) bTuple := by
  intro M HB H0 G H x r1 Q2 Q w o1 hf k
  unfold bTuple at hf
  split at hf
  · rename_i ds e
    obtain ⟨a, us, rfl, h1, d1⟩ := o1.lst w.sub e
    refine ⟨a, us, rfl, .inl ⟨SqL.of h1, fun p hp => ?_⟩⟩
    have s : Same G (upd G p (.tup us)) := same_upd (w.noG hp)
    exact k (.dat (.tuple _)) _ _ _ (w.allocG hp) (Ext.allocG w hp) (Dt.tup (SqT.of upd_same) (d1.mono s)) hf
  · rename_i ds e
    obtain ⟨a, us, rfl, h1, d1⟩ := o1.tup e
    exact ⟨a, us, rfl, .inr ⟨same_sqT w.sub h1, k (.dat (.tuple _)) _ G H w .refl (Dt.tup h1 d1) hf⟩⟩
  · exact hf.elim
def bSorted (r : RV) (Q : RV → Prop) : Prop := match r.d? with
  | some (.list ds) => ∃ ns : List Int, ds = ns.map PyData.int ∧ ∀ ns' : List Int, ns'.Perm ns → ns'.Pairwise (· ≤ ·) → Q (.own (ns'.map PyData.int))
  | _ => False
theorem o1_sorted : Op1 K (rSortedI K) bSorted := by
  intro M HB H0 G H x r1 Q2 Q w o1 hf k
  unfold bSorted at hf
  split at hf
  · rename_i ds e
    obtain ⟨ns, rfl, q⟩ := hf
    obtain ⟨a, us, rfl, h1, d1⟩ := o1.lst w.sub e
    have eu := DtA.intsV d1
    subst eu
    exact ⟨a, ns, rfl, SqL.of h1, fun ns' p hP hS hp => k (.own _) _ G _ (w.alloc hp) (Ext.alloc hp) ⟨p, _, rfl, hp, w.noG hp, w.nm hp, upd_same, DtA.ints ns'⟩ (q ns' hP hS)⟩
  · exact hf.elim
def bSum (r : RV) (Q : RV → Prop) : Prop := match r.d? with
  | some (.list ds) => ∃ ns : List Int, ds = ns.map PyData.int ∧ Q (.dat (.int ns.sum))
  | _ => False
theorem o1_sum : Op1 K (rSum K) bSum := by
  intro M HB H0 G H x r1 Q2 Q w o1 hf k
  unfold bSum at hf
  split at hf
  · rename_i ds e
    obtain ⟨ns, rfl, q⟩ := hf
    obtain ⟨a, us, rfl, h1, d1⟩ := o1.lst w.sub e
    have eu := DtA.intsV d1
    subst eu
    exact ⟨a, ns, rfl, SqL.of h1, k (.dat (.int _)) _ G H w .refl (Dt.int _) q⟩
  · exact hf.elim
theorem o2_max : Opl2 K (fun xs H Q => ∃ i j, xs = [.int i, .int j] ∧ Q (.int (if j > i then j else i)) H) (bI2 fun i j => if j > i then j else i) := by
  intro M HB H0 G H x y r1 r2 Q2 Q w o1 o2 hf k
  unfold bI2 at hf
  split at hf
  · rename_i i j e1 e2
    exact ⟨i, j, by rw [o1.int e1, o2.int e2], k (.dat (.int _)) _ G H w .refl (Dt.int _) hf⟩
  · exact hf.elim
theorem o2_min : Opl2 K (fun xs H Q => ∃ i j, xs = [.int i, .int j] ∧ Q (.int (if j < i then j else i)) H) (bI2 fun i j => if j < i then j else i) := by
  intro M HB H0 G H x y r1 r2 Q2 Q w o1 o2 hf k
  unfold bI2 at hf
  split at hf
  · rename_i i j e1 e2
    exact ⟨i, j, by rw [o1.int e1, o2.int e2], k (.dat (.int _)) _ G H w .refl (Dt.int _) hf⟩
  · exact hf.elim
/-! ### isinstance of data, by a built-in class -/
inductive Ty0 where
  | int | bool | str | list | tuple | dict
def Ty0.s : Ty0 → String
  | .int => "int"
  | .bool => "bool"
  | .str => "str"
  | .list => "list"
  | .tuple => "tuple"
  | .dict => "dict"
def tyN : D → String
  | .none => "NoneType"
  | .bool _ => "bool"
  | .int _ => "int"
  | .str _ => "str"
  | .list _ => "list"
  | .tuple _ => "tuple"
  | .dict _ => "dict"
def isiD : Ty0 → D → Bool
  | .int, .int _ => true
  | .int, .bool _ => true
  | .bool, .bool _ => true
  | .str, .str _ => true
  | .list, .list _ => true
  | .tuple, .tuple _ => true
  | .dict, .dict _ => true
  | _, _ => false
theorem kitB_isi : ∀ (T : Ty0) (d : D), kitB (tyN d) T.s = some (isiD T d)
  | .int, .none => by show kitB "NoneType" "int" = some false; decide +kernel
  | .int, .bool _ => by show kitB "bool" "int" = some true; decide +kernel
  | .int, .int _ => by show kitB "int" "int" = some true; decide +kernel
  | .int, .str _ => by show kitB "str" "int" = some false; decide +kernel
  | .int, .list _ => by show kitB "list" "int" = some false; decide +kernel
  | .int, .tuple _ => by show kitB "tuple" "int" = some false; decide +kernel
  | .int, .dict _ => by show kitB "dict" "int" = some false; decide +kernel
  | .bool, .none => by show kitB "NoneType" "bool" = some false; decide +kernel
  | .bool, .bool _ => by show kitB "bool" "bool" = some true; decide +kernel
  | .bool, .int _ => by show kitB "int" "bool" = some false; decide +kernel
  | .bool, .str _ => by show kitB "str" "bool" = some false; decide +kernel
  | .bool, .list _ => by show kitB "list" "bool" = some false; decide +kernel
  | .bool, .tuple _ => by show kitB "tuple" "bool" = some false; decide +kernel
  | .bool, .dict _ => by show kitB "dict" "bool" = some false; decide +kernel
  | .str, .none => by show kitB "NoneType" "str" = some false; decide +kernel
  | .str, .bool _ => by show kitB "bool" "str" = some false; decide +kernel
  | .str, .int _ => by show kitB "int" "str" = some false; decide +kernel
  | .str, .str _ => by show kitB "str" "str" = some true; decide +kernel
  | .str, .list _ => by show kitB "list" "str" = some false; decide +kernel
  | .str, .tuple _ => by show kitB "tuple" "str" = some false; decide +kernel
  | .str, .dict _ => by show kitB "dict" "str" = some false; decide +kernel
  | .list, .none => by show kitB "NoneType" "list" = some false; decide +kernel
  | .list, .bool _ => by show kitB "bool" "list" = some false; decide +kernel
  | .list, .int _ => by show kitB "int" "list" = some false; decide +kernel
  | .list, .str _ => by show kitB "str" "list" = some false; decide +kernel
  | .list, .list _ => by show kitB "list" "list" = some true; decide +kernel
  | .list, .tuple _ => by show kitB "tuple" "list" = some false; decide +kernel
  | .list, .dict _ => by show kitB "dict" "list" = some false; decide +kernel
  | .tuple, .none => by show kitB "NoneType" "tuple" = some false; decide +kernel
  | .tuple, .bool _ => by show kitB "bool" "tuple" = some false; decide +kernel
  | .tuple, .int _ => by show kitB "int" "tuple" = some false; decide +kernel
  | .tuple, .str _ => by show kitB "str" "tuple" = some false; decide +kernel
  | .tuple, .list _ => by show kitB "list" "tuple" = some false; decide +kernel
  | .tuple, .tuple _ => by show kitB "tuple" "tuple" = some true; decide +kernel
  | .tuple, .dict _ => by show kitB "dict" "tuple" = some false; decide +kernel
  | .dict, .none => by show kitB "NoneType" "dict" = some false; decide +kernel
  | .dict, .bool _ => by show kitB "bool" "dict" = some false; decide +kernel
  | .dict, .int _ => by show kitB "int" "dict" = some false; decide +kernel
  | .dict, .str _ => by show kitB "str" "dict" = some false; decide +kernel
  | .dict, .list _ => by show kitB "list" "dict" = some false; decide +kernel
  | .dict, .tuple _ => by show kitB "tuple" "dict" = some false; decide +kernel
  | .dict, .dict _ => by show kitB "dict" "dict" = some true; decide +kernel
theorem sqT_ty {G : Hp} {a : Addr} {xs : List V} (h : SqT K G a xs) : TyX K G (.ref a) (.type "tuple") := by
  rcases h with (h | ⟨o, h⟩) | ⟨o, its, n, h, c, _⟩
  · exact .base (.tup h)
  · exact .fTuple h
  · exact .kTuple h c
theorem rv_ty {M : Addr → Prop} {HB H0 G H : Hp} {v : V} {r : RV} {d : D} (s : Same G H) (o : RvOk K M HB H0 G H v r) (e : r.d? = some d) : TyX K H v (.type (tyN d)) := by
  cases d with
  | none =>
    have q := RvOk.dt (by intro _ z; cases z) o e
    cases q
    exact .base .non
  | bool b => rw [o.bool e]; exact .base (.bl _)
  | int b => rw [o.int e]; exact .base (.int _)
  | str b => rw [o.str e]; exact .base (.str _)
  | list ds =>
    obtain ⟨a, xs, rfl, h, _⟩ := o.lst s e
    exact .base (.lst h)
  | tuple ds =>
    obtain ⟨a, xs, rfl, h, _⟩ := o.tup e
    exact sqT_ty (same_sqT s h)
  | dict _ =>
    have q := RvOk.dt (by intro _ z; cases z) o e
    cases q
def bIsi (T : Ty0) (r : RV) (Q : RV → Prop) : Prop := match r.d? with
  | some d => Q (.dat (.bool (isiD T d)))
  | none => False
def bIsi2 (T U : Ty0) (r : RV) (Q : RV → Prop) : Prop := match r.d? with
  | some d => Q (.dat (.bool (isiD T d || isiD U d)))
  | none => False
end
section
variable {X : Cx} {W : WX} {a : Expr} {da : DTE} {pos p p2 p3 : Pos} {x y : Str}
theorem de_isi (T : Ty0) (hv : bootBuiltins y = some (.type T.s)) (hmy : X.mg y = none) (hm : X.mg "isinstance" = none) (ha : PE X a (lE X.K W da)) (hgy : Gl X y := by rfl) (hny : y ≠ "__name__" := by decide) (hdby : (y == ("__debug__" : Str)) = false := by decide) (hg : Gl X "isinstance" := by rfl)
    (he : starEach [a, .Name y p2] X.env = (false, eval a X.env) :: starEach [.Name y p2] X.env := by rfl) (he2 : starEach [.Name y p2] X.env = (false, eval (.Name y p2) X.env) :: starEach [] X.env := by rfl) (hpl : (backTo pos (starEach [.Name y p2] X.env)).any (·.1) = false := by rfl) :
    PE X (.Call (.Name "isinstance" p) [a, .Name y p2] [] pos) (lE X.K W (dUn (bIsi T) da)) := by
  refine (pe_callB call_isi hg hm boot_isinstance (pa_cons ha (pa_cons (pe_bltn (v := .ty T.s) hgy hmy hv rfl hny hdby) pa_nil he2) he) (by decide) (by decide) he hpl).imp fun σ H Q h => ?_
  obtain ⟨B, δ, G, Q2, X2, R, h, k, kx⟩ := h
  refine ⟨B, δ, G, _, X2, R, h, fun r1 x G1 H1 w1 t1 o1 q1 => ?_, kx⟩
  unfold bIsi at q1
  split at q1
  · rename_i d e
    exact ⟨x, _, _, _, isiD T d, rfl, .ty _, rv_ty w1.sub o1 e, kit_ty (kitB_isi T d), k (.dat (.bool _)) _ G1 H1 w1 t1 (Dt.bl _) q1⟩
  · exact q1.elim
theorem de_isi2 (T U : Ty0) {z : Str} {k0 : Nat} {p4 : Pos} (hv : bootBuiltins y = some (.type T.s)) (hz : bootBuiltins z = some (.type U.s)) (hmy : X.mg y = none) (hmz : X.mg z = none) (hm : X.mg "isinstance" = none) (ha : PE X a (lE X.K W da)) (hgy : Gl X y := by rfl) (hgz : Gl X z := by rfl) (hny : y ≠ "__name__" := by decide) (hdby : (y == ("__debug__" : Str)) = false := by decide) (hnz : z ≠ "__name__" := by decide) (hdbz : (z == ("__debug__" : Str)) = false := by decide) (hg : Gl X "isinstance" := by rfl)
    (he : starEach [a, .Tuple [.Name y p2, .Name z p3] k0 p4] X.env = (false, eval a X.env) :: starEach [.Tuple [.Name y p2, .Name z p3] k0 p4] X.env := by rfl) (he2 : starEach [.Tuple [.Name y p2, .Name z p3] k0 p4] X.env = (false, eval (.Tuple [.Name y p2, .Name z p3] k0 p4) X.env) :: starEach [] X.env := by rfl) (hpl : (backTo pos (starEach [.Tuple [.Name y p2, .Name z p3] k0 p4] X.env)).any (·.1) = false := by rfl)
    (he3 : starEach [.Name y p2, .Name z p3] X.env = (false, eval (.Name y p2) X.env) :: starEach [.Name z p3] X.env := by rfl) (he4 : starEach [.Name z p3] X.env = (false, eval (.Name z p3) X.env) :: starEach [] X.env := by rfl) :
    PE X (.Call (.Name "isinstance" p) [a, .Tuple [.Name y p2, .Name z p3] k0 p4] [] pos) (lE X.K W (dUn (bIsi2 T U) da)) := by
  refine (pe_callB call_isiT hg hm boot_isinstance (pa_cons ha (pa_cons (pe_tup (pa_cons (pe_bltn (v := .ty T.s) hgy hmy hv rfl hny hdby) (pa_cons (pe_bltn (v := .ty U.s) hgz hmz hz rfl hnz hdbz) pa_nil he4) he3)) pa_nil he2) he) (by decide) (by decide) he hpl).imp fun σ H Q h => ?_
  obtain ⟨B, δ, G, Q2, X2, R, h, k, kx⟩ := h
  refine ⟨B, δ, G, _, X2, R, h, fun r1 x G1 H1 w1 t1 o1 q1 => ?_, kx⟩
  unfold bIsi2 at q1
  split at q1
  · rename_i d e
    refine ⟨by show 2 ≤ sizeLine; decide, fun tp hp => ⟨x, tp, _, _, _, isiD T d || isiD U d, rfl, upd_same, .cons (.ty _) (.cons (.ty _) .nil), rv_ty (w1.alloc hp).sub (o1.mono (Ext.alloc hp)) e, ?_, k (.dat (.bool _)) _ G1 _ (w1.alloc hp) (t1.trans (Ext.alloc hp)) (Dt.bl _) q1⟩⟩
    refine kitAny_cons (kit_ty (kitB_isi T d)) (fun e1 => ?_) (fun e1 => ?_)
    · rw [e1, Bool.false_or]
      exact kitAny_cons (kit_ty (kitB_isi U d)) (fun e2 => by rw [e2]; exact kitAny_nil) (fun e2 => e2)
    · rw [e1, Bool.true_or]
  · exact q1.elim
end
end RB

set_option Elab.async false
set_option linter.all false
set_option maxRecDepth 100000
set_option maxHeartbeats 4000000
/-! RB5: calls of defs, what is walked, comprehensions, statements, a def's rule -/
namespace RB
open PySem PySem.Spec PyProof.Rows L2
/-! ### a def's promise by data -/
abbrev DSp := List RV → (RV → Prop) → (Addr → Prop) → Prop
def spD (K : PySem.W.Frag) (n : Nat) (dsp : DSp) : Sp := fun vs H Q E => ∃ (M : Addr → Prop) (HB G : Hp) (rs : List RV) (Q2 : RV → Prop) (X2 : Addr → Prop), Wd M G H ∧ Paired (fun v r => AOk K M HB G v r) vs rs ∧ rs.length = n ∧ dsp rs Q2 X2 ∧
  (∀ r v G' H', Wd M G' H' → Ext M G H G' H' → RvOk K M H H G' H' v r → Q2 r → Q v H') ∧ ∀ C G' H', Wd M G' H' → Ext M G H G' H' → X2 C → E (.ref C) none H'
theorem pairedLen {α β : Type} {F : α → β → Prop} : ∀ {l : List α} {l' : List β}, Paired F l l' → l.length = l'.length
  | _, _, .nil => rfl
  | _, _, .cons _ t => by rw [List.length_cons, List.length_cons, pairedLen t]
theorem spD_len {K : PySem.W.Frag} {n : Nat} {dsp : DSp} {ps : List Str} (e : ps.length = n) (vs : List V) (H : Hp) (Q : VK) (E : XK) (h : spD K n dsp vs H Q E) : vs.length = ps.length := by
  obtain ⟨M, HB, G, rs, Q2, X2, w, a, l, _⟩ := h
  rw [pairedLen a, l, e]
/-- a new list is, for the one that is called, data as other data -/
def RV.old : RV → RV
  | .new d => .dat d
  | r => r
theorem AOk.old {K : PySem.W.Frag} {M : Addr → Prop} {HB HB' G : Hp} {v : V} : ∀ {r : RV}, AOk K M HB G v r → AOk K M HB' G v r.old
  | .dat d, h => h
  | .new d, h => Nw.dt h
  | .raw v, h => h
  | .sto, h => h
  | .own _, h => h.elim
  | .view _, h => h.elim
theorem olds {K : PySem.W.Frag} {M : Addr → Prop} {HB HB' G : Hp} : ∀ {rs : List RV} {vs : List V}, Paired (fun v r => AOk K M HB G v r) vs rs → Paired (fun v r => AOk K M HB' G v r) vs (rs.map RV.old)
  | [], _, .nil => .nil
  | r :: rs, _, .cons h t => .cons h.old (olds t)
/-- the call of a def -/
structure Cal (dsp : DSp) (n : Nat) (rs : List RV) (Q : RV → Prop) (X : Addr → Prop) : Prop where
  len : rs.length = n
  h : dsp (rs.map RV.old) Q X
def dCall (n : Nat) (dsp : DSp) (dA : DTA) : DTE := fun δ Q X => dA δ (fun rs => Cal dsp n rs Q X) X
section
variable {X : Cx} {W : WX} {k : Nat} {f : Addr} {fd : FuncData} {ps : List Str} {dsp : DSp} {n : Nat} {x : Str} {p pos : Pos} {e : Expr} {es : List Expr} {dA : DTA} {de : DTE}
theorem lE_call {K : PySem.W.Frag} {σ : St} {H : Hp} {Q : VK} (h : lE K W (dCall n dsp dA) σ H Q) : tCallS (spD K n dsp) (WE W) (lA K W dA) σ H Q := by
  obtain ⟨B, δ, G, Q2, X2, R, h, kq, kx⟩ := h
  refine ⟨B, δ, G, _, X2, R, h, fun rs vs G1 H1 w1 t1 o1 q1 => ?_, kx⟩
  refine ⟨B.M, B.H, G1, rs.map RV.old, Q2, X2, w1, olds o1, by rw [List.length_map]; exact q1.len, q1.h, fun r v G2 H2 w2 t2 o2 q2 => ?_, fun C G2 H2 w2 t2 q2 => ?_⟩
  · exact kq r v G2 H2 w2 (t1.trans t2) ((o2.early t1.hm).base (R.ext.trans t1.mt).hm) q2
  · exact kx C G2 H2 ((R.step w1 t1).step w2 t2) q2
theorem de_call (F : FnOk X.prog X.w X.K X.mg X.base (L2N.CX X.prog X.w) k f fd ps (spD X.K n dsp)) (hr : Room k X.A) (hm : X.mg x = some (.ref f)) (hk : PySem.W.keepIn X.K (.ref f) = true) (hb : Binds X.K fd ps []) (tk : L2N.Takes X W)
    (ha : PA X (e :: es) (lA X.K W dA)) (hg : Gl X x := by rfl) (hdb : (x == ("__debug__" : Str)) = false := by decide) (he : starEach (e :: es) X.env = (false, eval e X.env) :: starEach es X.env := by rfl) (hpl : (backTo pos (starEach es X.env)).any (·.1) = false := by rfl) :
    PE X (.Call (.Name x p) (e :: es) [] pos) (lE X.K W (dCall n dsp dA)) := (pe_callS F hr hg hm hk hb (fun σ => L2N.passAt tk σ) ha hdb he hpl).imp fun _ _ _ h => lE_call h

/-! ### what is walked: its items as data -/
abbrev DSrc := DSt → (List D → Prop) → (Addr → Prop) → Prop
structure WalkD (K : PySem.W.Frag) (M : Addr → Prop) (G : Hp) (J : It) (ds : List D) : Prop where
  go : ∀ i G2 H2, Same G G2 → Wd M G2 H2 → i < ds.length → J.go i H2
  yld : ∀ i G2 H2 x H', Same G G2 → Wd M G2 H2 → i < ds.length → J.yld i H2 x H' → ∃ d G', ds[i]? = some d ∧ Wd M G' H' ∧ Ext M G2 H2 G' H' ∧ Dt K G' x d
  stop : ∀ i G2 H2, Same G G2 → Wd M G2 H2 → ds.length ≤ i → J.stop i H2
def lI (K : PySem.W.Frag) (W : WX) (dr : DSrc) : TI := fun σ H R => ∃ (B : Base) (δ : DSt) (G : Hp) (Q2 : List D → Prop) (X2 : Addr → Prop), Rel K B δ σ G H ∧ dr δ Q2 X2 ∧
  (∀ J ds G' H', Wd B.M G' H' → Ext B.M G H G' H' → WalkD K B.M G' J ds → Q2 ds → R J H') ∧ XOk K W B δ σ X2
theorem walk_list {K : PySem.W.Frag} {M : Addr → Prop} {G : Hp} {a : Addr} {xs : List V} {ds : List D} (h : G a = some (.lst xs)) (q : DtA K G xs ds) : WalkD K M G (Itl K a) ds where
  go := fun i G2 H2 s w hi => by
    obtain ⟨v, e, _⟩ := q.get (List.getElem?_eq_getElem hi)
    exact ⟨xs, v, SqL.of (w.sub _ _ (s _ _ h)), e⟩
  yld := fun i G2 H2 x H' s w hi y => by
    obtain ⟨e, y⟩ := y
    subst e
    obtain ⟨d, ed, dd⟩ := q.getV (y xs (SqL.of (w.sub _ _ (s _ _ h))))
    exact ⟨d, G2, ed, w, .refl, dd.mono s⟩
  stop := fun i G2 H2 s w hi => ⟨xs, SqL.of (w.sub _ _ (s _ _ h)), by rw [q.length]; exact hi⟩
theorem walk_tup {K : PySem.W.Frag} {M : Addr → Prop} {G : Hp} {a : Addr} {xs : List V} {ds : List D} (h : SqT K G a xs) (q : DtA K G xs ds) : WalkD K M G (Itt K a) ds where
  go := fun i G2 H2 s w hi => by
    obtain ⟨v, e, _⟩ := q.get (List.getElem?_eq_getElem hi)
    exact ⟨xs, v, same_sqT w.sub (same_sqT s h), e⟩
  yld := fun i G2 H2 x H' s w hi y => by
    obtain ⟨e, y⟩ := y
    subst e
    obtain ⟨d, ed, dd⟩ := q.getV (y xs (same_sqT w.sub (same_sqT s h)))
    exact ⟨d, G2, ed, w, .refl, dd.mono s⟩
  stop := fun i G2 H2 s w hi => ⟨xs, same_sqT w.sub (same_sqT s h), by rw [q.length]; exact hi⟩
/-- the ints lo, lo + 1, .. -/
def rngD (lo : Int) (n : Nat) : List D := (List.range n).map fun i => .int (lo + (i : Nat))
theorem rngD_length (lo : Int) (n : Nat) : (rngD lo n).length = n := by unfold rngD; rw [List.length_map, List.length_range]
theorem rngD_get {lo : Int} {n i : Nat} {d : D} (h : (rngD lo n)[i]? = some d) : i < n ∧ d = .int (lo + i) := by
  have hi : i < n := by
    have := (List.getElem?_eq_some_iff.mp h).1
    rwa [rngD_length] at this
  unfold rngD at h
  rw [List.getElem?_map, List.getElem?_range hi] at h
  exact ⟨hi, (Option.some.inj h).symm⟩
theorem rngD_at {lo : Int} {n i : Nat} (h : i < n) : (rngD lo n)[i]? = some (.int (lo + i)) := by
  unfold rngD
  rw [List.getElem?_map, List.getElem?_range h]
  rfl
theorem walk_rng {K : PySem.W.Frag} {M : Addr → Prop} {G : Hp} {lo : Int} {n : Nat} : WalkD K M G (Itr lo n) (rngD lo n) where
  go := fun i G2 H2 s w hi => by rw [rngD_length] at hi; exact hi
  yld := fun i G2 H2 x H' s w hi y => by
    obtain ⟨e, y⟩ := y
    subst e y
    rw [rngD_length] at hi
    exact ⟨_, G2, rngD_at hi, w, .refl, Dt.int _⟩
  stop := fun i G2 H2 s w hi => by rw [rngD_length] at hi; exact hi
theorem PI.or {tg l : Expr} {t u : TI} (h1 : PI X tg l t) (h2 : PI X tg l u) : PI X tg l (fun σ H R => t σ H R ∨ u σ H R) := ⟨fun pins s σ H R I h => h.elim (h1.run pins s σ H R I) (h2.run pins s σ H R I)⟩
theorem _root_.L2.PI.imp {tg l : Expr} {t u : TI} (h : PI X tg l t) (i : ∀ σ H R, u σ H R → t σ H R) : PI X tg l u := ⟨fun pins s σ H R I q => h.run pins s σ H R I (i _ _ _ q)⟩
/-- a list or a tuple; the value decides: told by lE twice is one evaluation -/
def isSq (r : RV) (Q : List D → Prop) : Prop := match r with
  | .dat (.list ds) => Q ds
  | .dat (.tuple ds) => Q ds
  | .new (.list ds) => Q ds
  | .new (.tuple ds) => Q ds
  | .own ds => Q ds
  | _ => False
def sLst (de : DTE) : DSrc := fun δ Q X => de δ (fun r => fzQ r fun r' => match r'.d? with
  | some (.list ds) => Q ds
  | _ => False) X
def sTup (de : DTE) : DSrc := fun δ Q X => de δ (fun r => match r.d? with
  | some (.tuple ds) => Q ds
  | _ => False) X
theorem di_lst {tg : Expr} (he : PE X e (lE X.K W de)) : PI X tg e (lI X.K W (sLst de)) := by
  refine (pi_list he).imp fun σ H R h => ?_
  obtain ⟨B, δ, G, Q2, X2, R', h, kq, kx⟩ := h
  refine ⟨B, δ, G, _, X2, R', h, fun r v G1 H1 w1 t1 o1 q1 => ?_, kx⟩
  obtain ⟨r', e1, q1⟩ := fzQ_some q1
  obtain ⟨G2, w2, t2, s2, o2⟩ := o1.fz w1 t1 e1
  have fin : ∀ ds : List D, Dt X.K G2 v (.list ds) → Q2 ds → ∃ a, v = .ref a ∧ (∃ xs, SqL X.K H1 a xs) ∧ R (Itl X.K a) H1 := fun ds dd q => by
    cases dd with
    | lst h1 h2 => exact ⟨_, rfl, ⟨_, SqL.of (w2.sub _ _ h1)⟩, kq _ ds G2 H1 w2 t2 (walk_list h1 h2) q⟩
  cases r' with
  | dat d =>
    cases d with
    | list ds => exact fin ds o2 q1
    | _ => exact q1.elim
  | new d =>
    cases d with
    | list ds => exact fin ds (Nw.dt o2) q1
    | _ => exact q1.elim
  | own ds => exact o2.elim
  | view ds => exact o2.elim
  | raw _ => exact q1.elim
  | sto => exact q1.elim
theorem di_tup {tg : Expr} (he : PE X e (lE X.K W de)) : PI X tg e (lI X.K W (sTup de)) := by
  refine (pi_tup he).imp fun σ H R h => ?_
  obtain ⟨B, δ, G, Q2, X2, R', h, kq, kx⟩ := h
  refine ⟨B, δ, G, _, X2, R', h, fun r v G1 H1 w1 t1 o1 q1 => ?_, kx⟩
  split at q1
  · rename_i ds e1
    obtain ⟨a, xs, rfl, h1, d1⟩ := o1.tup e1
    exact ⟨_, rfl, ⟨_, same_sqT w1.sub h1⟩, kq _ ds G1 H1 w1 t1 (walk_tup h1 d1) q1⟩
  · exact q1.elim
def RgI (i : Int) : Prop := -(2 ^ 62) ≤ i ∧ i < 2 ^ 62
def sRng1 (de : DTE) : DSrc := fun δ Q X => de δ (fun r => isI r fun j => RgI j ∧ Q (rngD 0 j.toNat)) X
def sRng2 (da db : DTE) : DSrc := fun δ Q X => da δ (fun r => isI r fun i => db δ (fun s => isI s fun j => (RgI i ∧ RgI j) ∧ Q (rngD i (j - i).toNat)) X) X
theorem isI_ok {K : PySem.W.Frag} {M : Addr → Prop} {HB H0 G H : Hp} {v : V} {r : RV} {Q : Int → Prop} (o : RvOk K M HB H0 G H v r) (q : isI r Q) : ∃ i, v = .int i ∧ Q i := by
  unfold isI at q
  split at q
  · rename_i i e
    exact ⟨i, o.int e, q⟩
  · exact q.elim
theorem di_rng1 {tg a : Expr} (hm : X.mg "range" = none) (ha : PE X a (lE X.K W de)) (hg : Gl X "range" := by rfl) (hs : starEach [a] X.env = [(false, eval a X.env)] := by rfl) (hs2 : starEach [a] X.env = (false, eval a X.env) :: starEach [] X.env := by rfl) : PI X tg (.Call (.Name "range" p) [a] [] pos) (lI X.K W (sRng1 de)) := by
  refine (pi_range1 hg hm (pa_cons ha pa_nil hs2) hs).imp fun σ H R h => ?_
  obtain ⟨B, δ, G, Q2, X2, R', h, kq, kx⟩ := h
  refine ⟨B, δ, G, _, X2, R', h, fun r v G1 H1 w1 t1 o1 q1 => ?_, kx⟩
  obtain ⟨j, rfl, ⟨b1, b2⟩, q⟩ := isI_ok o1 q1
  exact ⟨j, rfl, b1, b2, kq _ _ G1 H1 w1 t1 walk_rng q⟩
theorem di_rng2 {tg a b : Expr} {da db : DTE} (hm : X.mg "range" = none) (ha : PE X a (lE X.K W da)) (hb : PE X b (lE X.K W db)) (hg : Gl X "range" := by rfl) (hs : starEach [a, b] X.env = [(false, eval a X.env), (false, eval b X.env)] := by rfl) (hs2 : starEach [b] X.env = [(false, eval b X.env)] := by rfl)
    (hs3 : starEach [a, b] X.env = (false, eval a X.env) :: starEach [b] X.env := by rfl) (hs4 : starEach [b] X.env = (false, eval b X.env) :: starEach [] X.env := by rfl) : PI X tg (.Call (.Name "range" p) [a, b] [] pos) (lI X.K W (sRng2 da db)) := by
  refine (pi_range2 hg hm (pa_cons ha (pa_cons hb pa_nil hs4) hs3) hs hs2).imp fun σ H R h => ?_
  obtain ⟨B, δ, G, Q2, X2, R', h, kq, kx⟩ := h
  refine ⟨B, δ, G, _, X2, R', h, fun r v G1 H1 w1 t1 o1 q1 => ?_, kx⟩
  obtain ⟨i, rfl, q1⟩ := isI_ok o1 q1
  refine ⟨B, δ, G1, _, X2, R'.step w1 t1, q1, fun r2 v2 G2 H2 w2 t2 o2 q2 => ?_, kx⟩
  obtain ⟨j, rfl, ⟨⟨b1, b2⟩, b3, b4⟩, q⟩ := isI_ok o2 q2
  exact ⟨i, j, rfl, ⟨b1, b2, b3, b4⟩, kq _ _ G2 H2 w2 (t1.trans t2) walk_rng q⟩
/-- list(range(..)) -/
theorem rgV_ints (a b : Int) : rgV a b = ((List.range (b - a).toNat).map fun i => a + ((i : Nat) : Int)).map V.int := by
  unfold rgV
  rw [List.map_map]
  rfl
def rngI (a : Int) (n : Nat) : List Int := (List.range n).map fun i => a + ((i : Nat) : Int)
theorem rngD_ints (a : Int) (n : Nat) : rngD a n = (rngI a n).map PyData.int := by
  unfold rngD rngI
  rw [List.map_map]
  rfl
def dLr1 (de : DTE) : DTE := fun δ Q X => de δ (fun r => isI r fun j => (0 ≤ j ∧ j ≤ 16777216) ∧ Q (.own (rngD 0 j.toNat))) X
theorem de_listrng1 {a : Expr} {p2 : Pos} {pos2 : Pos} (hc : X.calm = true) (hml : X.mg "list" = none) (hm : X.mg "range" = none) (ha : PE X a (lE X.K W de)) (hgl : Gl X "list" := by rfl) (hg : Gl X "range" := by rfl) (na : starEach [a] X.env = (false, eval a X.env) :: starEach [] X.env := by rfl)
    (na2 : starEach [.Call (.Name "range" p2) [a] [] pos2] X.env = (false, eval (.Call (.Name "range" p2) [a] [] pos2) X.env) :: starEach [] X.env := by rfl) : PE X (.Call (.Name "list" p) [.Call (.Name "range" p2) [a] [] pos2] [] pos) (lE X.K W (dLr1 de)) := by
  refine (pe_listRg hc hgl hml (prg_1 hg hm ha na) na2).imp fun σ H Q h => ?_
  obtain ⟨B, δ, G, Q2, X2, R', h, kq, kx⟩ := h
  refine ⟨B, δ, G, _, X2, R', h, fun r v G1 H1 w1 t1 o1 q1 => ?_, kx⟩
  obtain ⟨j, rfl, ⟨b1, b2⟩, q⟩ := isI_ok o1 q1
  refine ⟨j, rfl, RgOk.of_le (by omega) b2 (by omega) b1, fun p hp => ?_⟩
  refine kq (.own _) _ G1 _ (w1.alloc hp) (t1.trans (Ext.alloc hp)) ⟨p, _, rfl, none_early t1.hm p hp, w1.noG hp, w1.nm hp, upd_same, ?_⟩ q
  rw [rgV_ints, rngD_ints, Int.sub_zero]
  exact DtA.ints _
end
/-! ### targets -/
inductive Tg0 where
  | nm (i : Nat) | tp (is : List Nat)
  /-- i, (j, ..) -/
  | tq (i : Nat) (js : List Nat)
def gNs : List Nat → TGs
  | [] => gNil
  | i :: is => gCons (gName i) (gNs is)
def gTg (K : PySem.W.Frag) : Tg0 → TG
  | .nm i => gName i
  | .tp is => gTup K is.length (gNs is)
  | .tq i js => gTup K 2 (gCons (gName i) (gCons (gTup K js.length (gNs js)) gNil))
def setD (tg : Tg0) (d : D) (δ : DSt) (N : DSt → Prop) : Prop := match tg with
  | .nm i => N (δ.set i (.dat d))
  | .tp is => match d with
    | .tuple ds => ds.length = is.length ∧ N ((is.zip ds).foldl (fun s p => s.set p.1 (.dat p.2)) δ)
    | _ => False
  | .tq i js => match d with
    | .tuple [d1, .tuple ds] => ds.length = js.length ∧ N ((js.zip ds).foldl (fun s p => s.set p.1 (.dat p.2)) (δ.set i (.dat d1)))
    | _ => False
theorem rel_sets {K : PySem.W.Frag} {B : Base} {G H : Hp} {Q : St → Hp → Prop} {N : DSt → Prop} (kq : ∀ δ σ, Rel K B δ σ G H → N δ → Q σ H) : ∀ (is : List Nat) (ds : List D) (vs : List V) (δ : DSt) (σ : St), Rel K B δ σ G H → DtA K G vs ds → ds.length = is.length → N ((is.zip ds).foldl (fun s p => s.set p.1 (.dat p.2)) δ) → gNs is vs σ H Q
  | [], [], _, δ, σ, R, h, _, n => by cases h; exact ⟨rfl, kq δ σ R n⟩
  | [], d :: ds, _, δ, σ, R, h, e, n => by simp at e
  | i :: is, [], _, δ, σ, R, h, e, n => by simp at e
  | i :: is, d :: ds, _, δ, σ, R, h, e, n => by
    cases h with
    | cons h1 h2 =>
      refine ⟨_, _, rfl, ?_⟩
      exact rel_sets kq is ds _ _ _ (R.set R.wd .refl (i := i) (s := .dat d) ⟨_, rfl, h1⟩ (fun _ _ z => nomatch z)) h2 (by simpa using e) n
theorem tg_ok {K : PySem.W.Frag} {B : Base} {G H : Hp} {Q : St → Hp → Prop} {N : DSt → Prop} (kq : ∀ δ σ, Rel K B δ σ G H → N δ → Q σ H) {tg : Tg0} {d : D} {v : V} {δ : DSt} {σ : St} (R : Rel K B δ σ G H) (h : Dt K G v d) (n : setD tg d δ N) : gTg K tg v σ H Q := by
  cases tg with
  | nm i => exact kq _ _ (R.set R.wd .refl (i := i) (s := .dat d) ⟨_, rfl, h⟩ (fun _ _ z => nomatch z)) n
  | tp is =>
    cases d with
    | tuple ds =>
      obtain ⟨e, n⟩ := n
      cases h with
      | tup h1 h2 => exact ⟨_, _, rfl, same_sqT R.wd.sub h1, by rw [h2.length]; exact e, rel_sets kq is ds _ δ σ R h2 e n⟩
    | _ => exact n.elim
  | tq i js =>
    simp only [setD] at n
    split at n
    rotate_left
    · exact n.elim
    rename_i d1 ds
    obtain ⟨e, n⟩ := n
    cases h with
    | tup h1 h2 =>
      cases h2 with
      | @cons v1 _ _ _ g1 g2 =>
        cases g2 with
        | @cons v2 _ _ _ g2 g3 =>
          cases g3
          cases g2 with
          | tup k1 k2 =>
            refine ⟨_, _, rfl, same_sqT R.wd.sub h1, rfl, _, _, rfl, _, _, rfl, _, _, rfl, same_sqT R.wd.sub k1, by rw [k2.length]; exact e, ?_⟩
            have R1 := R.set R.wd .refl (i := i) (s := .dat d1) ⟨_, rfl, g1⟩ (fun _ _ z => nomatch z)
            have q := rel_sets (Q := fun σ' H' => gNil [] σ' H' Q) (N := N) (fun δ' σ' R' n' => ⟨rfl, kq δ' σ' R' n'⟩) js ds _ _ _ R1 k2 e n
            exact q
end RB

set_option Elab.async false
set_option linter.all false
set_option maxRecDepth 100000
set_option maxHeartbeats 4000000
/-! RB6: comprehensions, statements, a def's rule -/
namespace RB
open PySem PySem.Spec PyProof.Rows L2
/-! ### statements -/
structure DE2 where
  nx : DSt → Prop
  rt : RV → DSt → Prop
  bk : DSt → Prop
  ct : DSt → Prop
  ex : Addr → DSt → Prop
abbrev DTS := DE2 → DSt → Prop
/- a later base: more is protected -/
theorem Ext.nt {M : Addr → Prop} {G0 H0 G H G' H' : Hp} (t : Ext (Base.MT ⟨M, G0, H0, noT⟩) G H G' H') : Ext M G H G' H' := ⟨fun b o z => t.hh b o (fun y => y.elim z id), t.gg, t.fr, t.hm⟩
structure Le (B B' : Base) : Prop where
  m : B'.M = B.M
  e : Ext B.MT B.G B.H B'.G B'.H
  t : ∀ b, B.H b ≠ none → B'.T b → B.T b
theorem Le.rfl {B : Base} : Le B B := ⟨Eq.refl _, .refl, fun _ _ z => z⟩
theorem Le.ext {A B : Base} {G H : Hp} (h : Le A B) (x : Ext B.MT B.G B.H G H) : Ext A.MT A.G A.H G H :=
  ⟨fun b o m e => x.hh b o (fun z => m (z.imp (fun z => by rw [← h.m]; exact z) (h.t b (by rw [e]; exact fun z => nomatch z)))) (h.e.hh b o m e), fun c o z => x.gg c o (h.e.gg c o z), fun c z g => x.fr c (h.e.hm c z) (h.e.fr c z g), fun c z => x.hm c (h.e.hm c z)⟩
theorem Le.trans {A B C : Base} (h : Le A B) (k : Le B C) : Le A C := ⟨k.m.trans h.m, h.ext k.e, fun b z y => h.t b z (k.t b (h.e.hm b z) y)⟩
structure EndsOk (K : PySem.W.Frag) (B : Base) (W : WX) (D : Ends) (D2 : DE2) : Prop where
  nx' : ∀ B', Le B B' → ∀ δ σ G H, Rel K B' δ σ G H → D2.nx δ → D.nx σ H
  bk' : ∀ B', Le B B' → ∀ δ σ G H, Rel K B' δ σ G H → D2.bk δ → D.bk σ H
  ct' : ∀ B', Le B B' → ∀ δ σ G H, Rel K B' δ σ G H → D2.ct δ → D.ct σ H
  rt' : ∀ B', Le B B' → ∀ r v δ σ G H, Rel K B' δ σ G H → RvOk K B'.M B'.H B'.H G H v r → D2.rt r δ → D.rt v H
  ex' : ∀ B', Le B B' → ∀ C δ σ G H, Rel K B' δ σ G H → D2.ex C δ → W (.ref C) none σ H
section
variable {K : PySem.W.Frag} {B : Base} {W : WX} {D : Ends} {D2 : DE2} (k : EndsOk K B W D D2)
include k
theorem EndsOk.nx : ∀ δ σ G H, Rel K B δ σ G H → D2.nx δ → D.nx σ H := k.nx' B .rfl
theorem EndsOk.bk : ∀ δ σ G H, Rel K B δ σ G H → D2.bk δ → D.bk σ H := k.bk' B .rfl
theorem EndsOk.ct : ∀ δ σ G H, Rel K B δ σ G H → D2.ct δ → D.ct σ H := k.ct' B .rfl
theorem EndsOk.rt : ∀ r v δ σ G H, Rel K B δ σ G H → RvOk K B.M B.H B.H G H v r → D2.rt r δ → D.rt v H := k.rt' B .rfl
theorem EndsOk.ex : ∀ C δ σ G H, Rel K B δ σ G H → D2.ex C δ → W (.ref C) none σ H := k.ex' B .rfl
theorem EndsOk.up {B' : Base} (l : Le B B') : EndsOk K B' W D D2 := ⟨fun A m => k.nx' A (l.trans m), fun A m => k.bk' A (l.trans m), fun A m => k.ct' A (l.trans m), fun A m => k.rt' A (l.trans m), fun A m => k.ex' A (l.trans m)⟩
end
theorem Le.top {K : PySem.W.Frag} {M : Addr → Prop} {G H G' H' : Hp} {B' : Base} {δ : DSt} {σ : St} (l : Le ⟨M, G, H, noT⟩ B') (R : Rel K B' δ σ G' H') : Wd M G' H' ∧ Ext M G H G' H' := by
  have m : B'.M = M := l.m
  have w := R.wd
  rw [m] at w
  have t := l.ext R.ext
  exact ⟨w, ⟨fun b o z => t.hh b o (fun y => y.elim z id), t.gg, t.fr, t.hm⟩⟩
theorem Le.rv {K : PySem.W.Frag} {M : Addr → Prop} {G H G' H' : Hp} {B' : Base} {v : V} {r : RV} (l : Le ⟨M, G, H, noT⟩ B') (o : RvOk K B'.M B'.H B'.H G' H' v r) : RvOk K M H H G' H' v r := by
  have m : B'.M = M := l.m
  rw [m] at o
  exact (o.early l.e.hm).base l.e.hm
def lS (K : PySem.W.Frag) (W : WX) (ds : DTS) : TS := fun D σ H => ∃ (B : Base) (δ : DSt) (G : Hp) (D2 : DE2), Rel K B δ σ G H ∧ EndsOk K B W D D2 ∧ ds D2 δ
theorem _root_.L2.PS.imp {X : Cx} {e : Stmt} {t u : TS} (h : PS X e t) (i : ∀ D σ H, u D σ H → t D σ H) : PS X e u := ⟨fun pins s σ H D I q => h.run pins s σ H D I (i _ _ _ q)⟩
theorem _root_.L2.PSs.imp {X : Cx} {e : List Stmt} {t u : TS} (h : PSs X e t) (i : ∀ D σ H, u D σ H → t D σ H) : PSs X e u := ⟨fun pins s σ H D I q => h.run pins s σ H D I (i _ _ _ q)⟩
theorem Ext.up {M : Addr → Prop} {G0 H0 G H G' H' : Hp} (a : Ext M G0 H0 G H) (t : Ext M G H0 G' H') : Ext M G0 H0 G' H' :=
  ⟨t.hh, fun c o z => t.gg c o (a.gg c o z), fun c z g => t.fr c z (a.fr c z g), t.hm⟩
theorem Rel.up {K : PySem.W.Frag} {B : Base} {δ : DSt} {σ : St} {G H : Hp} (R : Rel K B δ σ G H) : Rel K ⟨B.M, G, B.H, B.T⟩ δ σ G H :=
  ⟨R.wd, ⟨R.ext.hh, fun _ _ z => z, fun _ _ g => g, R.ext.hm⟩, R.len, fun i s x e1 e2 => by
    have z := R.sl i s x e1 e2
    cases s <;> exact z, R.sep⟩
theorem Rel.down {K : PySem.W.Frag} {B : Base} {δ δ' : DSt} {σ σ' : St} {G H G' H' : Hp} (R : Rel K B δ σ G H) (Q : Rel K ⟨B.M, G, B.H, B.T⟩ δ' σ' G' H') : Rel K B δ' σ' G' H' ∧ Same G G' :=
  ⟨⟨Q.wd, R.ext.up Q.ext, Q.len, fun i s x e1 e2 => by
    have z := Q.sl i s x e1 e2
    cases s <;> exact z, Q.sep⟩, Q.ext.gg⟩
def dSeq (s t : DTS) : DTS := fun D δ => s { D with nx := t D } δ
def dSkip : DTS := fun D δ => D.nx δ
def dBrk : DTS := fun D δ => D.bk δ
def dCnt : DTS := fun D δ => D.ct δ
def dRet (de : DTE) : DTS := fun D δ => de δ (fun r => D.rt r δ) (fun C => D.ex C δ)
def dRetN : DTS := fun D δ => D.rt (.dat .none) δ
/-- return of an own list by its name -/
def dRetO (i : Nat) : DTS := fun D δ => match δ.getD i .no with
  | .own ds => D.rt (.own ds) δ
  | _ => False
def dDrop (de : DTE) : DTS := fun D δ => de δ (fun _ => D.nx δ) (fun C => D.ex C δ)
def dIf (t : DTT) (s u : DTS) : DTS := fun D δ => t δ (fun b => Br b (s D δ) (u D δ)) (fun C => D.ex C δ)
/-- the assigned name is never changed in place: a new list is frozen -/
def asgF (i : Nat) (δ : DSt) (N : DSt → Prop) (r : RV) : Prop := match r with
  | .dat d => N (δ.set i (.dat d))
  | .new d => N (δ.set i (.new d))
  | .own ds => N (δ.set i (.dat (.list ds)))
  | .raw v => N (δ.set i (.raw v))
  | _ => False
/-- .. is changed in place -/
def asgO (i : Nat) (δ : DSt) (N : DSt → Prop) (r : RV) : Prop := match r with
  | .dat d => N (δ.set i (.dat d))
  | .new d => N (δ.set i (.new d))
  | .own ds => N (δ.set i (.own ds))
  | .raw v => N (δ.set i (.raw v))
  | _ => False
def dSet (i : Nat) (de : DTE) : DTS := fun D δ => de δ (asgF i δ D.nx) (fun C => D.ex C δ)
def dSetO (i : Nat) (de : DTE) : DTS := fun D δ => de δ (asgO i δ D.nx) (fun C => D.ex C δ)
/-- name, name .. = a tuple -/
def dSetT (is : List Nat) (de : DTE) : DTS := fun D δ => de δ (fun r => match r.d? with
  | some d => setD (.tp is) d δ D.nx
  | none => False) (fun C => D.ex C δ)
/-- a, b = x, y -/
def dPar (i j : Nat) (dA : DTA) : DTS := fun D δ => dA δ (fun rs => match rs with
  | [.dat d, .dat e] => D.nx ((δ.set i (.dat d)).set j (.dat e))
  | _ => False) (fun C => D.ex C δ)
/-- name += an int -/
def dAugI (f : Int → Int → Int) (i : Nat) (de : DTE) : DTS := fun D δ => match δ.getD i .no with
  | .dat (.int n) => de δ (fun r => isI r fun m => D.nx (δ.set i (.dat (.int (f n m))))) (fun C => D.ex C δ)
  | _ => False
/-- own.append(e) -/
def dApp (i : Nat) (de : DTE) : DTS := fun D δ => match δ.getD i .no with
  | .own ds => de δ (fun r => fzQ r fun r' => match r'.d? with
    | some d => ds.length < sizeLine ∧ D.nx (δ.set i (.own (ds ++ [d])))
    | none => False) (fun C => D.ex C δ)
  | _ => False
/-- own[j] = e -/
def dStore (i : Nat) (dj de : DTE) : DTS := fun D δ => match δ.getD i .no with
  | .own ds => de δ (fun r => fzQ r fun r' => match r'.d? with
    | some d => dj δ (fun q => isI q fun j => ∃ n, ixN ds.length j = some n ∧ D.nx (δ.set i (.own (ds.set n d)))) (fun C => D.ex C δ)
    | none => False) (fun C => D.ex C δ)
  | _ => False
/-- an own list is frozen: nothing is done -/
def dFrz (i : Nat) (s : DTS) : DTS := fun D δ => match δ.getD i .no with
  | .own ds => s D (δ.set i (.dat (.list ds)))
  | _ => s D δ
/-- .. and it is known to be new -/
def dFrzN (i : Nat) (s : DTS) : DTS := fun D δ => match δ.getD i .no with
  | .own ds => (∀ d ∈ ds, NoL d) ∧ s D (δ.set i (.new (.list ds)))
  | _ => s D δ
structure Whl (t : DTT) (s : DTS) (D : DE2) (δ : DSt) : Prop where
  h : ∃ I : Nat → DSt → Prop, (∃ m, I m δ) ∧ ∀ m δ, I m δ → t δ (fun b => Br b (s { D with nx := fun δ' => ∃ m', m' < m ∧ I m' δ', ct := fun δ' => ∃ m', m' < m ∧ I m' δ', bk := D.nx } δ) (D.nx δ)) (fun C => D.ex C δ)
def dWhile (t : DTT) (s : DTS) : DTS := fun D δ => Whl t s D δ
structure For (ds : List D) (tg : Tg0) (s : DTS) (D : DE2) (δ : DSt) : Prop where
  h : ∃ I : Nat → DSt → Prop, I 0 δ ∧ (∀ i d δ, ds[i]? = some d → I i δ → setD tg d δ fun δ' => s { D with nx := I (i + 1), ct := I (i + 1), bk := D.nx } δ') ∧ ∀ δ, I ds.length δ → D.nx δ
def dFor (dr : DSrc) (tg : Tg0) (s : DTS) : DTS := fun D δ => dr δ (fun ds => For ds tg s D δ) (fun C => D.ex C δ)
section
variable {X : Cx} {W : WX} {st : Stmt} {rest : List Stmt} {s u : DTS} {e : Expr} {de dj : DTE} {dA : DTA} {dt : DTT} {pos pos' : Pos} {x : Str}
theorem dss_nil : PSs X [] (lS X.K W dSkip) := pss_nil.imp fun D σ H h => by
  obtain ⟨B, δ, G, D2, R, k, h⟩ := h
  exact k.nx δ σ G H R h
theorem dss_cons (h1 : PS X st (lS X.K W s)) (h2 : PSs X rest (lS X.K W u)) : PSs X (st :: rest) (lS X.K W (dSeq s u)) := (pss_cons h1 h2).imp fun D σ H h => by
  obtain ⟨B, δ, G, D2, R, k, h⟩ := h
  exact ⟨B, δ, G, { D2 with nx := u D2 }, R, ⟨fun B' l δ' σ' G' H' R' q => ⟨B', δ', G', D2, R', k.up l, q⟩, k.bk', k.ct', k.rt', k.ex'⟩, h⟩
theorem dss_one (h1 : PS X st (lS X.K W s)) : PSs X [st] (lS X.K W s) := pss_one h1
theorem ds_pass : PS X (.Pass pos) (lS X.K W dSkip) := ps_pass.imp fun D σ H h => by
  obtain ⟨B, δ, G, D2, R, k, h⟩ := h
  exact k.nx δ σ G H R h
theorem ds_brk : PS X (.Break pos) (lS X.K W dBrk) := ps_break.imp fun D σ H h => by
  obtain ⟨B, δ, G, D2, R, k, h⟩ := h
  exact k.bk δ σ G H R h
theorem ds_cnt : PS X (.Continue pos) (lS X.K W dCnt) := ps_continue.imp fun D σ H h => by
  obtain ⟨B, δ, G, D2, R, k, h⟩ := h
  exact k.ct δ σ G H R h
theorem EndsOk.xok {B : Base} {D : Ends} {D2 : DE2} {δ : DSt} {σ : St} {K : PySem.W.Frag} (k : EndsOk K B W D D2) : XOk K W B δ σ (fun C => D2.ex C δ) := fun C G' H' R q => k.ex C δ σ G' H' R q
theorem ds_ret (he : PE X e (lE X.K W de)) : PS X (.Return (some e) pos) (lS X.K W (dRet de)) := (ps_ret he).imp fun D σ H h => by
  obtain ⟨B, δ, G, D2, R, k, h⟩ := h
  exact ⟨B, δ, G, _, _, R, h, fun r v G1 H1 w1 t1 o1 q1 => k.rt r v δ σ G1 H1 (R.step w1 t1) (o1.early R.ext.hm) q1, k.xok⟩
theorem ds_retN : PS X (.Return none pos) (lS X.K W dRetN) := ps_retN.imp fun D σ H h => by
  obtain ⟨B, δ, G, D2, R, k, h⟩ := h
  exact k.rt (.dat .none) .non δ σ G H R Dt.non h
theorem ds_retO (i : Nat) (hN : X.N[i]? = some x := by rfl) (hv : Vis X.env.scope x := by first | exact Or.inl rfl | exact Or.inr (Or.inl rfl) | exact Or.inr (Or.inr rfl)) (hd : (x == ("__debug__" : Str)) = false := by decide)
    (hcd : (x == ("__classdict__" : Str)) = false := by decide) : PS X (.Return (some (.Name x pos')) pos) (lS X.K W (dRetO i)) := (ps_ret (pe_var hN hv hd hcd)).imp fun D σ H h => by
  obtain ⟨B, δ, G, D2, R, k, h⟩ := h
  unfold dRetO at h
  split at h
  · rename_i ds e
    obtain ⟨y, e1, a, xs, rfl, b1, b2, b3, b4, b5⟩ := R.at (getD_some e fun z => nomatch z)
    exact ⟨_, e1, k.rt (.own ds) _ δ σ G H R ⟨a, xs, rfl, b1, b2, b3, b4, b5⟩ h⟩
  · exact h.elim
theorem ds_drop (he : PE X e (lE X.K W de)) (hs : swapsWith e none pos.line X.env = pure false := by rfl) : PS X (.Expr e pos) (lS X.K W (dDrop de)) := (ps_expr he hs).imp fun D σ H h => by
  obtain ⟨B, δ, G, D2, R, k, h⟩ := h
  exact ⟨B, δ, G, _, _, R, h, fun r v G1 H1 w1 t1 o1 q1 => k.nx δ σ G1 H1 (R.step w1 t1) q1, k.xok⟩
theorem ds_if {c : Expr} {a b : List Stmt} (hc : PT X c (lT X.K W dt)) (ha : PSs X a (lS X.K W s)) (hb : PSs X b (lS X.K W u)) : PS X (.If c a b pos) (lS X.K W (dIf dt s u)) := (ps_if hc ha hb).imp fun D σ H h => by
  obtain ⟨B, δ, G, D2, R, k, h⟩ := h
  exact ⟨B, δ, G, _, _, R, h, fun b G1 H1 w1 t1 q1 => Br.ite ⟨fun e => ⟨B, δ, G1, D2, R.step w1 t1, k, q1.y e⟩, fun e => ⟨B, δ, G1, D2, R.step w1 t1, k, q1.n e⟩⟩, k.xok⟩
theorem asgF_ok {K : PySem.W.Frag} {B : Base} {δ : DSt} {σ : St} {G H G1 H1 : Hp} {i : Nat} {r : RV} {v : V} {N : DSt → Prop} {Q : St → Hp → Prop} (R : Rel K B δ σ G H) (w : Wd B.M G1 H1) (t : Ext B.M G H G1 H1) (o : RvOk K B.M B.H H G1 H1 v r) (h : asgF i δ N r)
    (kq : ∀ δ σ G H, Rel K B δ σ G H → N δ → Q σ H) : Q (σ.set i (some v)) H1 := by
  cases r with
  | dat d => exact kq _ _ _ _ (R.set w t (i := i) (s := .dat d) ⟨v, rfl, o⟩ fun _ _ z => nomatch z) h
  | new d => exact kq _ _ _ _ (R.set w t (i := i) (s := .new d) ⟨v, rfl, o⟩ fun _ _ z => nomatch z) h
  | own ds =>
    obtain ⟨G2, w2, t2, s2, o2⟩ := RvOk.fz w t o rfl
    exact kq _ _ _ _ (R.set w2 t2 (i := i) (s := .dat (.list ds)) ⟨v, rfl, o2⟩ fun _ _ z => nomatch z) h
  | view ds => exact h.elim
  | raw z =>
    cases (show v = z from o)
    exact kq _ _ _ _ (R.set w t (i := i) (s := .raw v) rfl fun _ _ z => nomatch z) h
  | sto => exact h.elim
theorem asgO_ok {K : PySem.W.Frag} {B : Base} {δ : DSt} {σ : St} {G H G1 H1 : Hp} {i : Nat} {r : RV} {v : V} {N : DSt → Prop} {Q : St → Hp → Prop} (R : Rel K B δ σ G H) (w : Wd B.M G1 H1) (t : Ext B.M G H G1 H1) (o : RvOk K B.M B.H H G1 H1 v r) (h : asgO i δ N r)
    (kq : ∀ δ σ G H, Rel K B δ σ G H → N δ → Q σ H) : Q (σ.set i (some v)) H1 := by
  cases r with
  | dat d => exact kq _ _ _ _ (R.set w t (i := i) (s := .dat d) ⟨v, rfl, o⟩ fun _ _ z => nomatch z) h
  | new d => exact kq _ _ _ _ (R.set w t (i := i) (s := .new d) ⟨v, rfl, o⟩ fun _ _ z => nomatch z) h
  | own ds =>
    obtain ⟨a, xs, rfl, b1, b2, b3, b4, b5⟩ := o
    exact kq _ _ _ _ (R.set w t (i := i) (s := .own ds) ⟨a, xs, rfl, none_early R.ext.hm a b1, b2, b3, b4, b5⟩ fun c es _ e => by cases e; exact b1) h
  | view ds => exact h.elim
  | raw z =>
    cases (show v = z from o)
    exact kq _ _ _ _ (R.set w t (i := i) (s := .raw v) rfl fun _ _ z => nomatch z) h
  | sto => exact h.elim
theorem ds_set {i : Nat} (hN : X.N.Nodup) (he : PE X e (lE X.K W de)) (hi : X.N[i]? = some x := by rfl) (hx : Loc X.env.scope x := by first | exact Or.inl rfl | exact Or.inr rfl) (hs : swapsWith e (some (.Name x pos')) pos.line X.env = pure false := by rfl) (hf : X.fn x = true ∨ X.env.scope.names.lookup x = some .local := by first | exact .inl rfl | exact .inr rfl | assumption) :
    PS X (.Assign [.Name x pos'] e pos) (lS X.K W (dSet i de)) := (ps_set hN hi hx he hs hf).imp fun D σ H h => by
  obtain ⟨B, δ, G, D2, R, k, h⟩ := h
  exact ⟨B, δ, G, _, _, R, h, fun r v G1 H1 w1 t1 o1 q1 => asgF_ok (Q := D.nx) R w1 t1 o1 q1 k.nx, k.xok⟩
theorem ds_setO {i : Nat} (hN : X.N.Nodup) (he : PE X e (lE X.K W de)) (hi : X.N[i]? = some x := by rfl) (hx : Loc X.env.scope x := by first | exact Or.inl rfl | exact Or.inr rfl) (hs : swapsWith e (some (.Name x pos')) pos.line X.env = pure false := by rfl) (hf : X.fn x = true ∨ X.env.scope.names.lookup x = some .local := by first | exact .inl rfl | exact .inr rfl | assumption) :
    PS X (.Assign [.Name x pos'] e pos) (lS X.K W (dSetO i de)) := (ps_set hN hi hx he hs hf).imp fun D σ H h => by
  obtain ⟨B, δ, G, D2, R, k, h⟩ := h
  exact ⟨B, δ, G, _, _, R, h, fun r v G1 H1 w1 t1 o1 q1 => asgO_ok (Q := D.nx) R w1 t1 o1 q1 k.nx, k.xok⟩
theorem ds_setT {es : List Expr} {kk : Nat} {is : List Nat} {pt : Pos} (hc : X.calm = true) (he : PE X e (lE X.K W de)) (hg : PGs X es (gNs is)) (hn : (assignEach es X.env).length = is.length := by rfl) (hst : (assignEach es X.env).findIdx? (·.1) = none := by rfl)
    (hs : swapsWithSole [.Tuple es kk pt] e pos.line X.env = pure false := by rfl) (hw : swappedStores [.Tuple es kk pt] e X.env = pure none := by rfl)
    (h1 : (assignEach [.Tuple es kk pt] X.env).map (·.2) = [assign (.Tuple es kk pt) X.env] := by rfl) : PS X (.Assign [.Tuple es kk pt] e pos) (lS X.K W (dSetT is de)) := (ps_asg he (pg_tup hc hg hn hst) hs hw h1).imp fun D σ H h => by
  obtain ⟨B, δ, G, D2, R, k, h⟩ := h
  refine ⟨B, δ, G, _, _, R, h, fun r v G1 H1 w1 t1 o1 q1 => ?_, k.xok⟩
  split at q1
  · rename_i d e1
    have R1 := R.step w1 t1
    cases d with
    | tuple ds =>
      have o2 := o1.dt (by intro _ z; cases z) e1
      exact tg_ok (tg := .tp is) (fun δ' σ' R' n => k.nx δ' σ' G1 H1 R' n) R1 o2 q1
    | _ => exact q1.elim
  · exact q1.elim
theorem ds_par {i j : Nat} {y : Str} {a b : Expr} {px py pt : Pos} {kt k2 pt2} (hc : X.calm = true) (hN : X.N.Nodup) (ha : PA X [a, b] (lA X.K W dA)) (hw : swappedStores [.Tuple [.Name x px, .Name y py] kt pt] (.Tuple [a, b] k2 pt2) X.env = pure (some [x, y]) := by rfl) (hi : X.N[i]? = some x := by rfl) (hj : X.N[j]? = some y := by rfl) (hij : i ≠ j := by decide)
    (hx : X.env.scope.names.lookup x = some .local := by rfl) (hy : X.env.scope.names.lookup y = some .local := by rfl) (hs : starEach [a, b] X.env = (false, eval a X.env) :: starEach [b] X.env := by rfl) : PS X (.Assign [.Tuple [.Name x px, .Name y py] kt pt] (.Tuple [a, b] k2 pt2) pos) (lS X.K W (dPar i j dA)) := (ps_par hc hN hi hj hij hx hy ha hw).imp fun D σ H h => by
  obtain ⟨B, δ, G, D2, R, k, h⟩ := h
  refine ⟨B, δ, G, _, _, R, h, fun rs vs G1 H1 w1 t1 o1 q1 => ?_, k.xok⟩
  split at q1
  · rename_i d e
    cases o1 with
    | cons h1 h2 =>
      cases h2 with
      | cons h2 h3 =>
        cases h3
        refine ⟨_, _, rfl, k.nx _ _ G1 H1 ?_ q1⟩
        have R1 := R.set w1 t1 (i := i) (s := .dat d) ⟨_, rfl, h1⟩ (fun _ _ z => nomatch z)
        exact R1.set w1 .refl (i := j) (s := .dat e) ⟨_, rfl, h2⟩ (fun _ _ z => nomatch z)
  · exact q1.elim
theorem ds_aug {i : Nat} {op : Operator} {f : Int → Int → Int} (hN : X.N.Nodup) (he : PE X e (lE X.K W de)) (ho : PIp X op (ipI f)) (hi : X.N[i]? = some x := by rfl) (hx : Loc X.env.scope x := by first | exact Or.inl rfl | exact Or.inr rfl) (hf : X.fn x = true ∨ X.env.scope.names.lookup x = some .local := by first | exact .inl rfl | exact .inr rfl | assumption) :
    PS X (.AugAssign (.Name x pos') op e pos) (lS X.K W (dAugI f i de)) := (ps_aug hN hi hx he ho hf).imp fun D σ H h => by
  obtain ⟨B, δ, G, D2, R, k, h⟩ := h
  unfold dAugI at h
  split at h
  · rename_i n e
    obtain ⟨y, e1, v, rfl, dv⟩ := R.at (getD_some e fun z => nomatch z)
    cases dv
    refine ⟨_, e1, B, δ, G, _, _, R, h, fun r v G1 H1 w1 t1 o1 q1 => ?_, k.xok⟩
    obtain ⟨m, rfl, q⟩ := isI_ok o1 q1
    exact ⟨n, m, rfl, rfl, k.nx _ _ G1 H1 (R.set w1 t1 (i := i) (s := .dat _) ⟨_, rfl, Dt.int _⟩ (fun _ _ z => nomatch z)) q⟩
  · exact h.elim
theorem fz_d {K : PySem.W.Frag} {M : Addr → Prop} {HB G : Hp} {v : V} {d : D} : ∀ {r : RV}, AOk K M HB G v r → r.d? = some d → Dt K G v d
  | .dat c, h, e => by cases e; exact h
  | .new c, h, e => by cases e; exact Nw.dt h
  | .own _, h, _ => h.elim
  | .view _, h, _ => h.elim
  | .raw _, _, e => nomatch e
  | .sto, _, e => nomatch e
theorem sto_upd {M : Addr → Prop} {G H : Hp} {a : Addr} {o : HO} (w : Wd M G H) (m : ¬ M a) (g : G a = none) (h : H a ≠ none) : Wd M G (upd H a o) ∧ ∀ b, M b → (upd H a o) b = H b :=
  ⟨⟨fun b u e => by
    have ne : b ≠ a := fun z => by rw [z, g] at e; cases e
    rw [upd_ne ne]; exact w.sub _ _ e, fun b mb => (w.sto b mb).mono (fun _ _ z => z) (w.sto b mb).fr (upd_ne fun z => m (z ▸ mb))⟩, fun b mb => upd_ne fun z => m (z ▸ mb)⟩
/-- an own slot's list is changed -/
theorem Rel.chg {K : PySem.W.Frag} {B : Base} {δ : DSt} {σ : St} {G H : Hp} (R : Rel K B δ σ G H) {i : Nat} {a : Addr} {ds es : List D} {ys : List V} (e1 : δ[i]? = some (.own ds)) (e2 : σ[i]? = some (some (.ref a))) (q : DtA K G ys es) : Rel K B (δ.set i (.own es)) σ G (upd H a (.lst ys)) := by
  obtain ⟨b, xs, eb, b1, b2, b3, b4, b5⟩ := R.sl i _ _ e1 e2
  cases eb
  have hn : H a ≠ none := by rw [b4]; exact fun z => nomatch z
  refine ⟨(sto_upd R.wd b3 b2 hn).1, ⟨fun b o m h => ?_, R.ext.gg, R.ext.fr, fun b h => ?_⟩, by rw [List.length_set]; exact R.len, fun j s' x f1 f2 => ?_, fun j l c us vs f1 f2 f3 f4 => ?_⟩
  · have ne : b ≠ a := fun z => by rw [z, b1] at h; cases h
    rw [upd_ne ne]
    exact R.ext.hh b o m h
  · by_cases z : b = a
    · subst z; rw [upd_same]; exact fun y => nomatch y
    · rw [upd_ne z]; exact R.ext.hm b h
  · by_cases hj : i = j
    · subst hj
      rw [e2] at f2
      cases f2
      rw [List.getElem?_set, if_pos rfl] at f1
      split at f1
      · cases f1
        exact ⟨a, ys, rfl, b1, b2, b3, upd_same, q⟩
      · cases f1
    · rw [List.getElem?_set_ne hj] at f1
      have z := R.sl j s' x f1 f2
      cases s' with
      | own us =>
        obtain ⟨c, zs, rfl, c1, c2, c3, c4, c5⟩ := z
        have ne : c ≠ a := fun z => hj (R.sep i j a ds us e1 f1 e2 (by rw [f2, z]))
        exact ⟨c, zs, rfl, c1, c2, c3, by rw [upd_ne ne]; exact c4, c5⟩
      | dic us =>
        obtain ⟨c, zs, rfl, c1, c2, c3, c4, c5⟩ := z
        have ne : c ≠ a := fun z => by rw [z, b4] at c4; cases c4
        exact ⟨c, zs, rfl, c1, c2, c3, by rw [upd_ne ne]; exact c4, c5⟩
      | tre d =>
        obtain ⟨v, e, q⟩ := z
        refine ⟨v, e, q.imp (fun c xs h1 h0 h2 h3 h4 => ⟨h1, h0, h2, h3, ?_⟩) (fun c xs h1 h2 => ⟨sqT_upd b4 ⟨fun _ z => (nomatch z), fun _ _ z => (nomatch z)⟩ h1, h2⟩) (fun _ _ z => z)⟩
        have ne : c ≠ a := fun z => h1 (by rw [z, b1])
        rw [upd_ne ne]; exact h4
      | no => exact z
      | dat d => exact z
      | new d => exact z
      | raw v => exact z
      | sto => exact z
  · have back : ∀ {j : Nat} {us : List D}, (δ.set i (.own es))[j]? = some (.own us) → ∃ ws, δ[j]? = some (.own ws) := fun {j us} f => by
      by_cases hj : i = j
      · subst hj; exact ⟨ds, e1⟩
      · rw [List.getElem?_set_ne hj] at f; exact ⟨us, f⟩
    obtain ⟨w1, g1⟩ := back f1
    obtain ⟨w2, g2⟩ := back f2
    exact R.sep j l c w1 w2 g1 g2 f3 f4
theorem ds_app {i : Nat} {p1 p2 p3 : Pos} (he : PE X e (lE X.K W de)) (hN : X.N[i]? = some x := by rfl) (hv : Vis X.env.scope x := by first | exact Or.inl rfl | exact Or.inr (Or.inl rfl) | exact Or.inr (Or.inr rfl)) (hd : (x == ("__debug__" : Str)) = false := by decide)
    (hcd : (x == ("__classdict__" : Str)) = false := by decide) (hcall : ∀ {t1 : TE} {t2 : TA}, PE X (.Name x p1) t1 → PA X [e] t2 → PE X (.Call (.Attribute (.Name x p1) "append" p2) [e] [] p3) (tBM X.K "list" rAppend t1 t2))
    (hs : swapsWith (.Call (.Attribute (.Name x p1) "append" p2) [e] [] p3) none pos.line X.env = pure false := by rfl) (hst : starEach [e] X.env = (false, eval e X.env) :: starEach [] X.env := by rfl) : PS X (.Expr (.Call (.Attribute (.Name x p1) "append" p2) [e] [] p3) pos) (lS X.K W (dApp i de)) :=
  (ps_expr (hcall (pe_var hN hv hd hcd) (pa_cons he pa_nil hst)) hs).imp fun D σ H h => by
  obtain ⟨B, δ, G, D2, R, k, h⟩ := h
  unfold dApp at h
  split at h
  · rename_i ds e
    have ed := getD_some e fun z => nomatch z
    obtain ⟨y, e1, a, xs, rfl, b1, b2, b3, b4, b5⟩ := R.at ed
    refine ⟨_, e1, .inl ⟨rfl, _, SqL.of b4⟩, B, δ, G, _, _, R, h, fun r v G1 H1 w1 t1 o1 q1 => ?_, k.xok⟩
    obtain ⟨r', f1, q1⟩ := fzQ_some q1
    obtain ⟨G2, w2, t2, s2, o2⟩ := o1.fz w1 t1 f1
    split at q1
    · rename_i d f2
      have R2 := R.step w2 t2
      have hH := t2.hh a _ b3 b4
      refine ⟨a, xs, v, rfl, rfl, hH, by rw [b5.length]; exact q1.1, ?_⟩
      exact k.nx _ _ G2 _ (R2.chg ed e1 ((b5.mono t2.gg).append (.cons (fz_d o2 f2) .nil))) q1.2
    · exact q1.elim
  · exact h.elim
theorem ds_store {i : Nat} {ix : Expr} {p1 p2 : Pos} (he : PE X e (lE X.K W de)) (hj : PE X ix (lE X.K W dj)) (hN : X.N[i]? = some x := by rfl) (hv : Vis X.env.scope x := by first | exact Or.inl rfl | exact Or.inr (Or.inl rfl) | exact Or.inr (Or.inr rfl)) (hd : (x == ("__debug__" : Str)) = false := by decide)
    (hcd : (x == ("__classdict__" : Str)) = false := by decide) (ha : ∀ v, assign (.Subscript (.Name x p1) ix p2) X.env v = (do
      let ov ← holding [v] (eval (.Name x p1) X.env)
      let iv ← holding [v, ov] (eval ix X.env)
      standAt p2
      holding [v, ov, iv] (setItem ov iv v)
      release [v, ov, iv] []) := by intro _; rfl)
    (hs : swapsWithSole [.Subscript (.Name x p1) ix p2] e pos.line X.env = pure false := by rfl) (hw : swappedStores [.Subscript (.Name x p1) ix p2] e X.env = pure none := by rfl) (h1 : (assignEach [.Subscript (.Name x p1) ix p2] X.env).map (·.2) = [assign (.Subscript (.Name x p1) ix p2) X.env] := by rfl) :
    PS X (.Assign [.Subscript (.Name x p1) ix p2] e pos) (lS X.K W (dStore i dj de)) := (ps_asg he (pg_sub (pe_var hN hv hd hcd) hj set_list ha) hs hw h1).imp fun D σ H h => by
  obtain ⟨B, δ, G, D2, R, k, h⟩ := h
  unfold dStore at h
  split at h
  · rename_i ds e
    have ed := getD_some e fun z => nomatch z
    obtain ⟨y, e1, a, xs, rfl, b1, b2, b3, b4, b5⟩ := R.at ed
    refine ⟨B, δ, G, _, _, R, h, fun r v G1 H1 w1 t1 o1 q1 => ?_, k.xok⟩
    obtain ⟨r', f1, q1⟩ := fzQ_some q1
    obtain ⟨G2, w2, t2, s2, o2⟩ := o1.fz w1 t1 f1
    split at q1
    · rename_i d f2
      have R2 := R.step w2 t2
      refine ⟨_, e1, B, δ, G2, _, _, R2, q1, fun r3 v3 G3 H3 w3 t3 o3 q3 => ?_, k.xok⟩
      obtain ⟨j, rfl, n, en, q⟩ := isI_ok o3 q3
      have R3 := R2.step w3 t3
      have hH := t3.hh a _ b3 (t2.hh a _ b3 b4)
      refine ⟨a, xs, j, n, rfl, rfl, hH, by rw [b5.length]; exact en, ?_⟩
      exact k.nx _ _ G3 _ (R3.chg ed e1 (DtA.set ((fz_d o2 f2).mono t3.gg) n ((b5.mono t2.gg).mono t3.gg))) q
    · exact q1.elim
  · exact h.elim
theorem ds_frz {i : Nat} (h : PS X st (lS X.K W s)) : PS X st (lS X.K W (dFrz i s)) := h.imp fun D σ H h => by
  obtain ⟨B, δ, G, D2, R, k, h⟩ := h
  unfold dFrz at h
  split at h
  · rename_i ds e
    have ed := getD_some e fun z => nomatch z
    obtain ⟨y, e1, a, xs, rfl, b1, b2, b3, b4, b5⟩ := R.at ed
    have s1 : Same G (upd G a (.lst xs)) := same_upd b2
    have w1 := R.wd.freeze b4 b2 b3
    refine ⟨B, _, upd G a (.lst xs), D2, ?_, k, h⟩
    refine ⟨w1, ⟨R.ext.hh, fun c o z => s1 _ _ (R.ext.gg c o z), fun c z z2 => ?_, R.ext.hm⟩, by rw [List.length_set]; exact R.len, fun j s' x f1 f2 => ?_, fun j l c us vs f1 f2 f3 f4 => ?_⟩
    · have ne : c ≠ a := fun z3 => z (by rw [z3]; exact b1)
      rw [upd_ne ne]
      exact R.ext.fr c z z2
    · by_cases hj : i = j
      · subst hj
        rw [e1] at f2
        cases f2
        rw [List.getElem?_set, if_pos rfl] at f1
        split at f1
        · cases f1
          exact ⟨_, rfl, .lst upd_same (b5.mono s1)⟩
        · cases f1
      · rw [List.getElem?_set_ne hj] at f1
        have z := R.sl j s' x f1 f2
        cases s' with
        | own us =>
          obtain ⟨c, zs, rfl, c1, c2, c3, c4, c5⟩ := z
          have ne : c ≠ a := fun z => hj (R.sep i j a ds us ed f1 e1 (by rw [f2, z]))
          exact ⟨c, zs, rfl, c1, by rw [upd_ne ne]; exact c2, c3, c4, c5.mono s1⟩
        | dic us =>
          obtain ⟨c, zs, rfl, c1, c2, c3, c4, c5⟩ := z
          have ne : c ≠ a := fun z => by rw [z, b4] at c4; cases c4
          exact ⟨c, zs, rfl, c1, by rw [upd_ne ne]; exact c2, c3, c4, c5.mono s1⟩
        | tre d =>
          obtain ⟨v, e, q⟩ := z
          refine ⟨v, e, q.imp (fun c xs h1 h0 h2 h3 h4 => ⟨h1, h0, ?_, h3, h4⟩) (fun c xs h1 h2 => ⟨h1, h2⟩) s1⟩
          have ne : c ≠ a := fun z => h1 (by rw [z, b1])
          rw [upd_ne ne]; exact h2
        | no => exact z
        | dat d => obtain ⟨v, q1, q2⟩ := z; exact ⟨v, q1, q2.mono s1⟩
        | new d => obtain ⟨v, q1, q2⟩ := z; exact ⟨v, q1, q2.mono s1 fun _ z => z⟩
        | raw v => exact z
        | sto => exact z
    · have back : ∀ {j : Nat} {us : List PyData}, (δ.set i (.dat (.list ds)))[j]? = some (.own us) → δ[j]? = some (.own us) := fun {j us} f => by
        by_cases hj : i = j
        · subst hj
          rw [List.getElem?_set, if_pos rfl] at f
          split at f <;> cases f
        · rw [List.getElem?_set_ne hj] at f; exact f
      exact R.sep j l c us vs (back f1) (back f2) f3 f4
  · exact ⟨B, δ, G, D2, R, k, h⟩
theorem ds_while {c : Expr} {body : List Stmt} (hp : PassesOwn (model X.prog X.w) X.A X.env X.xe) (hc : PT X c (lT X.K W dt)) (hb : PSs X body (lS X.K W s)) : PS X (.While c body [] pos) (lS X.K W (dWhile dt s)) := (ps_while hp hc hb).imp fun D σ H h => by
  obtain ⟨B, δ, G, D2, R, k, ⟨I, ⟨m, i0⟩, turn⟩⟩ := h
  refine ⟨fun m σ H => ∃ B' δ G, Le B B' ∧ Rel X.K B' δ σ G H ∧ I m δ, ⟨m, B, δ, G, .rfl, R, i0⟩, fun m σ H hw => ?_⟩
  obtain ⟨B, δ, G, lb, R, im⟩ := hw
  have k := k.up lb
  refine ⟨B, δ, G, _, _, R, turn m δ im, fun b G1 H1 w1 t1 q1 => Br.ite ⟨fun e => ?_, fun e => k.nx δ σ G1 H1 (R.step w1 t1) (q1.n e)⟩, k.xok⟩
  refine ⟨fun σ' H' => ∃ B' δ' G', Le B B' ∧ Rel X.K B' δ' σ' G' H' ∧ ∃ m', m' < m ∧ I m' δ', fun σ' H' h => ?_, B, δ, G1, _, R.step w1 t1, ?_, q1.y e⟩
  · obtain ⟨B', δ', G', l', R', m', l, i'⟩ := h
    exact ⟨m', l, B', δ', G', lb.trans l', R', i'⟩
  · exact ⟨fun B' l δ σ G H R q => ⟨B', δ, G, l, R, q⟩, fun B' l δ σ G H R q => k.nx' B' l δ σ G H R q, fun B' l δ σ G H R q => ⟨B', δ, G, l, R, q⟩, k.rt', k.ex'⟩
theorem Le.down {K : PySem.W.Frag} {B B' : Base} {δ : DSt} {σ : St} {G H : Hp} (R : Rel K B δ σ G H) (l : Le ⟨B.M, G, B.H, B.T⟩ B') : Le B B' := ⟨l.m, ⟨l.e.hh, fun c o z => l.e.gg c o (R.ext.gg c o z), fun c z g => l.e.fr c z (R.ext.fr c z g), l.e.hm⟩, l.t⟩
theorem ds_for {tg : Expr} {iter : Expr} {body : List Stmt} {dr : DSrc} {tg0 : Tg0} (hp : PassesOwn (model X.prog X.w) X.A X.env X.xe) (hc : X.calm = true) (hi : PI X tg iter (lI X.K W dr)) (hg : PG X tg (gTg X.K tg0)) (hb : PSs X body (lS X.K W s)) (hs : ∀ x, foldedSetIterable iter X.env x = pure x := by intro _; rfl) : PS X (.For tg iter body [] pos) (lS X.K W (dFor dr tg0 s)) := (ps_for hp hc hi hg hb hs).imp fun D σ H h => by
  obtain ⟨B, δ, G, D2, R, k, h⟩ := h
  refine ⟨B, δ, G, _, _, R, h, fun J ds G1 H1 w1 t1 wk q1 => ?_, k.xok⟩
  obtain ⟨I, i0, turn, fin⟩ := q1
  refine ⟨fun i m σ H => i ≤ ds.length ∧ m = ds.length - i ∧ ∃ B' δ G, Le B B' ∧ Rel X.K B' δ σ G H ∧ Same G1 G ∧ I i δ, ⟨ds.length, Nat.zero_le _, rfl, B, δ, G1, .rfl, R.step w1 t1, fun _ _ z => z, i0⟩, fun i m σ H hw => ?_⟩
  obtain ⟨hi, rfl, B2, δ, G2, l2, R2, s2, ii⟩ := hw
  have k2 := k.up l2
  have wd2 : Wd B.M G2 H := by rw [← l2.m]; exact R2.wd
  by_cases hlt : i < ds.length
  · refine .inr ⟨wk.go i G2 H s2 wd2 hlt, fun σ' H' => ∃ B' δ' G', Le B B' ∧ Rel X.K B' δ' σ' G' H' ∧ Same G1 G' ∧ I (i + 1) δ', fun σ' H' h => ?_, fun x H' y => ?_⟩
    · obtain ⟨B', δ', G', l', R', s', i'⟩ := h
      exact ⟨ds.length - (i + 1), by omega, hlt, rfl, B', δ', G', l', R', s', i'⟩
    · obtain ⟨d, G3, ed, w3, t3, dd⟩ := wk.yld i G2 H x H' s2 wd2 hlt y
      have R3 := R2.step (by rw [l2.m]; exact w3) (by rw [l2.m]; exact t3)
      have s3 : Same G1 G3 := fun c o z => t3.gg c o (s2 c o z)
      refine tg_ok (fun δ' σ' R' n => ?_) R3 dd (turn i d δ ed ii)
      refine ⟨⟨B2.M, G3, B2.H, B2.T⟩, δ', G3, { D2 with nx := I (i + 1), ct := I (i + 1), bk := D2.nx }, R'.up, ⟨fun B' l δ σ G H Q q => ?_, fun B' l δ σ G H Q q => k2.nx' B' (Le.down R' l) δ σ G H Q q, fun B' l δ σ G H Q q => ?_, fun B' l r v δ σ G H Q o q => k2.rt' B' (Le.down R' l) r v δ σ G H Q o q, fun B' l C δ σ G H Q q => k2.ex' B' (Le.down R' l) C δ σ G H Q q⟩, n⟩
      · exact ⟨B', δ, G, l2.trans (Le.down R' l), Q, fun c o z => Q.ext.gg c o (l.e.gg c o (s3 c o z)), q⟩
      · exact ⟨B', δ, G, l2.trans (Le.down R' l), Q, fun c o z => Q.ext.gg c o (l.e.gg c o (s3 c o z)), q⟩
  · have e : i = ds.length := by omega
    subst e
    exact .inl ⟨wk.stop _ G2 H s2 wd2 (Nat.le_refl _), k2.nx δ σ G2 H R2 (fin δ ii)⟩

/-! ### comprehensions -/
def wipeD (δ : DSt) : List Nat → DSt
  | [] => δ
  | v :: vs => (wipeD δ vs).set v .no
theorem wipe_len (σ : St) : ∀ vs : List Nat, (wipe σ vs).length = σ.length
  | [] => rfl
  | v :: vs => by
    show ((wipe σ vs).set v none).length = _
    rw [List.length_set, wipe_len σ vs]
/-- a slot is forgotten -/
theorem Rel.forget {K : PySem.W.Frag} {B : Base} {δ : DSt} {σ : St} {G H : Hp} (R : Rel K B δ σ G H) (i : Nat) (x : Option V) : Rel K B (δ.set i .no) (σ.set i x) G H := by
  refine ⟨R.wd, R.ext, by rw [List.length_set, List.length_set]; exact R.len, fun j s y e1 e2 => ?_, fun j k a ds es e1 e2 e3 e4 => ?_⟩
  · by_cases hj : i = j
    · subst hj
      rw [List.getElem?_set, if_pos rfl] at e1
      split at e1
      · cases e1; trivial
      · cases e1
    · rw [List.getElem?_set_ne hj] at e1 e2
      exact R.sl j s y e1 e2
  · have ne : ∀ {j : Nat} {us : List PyData} {y : Option V}, (δ.set i .no)[j]? = some (.own us) → (σ.set i x)[j]? = some y → δ[j]? = some (.own us) ∧ σ[j]? = some y := fun {j us y} f g => by
      by_cases hj : i = j
      · subst hj
        rw [List.getElem?_set, if_pos rfl] at f
        split at f <;> cases f
      · rw [List.getElem?_set_ne hj] at f g; exact ⟨f, g⟩
    exact R.sep j k a ds es (ne e1 e3).1 (ne e2 e4).1 (ne e1 e3).2 (ne e2 e4).2
theorem Rel.wipe {K : PySem.W.Frag} {B : Base} {δ : DSt} {σ : St} {G H : Hp} (R : Rel K B δ σ G H) : ∀ vs : List Nat, Rel K B (wipeD δ vs) (L2.wipe σ vs) G H
  | [] => R
  | v :: vs => (R.wipe vs).forget v none
theorem wipe_mem {σ : St} {i : Nat} : ∀ {vs : List Nat}, i ∈ vs → ∀ y, (L2.wipe σ vs)[i]? = some y → y = none
  | v :: vs, h, y, e => by
    have e' : ((L2.wipe σ vs).set v none)[i]? = some y := e
    by_cases hv : v = i
    · subst hv
      rw [List.getElem?_set, if_pos rfl] at e'
      split at e'
      · cases e'; rfl
      · cases e'
    · rw [List.getElem?_set_ne hv] at e'
      exact wipe_mem ((List.mem_cons.mp h).resolve_left fun z => hv z.symm) y e'
theorem wipe_again {σ : St} : ∀ (vs us : List Nat) (x : Option V) (i : Nat), i ∈ us → (∀ v ∈ vs, v ∈ us) → L2.wipe ((L2.wipe σ us).set i x) vs = (L2.wipe ((L2.wipe σ us)) vs).set i (if i ∈ vs then none else x)
  | [], us, x, i, hi, _ => rfl
  | v :: vs, us, x, i, hi, hs => by
    show (L2.wipe ((L2.wipe σ us).set i x) vs).set v none = ((L2.wipe (L2.wipe σ us) vs).set v none).set i _
    rw [wipe_again vs us x i hi fun w m => hs w (List.mem_cons_of_mem _ m)]
    by_cases hv : v = i
    · subst hv
      rw [List.set_set, List.set_set, if_pos List.mem_cons_self]
    · rw [List.set_comm _ _ (Ne.symm hv)]
      by_cases hm : i ∈ vs
      · rw [if_pos hm, if_pos (List.mem_cons_of_mem _ hm)]
      · rw [if_neg hm, if_neg (fun z => hm ((List.mem_cons.mp z).resolve_left fun q => hv q.symm))]
theorem wipe_none {σ : St} (us : List Nat) : ∀ vs : List Nat, (∀ v ∈ vs, v ∈ us) → L2.wipe (L2.wipe σ us) vs = L2.wipe σ us
  | [], _ => rfl
  | v :: vs, hs => by
    show (L2.wipe (L2.wipe σ us) vs).set v none = _
    rw [wipe_none us vs fun w m => hs w (List.mem_cons_of_mem _ m)]
    refine List.ext_getElem? fun j => ?_
    by_cases hj : v = j
    · subst hj
      rw [List.getElem?_set, if_pos rfl]
      split
      · cases e : (L2.wipe σ us)[v]? with
        | none => rename_i hl; rw [List.getElem?_eq_none_iff] at e; omega
        | some y => rw [wipe_mem (hs v List.mem_cons_self) y e]
      · rename_i hl
        rw [List.getElem?_eq_none_iff.mpr (by omega)]
    · rw [List.getElem?_set_ne hj]
theorem wipe_set {σ : St} {us : List Nat} {i : Nat} {x : Option V} (h : i ∈ us) : L2.wipe ((L2.wipe σ us).set i x) us = L2.wipe σ us := by
  rw [wipe_again us us x i h fun _ z => z, if_pos h, wipe_none us us fun _ z => z]
  refine List.ext_getElem? fun j => ?_
  by_cases hj : i = j
  · subst hj
    rw [List.getElem?_set, if_pos rfl]
    split
    · cases e : (L2.wipe σ us)[i]? with
      | none => rename_i hl; rw [List.getElem?_eq_none_iff] at e; omega
      | some y => rw [wipe_mem h y e]
    · rename_i hl
      rw [List.getElem?_eq_none_iff.mpr (by omega)]
  · rw [List.getElem?_set_ne hj]
/-- the slots of a target -/
def Tg0.ok (us : List Nat) : Tg0 → Bool
  | .nm i => us.contains i
  | .tp is => is.all us.contains
  | .tq _ _ => false
def sets (σ : St) : List Nat → List V → St
  | i :: is, v :: vs => sets (σ.set i (some v)) is vs
  | _, _ => σ
structure LcS (ds : List D) (tg : Tg0) (tt : DTT) (el : DTE) (δ : DSt) (Q : RV → Prop) : Prop where
  hz : ds.length ≤ sizeLine
  h : ∃ I : Nat → List D → Prop, I 0 [] ∧ (∀ k acc d, ds[k]? = some d → I k acc → acc.length ≤ k → setD tg d δ fun δ' => tt δ' (fun b => Br b (el δ' (fun r => fzQ r fun r' => match r'.d? with
    | some d' => I (k + 1) (acc ++ [d'])
    | none => False) (fun _ => False)) (I (k + 1) acc)) (fun _ => False)) ∧ ∀ acc, I ds.length acc → acc.length ≤ ds.length → Q (.own acc)
def dLc (dr : DSrc) (tg : Tg0) (vs : List Nat) (tt : DTT) (el : DTE) : DTE := fun δ Q X => dr δ (fun ds => LcS ds tg tt el (wipeD δ vs) Q) X
def dYes : DTT := fun _ Q _ => Q true
abbrev W0 : WX := fun _ _ _ _ => False
theorem gNs_wipe {K : PySem.W.Frag} {B : Base} {G H : Hp} {Q : St → Hp → Prop} {N : DSt → Prop} {σ0 : St} {us : List Nat} (kq : ∀ δ σ, Rel K B δ σ G H → L2.wipe σ us = L2.wipe σ0 us → N δ → Q σ H) : ∀ (is : List Nat) (ds : List D) (vs : List V) (δ : DSt) (σ : St), (∀ i ∈ is, i ∈ us) → (L2.wipe σ us = L2.wipe σ0 us) → (∃ τ, σ = τ) → Rel K B δ σ G H → DtA K G vs ds → ds.length = is.length → N ((is.zip ds).foldl (fun s p => s.set p.1 (.dat p.2)) δ) → gNs is vs σ H Q
  | [], [], _, δ, σ, _, hw, _, R, h, _, n => by cases h; exact ⟨rfl, kq δ σ R hw n⟩
  | [], d :: ds, _, δ, σ, _, _, _, R, h, e, n => by simp at e
  | i :: is, [], _, δ, σ, _, _, _, R, h, e, n => by simp at e
  | i :: is, d :: ds, _, δ, σ, hs, hw, hz, R, h, e, n => by
    cases h with
    | cons h1 h2 =>
      refine ⟨_, _, rfl, ?_⟩
      refine gNs_wipe kq is ds _ _ _ (fun j m => hs j (List.mem_cons_of_mem _ m)) ?_ ⟨_, rfl⟩ (R.set R.wd .refl (i := i) (s := .dat d) ⟨_, rfl, h1⟩ (fun _ _ z => nomatch z)) h2 (by simpa using e) n
      rw [← hw]
      have key : ∀ (vs : List Nat) (τ : St) (x : Option V), i ∈ vs → L2.wipe (τ.set i x) vs = L2.wipe τ vs := by
        intro vs
        induction vs with
        | nil => intro τ x hm; cases hm
        | cons v vs ih =>
          intro τ x hm
          show (L2.wipe (τ.set i x) vs).set v none = (L2.wipe τ vs).set v none
          by_cases hv : i ∈ vs
          · rw [ih τ x hv]
          · have e : i = v := (List.mem_cons.mp hm).resolve_right hv
            subst e
            have out : ∀ (ws : List Nat) (τ : St), i ∉ ws → L2.wipe (τ.set i x) ws = (L2.wipe τ ws).set i x := by
              intro ws
              induction ws with
              | nil => intro τ _; rfl
              | cons w ws ih2 =>
                intro τ hn
                show (L2.wipe (τ.set i x) ws).set w none = ((L2.wipe τ ws).set w none).set i x
                rw [ih2 τ fun z => hn (List.mem_cons_of_mem _ z), List.set_comm _ _ (fun z => hn (by rw [z]; exact List.mem_cons_self))]
            rw [out vs τ hv, List.set_set]
      exact key us σ (some _) (hs i List.mem_cons_self)
theorem tg_wipe {K : PySem.W.Frag} {B : Base} {G H : Hp} {Q : St → Hp → Prop} {N : DSt → Prop} {us : List Nat} {tg : Tg0} (hu : tg.ok us = true) {d : D} {v : V} {δ : DSt} {σ : St} (kq : ∀ δ' σ', Rel K B δ' σ' G H → L2.wipe σ' us = L2.wipe σ us → N δ' → Q σ' H) (R : Rel K B δ σ G H) (h : Dt K G v d) (n : setD tg d δ N) : gTg K tg v σ H Q := by
  have mem : ∀ i : Nat, us.contains i = true → i ∈ us := fun i e => by simpa using e
  cases tg with
  | nm i =>
    have hi : i ∈ us := mem i hu
    have q := gNs_wipe (K := K) (B := B) (G := G) (H := H) (Q := Q) (N := N) (σ0 := σ) (us := us) kq [i] [d] [v] δ σ (fun j m => by rw [List.mem_singleton.mp m]; exact hi) rfl ⟨_, rfl⟩ R (.cons h .nil) rfl n
    obtain ⟨w, r, e, q⟩ := q
    cases e
    exact q.2
  | tp is =>
    have hi : ∀ i ∈ is, i ∈ us := fun i m => mem i (List.all_eq_true.mp hu i m)
    cases d with
    | tuple ds =>
      obtain ⟨e, n⟩ := n
      cases h with
      | tup h1 h2 => exact ⟨_, _, rfl, same_sqT R.wd.sub h1, by rw [h2.length]; exact e, gNs_wipe kq is ds _ δ σ hi rfl ⟨_, rfl⟩ R h2 e n⟩
    | _ => exact n.elim
  | tq i js => cases hu
/-- what is walked within one expression: own lists too -/
structure WalkV (K : PySem.W.Frag) (M : Addr → Prop) (G H : Hp) (J : It) (ds : List D) : Prop where
  go : ∀ i G2 H2, Ext M G H G2 H2 → Wd M G2 H2 → i < ds.length → J.go i H2
  yld : ∀ i G2 H2 x H', Ext M G H G2 H2 → Wd M G2 H2 → i < ds.length → J.yld i H2 x H' → ∃ d G', ds[i]? = some d ∧ Wd M G' H' ∧ Ext M G2 H2 G' H' ∧ Dt K G' x d
  stop : ∀ i G2 H2, Ext M G H G2 H2 → Wd M G2 H2 → ds.length ≤ i → J.stop i H2
theorem WalkD.v {K : PySem.W.Frag} {M : Addr → Prop} {G H : Hp} {J : It} {ds : List D} (w : WalkD K M G J ds) : WalkV K M G H J ds :=
  ⟨fun i G2 H2 t => w.go i G2 H2 t.gg, fun i G2 H2 x H' t => w.yld i G2 H2 x H' t.gg, fun i G2 H2 t => w.stop i G2 H2 t.gg⟩
def lIV (K : PySem.W.Frag) (W : WX) (dr : DSrc) : TI := fun σ H R => ∃ (B : Base) (δ : DSt) (G : Hp) (Q2 : List D → Prop) (X2 : Addr → Prop), Rel K B δ σ G H ∧ dr δ Q2 X2 ∧
  (∀ J ds G' H', Wd B.M G' H' → Ext B.M G H G' H' → WalkV K B.M G' H' J ds → Q2 ds → R J H') ∧ XOk K W B δ σ X2
theorem lIV_of {tg iter : Expr} {dr : DSrc} (h : PI X tg iter (lI X.K W dr)) : PI X tg iter (lIV X.K W dr) := h.imp fun σ H R q => by
  obtain ⟨B, δ, G, Q2, X2, R', q, k, kx⟩ := q
  exact ⟨B, δ, G, Q2, X2, R', q, fun J ds G1 H1 w1 t1 wk => k J ds G1 H1 w1 t1 wk.v, kx⟩
/-- an own list by its name -/
def sV (i : Nat) : DSrc := fun δ Q _ => match δ.getD i .no with
  | .own ds => Q ds
  | _ => False
theorem di_view {tg : Expr} (i : Nat) (hN : X.N[i]? = some x := by rfl) (hv : Vis X.env.scope x := by first | exact Or.inl rfl | exact Or.inr (Or.inl rfl) | exact Or.inr (Or.inr rfl)) (hd : (x == ("__debug__" : Str)) = false := by decide) (hcd : (x == ("__classdict__" : Str)) = false := by decide) : PI X tg (.Name x pos) (lIV X.K W (sV i)) := by
  refine (pi_list (pe_var hN hv hd hcd)).imp fun σ H R h => ?_
  obtain ⟨B, δ, G, Q2, X2, R', h, k, kx⟩ := h
  unfold sV at h
  split at h
  · rename_i ds e
    obtain ⟨y, e1, a, xs, rfl, b1, b2, b3, b4, b5⟩ := R'.at (getD_some e fun z => nomatch z)
    refine ⟨_, e1, a, rfl, ⟨xs, SqL.of b4⟩, k (Itl X.K a) ds G H R'.wd .refl ⟨fun i G2 H2 t w hi => ?_, fun i G2 H2 x H' t w hi y => ?_, fun i G2 H2 t w hi => ?_⟩ h⟩
    · obtain ⟨v, ev, _⟩ := b5.get (List.getElem?_eq_getElem hi)
      exact ⟨xs, v, SqL.of (t.hh a _ b3 b4), ev⟩
    · obtain ⟨ey, y⟩ := y
      subst ey
      obtain ⟨d, ed, dd⟩ := b5.getV (y xs (SqL.of (t.hh a _ b3 b4)))
      exact ⟨d, G2, ed, w, .refl, dd.mono t.gg⟩
    · exact ⟨xs, SqL.of (t.hh a _ b3 b4), by rw [b5.length]; exact hi⟩
  · exact h.elim
theorem lE_lc {K : PySem.W.Frag} {dr : DSrc} {tg : Tg0} {vs : List Nat} {tt : DTT} {el : DTE} (hu : tg.ok vs = true) {σ : St} {H : Hp} {Q : VK} (h : lE K W (dLc dr tg vs tt el) σ H Q) : tLc (lIV K W dr) (gTg K tg) (lT K W0 tt) (lE K W0 el) vs σ H Q := by
  obtain ⟨B, δ, G, Q2, X2, R, h, k, kx⟩ := h
  refine ⟨B, δ, G, _, X2, R, h, fun J ds G1 H1 w1 t1 wk q1 => ?_, kx⟩
  obtain ⟨hz, I, i0, turn, fin⟩ := q1
  intro Dn hDn
  have g1 : G1 Dn = none := w1.noG hDn
  have m1 : ¬ B.M Dn := w1.nm hDn
  refine ⟨fun i m H2 => i ≤ ds.length ∧ m = ds.length - i ∧ ∃ G2 acc xs, Wd B.M G2 H2 ∧ Ext B.M G1 H1 G2 H2 ∧ G2 Dn = none ∧ H2 Dn = some (.lst xs) ∧ DtA K G2 xs acc ∧ acc.length ≤ i ∧ I i acc, ⟨ds.length, Nat.zero_le _, rfl, G1, [], [], w1.alloc hDn, Ext.alloc hDn, g1, upd_same, .nil, Nat.le_refl _, i0⟩, fun i m H2 hw => ?_⟩
  obtain ⟨hi, rfl, G2, acc, xs, w2, t2, g2, h2, d2, l2, ii⟩ := hw
  by_cases hlt : i < ds.length
  · refine .inr ⟨wk.go i G2 H2 t2 w2 hlt, fun H' => ∃ G' acc xs, Wd B.M G' H' ∧ Ext B.M G1 H1 G' H' ∧ G' Dn = none ∧ H' Dn = some (.lst xs) ∧ DtA K G' xs acc ∧ acc.length ≤ i + 1 ∧ I (i + 1) acc, fun H' h => ⟨ds.length - (i + 1), by omega, hlt, rfl, h⟩, fun x H' y => ?_⟩
    obtain ⟨d, G3, ed, w3, t3, dd⟩ := wk.yld i G2 H2 x H' t2 w2 hlt y
    have hn2 : H2 Dn ≠ none := by rw [h2]; exact fun z => nomatch z
    have R3 : Rel K B (wipeD δ vs) (L2.wipe σ vs) G3 H' := (((R.step w1 t1).wipe vs).step w3 ⟨fun b o mb e => ?_, fun c o z => t3.gg c o (t2.gg c o z), fun c z g => ?_, fun c z => t3.hm c (t2.hm c z)⟩)
    · refine tg_wipe hu (fun δ' σ' R4 ew n => ?_) R3 dd (turn i acc d ed ii l2)
      refine ⟨by rw [ew]; exact wipe_none vs vs fun _ z => z, ?_⟩
      refine ⟨B, δ', G3, _, _, R4, n, fun b G4 H4 w4 t4 q4 => Br.ite ⟨fun e => ?_, fun e => ?_⟩, fun _ _ _ _ z => z⟩
      · refine ⟨B, δ', G4, _, _, R4.step w4 t4, q4.y e, fun r v G5 H5 w5 t5 o5 q5 => ?_, fun _ _ _ _ z => z⟩
        obtain ⟨r', f1, q5⟩ := fzQ_some q5
        obtain ⟨G6, w6, t6, s6, o6⟩ := o5.fz w5 t5 f1
        split at q5
        · rename_i d' f2
          have hD' : H' Dn = some (.lst xs) := t3.hh Dn _ m1 h2
          have hD4 := t4.hh Dn _ m1 hD'
          have hD5 := t6.hh Dn _ m1 hD4
          have g3 : G3 Dn = none := t3.fr Dn hn2 g2
          have g4 : G4 Dn = none := t4.fr Dn (by rw [hD']; exact fun z => nomatch z) g3
          have g6 : G6 Dn = none := t6.fr Dn (by rw [hD4]; exact fun z => nomatch z) g4
          have su := sto_upd (o := .lst (xs ++ [v])) w6 m1 g6 (by rw [hD5]; exact fun z => nomatch z)
          have t46 := (t3.trans t4).trans t6
          have sz := d2.length
          refine ⟨xs, hD5, by omega, G6, acc ++ [d'], xs ++ [v], su.1, ⟨fun b o mb e => ?_, fun c o z => t46.gg c o (t2.gg c o z), fun c z g => ?_, fun c z => ?_⟩, g6, upd_same, (d2.mono t46.gg).append (.cons (fz_d o6 f2) .nil), by rw [List.length_append]; show acc.length + 1 ≤ i + 1; omega, q5⟩
          · have ne : b ≠ Dn := fun z => by rw [z, hDn] at e; cases e
            rw [upd_ne ne]
            exact t46.hh b o mb (t2.hh b o mb e)
          · exact t46.fr c (t2.hm c z) (t2.fr c z g)
          · by_cases zz : c = Dn
            · subst zz; rw [upd_same]; exact fun y => nomatch y
            · rw [upd_ne zz]; exact t46.hm c (t2.hm c z)
        · exact q5.elim
      · have t34 := t3.trans t4
        exact ⟨G4, acc, xs, w4, ⟨fun b o mb e => t34.hh b o mb (t2.hh b o mb e), fun c o z => t34.gg c o (t2.gg c o z), fun c z g => t34.fr c (t2.hm c z) (t2.fr c z g), fun c z => t34.hm c (t2.hm c z)⟩, t34.fr Dn hn2 g2, t34.hh Dn _ m1 h2, d2.mono t34.gg, by omega, q4.n e⟩
    · exact t3.hh b o mb (t2.hh b o mb e)
    · exact t3.fr c (t2.hm c z) (t2.fr c z g)
  · have e : i = ds.length := by omega
    subst e
    refine .inl ⟨wk.stop _ G2 H2 t2 w2 (Nat.le_refl _), ?_⟩
    exact k (.own acc) _ G2 H2 w2 (t1.trans t2) ⟨Dn, xs, rfl, none_early t1.hm Dn hDn, g2, m1, h2, d2⟩ (fin acc ii l2)
end
end RB

set_option Elab.async false
set_option linter.all false
set_option maxRecDepth 100000
set_option maxHeartbeats 4000000
/-! RB7: comprehensions as expressions, own errors, try, a def's rule -/
namespace RB
open PySem PySem.Spec PyProof.Rows L2
section
variable {X : Cx} {W : WX} {dr : DSrc} {tg0 : Tg0} {dt : DTT} {del : DTE} {elt tg iter : Expr} {ifs : List Expr} {scope : Scope} {own : List (Str × Nat)} {pos spos : Pos}
theorem dts_nil : PTs X [] (lT X.K W dYes) := ⟨fun pins s σ H Q I h => by
  obtain ⟨B, δ, G, Q2, X2, R, h, k, kx⟩ := h
  exact pts_nil.run pins s σ H Q I (k true G H R.wd .refl h)⟩
theorem dts_one {c : Expr} (h : PT X c (lT X.K W dt)) : PTs X [c] (lT X.K W dt) := pts_one h
theorem de_lc (hu : tg0.ok (own.map (·.2)) = true) (hc : X.calm = true) (hN : X.N.Nodup) (hi : PI X tg iter (lIV X.K W dr)) (ok : BlkOk X.N X.env.scope scope own)
    (hg : ∀ (s : Shared) (H : Hp) (C : Addr) (cl : List (Str × Addr)) (fp : List Addr), PG (X.blk s H scope (compEnvC scope cl C X.env) fp) tg (gTg X.K tg0)) (ht : ∀ (s : Shared) (H : Hp) (C : Addr) (cl : List (Str × Addr)) (fp : List Addr), PTs (X.blk s H scope (compEnvC scope cl C X.env) fp) ifs (lT X.K W0 dt))
    (he : ∀ (s : Shared) (H : Hp) (C : Addr) (cl : List (Str × Addr)) (fp : List Addr), PE (X.blk s H scope (compEnvC scope cl C X.env) fp) elt (lE X.K W0 del)) (hs : ∀ x, foldedSetIterable iter X.env x = pure x := by intro _; rfl) :
    PE X (.ListComp elt [⟨tg, iter, ifs, 0⟩] scope pos) (lE X.K W (dLc dr tg0 (own.map (·.2)) dt del)) := (pe_lc hc hN hi ok hg ht he hs).imp fun _ _ _ h => lE_lc hu h
theorem ds_setLc {i : Nat} {y : Str} {py : Pos} (hu : tg0.ok (own.map (·.2)) = true) (hc : X.calm = true) (hN : X.N.Nodup) (hsw : swapsWith (.ListComp elt [⟨tg, iter, ifs, 0⟩] scope pos) (some (.Name y py)) spos.line X.env = pure true) (hi : PI X tg iter (lIV X.K W dr)) (ok : BlkOk X.N X.env.scope scope own)
    (hg : ∀ (s : Shared) (H : Hp) (C : Addr) (cl : List (Str × Addr)) (fp : List Addr), PG (X.blk s H scope (compEnvC scope cl C X.env) fp) tg (gTg X.K tg0)) (ht : ∀ (s : Shared) (H : Hp) (C : Addr) (cl : List (Str × Addr)) (fp : List Addr), PTs (X.blk s H scope (compEnvC scope cl C X.env) fp) ifs (lT X.K W0 dt))
    (he : ∀ (s : Shared) (H : Hp) (C : Addr) (cl : List (Str × Addr)) (fp : List Addr), PE (X.blk s H scope (compEnvC scope cl C X.env) fp) elt (lE X.K W0 del)) (hy : X.N[i]? = some y := by rfl) (hyl : X.env.scope.names.lookup y = some .local := by rfl) (hs : ∀ x, foldedSetIterable iter X.env x = pure x := by intro _; rfl) :
    PS X (.Assign [.Name y py] (.ListComp elt [⟨tg, iter, ifs, 0⟩] scope pos) spos) (lS X.K W (dSet i (dLc dr tg0 (own.map (·.2)) dt del))) := (ps_setLc hc hN hy hyl hsw hi ok hg ht he hs).imp fun D σ H h => by
  obtain ⟨B, δ, G, D2, R, k, h⟩ := h
  exact lE_lc hu ⟨B, δ, G, _, _, R, h, fun r v G1 H1 w1 t1 o1 q1 => asgF_ok (Q := D.nx) R w1 t1 o1 q1 k.nx, k.xok⟩
theorem ds_setLcO {i : Nat} {y : Str} {py : Pos} (hu : tg0.ok (own.map (·.2)) = true) (hc : X.calm = true) (hN : X.N.Nodup) (hsw : swapsWith (.ListComp elt [⟨tg, iter, ifs, 0⟩] scope pos) (some (.Name y py)) spos.line X.env = pure true) (hi : PI X tg iter (lIV X.K W dr)) (ok : BlkOk X.N X.env.scope scope own)
    (hg : ∀ (s : Shared) (H : Hp) (C : Addr) (cl : List (Str × Addr)) (fp : List Addr), PG (X.blk s H scope (compEnvC scope cl C X.env) fp) tg (gTg X.K tg0)) (ht : ∀ (s : Shared) (H : Hp) (C : Addr) (cl : List (Str × Addr)) (fp : List Addr), PTs (X.blk s H scope (compEnvC scope cl C X.env) fp) ifs (lT X.K W0 dt))
    (he : ∀ (s : Shared) (H : Hp) (C : Addr) (cl : List (Str × Addr)) (fp : List Addr), PE (X.blk s H scope (compEnvC scope cl C X.env) fp) elt (lE X.K W0 del)) (hy : X.N[i]? = some y := by rfl) (hyl : X.env.scope.names.lookup y = some .local := by rfl) (hs : ∀ x, foldedSetIterable iter X.env x = pure x := by intro _; rfl) :
    PS X (.Assign [.Name y py] (.ListComp elt [⟨tg, iter, ifs, 0⟩] scope pos) spos) (lS X.K W (dSetO i (dLc dr tg0 (own.map (·.2)) dt del))) := (ps_setLc hc hN hy hyl hsw hi ok hg ht he hs).imp fun D σ H h => by
  obtain ⟨B, δ, G, D2, R, k, h⟩ := h
  exact lE_lc hu ⟨B, δ, G, _, _, R, h, fun r v G1 H1 w1 t1 o1 q1 => asgO_ok (Q := D.nx) R w1 t1 o1 q1 k.nx, k.xok⟩

/-! ### raise -/
def dRaise (C : Addr) : DTS := fun D δ => D.ex C δ
/-- an own class of errors that may be raised with a text -/
structure ExK (K : PySem.W.Frag) (mg : Str → Option Value) (x : Str) (C : Addr) : Prop where
  g : mg x = some (.ref C)
  q : PySem.W.excIn K C [.type "ValueError", .type "Exception", .type "BaseException", .type "object"] "ValueError.__new__" = true
  k : PySem.W.keepIn K (.ref C) = true
  b : PySem.W.subIn K (.ref C) (.type "BaseException") = some true
  t : PySem.W.typeIn K (.ref C) = some (.type "type")
theorem ds_raise {x m : Str} {j : Nat} {p p2 pos' : Pos} {C : Addr} (hc : X.calm = true) (tk : L2N.Takes X W) (e : ExK X.K X.mg x C) (hg : Gl X x := by rfl) (hdb : (x == ("__debug__" : Str)) = false := by decide) : PS X (.Raise (some (.Call (.Name x p) [.Constant (.str m) j p2] [] pos')) none pos) (lS X.K W (dRaise C)) :=
  (L2N.ps_raise hc tk (L2N.pmk_own PySem.F.excBase_ValueError e.q e.g e.k (raises_own e.b e.t) hg hdb)).imp fun D σ H h => by
  obtain ⟨B, δ, G, D2, R, k, h⟩ := h
  exact k.ex C δ σ G H R h
end

/-! ### try: several clauses, each with a name or without -/
abbrev Cl := Value × Option Nat × (Addr → Value → Option Addr → TS)
def goneD (n : Option Nat) (D : Ends) : Ends := match n with
  | none => D
  | some i => { nx := fun σ H => D.nx (σ.set i none) H, rt := D.rt, bk := fun σ H => D.bk (σ.set i none) H, ct := fun σ H => D.ct (σ.set i none) H }
def goneS (n : Option Nat) (a : Addr) (σ : St) : St := match n with
  | none => σ
  | some i => σ.set i (some (.ref a))
def wCls (K : PySem.W.Frag) (Wout : WX) (D : Ends) : List Cl → WX
  | [] => Wout
  | (c, n, ts) :: r => fun cls d σ H => ∃ b, PySem.W.exmOne K cls c = some b ∧ (b = true → ∀ a, H a = none → ts a cls d (goneD n D) (goneS n a σ) H) ∧ (b = false → wCls K Wout D r cls d σ H)
inductive ClsOk (X : Cx) : List ExceptHandler → List Cl → Prop
  | nil : ClsOk X [] []
  | plain {x : Str} {c : Value} {ts : Addr → Value → Option Addr → TS} {b₀ : Stmt} {suite : List Stmt} {np pos' : Pos} {hds : List ExceptHandler} {l : List Cl} (hc : Names X x c)
      (hsu : ∀ (a : Addr) (oe : Obj) (cls : Value) (d : Option Addr) (pn : List (Addr × Obj)), L2N.Zn cls d oe → (∃ vs, oe.data = .fields vs) → PSs (X.suite a ((a, oe) :: pn)) (b₀ :: suite) (ts a cls d)) (r : ClsOk X hds l) :
      ClsOk X (.ExceptHandler (some (.Name x np)) none (b₀ :: suite) pos' :: hds) ((c, none, ts) :: l)
  | named {x n : Str} {i : Nat} {c : Value} {ts : Addr → Value → Option Addr → TS} {b₀ : Stmt} {suite : List Stmt} {np pos' : Pos} {hds : List ExceptHandler} {l : List Cl} (hN : X.N.Nodup) (hi : X.N[i]? = some n) (hln : X.env.kindOf n = some .local) (hc : Names X x c)
      (hsu : ∀ (a : Addr) (oe : Obj) (cls : Value) (d : Option Addr) (pn : List (Addr × Obj)), L2N.Zn cls d oe → (∃ vs, oe.data = .fields vs) → PSs (X.suite a ((a, oe) :: pn)) (b₀ :: suite) (ts a cls d)) (r : ClsOk X hds l) :
      ClsOk X (.ExceptHandler (some (.Name x np)) (some n) (b₀ :: suite) pos' :: hds) ((c, some i, ts) :: l)
section
variable {X : Cx} {bdy : List Stmt} {h₀ : ExceptHandler} {hds : List ExceptHandler} {l : List Cl} {pos : Pos} {tb : WX → TS} {Wout : WX}
theorem ps_try_cls (hs : X.stack = X.env :: X.outer) (hf : X.env.frame = some X.env.locals) (tk : L2N.Takes X Wout)
    (hb : ∀ (W : WX) (pn : List (Addr × Obj)) (xe : Value → Shared → Prop), L2N.Takes (X.tr pn xe) W → PassesOwn (model X.prog X.w) X.A X.env xe → PSs (X.tr pn xe) bdy (tb W))
    (hh : ClsOk X (h₀ :: hds) l) : PS X (.Try bdy (h₀ :: hds) [] [] pos) (fun D σ H => tb (wCls X.K Wout D l) D σ H) := by
  refine ⟨fun pins s σ H D I h => ?_⟩
  have ok := I.ok; have hfr : X.A.frames = some (X.env :: X.outer) := by rw [ok.frames, hs]
  refine wpAny_Try_except ?_
  refine wpAny_mono ((hb (wCls X.K Wout D l) (X.pn ++ pins) (fun e s₁ => wpAny (model X.prog X.w) X.A (noteFrame e X.env) (fun _ s₂ => wpAny (model X.prog X.w) X.A (setFlight e none) (fun _ s₃ => wpAny (model X.prog X.w) X.A (handleBy e X.env (h₀ :: hds)) (SP X pins D) X.xe s₃) X.xe s₂) X.xe s₁)
    (fun u s' xx => ?ct) PassesOwn.looking).run [] s σ H D (I.toTry _) h) (fun f s1 hsp => ?_) (fun e s1 he => he)
  case ct =>
    obtain ⟨a, B, sI, pins', σ', H', cls, d, rfl, J', nb, up, sky, na, os, ag, w⟩ := xx
    have J : Inv X pins σ' H' sI := J'.ofTry ok
    have sky2 : Sky B (X.env :: X.outer) a (L2N.Zn cls d) X.env.locals s'.heap := by rw [← hs]; exact sky
    show wpAny (model X.prog X.w) X.A (noteFrame (.ref a) X.env) _ _ _
    refine L2N.Sky.land L2N.Zn.steady hfr hf sky2 fun h3 fl3 up3 => ?_
    have J3 : Inv X pins σ' H' { s' with heap := h3 } := J.landed nb fl3.1 (up.trans up3) os ag
    obtain ⟨oe3, vs3, he3, hz3, hd3⟩ := fl3.there
    have out : ∀ {h : Heap} {o : Obj} {vs : Array Value}, h.FunFrames B (X.env :: X.outer) → h.get? a = some o → o.data = .fields vs → a ∉ frs (X.env :: X.outer) := fun {h o vs} ff e dd hm => by
      obtain ⟨_, o', e', hnf⟩ := ff.mem hm; rw [e] at e'; cases e'; exact hnf _ dd
    have nfr := out fl3.2.2.1 he3 hd3
    have nL : a ≠ X.env.locals := fun z => nfr (List.mem_filterMap.mpr ⟨X.env, List.mem_cons_self, by rw [hf, z]⟩)
    have nF : a ∉ X.fs := fun hm => by
      obtain ⟨e, he, q⟩ := List.mem_filterMap.mp hm; exact nfr (List.mem_filterMap.mpr ⟨e, List.mem_cons_of_mem _ he, q⟩)
    have S3 := J3.suite he3 hd3 na nL nF
    have LT : PySem.W.Looks (model X.prog X.w) h3 (typeOf (.ref a)) cls := fun A Q E s k q => wpAny_typeOf_ref (k _ _ he3) (by rw [hz3.1]; exact q)
    have test : ∀ {x : Str} {c : Value} {np : Pos}, Names X x c → ∀ {Q : Value → Shared → Prop} {E : Value → Shared → Prop}, Q c { s' with heap := h3 } → wpAny (model X.prog X.w) (X.A.mark (some (.ref a))) (eval (.Name x np) X.env) Q E { s' with heap := h3 } := by
      intro x c np hc Q E q
      obtain ⟨hg1, hdbg1, hm1⟩ := hc
      rcases hm1 with hm1 | ⟨hm1, hv1, hnn1⟩
      · exact ld_glob (X := X.suite a ((a, oe3) :: (X.pn ++ pins))) S3 hg1 hm1 q hdbg1
      · exact ld_blt (X := X.suite a ((a, oe3) :: (X.pn ++ pins))) S3 hg1 hm1 hv1 q hnn1 hdbg1
    have go : ∀ {hds' : List ExceptHandler} {l' : List Cl}, ClsOk X hds' l' → wCls X.K Wout D l' cls d σ' H' → wpAny (model X.prog X.w) X.A (handleBy (.ref a) X.env hds') (SP X pins D) X.xe { s' with heap := h3 } := by
      intro hds' l' hk
      induction hk with
      | nil =>
        intro w; refine wpAny_handleBy_nil ?_
        obtain ⟨k1, k2, k3, oe, vs, T, oT, ts', he, hz, hd, h1, hr⟩ := id fl3
        unfold PySem.passOn
        refine wpAny_bind (wpAny_field he hd h1 ?_); rw [if_neg (show ¬ ((Value.ref T == Value.none) = true) from by simp)]
        have fin : wpAny (model X.prog X.w) X.A (setFlight (.ref a) X.env.frame) (fun _ s4 => wpAny (model X.prog X.w) X.A (throw (.ref a) : Sem Flow) (SP X pins D) X.xe s4) X.xe { s' with heap := h3 } := by
          rw [hf]; refine HandSPX.setFlight_upZ fl3 fun h4 hh4 up4 => wpAny_throw (tk _ _ ?_)
          exact ⟨a, B, sI, pins, σ', H', cls, d, rfl, J, nb, (up.trans up3).trans up4, .inr (.inr (by rw [hs]; exact hh4)), na, os, ag, w⟩
        first | exact wpAny_bind (wpAny_pure (wpAny_bind fin)) | exact wpAny_bind fin
      | @plain x c ts b₀ suite np pos' hds2 l2 hc hsu r ih =>
        intro w; obtain ⟨b, hb1, hyes, hno⟩ := w
        refine wpAny_handleBy_cons (codeAny_handlers_test ?_) (by intro q; cases q)
        refine test hc ((PySem.W.exm_one (M := model X.prog X.w) (J3.kIn) LT hb1).here ?_)
        cases b with
        | true =>
          refine codeAny_handlers_suite (HandSPX.lands_againZ fl3 fun h4 fl4 up4 => ?_)
          have J4 : Inv X pins σ' H' { s' with heap := h4 } := J.landed nb fl4.1 ((up.trans up3).trans up4) os ag
          obtain ⟨oe4, vs4, he4, hz4, hd4⟩ := fl4.there
          refine wpAny_mono ((hsu a oe4 cls d (X.pn ++ pins) hz4 ⟨_, hd4⟩).run [] _ _ H' _ (J4.suite he4 hd4 na nL nF) (hyes rfl a na)) (fun f s6 hsp => ?_) (fun _ _ z => False.elim z)
          cases f with
          | next => obtain ⟨σ6, H6, S6, q6⟩ := hsp; exact ⟨_, _, S6.unsuite ok, q6⟩
          | brk => obtain ⟨σ6, H6, S6, q6⟩ := hsp; exact ⟨_, _, S6.unsuite ok, q6⟩
          | cont => obtain ⟨σ6, H6, S6, q6⟩ := hsp; exact ⟨_, _, S6.unsuite ok, q6⟩
          | ret u => obtain ⟨v6, σ6, H6, S6, r6, q6⟩ := hsp; exact ⟨_, _, _, S6.unsuite ok, r6, q6⟩
        | false => exact ih (hno rfl)
      | @named x n i c ts b₀ suite np pos' hds2 l2 hN hi hln hc hsu r ih =>
        intro w; obtain ⟨b, hb1, hyes, hno⟩ := w
        refine wpAny_handleBy_cons (codeAny_handlers_test ?_) (by intro q; cases q)
        refine test hc ((PySem.W.exm_one (M := model X.prog X.w) (J3.kIn) LT hb1).here ?_)
        cases b with
        | true =>
          refine codeAny_handlers_suite_as (HandSPX.lands_againZ fl3 fun h4 fl4 up4 => ?_)
          have J4 : Inv X pins σ' H' { s' with heap := h4 } := J.landed nb fl4.1 ((up.trans up3).trans up4) os ag
          obtain ⟨oe4, vs4, he4, hz4, hd4⟩ := fl4.there
          refine store_ok (X := X.suite a ((a, oe4) :: (X.pn ++ pins))) (v := .ref a) (J4.suite he4 hd4 na nL nF) hN hi (.inl hln) rfl (fun s5 S5 => ?_) (.inr hln)
          refine wpAny_mono ((hsu a oe4 cls d (X.pn ++ pins) hz4 ⟨_, hd4⟩).run [] s5 _ H' _ S5 (hyes rfl a na)) (fun f s6 hsp => ?_) (fun _ _ z => False.elim z)
          have fin : ∀ {σ6 : St} {H6 : Hp} {Q : Shared → Prop}, Inv (X.suite a ((a, oe4) :: (X.pn ++ pins))) [] σ6 H6 s6 → (∀ s7, Inv X pins (σ6.set i none) H6 s7 → Q s7) → wpAny (model X.prog X.w) X.A (do bindName X.env n .none; unbindBehindTheSuite X.env n pos') (fun _ s7 => Q s7) X.xe s6 :=
            fun {σ6 H6 Q} S6 hq => gone_ok (S6.unsuite ok) hN hi hln hq
          cases f with
          | next => obtain ⟨σ6, H6, S6, q6⟩ := hsp; exact fin S6 fun s7 J7 => ⟨_, _, J7, q6⟩
          | brk => obtain ⟨σ6, H6, S6, q6⟩ := hsp; exact fin S6 fun s7 J7 => ⟨_, _, J7, q6⟩
          | cont => obtain ⟨σ6, H6, S6, q6⟩ := hsp; exact fin S6 fun s7 J7 => ⟨_, _, J7, q6⟩
          | ret u => obtain ⟨v6, σ6, H6, S6, r6, q6⟩ := hsp; exact fin S6 fun s7 J7 => ⟨_, _, _, J7, r6, q6⟩
        | false => exact ih (hno rfl)
    exact go hh w
  cases f with
  | next => obtain ⟨σ', H', J', q⟩ := hsp; exact wpAny_execs_nil ⟨σ', H', J'.ofTry ok, q⟩
  | brk => obtain ⟨σ', H', J', q⟩ := hsp; exact ⟨σ', H', J'.ofTry ok, q⟩
  | cont => obtain ⟨σ', H', J', q⟩ := hsp; exact ⟨σ', H', J'.ofTry ok, q⟩
  | ret u => obtain ⟨v, σ', H', J', r, q⟩ := hsp; exact ⟨v, σ', H', J'.ofTry ok, r, q⟩
end

/-! ### a def's rule -/
def slOf : RV → Sl
  | .dat d => .dat d
  | .raw v => .raw v
  | .sto => .sto
  | _ => .no
def startD (N : List Str) (rs : List RV) : DSt := rs.map slOf ++ List.replicate (N.length - rs.length) .no
theorem rel_start {K : PySem.W.Frag} {M : Addr → Prop} {HB G H : Hp} {N : List Str} {vs : List V} {rs : List RV} (w : Wd M G H) (a : Paired (fun v r => AOk K M HB G v r) vs rs) : Rel K ⟨M, G, H, noT⟩ (startD N rs) (L2.start N vs) G H := by
  have hl := pairedLen a
  have get : ∀ {vs : List V} {rs : List RV}, Paired (fun v r => AOk K M HB G v r) vs rs → ∀ (i : Nat) (r : RV) (v : V), rs[i]? = some r → vs[i]? = some v → AOk K M HB G v r := by
    intro vs rs a
    induction a with
    | nil => intro i r v e; simp at e
    | cons h t ih =>
      intro i r v e1 e2
      cases i with
      | zero => simp at e1 e2; subst e1 e2; exact h
      | succ i => exact ih i r v (by simpa using e1) (by simpa using e2)
  refine ⟨w, .refl, by unfold startD L2.start; rw [List.length_append, List.length_append, List.length_map, List.length_map, List.length_replicate, List.length_replicate, hl], fun i s x e1 e2 => ?_, fun i j c ds es e1 => ?_⟩
  · unfold startD at e1
    unfold L2.start at e2
    by_cases hi : i < rs.length
    · rw [List.getElem?_append_left (by simpa using hi), List.getElem?_map] at e1
      rw [List.getElem?_append_left (by rw [List.length_map, hl]; exact hi), List.getElem?_map] at e2
      cases f1 : rs[i]? with
      | none => rw [f1] at e1; cases e1
      | some r =>
        cases f2 : vs[i]? with
        | none => rw [f2] at e2; cases e2
        | some v =>
          rw [f1] at e1; rw [f2] at e2
          cases e1; cases e2
          have q := get a i r v f1 f2
          cases r with
          | dat d => exact ⟨v, rfl, q⟩
          | raw z => cases (show v = z from q); rfl
          | sto => obtain ⟨c, rfl, m⟩ := q; exact ⟨c, rfl, m⟩
          | new d => trivial
          | own ds => trivial
          | view ds => trivial
    · rw [List.getElem?_append_right (by simpa using hi), List.getElem?_replicate] at e1
      split at e1
      · cases e1; trivial
      · cases e1
  · exfalso
    unfold startD at e1
    by_cases hi : i < rs.length
    · rw [List.getElem?_append_left (by simpa using hi), List.getElem?_map] at e1
      cases f1 : rs[i]? with
      | none => rw [f1] at e1; cases e1
      | some r => rw [f1] at e1; cases r <;> cases e1
    · rw [List.getElem?_append_right (by simpa using hi), List.getElem?_replicate] at e1
      split at e1 <;> cases e1
def endD (Q2 : RV → Prop) (X2 : Addr → Prop) : DE2 := ⟨fun _ => Q2 (.dat .none), fun r _ => Q2 r, fun _ => False, fun _ => False, fun C _ => X2 C⟩
section
variable {P : Program} {w : World} {K : PySem.W.Frag} {mg : Str → Option Value} {base : Heap}
abbrev cxD (P : Program) (w : World) (K : PySem.W.Frag) (mg : Str → Option Value) (base : Heap) (N : List Str) (qual : Str) (st : Stmt) (f : Addr) (cdv : Value) (A : Around) (outer : List Env) (s : Shared) (H : Hp) (E : XK) : Cx := cxOf (L2N.CX P w) P w K mg base N qual (defScope st) f cdv A outer s H E
abbrev WE0 (E : XK) : WX := fun cls d _ H => E cls d H
theorem fnD {x qual : Str} {st : Stmt} {f : Addr} {fd : FuncData} {N ps : List Str} {k : Nat} {dsp : DSp} {body : DTS} (F : Fun K x qual st f fd) (S : FnScope N ps (defScope st))
    (hb : ∀ (cdv : Value) (A : Around) (outer : List Env) (s : Shared) (H : Hp) (E : XK), Room k (A.deeper (envOfC qual (defScope st) s.heap.objs.size f cdv)) → L2N.Takes (cxD P w K mg base N qual st f cdv A outer s H E) (WE0 E) → PassesOwn (model P w) (cxD P w K mg base N qual st f cdv A outer s H E).A (cxD P w K mg base N qual st f cdv A outer s H E).env (cxD P w K mg base N qual st f cdv A outer s H E).xe →
      PSs (cxD P w K mg base N qual st f cdv A outer s H E) (defBody st) (lS K (WE0 E) body))
    (hp : ∀ rs Q2 X2, rs.length = ps.length → dsp rs Q2 X2 → body (endD Q2 X2) (startD N rs)) : FnOk P w K mg base (L2N.CX P w) (k + 1) f fd ps (spD K ps.length dsp) := by
  obtain ⟨oc, od, kV, doc, pm, an, cdv, ct, osl, rfl, lk, hcd⟩ := F.ex
  refine fn_of lk hcd S (fun vs H Q E h => spD_len rfl vs H Q E h) fun A outer s H vs Q E hr h => ⟨_, hb cdv A outer s H E hr (L2N.takes_of rfl rfl rfl rfl) (passes_of rfl), ?_⟩
  obtain ⟨M, HB, G, rs, Q2, X2, wd, a, l, hd, kq, kx⟩ := h
  refine ⟨⟨M, G, H, noT⟩, startD N rs, G, endD Q2 X2, rel_start wd a, ⟨fun B' lb δ σ G' H' R q => kq (.dat .none) .non G' H' (lb.top R).1 (lb.top R).2 Dt.non q, fun _ _ _ _ _ _ _ q => q.elim, fun _ _ _ _ _ _ _ q => q.elim, fun B' lb r v δ σ G' H' R o' q' => kq r v G' H' (lb.top R).1 (lb.top R).2 (lb.rv o') q', fun B' lb C δ σ G' H' R q => kx C G' H' (lb.top R).1 (lb.top R).2 q⟩, hp rs Q2 X2 l hd⟩
end
end RB

set_option Elab.async false
set_option linter.all false
set_option maxRecDepth 100000
set_option maxHeartbeats 4000000
/-! RB8: facts of the head, try, isinstance of a caught error, the store -/
namespace RB
open PySem PySem.Spec PyProof.Rows L2
/-! ### constants of the module as data -/
mutual
def dvB (K : PySem.W.Frag) : D → Value → Bool
  | .none, u => match u with
    | .none => true
    | _ => false
  | .bool b, u => match u with
    | .bool c => b == c
    | _ => false
  | .int i, u => match u with
    | .int j _ => decide (i = j)
    | _ => false
  | .str x, u => match u with
    | .str y _ => decide (x = y)
    | _ => false
  | .tuple ds, u => match u with
    | .ref a => (match K.lookup a with
      | some ⟨.type c, _, .seq its _, _⟩ => decide (c = "tuple") && (decide (its.size ≤ sizeLine) && dvAll K ds its.toList)
      | _ => false)
    | _ => false
  | .list _, _ => false
  | .dict _, _ => false
def dvAll (K : PySem.W.Frag) : List D → List Value → Bool
  | [], us => us.isEmpty
  | d :: ds, us => match us with
    | u :: r => dvB K d u && dvAll K ds r
    | [] => false
end
mutual
theorem dvB_ok {K : PySem.W.Frag} : ∀ {d : D} {u : Value}, dvB K d u = true → ∃ v, RelV v u ∧ ∀ G, Dt K G v d
  | .none, u, h => by
    unfold dvB at h
    split at h
    · exact ⟨.non, rfl, fun _ => .non⟩
    · cases h
  | .bool b, u, h => by
    unfold dvB at h
    split at h
    · have e := eq_of_beq h
      subst e
      exact ⟨.bl b, rfl, fun _ => .bl b⟩
    · cases h
  | .int i, u, h => by
    unfold dvB at h
    split at h
    · have e := of_decide_eq_true h
      subst e
      exact ⟨.int i, ⟨_, rfl⟩, fun _ => .int i⟩
    · cases h
  | .str i, u, h => by
    unfold dvB at h
    split at h
    · have e := of_decide_eq_true h
      subst e
      exact ⟨.str i, ⟨_, rfl⟩, fun _ => .str i⟩
    · cases h
  | .tuple ds, u, h => by
    unfold dvB at h
    split at h
    · rename_i a
      split at h
      · rename_i c od its n osl q
        obtain ⟨h1, h2⟩ := He.ba h
        obtain ⟨h3, h4⟩ := He.ba h2
        obtain ⟨vs, rv, dv⟩ := dvAll_ok h4
        exact ⟨.ref a, rfl, fun G => .tup (.inr ⟨_, its, n, q, congrArg Value.type (of_decide_eq_true h1), rfl, of_decide_eq_true h3, rv⟩) (dv G)⟩
      · cases h
    · cases h
  | .list _, _, h => by unfold dvB at h; cases h
  | .dict _, _, h => by unfold dvB at h; cases h
theorem dvAll_ok {K : PySem.W.Frag} : ∀ {ds : List D} {us : List Value}, dvAll K ds us = true → ∃ vs, Vals vs us ∧ ∀ G, DtA K G vs ds
  | [], us, h => by
    unfold dvAll at h
    cases us with
    | nil => exact ⟨[], .nil, fun _ => .nil⟩
    | cons _ _ => cases h
  | d :: ds, us, h => by
    unfold dvAll at h
    split at h
    · rename_i u r
      obtain ⟨h1, h2⟩ := He.ba h
      obtain ⟨v, rv, dv⟩ := dvB_ok h1
      obtain ⟨vs, rvs, dvs⟩ := dvAll_ok h2
      exact ⟨v :: vs, .cons rv rvs, fun G => .cons (dv G) (dvs G)⟩
    · cases h
end
/-! ### facts -/
inductive Fb where
  | f (a : He.Fa) | dat (x : Str) (d : D) | cx (x : Str) | kit (x y : Str) (b : Bool) | kitT (x : Str) (n : String) (b : Bool)
def Fb.ok (K : PySem.W.Frag) : Fb → Bool
  | .f a => a.ok K
  | .dat x d => (match PySem.W.nsIn K mainGlobals x with
    | some (some u) => dvB K d u
    | _ => false)
  | .cx x => He.eqO (PySem.W.findIn K (.ref (He.ga K x)) "__getattribute__") (some (some (.builtin "BaseException.__getattribute__"))) && (He.eqO (PySem.W.findIn K (.ref (He.ga K x)) "__getattr__") (some none) &&
    (decide (PySem.W.subIn K (.ref (He.ga K x)) (.type "BaseException") = some true) && (PySem.W.hasDictIn K (He.ga K x) && (He.eqO (PySem.W.findIn K (.ref (He.ga K x)) "__class__") (some (some (.builtin "object.__class__"))) &&
    (He.eqO (PySem.W.specialIn K (.builtin "object.__class__") "__get__") (some (some (.builtin "getset_descriptor.__get__"))) && (decide (PySem.W.takesIn K (.builtin "object.__class__") = some true) && decide (PySem.W.mroIn K (He.ga K x) (.type "object") = some true)))))))
  | .kit x y b => decide (PySem.W.kitOne K (.ref (He.ga K x)) (.ref (He.ga K y)) = some b)
  | .kitT x n b => decide (PySem.W.kitOne K (.ref (He.ga K x)) (.type n) = some b)
theorem cx_ok {K : PySem.W.Frag} {x : Str} (h : (Fb.cx x).ok K = true) : ExcC K (He.ga K x) := by
  obtain ⟨h1, h⟩ := He.ba h
  obtain ⟨h2, h⟩ := He.ba h
  obtain ⟨h3, h⟩ := He.ba h
  obtain ⟨h4, h⟩ := He.ba h
  obtain ⟨h5, h⟩ := He.ba h
  obtain ⟨h6, h⟩ := He.ba h
  obtain ⟨h7, h8⟩ := He.ba h
  exact ⟨He.eqO_ok h1, He.eqO_ok h2, of_decide_eq_true h3, h4, He.eqO_ok h5, He.eqO_ok h6, of_decide_eq_true h7, of_decide_eq_true h8⟩
theorem kitT_ok {K : PySem.W.Frag} {x : Str} {n : String} {b : Bool} (h : (Fb.kitT x n b).ok K = true) : PySem.W.kitOne K (.ref (He.ga K x)) (.type n) = some b := of_decide_eq_true h
theorem kit_ok {K : PySem.W.Frag} {x y : Str} {b : Bool} (h : (Fb.kit x y b).ok K = true) : PySem.W.kitOne K (.ref (He.ga K x)) (.ref (He.ga K y)) = some b := of_decide_eq_true h
structure GlD (K : PySem.W.Frag) (mg : Str → Option Value) (x : Str) (d : D) : Prop where
  ex : ∃ u v, mg x = some u ∧ RelV v u ∧ ∀ G, Dt K G v d
theorem dat_ok {K : PySem.W.Frag} {h : Heap} {mg : Str → Option Value} (X : K.In h) (G : h.Ns mainGlobals mg) {x : Str} {d : D} (c : (Fb.dat x d).ok K = true) : GlD K mg x d := by
  have c2 : (match PySem.W.nsIn K mainGlobals x with
    | some (some u) => dvB K d u
    | _ => false) = true := c
  cases e : PySem.W.nsIn K mainGlobals x with
  | none => rw [e] at c2; cases c2
  | some o =>
    rw [e] at c2
    cases o with
    | none => cases c2
    | some u =>
      obtain ⟨v, r, q⟩ := dvB_ok c2
      exact ⟨u, v, PySem.W.mg_of X G e, r, q⟩
theorem exk_ok {K : PySem.W.Frag} {h : Heap} {mg : Str → Option Value} (X : K.In h) (G : h.Ns mainGlobals mg) {x : Str} (g : (He.Fa.glo x).ok K = true) (c : (He.Fa.exc x).ok K = true) : ExK K mg x (He.ga K x) := by
  obtain ⟨c1, c2, c3, c4⟩ := He.exc_ok c
  exact ⟨He.glo_ok X G g, c1, c2, c3, c4⟩
section
variable {X : Cx} {W : WX} {x : Str} {pos : Pos}
theorem de_globD {d : D} (h : GlD X.K X.mg x d) (hg : Gl X x := by rfl) (hdb : (x == ("__debug__" : Str)) = false := by decide) : PE X (.Name x pos) (lE X.K W (dK d)) := by
  obtain ⟨u, v, h1, h2, h3⟩ := h.ex
  exact de_glob h1 h2 h3 hg hdb
end
/-! ### the Hook -/
def obsR (fa : List Fb) (fn : List He.DefD) (K : PySem.W.Frag) : He.AlD := ((fa.all fun f => f.ok K) && fn.all fun d => d.ok K, fn.map fun d => He.fnW K d.at_)
def SaysR (fa : List Fb) (fn : List He.DefD) (K : PySem.W.Frag) : Prop := obsR fa fn K = He.valD fn
def obsRG (n : Nat) (fa : List Fb) (fn : List He.DefD) (g : Addr → Option Obj) : He.AlD := obsR fa fn (He.frG g (He.asD g n))
def hookR (n : Nat) (fa : List Fb) (fn : List He.DefD) : PySem.W.Hook where
  α := He.AlD
  obs := fun s => obsRG n fa fn s.heap.get?
  val := fun _ => He.valD fn
  says := fun _ h => ∃ K : PySem.W.Frag, K.In h ∧ SaysR fa fn K
  of := fun _ _ e => ⟨_, He.frG_in, e⟩
  keeps := fun _ _ _ ⟨K, hK, c⟩ k => ⟨K, PySem.W.Frag.In.keeps hK k, c⟩
theorem obsRG_eq {n : Nat} {fa : List Fb} {fn : List He.DefD} {g : Addr → Option Obj} {s : Shared} (h : ∀ a, g a = s.heap.get? a) : obsRG n fa fn g = (hookR n fa fn).obs s := by
  have e : g = s.heap.get? := funext h
  rw [e] <;> rfl
section
variable {fa : List Fb} {fn : List He.DefD} {K : PySem.W.Frag}
theorem SaysR.fact (c : SaysR fa fn K) {f : Fb} (h : f ∈ fa) : f.ok K = true := by
  have c1 := (He.ba (show ((fa.all fun f => f.ok K) && fn.all fun d => d.ok K) = true from congrArg (fun z : He.AlD => z.1) c)).1
  exact List.all_eq_true.mp c1 f h
theorem SaysR.at (c : SaysR fa fn K) (i : Nat) {f : Fb} (h : fa[i]? = some f := by rfl) : f.ok K = true := c.fact (List.mem_of_getElem? h)
theorem SaysR.def_ (c : SaysR fa fn K) (i : Nat) {d : He.DefD} (h : fn[i]? = some d := by rfl) : ∃ fd, FunD K d.name d.qual d.params d.body d.scope (d.dvs K) (d.kws K) (He.fAd K d.at_) fd := by
  have c2 := (He.ba (show ((fa.all fun f => f.ok K) && fn.all fun d => d.ok K) = true from congrArg (fun z : He.AlD => z.1) c)).2
  have e : fn.map (fun d => He.fnW K d.at_) = fn.map He.DefD.val := congrArg (fun z : He.AlD => z.2) c
  have e2 : (fn.map fun d => He.fnW K d.at_)[i]? = (fn.map He.DefD.val)[i]? := by rw [e]
  rw [List.getElem?_map, List.getElem?_map, h] at e2
  exact He.DefD.funD (Option.some.inj e2) (List.all_eq_true.mp c2 d (List.mem_of_getElem? h))
end
/-- a def of the text's top, told by its statement -/
def dfd (x : Str) (st : Stmt) : He.DefD := ⟨(x, none), x, x, defArgs st, defBody st, defScope st, [], []⟩
theorem SaysR.fun_ {fa : List Fb} {fn : List He.DefD} {K : PySem.W.Frag} (c : SaysR fa fn K) (i : Nat) {x : Str} {st : Stmt} (h : fn[i]? = some (dfd x st) := by rfl) : ∃ fd, Fun K x x st (He.ga K x) fd ∧ FunD K x x (defArgs st) (defBody st) (defScope st) [] [] (He.ga K x) fd := by
  obtain ⟨fd, F⟩ := c.def_ i h
  exact ⟨fd, He5.fun_of (kws := []) F, F⟩
/-- a def that is known by another name -/
def dfd2 (al x : Str) (st : Stmt) : He.DefD := ⟨(al, none), x, x, defArgs st, defBody st, defScope st, [], []⟩
theorem SaysR.fun2 {fa : List Fb} {fn : List He.DefD} {K : PySem.W.Frag} (c : SaysR fa fn K) (i : Nat) {al x : Str} {st : Stmt} (h : fn[i]? = some (dfd2 al x st) := by rfl) : ∃ fd, Fun K x x st (He.ga K al) fd ∧ FunD K x x (defArgs st) (defBody st) (defScope st) [] [] (He.ga K al) fd := by
  obtain ⟨fd, F⟩ := c.def_ i h
  exact ⟨fd, He5.fun_of (kws := []) F, F⟩

/-! ### try -/
abbrev DCl := Value × Option Nat × (Addr → Addr → DTS)
def goneDD (n : Option Nat) (D : DE2) : DE2 := match n with
  | none => D
  | some i => { nx := fun δ => D.nx (δ.set i .no), rt := D.rt, bk := fun δ => D.bk (δ.set i .no), ct := fun δ => D.ct (δ.set i .no), ex := fun _ _ => False }
def setR (n : Option Nat) (a : Addr) (δ : DSt) : DSt := match n with
  | none => δ
  | some i => δ.set i (.raw (.ref a))
/-- an exception's class is asked of the clauses, in their order -/
structure Exm (K : PySem.W.Frag) (C : Addr) (c : Value) (A B : Prop) : Prop where
  h : ∃ b, PySem.W.exmOne K (.ref C) c = some b ∧ Br b A B
def hxD (K : PySem.W.Frag) (D : DE2) : List DCl → Addr → DSt → Prop
  | [], C, δ => D.ex C δ
  | (c, n, s) :: r, C, δ => Exm K C c (∀ a, s a C { goneDD n D with ex := fun _ _ => False } (setR n a δ)) (hxD K D r C δ)
def dTry (K : PySem.W.Frag) (body : DTS) (cls : List DCl) : DTS := fun D δ => body { D with ex := hxD K D cls } δ
def suiteT (K : PySem.W.Frag) (s : Addr → Addr → DTS) : Addr → Value → Option Addr → TS := fun a cls d D σ H => ∃ C, cls = .ref C ∧ d = none ∧ lS K W0 (s a C) D σ H
def clsT (K : PySem.W.Frag) (l : List DCl) : List Cl := l.map fun c => (c.1, c.2.1, suiteT K c.2.2)
theorem hx_ok {K : PySem.W.Frag} {Wout : WX} {D : Ends} {D2 : DE2} {B : Base} (k : EndsOk K B Wout D D2) : ∀ (l : List DCl) (C : Addr) (δ : DSt) (σ : St) (G H : Hp), Rel K B δ σ G H → hxD K D2 l C δ → wCls K Wout D (clsT K l) (.ref C) none σ H
  | [], C, δ, σ, G, H, R, h => k.ex C δ σ G H R h
  | (c, n, s) :: r, C, δ, σ, G, H, R, h => by
    obtain ⟨b, e, br⟩ := h.h
    refine ⟨b, e, fun hb a _ => ⟨C, rfl, rfl, B, setR n a δ, G, { goneDD n D2 with ex := fun _ _ => False }, ?_, ?_, br.y hb a⟩, fun hb => hx_ok k r C δ σ G H R (br.n hb)⟩
    · cases n with
      | none => exact R
      | some i => exact R.set R.wd .refl (i := i) (s := .raw (.ref a)) rfl (fun _ _ z => nomatch z)
    · cases n with
      | none => exact ⟨k.nx', k.bk', k.ct', k.rt', fun _ _ _ _ _ _ _ _ z => z.elim⟩
      | some i => exact ⟨fun B' l δ σ G H R q => k.nx' B' l _ _ G H (R.forget i none) q, fun B' l δ σ G H R q => k.bk' B' l _ _ G H (R.forget i none) q, fun B' l δ σ G H R q => k.ct' B' l _ _ G H (R.forget i none) q, k.rt', fun _ _ _ _ _ _ _ _ z => z.elim⟩
theorem pss_suite {X : Cx} {st : List Stmt} {K : PySem.W.Frag} {s : Addr → Addr → DTS} {a : Addr} {cls : Value} {d : Option Addr} (h : ∀ C, cls = .ref C → d = none → PSs X st (lS K W0 (s a C))) : PSs X st (suiteT K s a cls d) := ⟨fun pins s' σ H D I q => by
  obtain ⟨C, e1, e2, q⟩ := q
  exact (h C e1 e2).run pins s' σ H D I q⟩
theorem cl_nil {X : Cx} : ClsOk X [] (clsT X.K []) := .nil
theorem cl_plain {X : Cx} {x : Str} {c : Value} {s : DTS} {b₀ : Stmt} {suite : List Stmt} {np pos' : Pos} {hds : List ExceptHandler} {l : List DCl} (hc : Names X x c)
    (hsu : ∀ (a : Addr) (oe : Obj) (pn : List (Addr × Obj)), PSs (X.suite a ((a, oe) :: pn)) (b₀ :: suite) (lS X.K W0 s)) (r : ClsOk X hds (clsT X.K l)) :
    ClsOk X (.ExceptHandler (some (.Name x np)) none (b₀ :: suite) pos' :: hds) (clsT X.K ((c, none, fun _ _ => s) :: l)) :=
  .plain hc (fun a oe cls d pn hz hf => pss_suite fun C _ _ => hsu a oe pn) r
theorem cl_named {X : Cx} {x n : Str} {i : Nat} {c : Value} {s : Addr → Addr → DTS} {b₀ : Stmt} {suite : List Stmt} {np pos' : Pos} {hds : List ExceptHandler} {l : List DCl} (hN : X.N.Nodup) (hc : Names X x c)
    (hsu : ∀ (a : Addr) (oe : Obj) (C : Addr) (pn : List (Addr × Obj)), L2N.Zn (.ref C) none oe → (∃ vs, oe.data = .fields vs) → PSs (X.suite a ((a, oe) :: pn)) (b₀ :: suite) (lS X.K W0 (s a C))) (r : ClsOk X hds (clsT X.K l)) (hi : X.N[i]? = some n := by rfl) (hln : X.env.kindOf n = some .local := by rfl) :
    ClsOk X (.ExceptHandler (some (.Name x np)) (some n) (b₀ :: suite) pos' :: hds) (clsT X.K ((c, some i, s) :: l)) :=
  .named hN hi hln hc (fun a oe cls d pn hz hf => pss_suite fun C e1 e2 => by subst e1 e2; exact hsu a oe C pn hz hf) r
theorem ds_try {X : Cx} {bdy : List Stmt} {h₀ : ExceptHandler} {hds : List ExceptHandler} {l : List DCl} {pos : Pos} {db : DTS} {Wout : WX} (tk : L2N.Takes X Wout)
    (hb : ∀ (W : WX) (pn : List (Addr × Obj)) (xe : Value → Shared → Prop), L2N.Takes (X.tr pn xe) W → PassesOwn (model X.prog X.w) X.A X.env xe → PSs (X.tr pn xe) bdy (lS X.K W db))
    (hh : ClsOk X (h₀ :: hds) (clsT X.K l)) (hs : X.stack = X.env :: X.outer := by rfl) (hf : X.env.frame = some X.env.locals := by rfl) : PS X (.Try bdy (h₀ :: hds) [] [] pos) (lS X.K Wout (dTry X.K db l)) :=
  (ps_try_cls (tb := fun W => lS X.K W db) hs hf tk hb hh).imp fun D σ H h => by
  obtain ⟨B, δ, G, D2, R, k, h⟩ := h
  exact ⟨B, δ, G, { D2 with ex := hxD X.K D2 l }, R, ⟨k.nx', k.bk', k.ct', k.rt', fun B' lb C δ σ G H R q => hx_ok (k.up lb) l C δ σ G H R q⟩, h⟩

/-! ### isinstance of a caught error, within its suite -/
def tRefs (Cs : List Addr) : TA := fun _ H Q => Q (Cs.map V.ref) H
theorem prs_nil {X : Cx} : PA X [] (tRefs []) := pa_nil
theorem prs_cons {X : Cx} {x : Str} {C : Addr} {p : Pos} {es : List Expr} {Cs : List Addr} (hm : X.mg x = some (.ref C)) (h : PA X es (tRefs Cs)) (hg : Gl X x := by rfl) (hdb : (x == ("__debug__" : Str)) = false := by decide) (hst : starEach (.Name x p :: es) X.env = (false, eval (.Name x p) X.env) :: starEach es X.env := by rfl) : PA X (.Name x p :: es) (tRefs (C :: Cs)) :=
  pa_cons (pe_glob (v := .ref C) hg hm rfl hdb) h hst
def rIsET (K : PySem.W.Frag) (D a : Addr) : List V → Hp → VK → Prop := fun xs H Q => ∃ (tp : Addr) (Cs : List Addr) (b : Bool), ExcC K D ∧ xs = [.ref a, .ref tp] ∧ H tp = some (.tup (Cs.map V.ref)) ∧ PySem.W.kitAny K (.ref D) (Cs.map Value.ref) = some b ∧ Q (.bl b) H
theorem refs_vals : ∀ {Cs : List Addr} {us : List Value}, Vals (Cs.map V.ref) us → us = Cs.map Value.ref
  | [], _, .nil => rfl
  | C :: Cs, _, .cons h t => by
    cases h
    rw [refs_vals t] <;> rfl
theorem call_isET {X : Cx} {a D : Addr} {oe : Obj} {pn : List (Addr × Obj)} (hz : L2N.Zn (.ref D) none oe) (hf : ∃ vs, oe.data = .fields vs) : CallR (X.suite a ((a, oe) :: pn)) (.builtin "isinstance") (rIsET X.K D a) := by
  intro pins s σ H xs us Q I r h
  obtain ⟨tp, Cs, b, C, rfl, hT, e, q⟩ := h
  cases r with
  | cons rx rr =>
    cases rr with
    | cons rt rr =>
      cases rr
      cases rx
      cases rt
      obtain ⟨hget, _⟩ := I.pin (a, oe) (List.mem_append.mpr (.inl List.mem_cons_self))
      obtain ⟨vs, hv⟩ := hf
      have J : PySem.W.InstAt s.heap a oe D none := by
        obtain ⟨oc, od, oda, osl⟩ := oe
        obtain ⟨h1, h2, _⟩ := hz
        dsimp only at h1 h2 hv
        subst h1 h2 hv
        exact ⟨hget, rfl, rfl, trivial⟩
      obtain ⟨_, its, rv, o, h1, h2, n, h3⟩ := (show ObjOk X.prog X.w H s.heap tp (.tup (Cs.map V.ref)) from I.hok tp _ hT)
      have e3 := refs_vals rv
      subst e3
      obtain ⟨oc, od, dt, sl⟩ := o
      simp only at h2 h3
      subst h2 h3
      exact PySem.W.kia_tup (PySem.W.handS_kitx_exc C.hg C.hk C.hs C.hd C.ha C.hn C.ht C.hm) I.kIn J h1 e (fun z => nomatch z) fun tk => ⟨.bl b, H, I.kept (t' := tk) fun _ _ z => z, rfl, q⟩
theorem call_isE1 {X : Cx} {a D : Addr} {oe : Obj} {pn : List (Addr × Obj)} (hz : L2N.Zn (.ref D) none oe) (hf : ∃ vs, oe.data = .fields vs) : CallR (X.suite a ((a, oe) :: pn)) (.builtin "isinstance") (fun xs H Q => ExcC X.K D ∧ rIsE X.K D a xs H Q) :=
  fun pins s σ H xs us Q I r h => call_isE h.1 hz.zc hf pins s σ H xs us Q I r h.2
def dIsE (K : PySem.W.Frag) (i : Nat) (a C : Addr) (Cs : List Addr) : DTE := fun δ Q _ => ExcC K C ∧ δ.getD i .no = .raw (.ref a) ∧ ∃ b, PySem.W.kitAny K (.ref C) (Cs.map Value.ref) = some b ∧ Q (.dat (.bool b))
theorem kitAny_t {K : PySem.W.Frag} {t c : Value} {cs : List Value} (h : PySem.W.kitOne K t c = some true) : PySem.W.kitAny K t (c :: cs) = some true := kitAny_cons h (fun z => nomatch z) fun _ => rfl
theorem kitAny_f {K : PySem.W.Frag} {t c : Value} {cs : List Value} {r : Bool} (h : PySem.W.kitOne K t c = some false) (hr : PySem.W.kitAny K t cs = some r) : PySem.W.kitAny K t (c :: cs) = some r := kitAny_cons h (fun _ => hr) fun z => nomatch z
section
variable {X : Cx} {W : WX} {x y : Str} {a C Y : Addr} {oe : Obj} {pn : List (Addr × Obj)} {p p2 p3 p4 pos : Pos} {k0 : Nat}
theorem raw_at {K : PySem.W.Frag} {B : Base} {δ : DSt} {σ : St} {G H : Hp} {i : Nat} {v : V} (R : Rel K B δ σ G H) (h : δ.getD i .no = .raw v) : σ[i]? = some (some v) := by
  obtain ⟨z, e1, k⟩ := R.at (getD_some h fun z => nomatch z)
  cases (show z = some v from k)
  exact e1
theorem de_isET {es : List Expr} {Cs : List Addr} (i : Nat) (hz : L2N.Zn (.ref C) none oe) (hf : ∃ vs, oe.data = .fields vs) (hm : X.mg "isinstance" = none) (hes : PA (X.suite a ((a, oe) :: pn)) es (tRefs Cs)) (hl : Cs.length ≤ sizeLine := by decide) (hN : X.N[i]? = some x := by rfl)
    (hv : Vis X.env.scope x := by first | exact Or.inl rfl | exact Or.inr (Or.inl rfl) | exact Or.inr (Or.inr rfl)) (hd : (x == ("__debug__" : Str)) = false := by decide) (hcd : (x == ("__classdict__" : Str)) = false := by decide) (hg : Gl X "isinstance" := by rfl)
    (he : starEach [.Name x p2, .Tuple es k0 p3] X.env = (false, eval (.Name x p2) X.env) :: starEach [.Tuple es k0 p3] X.env := by rfl) (he2 : starEach [.Tuple es k0 p3] X.env = (false, eval (.Tuple es k0 p3) X.env) :: starEach [] X.env := by rfl) (hpl : (backTo pos (starEach [.Tuple es k0 p3] X.env)).any (·.1) = false := by rfl) :
    PE (X.suite a ((a, oe) :: pn)) (.Call (.Name "isinstance" p) [.Name x p2, .Tuple es k0 p3] [] pos) (lE X.K W (dIsE X.K i a C Cs)) := by
  refine (pe_callB (call_isET hz hf) hg hm boot_isinstance (pa_cons (pe_var hN hv hd hcd) (pa_cons (pe_tup hes) pa_nil he2) he) (by decide) (by decide) he hpl).imp fun σ H Q h => ?_
  obtain ⟨B, δ, G, Q2, X2, R, ⟨h0, h1, b, h2, h3⟩, k, kx⟩ := h
  refine ⟨.ref a, raw_at R h1, ?_⟩
  refine ⟨by rw [List.length_map]; exact hl, fun tp hp => ?_⟩
  refine ⟨tp, Cs, b, h0, rfl, upd_same, h2, ?_⟩
  exact k (.dat (.bool b)) _ G _ (R.wd.alloc hp) (Ext.alloc hp) (Dt.bl _) h3
theorem de_isE (i : Nat) (hz : L2N.Zn (.ref C) none oe) (hf : ∃ vs, oe.data = .fields vs) (hm : X.mg "isinstance" = none) (hy : X.mg y = some (.ref Y)) (hN : X.N[i]? = some x := by rfl)
    (hv : Vis X.env.scope x := by first | exact Or.inl rfl | exact Or.inr (Or.inl rfl) | exact Or.inr (Or.inr rfl)) (hd : (x == ("__debug__" : Str)) = false := by decide) (hcd : (x == ("__classdict__" : Str)) = false := by decide) (hg : Gl X "isinstance" := by rfl) (hgy : Gl X y := by rfl) (hdy : (y == ("__debug__" : Str)) = false := by decide)
    (he : starEach [.Name x p2, .Name y p3] X.env = (false, eval (.Name x p2) X.env) :: starEach [.Name y p3] X.env := by rfl) (he2 : starEach [.Name y p3] X.env = (false, eval (.Name y p3) X.env) :: starEach [] X.env := by rfl) (hpl : (backTo pos (starEach [.Name y p3] X.env)).any (·.1) = false := by rfl) :
    PE (X.suite a ((a, oe) :: pn)) (.Call (.Name "isinstance" p) [.Name x p2, .Name y p3] [] pos) (lE X.K W (dIsE X.K i a C [Y])) := by
  refine (pe_callB (call_isE1 hz hf) hg hm boot_isinstance (pa_cons (pe_var hN hv hd hcd) (pa_cons (pe_glob (v := .ref Y) hgy hy rfl hdy) pa_nil he2) he) (by decide) (by decide) he hpl).imp fun σ H Q h => ?_
  obtain ⟨B, δ, G, Q2, X2, R, ⟨h0, h1, b, h2, h3⟩, k, kx⟩ := h
  refine ⟨.ref a, raw_at R h1, ?_⟩
  have h4 : PySem.W.kitOne X.K (.ref C) (.ref Y) = some b := by
    unfold PySem.W.kitAny at h2
    cases e : PySem.W.kitOne X.K (.ref C) (.ref Y) with
    | none => rw [show (List.map Value.ref [Y]) = [Value.ref Y] from rfl] at h2; simp [e] at h2
    | some c => simp [e, PySem.W.kitAny] at h2; cases c <;> simp_all
  exact ⟨h0, .ref Y, .ref Y, b, rfl, fun u h => h, h4, k (.dat (.bool b)) _ G _ R.wd .refl (Dt.bl _) h3⟩
end
end RB

set_option Elab.async false
set_option linter.all false
set_option maxRecDepth 100000
set_option maxHeartbeats 8000000
/-! F: the facts, the head's run -/
namespace RB
open PySem PySem.Spec PyProof.Rows L2
abbrev top (i : Nat) : Stmt := PySem.Challenge.pw_ringofall_k13_shows_ring.main.body.getD i (.Pass ⟨0, 0, 0, 0⟩)
def fa0 : List Fb := [.f (.free "int"),
  .f (.free "isinstance"),
  .f (.free "bool"),
  .f (.glo "BadModulus"),
  .f (.exc "BadModulus"),
  .dat "PRIMES" (.tuple [(.tuple [(.int 2), (.int 38)]), (.tuple [(.int 3), (.int 18)]), (.tuple [(.int 5), (.int 9)]), (.tuple [(.int 7), (.int 5)]), (.tuple [(.int 11), (.int 3)]), (.tuple [(.int 13), (.int 3)]), (.tuple [(.int 17), (.int 2)]), (.tuple [(.int 19), (.int 2)]), (.tuple [(.int 23), (.int 1)]), (.tuple [(.int 29), (.int 1)]), (.tuple [(.int 31), (.int 1)]), (.tuple [(.int 37), (.int 1)])]),
  .dat "GREATEST" (.int 10000000000),
  .f (.free "list"),
  .f (.free "len"),
  .f (.glo "BadPoly"),
  .f (.exc "BadPoly"),
  .dat "MOST_ENTRY" (.int 1000000000000000000000000000000000000000000000000000000000000),
  .dat "MOST_ENTRIES" (.int 40),
  .f (.free "range"),
  .f (.free "min"),
  .f (.free "max"),
  .f (.free "zip"),
  .f (.free "all"),
  .f (.free "tuple"),
  .f (.free "dict"),
  .f (.free "str"),
  .cx "BadModulus",
  .f (.exm "BadModulus" "BadPoly" false),
  .kit "BadModulus" "BadModulus" true,
  .f (.glo "BadRow"),
  .kit "BadModulus" "BadRow" false,
  .f (.glo "BadNumber"),
  .kit "BadModulus" "BadNumber" false,
  .f (.glo "RingError"),
  .kit "BadModulus" "RingError" true]
def fn0 : List He.DefD := [dfd2 "within" "within" (top 8), dfd2 "factors" "factors" (top 12), dfd2 "check_modulus" "check_modulus" (top 13), dfd2 "is_bounded" "is_bounded" (top 17), dfd2 "are_bounded" "are_bounded" (top 18), dfd2 "check_poly" "check_poly" (top 19), dfd2 "is_plain" "is_plain" (top 21), dfd2 "reduced" "reduced" (top 22), dfd2 "step_by" "step_by" (top 23), dfd2 "path_from" "path_from" (top 24), dfd2 "slope_by" "slope_by" (top 26), dfd2 "product_over" "product_over" (top 27), dfd2 "power_of" "power_of" (top 28), dfd2 "small_power" "small_power" (top 29), dfd2 "ring_entry" "ring_entry" (top 30), dfd2 "broken_at" "broken_at" (top 31), dfd2 "equal_plain" "equal_plain" (top 32)]
def fa1 : List Fb := [.f (.exm "BadModulus" "BadModulus" true),
  .f (.glo "NotRing"),
  .kit "BadModulus" "NotRing" false,
  .cx "BadPoly",
  .f (.exm "BadPoly" "BadPoly" true),
  .kit "BadPoly" "BadModulus" false,
  .kit "BadPoly" "BadRow" false,
  .kit "BadPoly" "BadNumber" false,
  .kit "BadPoly" "RingError" true,
  .f (.glo "within"),
  .f (.glo "factors"),
  .f (.glo "check_modulus"),
  .f (.glo "is_bounded"),
  .f (.glo "are_bounded"),
  .f (.glo "check_poly"),
  .f (.glo "is_plain"),
  .f (.glo "reduced"),
  .f (.glo "step_by"),
  .f (.glo "path_from"),
  .f (.glo "slope_by"),
  .f (.glo "product_over"),
  .f (.glo "power_of"),
  .f (.glo "small_power"),
  .f (.glo "ring_entry"),
  .f (.glo "broken_at"),
  .f (.glo "equal_plain"),
  .f (.glo "equal_entry"),
  .f (.glo "shows_ring"),
  .f (.glo "_law_mixed"),
  .f (.glo "_law_take")]
def fn1 : List He.DefD := [dfd2 "equal_entry" "equal_entry" (top 33), dfd2 "shows_ring" "shows_ring" (top 34), dfd2 "_law_mixed" "_law_mixed" (top 36), dfd2 "_law_take" "_law_take" (top 38), dfd2 "_law_seldom" "_law_seldom" (top 39), dfd2 "_law_pick" "_law_pick" (top 40), dfd2 "_law_power" "_law_power" (top 41), dfd2 "_law_undone" "_law_undone" (top 42), dfd2 "_law_chinese" "_law_chinese" (top 43), dfd2 "_law_factors" "_law_factors" (top 44), dfd2 "_law_capped" "_law_capped" (top 45), dfd2 "_law_modulus" "_law_modulus" (top 46), dfd2 "_law_cut" "_law_cut" (top 47), dfd2 "_law_at" "_law_at" (top 48), dfd2 "_law_through" "_law_through" (top 49), dfd2 "_law_goesround" "_law_goesround" (top 50), dfd2 "_law_linear" "_law_linear" (top 51)]
def fa2 : List Fb := [.f (.glo "_law_seldom"),
  .f (.glo "_law_pick"),
  .f (.glo "_law_power"),
  .f (.glo "_law_undone"),
  .f (.glo "_law_chinese"),
  .f (.glo "_law_factors"),
  .f (.glo "_law_capped"),
  .f (.glo "_law_modulus"),
  .f (.glo "_law_cut"),
  .f (.glo "_law_at"),
  .f (.glo "_law_through"),
  .f (.glo "_law_goesround"),
  .f (.glo "_law_linear"),
  .f (.glo "_law_patched"),
  .f (.glo "_law_rowof"),
  .f (.glo "_law_same"),
  .f (.glo "_law_copy"),
  .f (.glo "_law_kindbent"),
  .f (.glo "_law_ringpaper"),
  .f (.glo "_law_cycle"),
  .f (.glo "_law_localkind"),
  .f (.glo "_law_maker"),
  .f (.glo "_law_vast"),
  .f (.glo "_law_allround"),
  .f (.glo "_law_twist"),
  .f (.glo "_law_judged"),
  .f (.glo "_law_refusal"),
  .f (.glo "law"),
  .f (.glo "_law_open")]
def fn2 : List He.DefD := [dfd2 "_law_patched" "_law_patched" (top 52), dfd2 "_law_rowof" "_law_rowof" (top 53), dfd2 "_law_same" "_law_same" (top 54), dfd2 "_law_copy" "_law_copy" (top 55), dfd2 "_law_kindbent" "_law_kindbent" (top 56), dfd2 "_law_ringpaper" "_law_ringpaper" (top 57), dfd2 "_law_cycle" "_law_cycle" (top 58), dfd2 "_law_localkind" "_law_localkind" (top 59), dfd2 "_law_maker" "_law_maker" (top 60), dfd2 "_law_vast" "_law_vast" (top 61), dfd2 "_law_allround" "_law_allround" (top 62), dfd2 "_law_twist" "_law_twist" (top 63), dfd2 "_law_judged" "_law_judged" (top 64), dfd2 "_law_refusal" "_law_refusal" (top 65), dfd2 "law" "law" (top 66), dfd2 "_law_open" "_law_open" (top 37)]
def fa : List Fb := fa0 ++ (fa1 ++ (fa2))
def fn : List He.DefD := fn0 ++ (fn1 ++ (fn2))
def nm0 : List Str := ["RingError", "BadPoly", "BadModulus", "BadNumber", "BadRow", "NotRing", "GREATEST", "PRIMES", "MOST_ENTRIES", "MOST_ENTRY", "within", "factors", "check_modulus", "is_bounded", "are_bounded", "check_poly", "is_plain", "reduced", "step_by", "path_from", "slope_by", "product_over", "power_of", "small_power", "ring_entry", "broken_at", "equal_plain", "equal_entry", "shows_ring", "_law_mixed"]
def nm1 : List Str := ["_law_open", "_law_take", "_law_seldom", "_law_pick", "_law_power", "_law_undone", "_law_chinese", "_law_factors", "_law_capped", "_law_modulus", "_law_cut", "_law_at", "_law_through", "_law_goesround", "_law_linear", "_law_patched", "_law_rowof", "_law_same", "_law_copy", "_law_kindbent", "_law_ringpaper", "_law_cycle", "_law_localkind", "_law_maker", "_law_vast", "_law_allround", "_law_twist", "_law_judged", "_law_refusal"]
abbrev R : PySem.W.OpenRow := PySem.W.OpenLaw.row PySem.Challenge.rw_ringofall_k13_shows_ring
abbrev hk : PySem.W.Hook := hookR 5 fa fn
def ob (s : PySem.W.SharedT) : He.AlD := obsRG 5 fa fn (HandSHeadRun.getT s)
theorem ob_eq (s : PySem.W.SharedT) : ob s = hk.obs s.abs := obsRG_eq (HandSHeadRun.getT_eq s)
theorem run_base (w : World) (os : PySem.OsState) : (HandSHeadRun.endF (HandSHeadRun.stepQ (HandSHeadRun.denQ HandSHeadRun.tabQ) R.prog w) 12000 R.prog w os).map (fun s => (HandSHeadRun.looksF R.prog (PySem.W.boot_heap w.params) s.abs, HandSHeadRun.seenQ (PySem.W.view R.prog [66]) (nm0 ++ nm1) (PySem.importedModules R.prog.main.body) (fun s => PySem.W.xlAt (PySem.W.view R.prog [66]) [] s && PySem.W.recOk R.toRowW.records s) s.abs)) = some (true, PySem.W.openGood (PySem.W.view R.prog [66]) (nm0 ++ nm1)) := by
  kernel_rfl
theorem run_0 (w : World) (os : PySem.OsState) : (HandSHeadRun.endF (HandSHeadRun.stepQ (HandSHeadRun.denQ HandSHeadRun.tabQ) R.prog w) 12000 R.prog w os).map (fun s => obsRG 5 fa0 fn0 (HandSHeadRun.getT s)) = some (He.valD fn0) := by
  kernel_rfl
theorem run_1 (w : World) (os : PySem.OsState) : (HandSHeadRun.endF (HandSHeadRun.stepQ (HandSHeadRun.denQ HandSHeadRun.tabQ) R.prog w) 12000 R.prog w os).map (fun s => obsRG 5 fa1 fn1 (HandSHeadRun.getT s)) = some (He.valD fn1) := by
  kernel_rfl
theorem run_2 (w : World) (os : PySem.OsState) : (HandSHeadRun.endF (HandSHeadRun.stepQ (HandSHeadRun.denQ HandSHeadRun.tabQ) R.prog w) 12000 R.prog w os).map (fun s => obsRG 5 fa2 fn2 (HandSHeadRun.getT s)) = some (He.valD fn2) := by
  kernel_rfl
theorem obs_app {a b : List Fb} {c d : List He.DefD} {K : PySem.W.Frag} (h : obsR a c K = He.valD c) (k : obsR b d K = He.valD d) : obsR (a ++ b) (c ++ d) K = He.valD (c ++ d) := by
  have h1 := congrArg (fun z : He.AlD => z.1) h
  have k1 := congrArg (fun z : He.AlD => z.1) k
  have h2 := congrArg (fun z : He.AlD => z.2) h
  have k2 := congrArg (fun z : He.AlD => z.2) k
  have h1 : ((a.all fun f => f.ok K) && c.all fun d => d.ok K) = true := h1
  have k1 : ((b.all fun f => f.ok K) && d.all fun d => d.ok K) = true := k1
  have h2 : (c.map fun d => He.fnW K d.at_) = c.map He.DefD.val := h2
  have k2 : (d.map fun d => He.fnW K d.at_) = d.map He.DefD.val := k2
  rw [Bool.and_eq_true] at h1 k1
  refine Prod.ext ?_ ?_
  · show (((a ++ b).all fun f => f.ok K) && (c ++ d).all fun d => d.ok K) = true
    rw [List.all_append, List.all_append, h1.1, h1.2, k1.1, k1.2]
    rfl
  · show ((c ++ d).map fun d => He.fnW K d.at_) = (c ++ d).map He.DefD.val
    rw [List.map_append, List.map_append, h2, k2]
theorem map_app {x : Option PySem.W.SharedT} {a b : List Fb} {c d : List He.DefD} (h : x.map (fun s => obsRG 5 a c (HandSHeadRun.getT s)) = some (He.valD c)) (k : x.map (fun s => obsRG 5 b d (HandSHeadRun.getT s)) = some (He.valD d)) : x.map (fun s => obsRG 5 (a ++ b) (c ++ d) (HandSHeadRun.getT s)) = some (He.valD (c ++ d)) := by
  cases x with
  | none => cases h
  | some s => exact congrArg some (obs_app (Option.some.inj h) (Option.some.inj k))
theorem map_two {α β γ : Type} {x : Option PySem.W.SharedT} {f : PySem.W.SharedT → α × β} {g : PySem.W.SharedT → γ} {a : α} {b : β} {c : γ} (h : x.map f = some (a, b)) (k : x.map g = some c) : x.map (fun s => ((f s).1, (f s).2, g s)) = some (a, b, c) := by
  cases x with
  | none => cases h
  | some s =>
    have h := Option.some.inj h
    have k := Option.some.inj k
    show some ((f s).1, (f s).2, g s) = _
    rw [h, k]
theorem run (w : World) : HandSHeadRun.RunEq R (PySem.W.view R.prog [66]) hk ob 12000 (nm0 ++ nm1) w := by
  intro os
  exact map_two (run_base w os) (map_app (run_0 w os) (map_app (run_1 w os) (run_2 w os)))
end RB

set_option Elab.async false
set_option linter.all false
set_option maxRecDepth 100000
set_option maxHeartbeats 4000000
/-! RB9: the store of draws; own lists frozen as new -/
namespace RB
open PySem PySem.Spec PyProof.Rows L2
theorem ds_frzN {X : Cx} {W : WX} {st : Stmt} {s : DTS} {i : Nat} (h : PS X st (lS X.K W s)) : PS X st (lS X.K W (dFrzN i s)) := h.imp fun D σ H h => by
  obtain ⟨B, δ, G, D2, R, k, h⟩ := h
  unfold dFrzN at h
  split at h
  · rename_i ds e
    obtain ⟨hn, h⟩ := h
    have ed := getD_some e fun z => nomatch z
    obtain ⟨y, e1, a, xs, rfl, b1, b2, b3, b4, b5⟩ := R.at ed
    have s1 : Same G (upd G a (.lst xs)) := same_upd b2
    have w1 := R.wd.freeze b4 b2 b3
    refine ⟨B, _, upd G a (.lst xs), D2, ?_, k, h⟩
    refine ⟨w1, ⟨R.ext.hh, fun c o z => s1 _ _ (R.ext.gg c o z), fun c z z2 => ?_, R.ext.hm⟩, by rw [List.length_set]; exact R.len, fun j s' x f1 f2 => ?_, fun j l c us vs f1 f2 f3 f4 => ?_⟩
    · have ne : c ≠ a := fun z3 => z (by rw [z3]; exact b1)
      rw [upd_ne ne]
      exact R.ext.fr c z z2
    · by_cases hj : i = j
      · subst hj
        rw [e1] at f2
        cases f2
        rw [List.getElem?_set, if_pos rfl] at f1
        split at f1
        · cases f1
          exact ⟨_, rfl, .lst b1 upd_same (NwA.of (b5.mono s1) hn)⟩
        · cases f1
      · rw [List.getElem?_set_ne hj] at f1
        have z := R.sl j s' x f1 f2
        cases s' with
        | own us =>
          obtain ⟨c, zs, rfl, c1, c2, c3, c4, c5⟩ := z
          have ne : c ≠ a := fun q => hj (R.sep i j a ds us ed f1 e1 (by rw [f2, q]))
          exact ⟨c, zs, rfl, c1, by rw [upd_ne ne]; exact c2, c3, c4, c5.mono s1⟩
        | dic us =>
          obtain ⟨c, zs, rfl, c1, c2, c3, c4, c5⟩ := z
          have ne : c ≠ a := fun z => by rw [z, b4] at c4; cases c4
          exact ⟨c, zs, rfl, c1, by rw [upd_ne ne]; exact c2, c3, c4, c5.mono s1⟩
        | tre d =>
          obtain ⟨v, e, q⟩ := z
          refine ⟨v, e, q.imp (fun c xs h1 h0 h2 h3 h4 => ⟨h1, h0, ?_, h3, h4⟩) (fun c xs h1 h2 => ⟨h1, h2⟩) s1⟩
          have ne : c ≠ a := fun z => h1 (by rw [z, b1])
          rw [upd_ne ne]; exact h2
        | no => trivial
        | dat d => obtain ⟨v, e, q⟩ := z; exact ⟨v, e, q.mono s1⟩
        | new d => obtain ⟨v, e, q⟩ := z; exact ⟨v, e, q.mono s1 fun _ z => z⟩
        | raw v => exact z
        | sto => exact z
    · by_cases hj : i = j
      · subst hj
        rw [List.getElem?_set, if_pos rfl] at f1
        split at f1 <;> cases f1
      · by_cases hl : i = l
        · subst hl
          rw [List.getElem?_set, if_pos rfl] at f2
          split at f2 <;> cases f2
        · rw [List.getElem?_set_ne hj] at f1
          rw [List.getElem?_set_ne hl] at f2
          exact R.sep j l c us vs f1 f2 f3 f4
  · exact ⟨B, δ, G, D2, R, k, h⟩

/-! ### the store -/
def stoL (ns : List Int) (a1 a2 a3 a4 a5 a6 : Int) : List D := [.list (ns.map PyData.int), .int a1, .int a2, .int a3, .int a4, .int a5, .int a6]
structure StoD (ds : List D) : Prop where
  ex : ∃ ns a1 a2 a3 a4 a5 a6, ds = stoL ns a1 a2 a3 a4 a5 a6 ∧ 0 ≤ a1
theorem stoOk_of {K : PySem.W.Frag} {G H : Hp} {a : Addr} {xs : List V} {ds : List D} (e : H a = some (.lst xs)) (f : G a = none) (q : DtA K G xs ds) (s : StoD ds) : StoOk G H a := by
  obtain ⟨ns, a1, a2, a3, a4, a5, a6, rfl, h0⟩ := s.ex
  unfold stoL at q
  cases q with
  | cons q1 q => cases q with
    | cons q2 q => cases q with
      | cons q3 q => cases q with
        | cons q4 q => cases q with
          | cons q5 q => cases q with
            | cons q6 q => cases q with
              | cons q7 q =>
                cases q
                cases q2; cases q3; cases q4; cases q5; cases q6; cases q7
                cases q1 with
                | lst h1 h2 =>
                  rw [DtA.intsV h2] at h1
                  exact ⟨⟨_, ns, a1, a2, a3, a4, a5, a6, e, h1, h0⟩, f⟩
def datS : Sl → Sl
  | .dat d => .dat d
  | _ => .no
/-- store = a list of the store's shape; then the rest of the def -/
def dSto (i : Nat) (de : DTE) (u : DTS) : DTS := fun D δ => de δ (fun r => match r with
  | .own ds => StoD ds ∧ u ⟨fun _ => False, fun r _ => (∃ b, r = .dat (.bool b)) ∧ D.rt r [], fun _ => False, fun _ => False, fun _ _ => False⟩ ((δ.map datS).set i .sto)
  | _ => False) (fun C => D.ex C δ)
section
variable {X : Cx} {W : WX} {rest : List Stmt} {u : DTS} {e : Expr} {de : DTE} {pos pos' : Pos} {x : Str}
theorem dss_sto {i : Nat} (hN : X.N.Nodup) (he : PE X e (lE X.K W de)) (hr : PSs X rest (lS X.K W u)) (hi : X.N[i]? = some x := by rfl) (hx : Loc X.env.scope x := by first | exact Or.inl rfl | exact Or.inr rfl) (hs : swapsWith e (some (.Name x pos')) pos.line X.env = pure false := by rfl) (hf : X.fn x = true ∨ X.env.scope.names.lookup x = some .local := by first | exact .inl rfl | exact .inr rfl | assumption) :
    PSs X (.Assign [.Name x pos'] e pos :: rest) (lS X.K W (dSto i de u)) := (pss_cons (ps_set hN hi hx he hs hf) hr).imp fun D σ H h => by
  obtain ⟨B, δ, G, D2, R, k, h⟩ := h
  refine ⟨B, δ, G, _, _, R, h, fun r v G1 H1 w1 t1 o1 q1 => ?_, k.xok⟩
  cases r with
  | own ds =>
    obtain ⟨a, xs, rfl, b1, b2, b3, b4, b5⟩ := o1
    obtain ⟨sd, hu⟩ := q1
    have so := stoOk_of b4 b2 b5 sd
    have t01 := R.ext.trans t1.mt
    have ba : B.H a = none := none_early R.ext.hm a b1
    refine ⟨⟨fun b => B.M b ∨ b = a, G1, H1, noT⟩, _, G1, ⟨fun _ => False, fun r _ => (∃ b, r = .dat (.bool b)) ∧ D2.rt r [], fun _ => False, fun _ => False, fun _ _ => False⟩, ?_, ?_, hu⟩
    · refine ⟨⟨w1.sub, fun c m => m.elim (w1.sto c) fun z => z ▸ so⟩, .refl, by rw [List.length_set, List.length_set, List.length_map]; exact R.len, fun j s y e1 e2 => ?_, fun j l c us vs f1 f2 _ _ => ?_⟩
      · by_cases hj : i = j
        · subst hj
          rw [List.getElem?_set, if_pos rfl] at e1 e2
          split at e1
          · split at e2
            · cases e1; cases e2; exact ⟨a, rfl, .inr rfl⟩
            · cases e2
          · cases e1
        · rw [List.getElem?_set_ne hj, List.getElem?_map] at e1
          rw [List.getElem?_set_ne hj] at e2
          cases z : δ[j]? with
          | none => rw [z] at e1; cases e1
          | some s0 =>
            rw [z] at e1
            cases e1
            have q := R.sl j s0 y z e2
            cases s0 with
            | dat d => obtain ⟨v, e, q⟩ := q; exact ⟨v, e, q.mono t1.gg⟩
            | _ => trivial
      · by_cases hj : i = j
        · subst hj
          rw [List.getElem?_set, if_pos rfl] at f1
          split at f1 <;> cases f1
        · rw [List.getElem?_set_ne hj, List.getElem?_map] at f1
          cases z : δ[j]? with
          | none => rw [z] at f1; cases f1
          | some s0 =>
            rw [z] at f1
            cases s0 <;> cases f1
    · refine ⟨fun _ _ _ _ _ _ _ z => z.elim, fun _ _ _ _ _ _ _ z => z.elim, fun _ _ _ _ _ _ _ z => z.elim, fun B' lb r v δ' σ' G' H' R' o q => ?_, fun _ _ _ _ _ _ _ _ z => z.elim⟩
      obtain ⟨⟨b, rfl⟩, q⟩ := q
      obtain ⟨wd', ext'⟩ := lb.top R'
      refine k.rt (.dat (.bool b)) v [] [] G' H' ⟨⟨wd'.sub, fun c m => wd'.sto c (.inl m)⟩, ⟨fun b o m e => ?_, fun c o z => ext'.gg c o (t01.gg c o z), fun c z g => ?_, fun c z => ext'.hm c (t01.hm c z)⟩, rfl, fun j s y e1 _ => by simp at e1, fun j l c us vs f1 _ _ _ => by simp at f1⟩ o q
      · have ne : b ≠ a := fun z => by rw [z, ba] at e; cases e
        exact ext'.hh b o (fun z => z.elim (fun z => m (.inl z)) ne) (t01.hh b o m e)
      · exact ext'.fr c (t01.hm c z) (t01.fr c z g)
  | dat d => exact q1.elim
  | new d => exact q1.elim
  | view ds => exact q1.elim
  | raw z => exact q1.elim
  | sto => exact q1.elim
end
/-! ### within the draw -/
theorem sto_get {M : Addr → Prop} {G H : Hp} {a : Addr} (s : StoOk G H a) : ∃ (xs : List V), H a = some (.lst xs) ∧ (∀ j : Int, 1 ≤ j → j ≤ 6 → ∃ n, L2.atI xs j = some (.int n) ∧ (j = 1 → 0 ≤ n)) := by
  obtain ⟨⟨c, ns, a1, a2, a3, a4, a5, a6, e, e2, h0⟩, f⟩ := s
  refine ⟨_, e, fun j h1 h2 => ?_⟩
  have hj : j = 1 ∨ j = 2 ∨ j = 3 ∨ j = 4 ∨ j = 5 ∨ j = 6 := by omega
  rcases hj with rfl | rfl | rfl | rfl | rfl | rfl
  · exact ⟨a1, rfl, fun _ => h0⟩
  · exact ⟨a2, rfl, fun z => by omega⟩
  · exact ⟨a3, rfl, fun z => by omega⟩
  · exact ⟨a4, rfl, fun z => by omega⟩
  · exact ⟨a5, rfl, fun z => by omega⟩
  · exact ⟨a6, rfl, fun z => by omega⟩
theorem sto_set {M : Addr → Prop} {G H : Hp} {a : Addr} {j n : Int} (s : StoOk G H a) (h1 : 1 ≤ j) (h2 : j ≤ 6) (h3 : j = 1 → 0 ≤ n) : ∃ (xs : List V) (m : Nat), H a = some (.lst xs) ∧ ixN xs.length j = some m ∧ StoOk G (upd H a (.lst (xs.set m (.int n)))) a := by
  obtain ⟨⟨c, ns, a1, a2, a3, a4, a5, a6, e, e2, h0⟩, f⟩ := s
  have hj : j = 1 ∨ j = 2 ∨ j = 3 ∨ j = 4 ∨ j = 5 ∨ j = 6 := by omega
  rcases hj with rfl | rfl | rfl | rfl | rfl | rfl
  · exact ⟨_, 1, e, rfl, ⟨⟨c, ns, n, a2, a3, a4, a5, a6, upd_same, e2, h3 rfl⟩, f⟩⟩
  · exact ⟨_, 2, e, rfl, ⟨⟨c, ns, a1, n, a3, a4, a5, a6, upd_same, e2, h0⟩, f⟩⟩
  · exact ⟨_, 3, e, rfl, ⟨⟨c, ns, a1, a2, n, a4, a5, a6, upd_same, e2, h0⟩, f⟩⟩
  · exact ⟨_, 4, e, rfl, ⟨⟨c, ns, a1, a2, a3, n, a5, a6, upd_same, e2, h0⟩, f⟩⟩
  · exact ⟨_, 5, e, rfl, ⟨⟨c, ns, a1, a2, a3, a4, n, a6, upd_same, e2, h0⟩, f⟩⟩
  · exact ⟨_, 6, e, rfl, ⟨⟨c, ns, a1, a2, a3, a4, a5, n, upd_same, e2, h0⟩, f⟩⟩
/-- store[j], j from 1 to 6: some int -/
def dStoI (i : Nat) (j : Int) : DTE := fun δ Q _ => δ.getD i .no = .sto ∧ (1 ≤ j ∧ j ≤ 6) ∧ ∀ n : Int, (j = 1 → 0 ≤ n) → Q (.dat (.int n))
/-- store[j] = an int -/
def dStoS (i : Nat) (j : Int) (de : DTE) : DTS := fun D δ => δ.getD i .no = .sto ∧ de δ (fun r => isI r fun n => ((1 ≤ j ∧ j ≤ 6) ∧ (j = 1 → 0 ≤ n)) ∧ D.nx δ) (fun C => D.ex C δ)
/-- if store[1] < len(store[0]): cell = int(store[0][store[1]]); .. -/
def dStoC (i ic : Nat) (s : DTS) : DTS := fun D δ => δ.getD i .no = .sto ∧ (∀ n, s D (δ.set ic (.dat (.int n)))) ∧ D.nx δ
section
variable {X : Cx} {W : WX} {rest : List Stmt} {s : DTS} {e : Expr} {de : DTE} {pos pos' p p1 p2 p3 p4 p5 p6 p7 p8 p9 q1 q2 q3 q4 q5 q6 q7 r1 r2 : Pos} {x y : Str} {k0 k1 k2 k3 : Nat}
theorem de_stoI (i : Nat) {j : Int} (hN : X.N[i]? = some x := by rfl) (hv : Vis X.env.scope x := by first | exact Or.inl rfl | exact Or.inr (Or.inl rfl) | exact Or.inr (Or.inr rfl)) (hd : (x == ("__debug__" : Str)) = false := by decide) (hcd : (x == ("__classdict__" : Str)) = false := by decide) :
    PE X (.Subscript (.Name x p1) (.Constant (.int j) k0 p2) p3) (lE X.K W (dStoI i j)) := by
  refine (pe_ix ix_seq (pe_var hN hv hd hcd) pe_int (fun _ _ => rfl)).imp fun σ H Q h => ?_
  obtain ⟨B, δ, G, Q2, X2, R, ⟨h1, h2, h3⟩, k, kx⟩ := h
  obtain ⟨z, e1, a, rfl, m⟩ := R.at (getD_some h1 fun z => nomatch z)
  obtain ⟨xs, e2, g⟩ := sto_get (M := B.M) (R.wd.sto a m)
  obtain ⟨n, e3, e4⟩ := g j h2.1 h2.2
  exact ⟨_, e1, .inl ⟨a, xs, j, _, rfl, rfl, SqL.of e2, e3, k (.dat (.int n)) _ G H R.wd .refl (Dt.int n) (h3 n e4)⟩⟩
theorem ds_stoS (i : Nat) {j : Int} (he : PE X e (lE X.K W de)) (hN : X.N[i]? = some x := by rfl) (hv : Vis X.env.scope x := by first | exact Or.inl rfl | exact Or.inr (Or.inl rfl) | exact Or.inr (Or.inr rfl)) (hd : (x == ("__debug__" : Str)) = false := by decide)
    (hcd : (x == ("__classdict__" : Str)) = false := by decide) (ha : ∀ v, assign (.Subscript (.Name x p1) (.Constant (.int j) k0 p3) p2) X.env v = (do
      let ov ← holding [v] (eval (.Name x p1) X.env)
      let iv ← holding [v, ov] (eval (.Constant (.int j) k0 p3) X.env)
      standAt p2
      holding [v, ov, iv] (setItem ov iv v)
      release [v, ov, iv] []) := by intro _; rfl)
    (hs : swapsWithSole [.Subscript (.Name x p1) (.Constant (.int j) k0 p3) p2] e pos.line X.env = pure false := by rfl) (hw : swappedStores [.Subscript (.Name x p1) (.Constant (.int j) k0 p3) p2] e X.env = pure none := by rfl) (h1 : (assignEach [.Subscript (.Name x p1) (.Constant (.int j) k0 p3) p2] X.env).map (·.2) = [assign (.Subscript (.Name x p1) (.Constant (.int j) k0 p3) p2) X.env] := by rfl) :
    PS X (.Assign [.Subscript (.Name x p1) (.Constant (.int j) k0 p3) p2] e pos) (lS X.K W (dStoS i j de)) := (ps_asg he (pg_sub (pe_var hN hv hd hcd) pe_int set_list ha) hs hw h1).imp fun D σ H h => by
  obtain ⟨B, δ, G, D2, R, k, h1, h⟩ := h
  refine ⟨B, δ, G, _, _, R, h, fun r v G1 H1 w1 t1 o1 q1 => ?_, k.xok⟩
  obtain ⟨n, rfl, ⟨hj, hn⟩, q⟩ := isI_ok o1 q1
  have R1 := R.step w1 t1
  obtain ⟨z, e1, a, rfl, m⟩ := R.at (getD_some h1 fun z => nomatch z)
  have so := w1.sto a m
  obtain ⟨xs, mm, e2, e3, so'⟩ := sto_set (M := B.M) so hj.1 hj.2 hn
  have hr := R1
  refine ⟨_, e1, a, xs, j, mm, rfl, rfl, e2, e3, ?_⟩
  refine k.nx δ σ G1 _ (R1.step ⟨fun b o g => ?_, fun b mb => ?_⟩ ⟨fun b o nm g => ?_, fun _ _ z => z, fun _ _ z => z, fun b z => ?_⟩) q
  · have ne : b ≠ a := fun z => by rw [z, so.fr] at g; cases g
    rw [upd_ne ne]
    exact w1.sub _ _ g
  · by_cases ne : b = a
    · subst ne; exact so'
    · exact (w1.sto b mb).mono (fun _ _ z => z) (w1.sto b mb).fr (upd_ne ne)
  · have ne : b ≠ a := fun z => nm (z ▸ m)
    rw [upd_ne ne]
    exact g
  · by_cases ne : b = a
    · subst ne; rw [upd_same]; exact fun z => nomatch z
    · rw [upd_ne ne]; exact z
theorem ds_stoC (i : Nat) {ic : Nat} (hml : X.mg "len" = none) (hmi : X.mg "int" = none) (hr : PSs X rest (lS X.K W s)) (hNd : X.N.Nodup) (hi : X.N[ic]? = some y := by rfl) (hx : Loc X.env.scope y := by first | exact Or.inl rfl | exact Or.inr rfl)
    (hN : X.N[i]? = some x := by rfl) (hv : Vis X.env.scope x := by first | exact Or.inl rfl | exact Or.inr (Or.inl rfl) | exact Or.inr (Or.inr rfl)) (hd : (x == ("__debug__" : Str)) = false := by decide) (hcd : (x == ("__classdict__" : Str)) = false := by decide) (hgl : Gl X "len" := by rfl) (hgi : Gl X "int" := by rfl)
    (n1 : starEach [.Subscript (.Name x q1) (.Constant (.int 0) k1 q2) q3] X.env = (false, eval (.Subscript (.Name x q1) (.Constant (.int 0) k1 q2) q3) X.env) :: starEach [] X.env := by rfl)
    (n2 : starEach [.Subscript (.Subscript (.Name x p4) (.Constant (.int 0) k2 p5) p6) (.Subscript (.Name x p7) (.Constant (.int 1) k3 p8) p9) q4] X.env = (false, eval (.Subscript (.Subscript (.Name x p4) (.Constant (.int 0) k2 p5) p6) (.Subscript (.Name x p7) (.Constant (.int 1) k3 p8) p9) q4) X.env) :: starEach [] X.env := by rfl)
    (hs : swapsWith (.Call (.Name "int" q5) [.Subscript (.Subscript (.Name x p4) (.Constant (.int 0) k2 p5) p6) (.Subscript (.Name x p7) (.Constant (.int 1) k3 p8) p9) q4] [] q6) (some (.Name y pos')) p.line X.env = pure false := by rfl) (hf : X.fn y = true ∨ X.env.scope.names.lookup y = some .local := by first | exact .inl rfl | exact .inr rfl | assumption) :
    PS X (.If (.Compare (.Subscript (.Name x p1) (.Constant (.int 1) k0 p2) p3) [.Lt] [.Call (.Name "len" q7) [.Subscript (.Name x q1) (.Constant (.int 0) k1 q2) q3] [] r1] r2)
      (.Assign [.Name y pos'] (.Call (.Name "int" q5) [.Subscript (.Subscript (.Name x p4) (.Constant (.int 0) k2 p5) p6) (.Subscript (.Name x p7) (.Constant (.int 1) k3 p8) p9) q4] [] q6) p :: rest) [] pos) (lS X.K W (dStoC i ic s)) := by
  have pv : ∀ {p0 : Pos}, PE X (.Name x p0) (tVar i) := pe_var hN hv hd hcd
  refine (ps_if (pt_cmpR op_lt (pe_ix ix_seq pv pe_int (fun _ _ => rfl)) (pe_callB call_len hgl hml boot_len (pa_cons (pe_ix ix_seq pv pe_int (fun _ _ => rfl)) pa_nil n1) (by decide) (by decide) n1) (nomark _))
    (pss_cons (ps_set hNd hi hx (pe_callTy call_int1 hgi hmi boot_int (pa_cons (pe_ix ix_seq (pe_ix ix_seq pv pe_int (fun _ _ => rfl)) (pe_ix ix_seq pv pe_int (fun _ _ => rfl)) (fun _ _ => rfl)) pa_nil n2) (by decide) (by decide) n2) hs hf) hr) pss_nil).imp fun D σ H h => ?_
  obtain ⟨B, δ, G, D2, R, k, h1, h2, h3⟩ := h
  obtain ⟨z, e1, a, rfl, m⟩ := R.at (getD_some h1 fun z => nomatch z)
  obtain ⟨⟨c, ns, a1, a2, a3, a4, a5, a6, e, e2, h0⟩, f⟩ := R.wd.sto a m
  have i1 : ∀ {Q : VK}, Q (.int a1) H → rIx X.K (.ref a) (.int 1) H Q := fun q => .inl ⟨a, _, 1, _, rfl, rfl, SqL.of e, rfl, q⟩
  have i0 : ∀ {Q : VK}, Q (.ref c) H → rIx X.K (.ref a) (.int 0) H Q := fun q => .inl ⟨a, _, 0, _, rfl, rfl, SqL.of e, rfl, q⟩
  have hc : SqL X.K H c (ns.map V.int) := SqL.of (R.wd.sub _ _ e2)
  refine ⟨_, e1, i1 ⟨_, e1, i0 ⟨_, (ns.map V.int).length, rfl, .inl ⟨_, hc, rfl⟩, a1, _, rfl, rfl, _, rfl, ?_⟩⟩⟩
  rw [List.length_map]
  dsimp only
  by_cases hl : a1 < (ns.length : Int)
  · rw [if_pos (decide_eq_true hl)]
    have hx : a1.toNat < ns.length := by omega
    refine ⟨_, e1, i0 ⟨_, e1, i1 (.inl ⟨c, _, a1, .int ns[a1.toNat], rfl, rfl, hc, ?_, .inl ⟨_, rfl, ?_⟩⟩)⟩⟩
    · unfold L2.atI ixN
      rw [List.length_map, if_pos h0, if_pos hl, Option.bind_some, List.getElem?_map, List.getElem?_eq_getElem hx]
      rfl
    · exact ⟨B, _, G, D2, R.set R.wd .refl (i := ic) (s := .dat (.int ns[a1.toNat])) ⟨_, rfl, Dt.int _⟩ (fun _ _ z => nomatch z), k, h2 _⟩
  · rw [if_neg (by rw [decide_eq_false hl]; exact Bool.false_ne_true)]
    exact k.nx δ σ G H R h3
end
/-- the promise of a draw -/
def spTake : DSp := fun rs Q _ => match rs with
  | [.sto, .dat (.int n)] => n < 2 ^ 64 ∧ ∀ r, 0 ≤ r → r < max 1 n → Q (.dat (.int r))
  | _ => False
end RB

set_option Elab.async false
set_option linter.all false
set_option maxRecDepth 100000
set_option maxHeartbeats 4000000
/-! RB10: defs by their names -/
namespace RB
open PySem PySem.Spec PyProof.Rows L2
theorem huOf {k : Nat} {A : Around} (hr : Room k A) : A.units + 64 < cLine := by have := hr.un; omega
theorem pss_false {X : Cx} {st : List Stmt} {W : WX} : PSs X st (lS X.K W (fun _ _ => False)) := ⟨fun pins s σ H D I h => by
  obtain ⟨B, δ, G, D2, R, k, h⟩ := h
  exact h.elim⟩
/-- a def of the module keeps its promise -/
structure Ok (P : Program) (w : World) (K : PySem.W.Frag) (mg : Str → Option Value) (base : Heap) (k : Nat) (x : Str) (n : Nat) (dsp : DSp) : Prop where
  ex : ∃ (f : Addr) (fd : FuncData) (ps : List Str), FnOk P w K mg base (L2N.CX P w) k f fd ps (spD K n dsp) ∧ mg x = some (.ref f) ∧ PySem.W.keepIn K (.ref f) = true ∧ Binds K fd ps []
section
variable {X : Cx} {W : WX} {k kr n : Nat} {dsp : DSp} {x : Str} {p pos : Pos} {e : Expr} {es : List Expr} {dA : DTA}
theorem de_fn (O : Ok X.prog X.w X.K X.mg X.base k x n dsp) (hr : Room kr X.A) (tk : L2N.Takes X W) (ha : PA X (e :: es) (lA X.K W dA)) (hkr : k ≤ kr := by decide) (hg : Gl X x := by rfl) (hdb : (x == ("__debug__" : Str)) = false := by decide) (he : starEach (e :: es) X.env = (false, eval e X.env) :: starEach es X.env := by rfl) (hpl : (backTo pos (starEach es X.env)).any (·.1) = false := by rfl) :
    PE X (.Call (.Name x p) (e :: es) [] pos) (lE X.K W (dCall n dsp dA)) := by
  obtain ⟨f, fd, ps, F, hm, hk, hb⟩ := O.ex
  exact de_call F (hr.mono hkr) hm hk hb tk ha hg hdb he hpl
end
section
variable {P : Program} {w : World} {K : PySem.W.Frag} {mg : Str → Option Value} {base : Heap} {fa : List Fb} {fn : List He.DefD}
/-- the context of a def's body, by its statement -/
abbrev BodyOk (P : Program) (w : World) (K : PySem.W.Frag) (mg : Str → Option Value) (base : Heap) (N : List Str) (x : Str) (st : Stmt) (k : Nat) (body : DTS) : Prop :=
  ∀ (f : Addr) (cdv : Value) (A : Around) (outer : List Env) (s : Shared) (H : Hp) (E : XK), Room k (A.deeper (envOfC x (defScope st) s.heap.objs.size f cdv)) → L2N.Takes (cxD P w K mg base N x st f cdv A outer s H E) (WE0 E) → PassesOwn (model P w) (cxD P w K mg base N x st f cdv A outer s H E).A (cxD P w K mg base N x st f cdv A outer s H E).env (cxD P w K mg base N x st f cdv A outer s H E).xe →
    PSs (cxD P w K mg base N x st f cdv A outer s H E) (defBody st) (lS K (WE0 E) body)
theorem okD (X : K.In base) (G : base.Ns mainGlobals mg) (c : SaysR fa fn K) {al x : Str} {st : Stmt} {N ps : List Str} {k : Nat} {dsp : DSp} {body : DTS} (i : Nat) (hdef : fn[i]? = some (dfd2 al x st)) (g : mg al = some (.ref (He.ga K al))) (S : FnScope N ps (defScope st))
    (hbd : ∀ (kV doc pm : Value) (an : Option Addr) (cdv ct : Value) (us : List Value), us.length = ps.length → bindArgs (PySem.W.fnOf x x (defArgs st) (defBody st) (defScope st) .none kV doc pm an cdv ct) ⟨us, []⟩ = pure (ps.zip us))
    (hb : BodyOk P w K mg base N x st k body) (hp : ∀ rs Q2 X2, rs.length = ps.length → dsp rs Q2 X2 → body (endD Q2 X2) (startD N rs)) : Ok P w K mg base (k + 1) al ps.length dsp := by
  obtain ⟨fd, F, FD⟩ := c.fun2 i hdef
  exact ⟨_, fd, ps, fnD F S (hb _) hp, g, F.kp, FD.bindsN hbd⟩
end
end RB

set_option Elab.async false
set_option linter.all false
set_option maxRecDepth 100000
set_option maxHeartbeats 4000000
/-! RB11: new tuples, a block that changes what a call has just made -/
namespace RB
open PySem PySem.Spec PyProof.Rows L2
/-- a statement of several ends, and the rest: what holds between them is told -/
structure Cut (s t : DTS) (D : DE2) (δ : DSt) : Prop where
  h : ∃ P : DSt → Prop, s { D with nx := P } δ ∧ ∀ δ', P δ' → t D δ'
def dCut (s t : DTS) : DTS := fun D δ => Cut s t D δ
theorem dss_cut {X : Cx} {W : WX} {st : Stmt} {rest : List Stmt} {s u : DTS} (h1 : PS X st (lS X.K W s)) (h2 : PSs X rest (lS X.K W u)) : PSs X (st :: rest) (lS X.K W (dCut s u)) := (pss_cons h1 h2).imp fun D σ H h => by
  obtain ⟨B, δ, G, D2, R, k, ⟨P, h, hP⟩⟩ := h
  exact ⟨B, δ, G, { D2 with nx := P }, R, ⟨fun B' l δ' σ' G' H' R' q => ⟨B', δ', G', D2, R', k.up l, hP δ' q⟩, k.bk', k.ct', k.rt', k.ex'⟩, h⟩
/-- results all of whose lists are new -/
inductive Nws : List RV → List D → Prop
  | nil : Nws [] []
  | new {d : D} {rs : List RV} {ds : List D} : Nws rs ds → Nws (.new d :: rs) (d :: ds)
  | dat {d : D} {rs : List RV} {ds : List D} : NoL d → Nws rs ds → Nws (.dat d :: rs) (d :: ds)
theorem nws_ok {K : PySem.W.Frag} {M : Addr → Prop} {HB G : Hp} {rs : List RV} {ds : List D} (h : Nws rs ds) : ∀ {vs : List V}, Paired (fun v r => AOk K M HB G v r) vs rs → NwA K HB G vs ds := by
  induction h with
  | nil => intro vs a; cases a; exact .nil
  | new _ ih =>
    intro vs a
    cases a with
    | cons h t => exact .cons h (ih t)
  | dat n _ ih =>
    intro vs a
    cases a with
    | cons h t => exact .cons (Nw.of h n) (ih t)
def dTupN (dA : DTA) : DTE := fun δ Q X => dA δ (fun rs => ∃ ds, Nws rs ds ∧ ds.length ≤ sizeLine ∧ Q (.new (.tuple ds))) X
theorem NwA.length {K : PySem.W.Frag} {HB G : Hp} {ds : List D} {vs : List V} (h : NwA K HB G vs ds) : vs.length = ds.length := DtA.length (NwA.dt h)
theorem de_tupN {X : Cx} {W : WX} {es : List Expr} {dA : DTA} {pos : Pos} {k : Nat} (hs : PA X es (lA X.K W dA)) : PE X (.Tuple es k pos) (lE X.K W (dTupN dA)) := by
  refine (pe_tup hs).imp fun σ H Q h => ?_
  obtain ⟨B, δ, G, Q2, X2, R, h, k, kx⟩ := h
  refine ⟨B, δ, G, _, X2, R, h, fun rs vs G1 H1 w1 t1 o1 q1 => ?_, kx⟩
  obtain ⟨ds, e, hz, q⟩ := q1
  have dt := nws_ok e o1
  refine ⟨by rw [dt.length]; exact hz, fun p hp => ?_⟩
  have s : Same G1 (upd G1 p (.tup vs)) := same_upd (w1.noG hp)
  exact k (.new (.tuple ds)) _ (upd G1 p (.tup vs)) _ (w1.allocG hp) (t1.trans (Ext.allocG w1 hp)) (Nw.tup (SqT.of upd_same) (dt.mono s fun _ z => z)) q
/-- slots for a block of its own: no own lists, no store -/
def bare : Sl → Sl
  | .dat d => .dat d
  | .new d => .dat d
  | _ => .no
/-- name = e; if t: ..; name[1][1].append(v): e's result is new, t is false; behind it the name is forgotten -/
def dEp (i : Nat) (de : DTE) (dt : DTT) (dv : DTE) : DTS := fun D δ => i < δ.length ∧ de (δ.map bare) (fun r => ∃ d1 d2 ds, r = .new (.tuple [d1, .tuple [d2, .list ds]]) ∧ ds.length < sizeLine ∧
  dt ((δ.map bare).set i (.dat (.tuple [d1, .tuple [d2, .list ds]]))) (fun b => b = false ∧ dv ((δ.map bare).set i (.dat (.tuple [d1, .tuple [d2, .list ds]]))) (fun r => ∃ d, r = .dat d ∧ D.nx (δ.set i .no)) (fun _ => False)) (fun _ => False)) (fun _ => False)
theorem rel_bare {K : PySem.W.Frag} {B : Base} {δ : DSt} {σ : St} {G H : Hp} (R : Rel K B δ σ G H) : Rel K ⟨fun _ => False, G, H, noT⟩ (δ.map bare) σ G H := by
  refine ⟨⟨R.wd.sub, fun _ z => z.elim⟩, .refl, by rw [List.length_map]; exact R.len, fun j s y e1 e2 => ?_, fun j l c us vs f1 f2 _ _ => ?_⟩
  · rw [List.getElem?_map] at e1
    cases z : δ[j]? with
    | none => rw [z] at e1; cases e1
    | some s0 =>
      rw [z] at e1
      cases e1
      have q := R.sl j s0 y z e2
      cases s0 with
      | dat d => exact q
      | new d => obtain ⟨v, e, q⟩ := q; exact ⟨v, e, Nw.dt q⟩
      | _ => trivial
  · rw [List.getElem?_map] at f1
    cases z : δ[j]? with
    | none => rw [z] at f1; cases f1
    | some s0 =>
      rw [z] at f1
      cases s0 <;> cases f1
section
variable {X : Cx} {W : WX} {i : Nat} {x : Str} {e c v : Expr} {th : List Stmt} {de dv : DTE} {dt : DTT} {p1 p2 p3 p4 p5 p6 p7 p8 p9 p10 p11 : Pos} {k1 k2 : Nat}
theorem dss_ep (hN : X.N.Nodup) (he : PE X e (lE X.K W0 de)) (hc : PT X c (lT X.K W0 dt)) (hv : PE X v (lE X.K W0 dv)) (hi : X.N[i]? = some x := by rfl) (hx : Loc X.env.scope x := by first | exact Or.inl rfl | exact Or.inr rfl) (hs : swapsWith e (some (.Name x p1)) p2.line X.env = pure false := by rfl) (hf : X.fn x = true ∨ X.env.scope.names.lookup x = some .local := by first | exact .inl rfl | exact .inr rfl | assumption)
    (hvi : Vis X.env.scope x := by first | exact Or.inl rfl | exact Or.inr (Or.inl rfl) | exact Or.inr (Or.inr rfl)) (hd : (x == ("__debug__" : Str)) = false := by decide) (hcd : (x == ("__classdict__" : Str)) = false := by decide)
    (hcall : ∀ {t1 : TE} {t2 : TA}, PE X (.Subscript (.Subscript (.Name x p4) (.Constant (.int 1) k1 p5) p6) (.Constant (.int 1) k2 p7) p11) t1 → PA X [v] t2 → PE X (.Call (.Attribute (.Subscript (.Subscript (.Name x p4) (.Constant (.int 1) k1 p5) p6) (.Constant (.int 1) k2 p7) p11) "append" p8) [v] [] p9) (tBM X.K "list" rAppend t1 t2))
    (hsw : swapsWith (.Call (.Attribute (.Subscript (.Subscript (.Name x p4) (.Constant (.int 1) k1 p5) p6) (.Constant (.int 1) k2 p7) p11) "append" p8) [v] [] p9) none p10.line X.env = pure false := by rfl) (hst : starEach [v] X.env = (false, eval v X.env) :: starEach [] X.env := by rfl) :
    PSs X [.Assign [.Name x p1] e p2, .If c th [] p3, .Expr (.Call (.Attribute (.Subscript (.Subscript (.Name x p4) (.Constant (.int 1) k1 p5) p6) (.Constant (.int 1) k2 p7) p11) "append" p8) [v] [] p9) p10] (lS X.K W (dEp i de dt dv)) := by
  have pif : PS X (.If c th [] p3) (fun D σ H => lT X.K W0 dt σ H fun b H1 => b = false ∧ D.nx σ H1) := ⟨fun pins s σ H D I h => (ps_if (t := fun _ _ _ => False) (u := fun D σ H => D.nx σ H) hc ⟨fun _ _ _ _ _ _ z => z.elim⟩ pss_nil).run pins s σ H D I (by
    obtain ⟨B, δ, G, Q2, X2, R, h, k, kx⟩ := h
    refine ⟨B, δ, G, Q2, X2, R, h, fun b G1 H1 w t q => ?_, kx⟩
    obtain ⟨rfl, z⟩ := k b G1 H1 w t q
    exact z)⟩
  have pv : ∀ {p0 : Pos}, PE X (.Name x p0) (tVar i) := pe_var hi hvi hd hcd
  refine (pss_cons (ps_set hN hi hx he hs hf) (pss_cons pif (pss_one (ps_expr (hcall (pe_ix ix_seq (pe_ix ix_seq pv pe_int (fun _ _ => rfl)) pe_int (fun _ _ => rfl)) (pa_cons hv pa_nil hst)) hsw)))).imp fun D σ H h => ?_
  obtain ⟨B, δ, G, D2, R, k, hi1, h⟩ := h
  have hi0 : i < σ.length := by rw [← R.len]; exact hi1
  have R0 := rel_bare R
  refine ⟨_, _, G, _, fun _ => False, R0, h, fun r u G1 H1 w1 t1 o1 q1 => ?_, fun _ _ _ _ z => z⟩
  obtain ⟨d1, d2, ds, rfl, hz, q1⟩ := q1
  have nw : Nw X.K H G1 u (.tuple [d1, .tuple [d2, .list ds]]) := o1
  have R1 := R0.set w1 t1 (i := i) (v := u) (s := .dat _) ⟨u, rfl, Nw.dt nw⟩ (fun _ _ z => nomatch z)
  refine ⟨_, _, G1, _, fun _ => False, R1, q1, fun b G2 H2 w2 t2 q2 => ?_, fun _ _ _ _ z => z⟩
  obtain ⟨rfl, q2⟩ := q2
  refine ⟨rfl, ?_⟩
  have nw2 := nw.mono t2.gg fun _ z => z
  cases nw2 with
  | tup h1 n1 => cases n1 with
    | cons m1 n1 => cases n1 with
      | cons m2 n1 => cases n1; cases m2 with
        | tup h2 n2 => cases n2 with
          | cons m3 n2 => cases n2 with
            | cons m4 n2 => cases n2; cases m4 with
              | @lst a xs _ ha hg hl =>
                have es : ∀ z : Option V, (σ.set i z)[i]? = some z := fun z => by rw [List.getElem?_set, if_pos rfl, if_pos hi0]
                have R2 := R1.step w2 t2
                refine ⟨_, es _, .inr (.inl ⟨_, _, 1, _, rfl, rfl, same_sqT w2.sub h1, rfl, .inr (.inl ⟨_, _, 1, _, rfl, rfl, same_sqT w2.sub h2, rfl, ?_⟩)⟩)⟩
                have hH : H2 a = some (.lst xs) := w2.sub _ _ hg
                refine ⟨.inl ⟨rfl, _, SqL.of hH⟩, ?_⟩
                refine ⟨_, _, G2, _, fun _ => False, R2, q2, fun r3 v3 G3 H3 w3 t3 o3 q3 => ?_, fun _ _ _ _ z => z⟩
                obtain ⟨d3, rfl, q3⟩ := q3
                have hH3 : H3 a = some (.lst xs) := t3.hh a _ (fun z => z) hH
                have hlen : xs.length < sizeLine := by rw [NwA.length hl]; exact hz
                refine ⟨a, xs, _, rfl, rfl, hH3, hlen, ?_⟩
                have t03 := (t1.trans t2).trans t3
                have nea : ∀ b, H b ≠ none → b ≠ a := fun b z e => z (e ▸ ha)
                refine k.nx _ _ G _ ⟨⟨fun b o g => ?_, fun b m => ?_⟩, ⟨fun b o m g => ?_, R.ext.gg, R.ext.fr, fun b z => ?_⟩, by rw [List.length_set, List.length_set]; exact R.len, fun j s y e1 e2 => ?_, fun j l c us vs f1 f2 f3 f4 => ?_⟩ q3
                · have hb := R.wd.sub _ _ g
                  have ne := nea b (by rw [hb]; exact fun z => nomatch z)
                  rw [upd_ne ne]
                  exact t03.hh b o (fun z => z) hb
                · have so := R.wd.sto b m
                  have ne := nea b so.there
                  refine so.mono (fun _ _ z => z) so.fr ?_
                  rw [upd_ne ne]
                  obtain ⟨_, _, _, _, _, _, _, _, e, _⟩ := so.ex
                  rw [e]
                  exact t03.hh b _ (fun z => z) e
                · have hb := R.ext.hh b o m g
                  have ne := nea b (by rw [hb]; exact fun z => nomatch z)
                  rw [upd_ne ne]
                  exact t03.hh b o (fun z => z) hb
                · have hb := R.ext.hm b z
                  have ne := nea b hb
                  rw [upd_ne ne]
                  exact t03.hm b hb
                · by_cases hj : i = j
                  · subst hj
                    rw [List.getElem?_set, if_pos rfl, if_pos hi1] at e1
                    cases e1
                    trivial
                  · rw [List.getElem?_set_ne hj] at e1 e2
                    have z := R.sl j s y e1 e2
                    cases s with
                    | own us =>
                      obtain ⟨c, zs, rfl, c1, c2, c3, c4, c5⟩ := z
                      have ne := nea c (by rw [c4]; exact fun z => nomatch z)
                      exact ⟨c, zs, rfl, c1, c2, c3, by rw [upd_ne ne]; exact t03.hh c _ (fun z => z) c4, c5⟩
                    | dic us =>
                      obtain ⟨c, zs, rfl, c1, c2, c3, c4, c5⟩ := z
                      have ne := nea c (by rw [c4]; exact fun z => nomatch z)
                      exact ⟨c, zs, rfl, c1, c2, c3, by rw [upd_ne ne]; exact t03.hh c _ (fun z => z) c4, c5⟩
                    | tre d =>
                      obtain ⟨u', e, q⟩ := z
                      refine ⟨u', e, q.imp (fun c xs h1 h0 h2 h3 h4 => ⟨h1, h0, h2, h3, ?_⟩) (fun c xs h1 h2 => ⟨?_, h2⟩) (fun _ _ z => z)⟩
                      · have ne := nea c (by rw [h4]; exact fun z => nomatch z)
                        rw [upd_ne ne]; exact t03.hh c _ (fun z => z) h4
                      · exact sqT_upd hH3 ⟨fun _ z => (nomatch z), fun _ _ z => (nomatch z)⟩ (sqT_ext t03 (.inl fun z => z) h1)
                    | no => trivial
                    | dat d => exact z
                    | new d => exact z
                    | raw v => exact z
                    | sto => exact z
                · have ne : ∀ {j : Nat} {us : List PyData} {y z : Option V}, (δ.set i .no)[j]? = some (.own us) → (σ.set i z)[j]? = some y → δ[j]? = some (.own us) ∧ σ[j]? = some y := fun {j us y z} f g => by
                    by_cases hj : i = j
                    · subst hj
                      rw [List.getElem?_set, if_pos rfl] at f
                      split at f <;> cases f
                    · rw [List.getElem?_set_ne hj] at f g; exact ⟨f, g⟩
                  exact R.sep j l c us vs (ne f1 f3).1 (ne f2 f4).1 (ne f1 f3).2 (ne f2 f4).2
end
end RB

set_option Elab.async false
set_option linter.all false
set_option maxRecDepth 100000
set_option maxHeartbeats 4000000
/-! RB12: the opening of the store, the law's def -/
namespace RB
open PySem PySem.Spec PyProof.Rows L2
/-- the opening: a new store of the script's numbers -/
def spOpen (K : PySem.W.Frag) : Sp := fun vs H Q _ => ∃ (a : Addr) (ns : List Int), vs = [.ref a] ∧ SqL K H a (ns.map V.int) ∧ ns.length ≤ sizeLine ∧
  ∀ (c p : Addr) (b : Int), H c = none → upd H c (.lst (ns.map V.int)) p = none → Q (.ref p) (upd (upd H c (.lst (ns.map V.int))) p (.lst [.ref c, .int 0, .int 0, .int 0, .int 0, .int 0, .int b]))
/-- the law: true at every script of at most 63 numbers -/
def spLaw (K : PySem.W.Frag) : Sp := fun vs H Q _ => ∃ (a : Addr) (ns : List Int), vs = [.ref a] ∧ SqL K H a (ns.map V.int) ∧ ns.length ≤ 63 ∧ ∀ H', Q (.bl true) H'
def endL : DE2 := ⟨fun _ => False, fun r _ => r = .dat (.bool true), fun _ => False, fun _ => False, fun _ _ => False⟩
def lawSt (n : Nat) : DSt := (List.replicate n Sl.no).set 1 .sto
theorem law_lS {K : PySem.W.Frag} {W : WX} {d : DTS} {D : Ends} {σ : St} {H : Hp} {c p : Addr} {b : Int} {ns : List Int} {n : Nat} (hc : H c = none) (hp : upd H c (.lst (ns.map V.int)) p = none) (hσ : σ[1]? = some (some (.ref p))) (hl : σ.length = n) (hQ : ∀ H', D.rt (.bl true) H') (h : d endL (lawSt n)) :
    lS K W d D σ (upd (upd H c (.lst (ns.map V.int))) p (.lst [.ref c, .int 0, .int 0, .int 0, .int 0, .int 0, .int b])) := by
  have ne : c ≠ p := fun z => by rw [← z, upd_same] at hp; cases hp
  refine ⟨⟨fun a => a = p, upd (fun _ => none) c (.lst (ns.map V.int)), _, noT⟩, lawSt n, upd (fun _ => none) c (.lst (ns.map V.int)), endL, ⟨⟨fun a o e => ?_, fun a m => ?_⟩, .refl, ?_, fun i s x e1 e2 => ?_, fun i j a us vs f1 f2 _ _ => ?_⟩, ⟨fun _ _ _ _ _ _ _ z => z.elim, fun _ _ _ _ _ _ _ z => z.elim, fun _ _ _ _ _ _ _ z => z.elim, fun B' lb r v δ σ G' H' R o q => ?_, fun _ _ _ _ _ _ _ _ z => z.elim⟩, h⟩
  · by_cases z : a = c
    · subst z
      rw [upd_same] at e
      rw [upd_ne ne, upd_same]
      exact e
    · rw [upd_ne z] at e
      cases e
  · subst m
    exact ⟨⟨c, ns, 0, 0, 0, 0, 0, b, upd_same, upd_same, Int.le_refl 0⟩, by rw [upd_ne ne.symm]⟩
  · unfold lawSt
    rw [List.length_set, List.length_replicate, hl]
  · unfold lawSt at e1
    by_cases z : 1 = i
    · subst z
      rw [List.getElem?_set, if_pos rfl] at e1
      split at e1
      · cases e1
        rw [hσ] at e2
        cases e2
        exact ⟨p, rfl, rfl⟩
      · cases e1
    · rw [List.getElem?_set_ne z, List.getElem?_replicate] at e1
      split at e1
      · cases e1; trivial
      · cases e1
  · exfalso
    unfold lawSt at f1
    by_cases z : 1 = i
    · subst z
      rw [List.getElem?_set, if_pos rfl] at f1
      split at f1 <;> cases f1
    · rw [List.getElem?_set_ne z, List.getElem?_replicate] at f1
      split at f1 <;> cases f1
  · cases (show r = .dat (.bool true) from q)
    cases (show Dt K G' v (.bool true) from o)
    exact hQ H'
end RB

set_option Elab.async false
set_option linter.all false
set_option maxRecDepth 100000
set_option maxHeartbeats 4000000
/-! RB13: plain rules for comprehensions and loops -/
namespace RB
open PySem PySem.Spec PyProof.Rows L2
theorem paired_snoc {α β : Type} {F : α → β → Prop} {x : α} {y : β} (h : F x y) : ∀ {l : List α} {l' : List β}, Paired F l l' → Paired F (l ++ [x]) (l' ++ [y])
  | [], [], .nil => .cons h .nil
  | _ :: _, _ :: _, .cons a t => .cons a (paired_snoc h t)
/-- one turn of a comprehension -/
abbrev LcStep (tg : Tg0) (tt : DTT) (el : DTE) (δ : DSt) (d : D) (C : Option D → Prop) : Prop := setD tg d δ fun δ' => tt δ' (fun b => Br b (el δ' (fun r => fzQ r fun r' => match r'.d? with
    | some d' => C (some d')
    | none => False) (fun _ => False)) (C none)) (fun _ => False)
theorem LcS.of {ds : List D} {tg : Tg0} {tt : DTT} {el : DTE} {δ : DSt} {Q : RV → Prop} (R : D → Option D → Prop) (hz : ds.length ≤ sizeLine) (hs : ∀ d ∈ ds, ∀ C : Option D → Prop, (∀ o, R d o → C o) → LcStep tg tt el δ d C)
    (hq : ∀ os, Paired R ds os → Q (.own (os.filterMap id))) : LcS ds tg tt el δ Q := by
  refine ⟨hz, fun k acc => ∃ os, Paired R (ds.take k) os ∧ acc = os.filterMap id, ⟨[], .nil, rfl⟩, fun k acc d hd ⟨os, hp, ha⟩ hl => ?_, fun acc ⟨os, hp, ha⟩ hl => ?_⟩
  · have hk : k < ds.length := (List.getElem?_eq_some_iff.mp hd).1
    have e : ds.take (k + 1) = ds.take k ++ [d] := by rw [List.take_add_one, hd]; rfl
    refine hs d (List.mem_of_getElem? hd) (fun o => match o with
      | some d' => ∃ os, Paired R (ds.take (k + 1)) os ∧ acc ++ [d'] = os.filterMap id
      | none => ∃ os, Paired R (ds.take (k + 1)) os ∧ acc = os.filterMap id) fun o ho => ?_
    cases o with
    | none => exact ⟨os ++ [none], by rw [e]; exact paired_snoc ho hp, by rw [List.filterMap_append, ← ha]; simp⟩
    | some d' => exact ⟨os ++ [some d'], by rw [e]; exact paired_snoc ho hp, by rw [List.filterMap_append, ← ha]; simp⟩
  · subst ha
    exact hq os (by rw [List.take_length] at hp; exact hp)
theorem paired_det {g : D → Option D} : ∀ {ds : List D} {os : List (Option D)}, Paired (fun d o => o = g d) ds os → os = ds.map g
  | [], _, .nil => rfl
  | _ :: _, _, .cons h t => by rw [List.map_cons, h, paired_det t]
theorem LcS.det {ds : List D} {tg : Tg0} {tt : DTT} {el : DTE} {δ : DSt} {Q : RV → Prop} (g : D → Option D) (hz : ds.length ≤ sizeLine) (hs : ∀ d ∈ ds, ∀ C : Option D → Prop, C (g d) → LcStep tg tt el δ d C)
    (hq : Q (.own (ds.filterMap g))) : LcS ds tg tt el δ Q := .of (fun d o => o = g d) hz (fun d hd C hC => hs d hd C (hC _ rfl)) fun os hp => by
  rw [paired_det hp, List.filterMap_map]
  exact hq
/-- a map -/
theorem LcS.map {ds : List D} {tg : Tg0} {tt : DTT} {el : DTE} {δ : DSt} {Q : RV → Prop} (g : D → D) (hz : ds.length ≤ sizeLine) (hs : ∀ d ∈ ds, ∀ C : Option D → Prop, C (some (g d)) → LcStep tg tt el δ d C)
    (hq : Q (.own (ds.map g))) : LcS ds tg tt el δ Q := .det (fun d => some (g d)) hz hs (by
  have e : ds.filterMap (fun d => some (g d)) = ds.map g := by induction ds with
    | nil => rfl
    | cons d ds ih => simp
  rw [e]; exact hq)
/-- draws: one for each -/
theorem LcS.some {ds : List D} {tg : Tg0} {tt : DTT} {el : DTE} {δ : DSt} {Q : RV → Prop} (R : D → D → Prop) (hz : ds.length ≤ sizeLine) (hs : ∀ d ∈ ds, ∀ C : Option D → Prop, (∀ d', R d d' → C (Option.some d')) → LcStep tg tt el δ d C)
    (hq : ∀ es, Paired R ds es → Q (.own es)) : LcS ds tg tt el δ Q := .of (fun d o => ∃ d', o = Option.some d' ∧ R d d') hz (fun d hd C hC => hs d hd C fun d' r => hC _ ⟨d', rfl, r⟩) fun os hp => by
  have key : ∀ {ds : List D} {os : List (Option D)}, Paired (fun d o => ∃ d', o = Option.some d' ∧ R d d') ds os → ∃ es, os.filterMap id = es ∧ Paired R ds es := by
    intro ds os h
    induction h with
    | nil => exact ⟨[], rfl, .nil⟩
    | cons h t ih =>
      obtain ⟨d', rfl, r⟩ := h
      obtain ⟨es, e, p⟩ := ih
      exact ⟨d' :: es, by simp [e], .cons r p⟩
  obtain ⟨es, e, p⟩ := key hp
  rw [e]
  exact hq es p
theorem Br.dec {p : Prop} [Decidable p] {A B : Prop} (h1 : p → A) (h2 : ¬ p → B) : Br (decide p) A B := ⟨fun e => h1 (of_decide_eq_true e), fun e => h2 (of_decide_eq_false e)⟩
theorem Br.ndec {p : Prop} [Decidable p] {A B : Prop} (h1 : ¬ p → A) (h2 : p → B) : Br (!decide p) A B := ⟨fun e => h1 (by simpa using e), fun e => h2 (by simpa using e)⟩
theorem Br.t {A B : Prop} (h : A) : Br true A B := ⟨(fun _ => h), (fun e => nomatch e)⟩
theorem Br.f {A B : Prop} (h : B) : Br false A B := ⟨(fun e => nomatch e), (fun _ => h)⟩
theorem mulR {a b : Int} (h1 : -(2 ^ 64) < b) (h2 : b < 2 ^ 64) : MulOk a b := .inl (.inr ⟨h1, h2⟩)
theorem mulL {a b : Int} (h1 : -(2 ^ 64) < a) (h2 : a < 2 ^ 64) : MulOk a b := .inl (.inl ⟨h1, h2⟩)
theorem divOk {j : Int} (h : 0 < j) (h2 : j < 2 ^ 64) : DivOk j := ⟨h, by
  have : j.natAbs.log2 < 64 := (Nat.log2_lt (by omega)).mpr (by omega)
  omega⟩
theorem atI_nat {ds : List D} {i : Int} (h0 : 0 ≤ i) (h1 : i < ds.length) : L2.atI ds i = some (ds[i.toNat]'(by omega)) := by
  unfold L2.atI L2.ixN
  rw [if_pos h0, if_pos h1, Option.bind_some, List.getElem?_eq_getElem]
theorem szLine {n : Nat} (h : n < 2 ^ 20) : n ≤ sizeLine := by
  have : (2 : Nat) ^ 20 ≤ sizeLine := by decide
  omega
end RB

set_option Elab.async false
set_option linter.all false
set_option maxRecDepth 100000
set_option maxHeartbeats 4000000
/-! RB14: a law's end, own errors within -/
namespace RB
open PySem PySem.Spec PyProof.Rows L2
theorem walkW {l : PySem.W.OpenLaw} {n k : Nat} {q : Program} {loose : List Str} {XP : (Str → Option Value) → Heap → Prop} {YP : World → Heap → Prop} {d : DefRec} {x : Str} (hn : l.most = some n) (hn2 : n ≤ sizeLine) (hdf : d.params.defaults = []) (hr : Room k callerA)
    (F : ∀ (w : World) (mg : Str → Option Value) (fa : Addr) (h : Heap), YP w h → h.Ns mainGlobals mg → mg d.name = some (.ref fa) →
      ∃ (K : PySem.W.Frag) (fd : FuncData) (sp : Sp), K.In h ∧ (∀ (s : Shared) (u : Value), BindsTo s fd ⟨[u], []⟩ [(x, u)]) ∧ (∀ (H : Hp) (a : Addr) (ns : List Int), ns.length ≤ n → Only H → SqL K H a (ns.map V.int) → sp [.ref a] H (fun v _ => v = .bl true) fun _ _ _ => False) ∧
        ∀ base : Heap, K.In base → base.Ns mainGlobals mg → FnOk l.prog w K mg base (L2N.CX l.prog w) k fa fd [x] sp) : PySem.W.WalkO q loose XP YP l.row.toRowW d [] (fun f vs => PySem.call f vs) := by
  refine Att.attach_call hn hdf fun w s0 s1 mg mb fa o pm cd doc a vs ns Gr Yh ho hd hcd hmg hobj hints hlen hgen => ?_
  obtain ⟨K, fd, sp, KX, hb, hsp, hF⟩ := F w mg fa _ Yh Gr.T.g hmg
  refine law_call KX Gr.T.g Gr.T.b Gr.T.builtins Gr.T.nolimit hgen hobj hints (Nat.le_trans hlen hn2) hr hF hb (fun H hO hS => hsp H a ns hlen hO hS) fun H e s' h => ?_
  obtain ⟨_, _, _, _, _, _, _, _, _, _, _, _, z⟩ := h
  exact z
end RB

set_option Elab.async false
set_option linter.all false
set_option maxRecDepth 100000
set_option maxHeartbeats 4000000
/-! RB15: zip of lists, bool -/
namespace RB
open PySem PySem.Spec PyProof.Rows L2
def zipD (xs ys : List D) : List D := (xs.zip ys).map fun p => .tuple [p.1, p.2]
theorem zipD_length (xs ys : List D) : (zipD xs ys).length = min xs.length ys.length := by unfold zipD; rw [List.length_map, List.length_zip]
theorem zipD_get {xs ys : List D} {i : Nat} {x y : D} (h1 : xs[i]? = some x) (h2 : ys[i]? = some y) : (zipD xs ys)[i]? = some (.tuple [x, y]) := by
  unfold zipD
  have e : (xs.zip ys)[i]? = some (x, y) := List.getElem?_zip_eq_some.mpr ⟨h1, h2⟩
  rw [List.getElem?_map, e]
  rfl
theorem walk_zip {K : PySem.W.Frag} {M : Addr → Prop} {G : Hp} {a b : Addr} {xs ys : List V} {ds es : List D} (h1 : G a = some (.lst xs)) (q1 : DtA K G xs ds) (h2 : G b = some (.lst ys)) (q2 : DtA K G ys es) : WalkD K M G (Itz K a b) (zipD ds es) where
  go := fun i G2 H2 s w hi => by
    rw [zipD_length] at hi
    obtain ⟨v, e1, _⟩ := q1.get (List.getElem?_eq_getElem (show i < ds.length by omega))
    obtain ⟨u, e2, _⟩ := q2.get (List.getElem?_eq_getElem (show i < es.length by omega))
    exact ⟨xs, ys, v, u, SqL.of (w.sub _ _ (s _ _ h1)), SqL.of (w.sub _ _ (s _ _ h2)), e1, e2⟩
  yld := fun i G2 H2 x H' s w hi y => by
    obtain ⟨T, v, u, rfl, hT, rfl, f1, f2⟩ := y
    obtain ⟨d, ed, dd⟩ := q1.getV (f1 xs (SqL.of (w.sub _ _ (s _ _ h1))))
    obtain ⟨c, ec, dc⟩ := q2.getV (f2 ys (SqL.of (w.sub _ _ (s _ _ h2))))
    have su : Same G2 (upd G2 T (.tup [v, u])) := same_upd (w.noG hT)
    exact ⟨_, upd G2 T (.tup [v, u]), zipD_get ed ec, w.allocG hT, Ext.allocG w hT, .tup (SqT.of upd_same) (.cons ((dd.mono s).mono su) (.cons ((dc.mono s).mono su) .nil))⟩
  stop := fun i G2 H2 s w hi => by
    rw [zipD_length] at hi
    refine ⟨xs, ys, SqL.of (w.sub _ _ (s _ _ h1)), SqL.of (w.sub _ _ (s _ _ h2)), ?_⟩
    rw [q1.length, q2.length]
    omega
def sZip (da db : DTE) : DSrc := fun δ Q X => dCons da (dCons db dNil) δ (fun rs => match rs with
  | [r1, r2] => (match r1.d?, r2.d? with
    | some (.list xs), some (.list ys) => Q (zipD xs ys)
    | _, _ => False)
  | _ => False) X
theorem aok_lst {K : PySem.W.Frag} {M : Addr → Prop} {HB G : Hp} {v : V} {ds : List D} : ∀ {r : RV}, AOk K M HB G v r → r.d? = some (.list ds) → ∃ a xs, v = .ref a ∧ G a = some (.lst xs) ∧ DtA K G xs ds
  | .dat d, h, e => by
    cases e
    cases (show Dt K G v (.list ds) from h) with
    | lst h1 h2 => exact ⟨_, _, rfl, h1, h2⟩
  | .new d, h, e => by
    cases e
    cases Nw.dt h with
    | lst h1 h2 => exact ⟨_, _, rfl, h1, h2⟩
  | .own _, h, _ => h.elim
  | .view _, h, _ => h.elim
  | .raw _, _, e => nomatch e
  | .sto, _, e => nomatch e
theorem di_zip {X : Cx} {W : WX} {a b : Expr} {da db : DTE} {p pos tpos : Pos} {elts : List Expr} {kk : Nat} (hm : X.mg "zip" = none) (ha : PE X a (lE X.K W da)) (hb : PE X b (lE X.K W db)) (hg : Gl X "zip" := by rfl) (hs : starEach [a, b] X.env = (false, eval a X.env) :: starEach [b] X.env := by rfl) (hs2 : starEach [b] X.env = (false, eval b X.env) :: starEach [] X.env := by rfl)
    (hpl : (backTo pos (starEach [b] X.env)).any (·.1) = false := by rfl) : PI X (.Tuple elts kk tpos) (.Call (.Name "zip" p) [a, b] [] pos) (lI X.K W (sZip da db)) := by
  refine (pi_zip hg hm (da_cons ha (da_cons hb da_nil hs2) hs) hs hpl).imp fun σ H R h => ?_
  obtain ⟨B, δ, G, Q2, X2, R', h, kq, kx⟩ := h
  refine ⟨B, δ, G, _, X2, R', h, fun rs vs G1 H1 w1 t1 o1 q1 => ?_, kx⟩
  split at q1
  · rename_i r1 r2
    cases o1 with
    | cons o1 o => cases o with
      | cons o2 o =>
        cases o
        split at q1
        · rename_i xs ys e1 e2
          obtain ⟨a1, x1, rfl, g1, d1⟩ := aok_lst o1 e1
          obtain ⟨a2, x2, rfl, g2, d2⟩ := aok_lst o2 e2
          exact ⟨a1, a2, x1, x2, rfl, SqL.of (w1.sub _ _ g1), SqL.of (w1.sub _ _ g2), kq _ _ G1 H1 w1 t1 (walk_zip g1 d1 g2 d2) q1⟩
        · exact q1.elim
  · exact q1.elim
def bBool (r : RV) (Q : RV → Prop) : Prop := match r.d? with
  | some (.int i) => Q (.dat (.bool (i != 0)))
  | some (.bool b) => Q (.dat (.bool b))
  | _ => False
theorem o1_bool {K : PySem.W.Frag} : Op1 K (fun xs H Q => (∃ i, xs = [.int i] ∧ Q (.bl (i != 0)) H) ∨ ∃ k, xs = [.bl k] ∧ Q (.bl k) H) bBool := by
  intro M HB H0 G H x r1 Q2 Q w o1 hf k
  unfold bBool at hf
  split at hf
  · rename_i i e
    have ez := o1.int e
    subst ez
    exact .inl ⟨i, rfl, k (.dat (.bool _)) _ G H w .refl (Dt.bl _) hf⟩
  · rename_i i e
    have ez := o1.bool e
    subst ez
    exact .inr ⟨i, rfl, k (.dat (.bool _)) _ G H w .refl (Dt.bl _) hf⟩
  · exact hf.elim
end RB

set_option Elab.async false
set_option linter.all false
set_option maxRecDepth 100000
set_option maxHeartbeats 4000000
/-! RB16: len(set(list of ints)), the ints not told distinct -/
namespace RB
open PySem PySem.Spec PyProof.Rows L2
def dedup (ns : List Int) : List Int := ns.foldl step_dedup []
theorem met_dedup (ns : List Int) : firstMet (fun i => ns.getD i 0) ns.length = dedup ns := by
  unfold firstMet dedup
  congr 1
  apply List.ext_getElem?
  intro i
  rw [List.getElem?_map]
  by_cases h : i < ns.length
  · rw [List.getElem?_range h, List.getElem?_eq_getElem h]
    show some (ns.getD i 0) = _
    rw [List.getD_eq_getElem?_getD, List.getElem?_eq_getElem h]
    rfl
  · rw [List.getElem?_eq_none (by simpa using h), List.getElem?_eq_none (by simpa using h)]
    rfl
theorem dedup_le (ns : List Int) : (dedup ns).length ≤ ns.length := by
  rw [← met_dedup]
  exact firstMet_length_le _ _
def tLenSetA (K : PySem.W.Frag) (ta : TE) : TE := fun σ H Q => ta σ H fun x H1 => ∃ (l : Addr) (ns : List Int), x = .ref l ∧ SqL K H1 l (ns.map V.int) ∧ ns.length ≤ 4000 ∧ Q (.int ((dedup ns).length : Nat)) H1
theorem pe_lenSetA {X : Cx} {a : Expr} {ta : TE} {p p2 q pos : Pos} (hg : Gl X "len") (hm : X.mg "len" = none) (hg2 : Gl X "set") (hm2 : X.mg "set" = none) (ha : PE X a ta) (hc : X.calm = true := by rfl)
    (na : starEach [a] X.env = (false, eval a X.env) :: starEach [] X.env := by rfl) : PE X (.Call (.Name "len" p) [.Call (.Name "set" p2) [a] [] q] [] pos) (tLenSetA X.K ta) := by
  refine ⟨fun pins s σ H Q I h => ?_⟩
  refine Call_ (ld_blt I hg hm boot_len ?_)
  refine PyProof.Rows.callWith_builtin1 (PyProof.Rows.args_cons ?_ rfl) rfl rfl
  refine Call_ (ld_blt I hg2 hm2 boot_set ?_)
  refine PyProof.Rows.callWith_type1 (PyProof.Rows.args_cons (thn (ha.run pins s σ H _ I h) fun v s1 ⟨x, H1, I1, r1, q1⟩ => PyProof.Rows.args_nil ?_) na) na rfl
  obtain ⟨l, ns, rfl, hq, hl, q1⟩ := q1
  cases r1
  obtain ⟨its, r, pl, hz⟩ := I1.list hq
  have hlen : its.toArray.size = ns.length := by rw [List.size_toArray, ← r.length, List.length_map]
  refine call_set_list (I1.ok.hd hc) pl.isList (by simpa using RZ.intsAre_vals r) (by rw [hlen]; unfold scanBound; omega) fun h' tk hS hk => ?_
  refine PyProof.Rows.args_nil ?_
  rw [hlen, met_dedup] at hS
  have hle := dedup_le ns
  obtain ⟨o, es, ep, t, ho, hex, hd, _, _, _, hf, hn⟩ := hS
  have I2 : Inv X pins σ H1 { s1 with heap := h', toks := tk } := I1.kept fun b o e => hk b o (Heap.lt_size e) e
  exact call_len_set ho hex hd hf (by rw [hn] <;> omega) ⟨.int (dedup ns).length, H1, I2.tok _, ⟨_, by rw [hn]⟩, q1⟩
def bLenSet (r : RV) (Q : RV → Prop) : Prop := match r.d? with
  | some (.list ds) => ∃ ns : List Int, ds = ns.map PyData.int ∧ ns.length ≤ 4000 ∧ Q (.dat (.int ((dedup ns).length : Nat)))
  | _ => False
section
variable {X : Cx} {W : WX} {a : Expr} {da : DTE} {p p2 q pos : Pos}
theorem de_lenSet (hc : X.calm = true) (hm : X.mg "len" = none) (hm2 : X.mg "set" = none) (ha : PE X a (lE X.K W da)) (hg : Gl X "len" := by rfl) (hg2 : Gl X "set" := by rfl)
    (na : starEach [a] X.env = (false, eval a X.env) :: starEach [] X.env := by rfl) : PE X (.Call (.Name "len" p) [.Call (.Name "set" p2) [a] [] q] [] pos) (lE X.K W (dUn bLenSet da)) := by
  refine (pe_lenSetA hg hm hg2 hm2 ha hc na).imp fun σ H Q h => ?_
  obtain ⟨B, δ, G, Q2, X2, R, h, k, kx⟩ := h
  refine ⟨B, δ, G, _, X2, R, h, fun r v G1 H1 w1 t1 o1 q1 => ?_, kx⟩
  unfold bLenSet at q1
  split at q1
  · rename_i ds e
    obtain ⟨ns, rfl, hl, q⟩ := q1
    obtain ⟨a, us, rfl, h1, d1⟩ := o1.lst w1.sub e
    have eu := DtA.intsV d1
    subst eu
    exact ⟨a, ns, rfl, SqL.of h1, hl, k (.dat (.int _)) _ G1 H1 w1 t1 (Dt.int _) q⟩
  · exact q1.elim
end
end RB

set_option Elab.async false
set_option linter.all false
set_option maxRecDepth 100000
set_option maxHeartbeats 4000000
/-! RB17: an own dict whose keys are ints -/
namespace RB
open PySem PySem.Spec PyProof.Rows L2
abbrev Kvs := List (Int × D)
def getK (kvs : Kvs) (k : Int) : Option D := (kvs.find? fun p => decide (p.1 = k)).map (·.2)
def putD (kvs : Kvs) (k : Int) (d : D) : Kvs := if (getK kvs k).isSome then kvs.map (fun p => if p.1 = k then (p.1, d) else p) else kvs ++ [(k, d)]
theorem getK_nil {k : Int} : getK [] k = none := rfl
theorem getK_cons {i k : Int} {d : D} {kvs : Kvs} : getK ((i, d) :: kvs) k = if i = k then some d else getK kvs k := by
  unfold getK
  rw [List.find?_cons]
  by_cases h : i = k
  · rw [if_pos h]; simp [h]
  · rw [if_neg h]; simp [h]
theorem getK_snoc {i k : Int} {d : D} {kvs : Kvs} (h : getK kvs i = none) : getK (kvs ++ [(i, d)]) k = if i = k then some d else getK kvs k := by
  induction kvs with
  | nil => exact getK_cons
  | cons p kvs ih =>
    obtain ⟨j, e⟩ := p
    rw [getK_cons] at h
    by_cases hj : j = i
    · rw [if_pos hj] at h; cases h
    · rw [if_neg hj] at h
      rw [List.cons_append, getK_cons, getK_cons, ih h]
      by_cases h1 : j = k
      · rw [if_pos h1, if_neg (fun z => hj (h1.trans z.symm)), if_pos h1]
      · rw [if_neg h1, if_neg h1]
theorem putD_new {kvs : Kvs} {k : Int} {d : D} (h : getK kvs k = none) : putD kvs k d = kvs ++ [(k, d)] := by
  unfold putD
  rw [h]
  rfl
section
variable {K : PySem.W.Frag} {G : Hp}
theorem DicA.get {k : Int} : ∀ {hs : List (Key × V)} {kvs : Kvs}, DicA K G hs kvs → (getK kvs k = none ∧ valV hs (.inl k) = none) ∨ ∃ d v, getK kvs k = some d ∧ valV hs (.inl k) = some v ∧ Dt K G v d
  | _, _, .nil => .inl ⟨rfl, rfl⟩
  | _, _, .cons (i := i) (v := v) (d := d) h t => by
    rw [getK_cons]
    by_cases e : i = k
    · rw [if_pos e]
      exact .inr ⟨d, v, rfl, valV_pos (by rw [e]), h⟩
    · rw [if_neg e, valV_neg (fun z => e (Sum.inl.inj z))]
      exact t.get
theorem DicA.len : ∀ {hs : List (Key × V)} {kvs : Kvs}, DicA K G hs kvs → hs.length = kvs.length
  | _, _, .nil => rfl
  | _, _, .cons _ t => by rw [List.length_cons, List.length_cons, t.len]
theorem DicA.app {k : Int} {v : V} {d : D} (h : Dt K G v d) : ∀ {hs : List (Key × V)} {kvs : Kvs}, DicA K G hs kvs → DicA K G (hs ++ [(.inl k, v)]) (kvs ++ [(k, d)])
  | _, _, .nil => .cons h .nil
  | _, _, .cons h' t => .cons h' (t.app h)
theorem DicA.chg {k : Int} {v : V} {d : D} (h : Dt K G v d) : ∀ {hs : List (Key × V)} {kvs : Kvs}, DicA K G hs kvs → DicA K G (hs.map fun kv => if kv.1 = .inl k then (kv.1, v) else kv) (kvs.map fun p => if p.1 = k then (p.1, d) else p)
  | _, _, .nil => .nil
  | _, _, .cons (i := i) h' t => by
    rw [List.map_cons, List.map_cons]
    by_cases e : i = k
    · rw [if_pos (show Sum.inl i = Sum.inl k by rw [e]), if_pos e]
      exact .cons h (t.chg h)
    · rw [if_neg (show ¬ (Sum.inl i : Key) = Sum.inl k from fun z => e (Sum.inl.inj z)), if_neg e]
      exact .cons h' (t.chg h)
theorem DicA.put {k : Int} {v : V} {d : D} {hs : List (Key × V)} {kvs : Kvs} (h : Dt K G v d) (q : DicA K G hs kvs) : DicA K G (putK hs (.inl k) v) (putD kvs k d) := by
  unfold putK putD
  rw [valV_any]
  rcases q.get (k := k) with ⟨h1, h2⟩ | ⟨d', v', h1, h2, _⟩
  · rw [h1, h2]
    exact q.app h
  · rw [h1, h2]
    exact q.chg h
end
def killD : Sl → Sl
  | .dic _ => .no
  | s => s
def isDic (s : Sl) (Q : Kvs → Prop) : Prop := match s with
  | .dic kvs => Q kvs
  | _ => False
theorem isDic_some {s : Sl} {Q : Kvs → Prop} (h : isDic s Q) : ∃ kvs, s = .dic kvs ∧ Q kvs := by
  cases s <;> first | exact ⟨_, rfl, h⟩ | exact h.elim
/-- k in d, k not in d -/
def dDicIn (neg : Bool) (i : Nat) (de : DTE) : DTE := fun δ Q X => isDic (δ.getD i .no) fun kvs => de δ (fun r => isI r fun k => Q (.dat (.bool (if neg then !(getK kvs k).isSome else (getK kvs k).isSome)))) X
/-- d[k] -/
def dDicGet (i : Nat) (de : DTE) : DTE := fun δ Q X => isDic (δ.getD i .no) fun kvs => de δ (fun r => isI r fun k => ∃ d, getK kvs k = some d ∧ Q (.dat d)) X
def dDicLen (i : Nat) : DTE := fun δ Q _ => isDic (δ.getD i .no) fun kvs => Q (.dat (.int (kvs.length : Nat)))
/-- d = {} -/
def dDicNew (i : Nat) : DTS := fun D δ => D.nx (δ.set i (.dic []))
/-- d[k] = v -/
def dDicPut (i : Nat) (dj de : DTE) : DTS := fun D δ => isDic (δ.getD i .no) fun kvs => de δ (fun r => fzQ r fun r' => match r'.d? with
  | some d => dj δ (fun r2 => isI r2 fun k => kvs.length < 2 ^ 20 ∧ D.nx ((δ.map killD).set i (.dic (putD kvs k d)))) (fun C => D.ex C δ)
  | none => False) (fun C => D.ex C δ)
section
variable {X : Cx} {W : WX} {st : Stmt} {e ix : Expr} {de dj : DTE} {pos pos' p p1 p2 : Pos} {x : Str} {i : Nat}
theorem dic_at {K : PySem.W.Frag} {B : Base} {δ : DSt} {σ : St} {G H : Hp} {Q : Kvs → Prop} (R : Rel K B δ σ G H) (h : isDic (δ.getD i .no) Q) : ∃ kvs a hs, Q kvs ∧ δ[i]? = some (.dic kvs) ∧ σ[i]? = some (some (.ref a)) ∧ B.H a = none ∧ G a = none ∧ ¬ B.M a ∧ H a = some (.dK hs) ∧ DicA K G hs kvs := by
  obtain ⟨kvs, e, q⟩ := isDic_some h
  have ed := getD_some e fun z => nomatch z
  obtain ⟨y, e1, a, hs, rfl, b1, b2, b3, b4, b5⟩ := R.at ed
  exact ⟨kvs, a, hs, q, ed, e1, b1, b2, b3, b4, b5⟩
theorem de_dicGet (i : Nat) (hu : X.A.units + 64 < cLine) (hj : PE X ix (lE X.K W dj)) (hs : NoSl ix := by intro _ _; rfl) (hN : X.N[i]? = some x := by rfl) (hv : Vis X.env.scope x := by first | exact Or.inl rfl | exact Or.inr (Or.inl rfl) | exact Or.inr (Or.inr rfl)) (hd : (x == ("__debug__" : Str)) = false := by decide)
    (hcd : (x == ("__classdict__" : Str)) = false := by decide) : PE X (.Subscript (.Name x p) ix pos) (lE X.K W (dDicGet i dj)) := (pe_dget (by omega) (pe_var hN hv hd hcd) hj hs).imp fun σ H Q h => by
  obtain ⟨B, δ, G, Q2, X2, R, h, k, kx⟩ := h
  obtain ⟨kvs, a, hs, q, ed, e1, b1, b2, b3, b4, b5⟩ := dic_at R h
  refine ⟨.ref a, e1, B, δ, G, _, X2, R, q, fun r v G1 H1 w1 t1 o1 q1 => ?_, kx⟩
  obtain ⟨j, rfl, d, g, q⟩ := isI_ok o1 q1
  rcases (b5.mono t1.gg).get (k := j) with ⟨z, _⟩ | ⟨d', v, z, z2, hd⟩
  · rw [z] at g; cases g
  · rw [z] at g
    cases g
    refine ⟨a, v, rfl, ?_, k (.dat _) v G1 H1 w1 t1 hd q⟩
    rw [← z2]
    exact DGet.k (k := .inl j) (t1.hh a _ b3 b4)
theorem dic_some {K : PySem.W.Frag} {G : Hp} {hs : List (Key × V)} {kvs : Kvs} (q : DicA K G hs kvs) (k : Int) : (valV hs (.inl k)).isSome = (getK kvs k).isSome := by
  rcases q.get (k := k) with ⟨z, z2⟩ | ⟨d', v, z, z2, _⟩ <;> rw [z, z2] <;> rfl
theorem dic_in {K : PySem.W.Frag} {td ty : TE} {neg : Bool} (htd : ∀ {σ : St} {H : Hp} {Q : VK} {a : Addr}, σ[i]? = some (some (.ref a)) → Q (.ref a) H → td σ H Q) (hty : ∀ σ H Q, lE K W dj σ H Q → ty σ H Q) {σ : St} {H : Hp} {Q : VK} (h : lE K W (dDicIn neg i dj) σ H Q) :
    ty σ H fun y H1 => td σ H1 fun x H2 => ∃ a o, x = .ref a ∧ DGet H2 a y o ∧ Q (.bl (if neg then !o.isSome else o.isSome)) H2 := by
  obtain ⟨B, δ, G, Q2, X2, R, h, k, kx⟩ := h
  obtain ⟨kvs, a, hs, q, ed, e1, b1, b2, b3, b4, b5⟩ := dic_at R h
  refine hty _ _ _ ⟨B, δ, G, _, X2, R, q, fun r v G1 H1 w1 t1 o1 q1 => ?_, kx⟩
  obtain ⟨j, rfl, q⟩ := isI_ok o1 q1
  refine htd e1 ⟨a, _, rfl, DGet.k (k := .inl j) (t1.hh a _ b3 b4), ?_⟩
  rw [dic_some b5]
  exact k (.dat (.bool _)) _ G1 H1 w1 t1 (Dt.bl _) q
theorem de_dicin (i : Nat) (hu : X.A.units + 64 < cLine) (hj : PE X ix (lE X.K W dj)) (hN : X.N[i]? = some x := by rfl) (hv : Vis X.env.scope x := by first | exact Or.inl rfl | exact Or.inr (Or.inl rfl) | exact Or.inr (Or.inr rfl)) (hd : (x == ("__debug__" : Str)) = false := by decide)
    (hcd : (x == ("__classdict__" : Str)) = false := by decide) : PE X (.Compare ix [.In] [.Name x p] pos) (lE X.K W (dDicIn false i dj)) := (pe_cmp (pc_din (by omega) hj (pe_var hN hv hd hcd)) (by rfl)).imp fun σ H Q h => dic_in (fun e q => ⟨_, e, q⟩) (fun _ _ _ h => h) h
theorem dt_dicin (i : Nat) (hu : X.A.units + 64 < cLine) (hj : PE X ix (lE X.K W dj)) (hN : X.N[i]? = some x := by rfl) (hv : Vis X.env.scope x := by first | exact Or.inl rfl | exact Or.inr (Or.inl rfl) | exact Or.inr (Or.inr rfl)) (hd : (x == ("__debug__" : Str)) = false := by decide)
    (hcd : (x == ("__classdict__" : Str)) = false := by decide) : PT X (.Compare ix [.In] [.Name x p] pos) (lT X.K W (dB (dDicIn false i dj))) := (pt_cmp (pc_din (by omega) hj (pe_var hN hv hd hcd)) (by rfl)).imp fun σ H Q h => lT_of (fun _ _ _ h => dic_in (fun e q => ⟨_, e, q⟩) (fun _ _ _ h => h) h) h
theorem de_dicnotin (i : Nat) (hu : X.A.units + 64 < cLine) (hj : PE X ix (lE X.K W dj)) (hN : X.N[i]? = some x := by rfl) (hv : Vis X.env.scope x := by first | exact Or.inl rfl | exact Or.inr (Or.inl rfl) | exact Or.inr (Or.inr rfl)) (hd : (x == ("__debug__" : Str)) = false := by decide)
    (hcd : (x == ("__classdict__" : Str)) = false := by decide) : PE X (.Compare ix [.NotIn] [.Name x p] pos) (lE X.K W (dDicIn true i dj)) := (pe_cmp (pc_dnotin (by omega) hj (pe_var hN hv hd hcd)) (by rfl)).imp fun σ H Q h => dic_in (fun e q => ⟨_, e, q⟩) (fun _ _ _ h => h) h
theorem dt_dicnotin (i : Nat) (hu : X.A.units + 64 < cLine) (hj : PE X ix (lE X.K W dj)) (hN : X.N[i]? = some x := by rfl) (hv : Vis X.env.scope x := by first | exact Or.inl rfl | exact Or.inr (Or.inl rfl) | exact Or.inr (Or.inr rfl)) (hd : (x == ("__debug__" : Str)) = false := by decide)
    (hcd : (x == ("__classdict__" : Str)) = false := by decide) : PT X (.Compare ix [.NotIn] [.Name x p] pos) (lT X.K W (dB (dDicIn true i dj))) := (pt_cmp (pc_dnotin (by omega) hj (pe_var hN hv hd hcd)) (by rfl)).imp fun σ H Q h => lT_of (fun _ _ _ h => dic_in (fun e q => ⟨_, e, q⟩) (fun _ _ _ h => h) h) h
theorem de_dicLen (i : Nat) (hm : X.mg "len" = none) (hN : X.N[i]? = some x := by rfl) (hv : Vis X.env.scope x := by first | exact Or.inl rfl | exact Or.inr (Or.inl rfl) | exact Or.inr (Or.inr rfl)) (hd : (x == ("__debug__" : Str)) = false := by decide)
    (hcd : (x == ("__classdict__" : Str)) = false := by decide) (hg : Gl X "len" := by rfl) (he : starEach [.Name x p2] X.env = (false, eval (.Name x p2) X.env) :: starEach [] X.env := by rfl) (hpl : (backTo pos (starEach [] X.env)).any (·.1) = false := by rfl) :
    PE X (.Call (.Name "len" p) [.Name x p2] [] pos) (lE X.K W (dDicLen i)) := (pe_callB call_lenD hg hm boot_len (pa_cons (pe_var hN hv hd hcd) pa_nil he) (by decide) (by decide) he hpl).imp fun σ H Q h => by
  obtain ⟨B, δ, G, Q2, X2, R, h, k, kx⟩ := h
  obtain ⟨kvs, a, hs, q, ed, e1, b1, b2, b3, b4, b5⟩ := dic_at R h
  refine ⟨.ref a, e1, a, hs, rfl, b4, ?_⟩
  rw [b5.len]
  exact k (.dat (.int _)) _ G H R.wd .refl (Dt.int _) q
theorem ds_dicNew {i : Nat} (hN : X.N.Nodup) (hi : X.N[i]? = some x := by rfl) (hx : Loc X.env.scope x := by first | exact Or.inl rfl | exact Or.inr rfl) (hs : swapsWith (.Dict [] [] p) (some (.Name x pos')) pos.line X.env = pure false := by rfl) (hf : X.fn x = true ∨ X.env.scope.names.lookup x = some .local := by first | exact .inl rfl | exact .inr rfl | assumption) :
    PS X (.Assign [.Name x pos'] (.Dict [] [] p) pos) (lS X.K W (dDicNew i)) := (ps_set hN hi hx pe_dnewK hs hf).imp fun D σ H h => by
  obtain ⟨B, δ, G, D2, R, k, h⟩ := h
  intro p hp
  have w := R.wd.alloc (o := .dK []) hp
  exact k.nx _ _ G _ (R.set w (Ext.alloc hp) (i := i) (s := .dic []) ⟨p, [], rfl, none_early R.ext.hm p hp, R.wd.noG hp, R.wd.nm hp, upd_same, .nil⟩ (fun _ _ z => nomatch z)) h
theorem getD_kill {δ : DSt} {j : Nat} {s : Sl} (h : (δ.map killD)[j]? = some s) : ∃ s0, δ[j]? = some s0 ∧ s = killD s0 := by
  rw [List.getElem?_map] at h
  cases e : δ[j]? with
  | none => rw [e] at h; cases h
  | some s0 => rw [e] at h; exact ⟨s0, rfl, (Option.some.inj h).symm⟩
theorem Rel.put {K : PySem.W.Frag} {B : Base} {δ : DSt} {σ : St} {G H : Hp} {kvs' : Kvs} {a : Addr} {hs hs' : List (Key × V)} (R : Rel K B δ σ G H) {i : Nat} (e2 : σ[i]? = some (some (.ref a))) (b1 : B.H a = none) (b2 : G a = none) (b3 : ¬ B.M a) (b4 : H a = some (.dK hs)) (q : DicA K G hs' kvs') :
    Rel K B ((δ.map killD).set i (.dic kvs')) σ G (upd H a (.dK hs')) := by
  have hn : H a ≠ none := by rw [b4]; exact fun z => nomatch z
  have back : ∀ {j : Nat} {us : List D}, ((δ.map killD).set i (.dic kvs'))[j]? = some (.own us) → δ[j]? = some (.own us) := fun {j us} f => by
    by_cases hj : i = j
    · subst hj
      rw [List.getElem?_set, if_pos rfl] at f
      split at f <;> cases f
    · rw [List.getElem?_set_ne hj] at f
      obtain ⟨s0, e, z⟩ := getD_kill f
      cases s0 <;> cases z
      exact e
  refine ⟨(sto_upd R.wd b3 b2 hn).1, ⟨fun b o m h => ?_, R.ext.gg, R.ext.fr, fun b h => ?_⟩, by rw [List.length_set, List.length_map]; exact R.len, fun j s' x f1 f2 => ?_, fun j l c us vs f1 f2 f3 f4 => R.sep j l c us vs (back f1) (back f2) f3 f4⟩
  · have ne : b ≠ a := fun z => by rw [z, b1] at h; cases h
    rw [upd_ne ne]
    exact R.ext.hh b o m h
  · by_cases z : b = a
    · subst z; rw [upd_same]; exact fun y => nomatch y
    · rw [upd_ne z]; exact R.ext.hm b h
  · by_cases hj : i = j
    · subst hj
      rw [e2] at f2
      cases f2
      rw [List.getElem?_set, if_pos rfl] at f1
      split at f1
      · cases f1
        exact ⟨a, hs', rfl, b1, b2, b3, upd_same, q⟩
      · cases f1
    · rw [List.getElem?_set_ne hj] at f1
      obtain ⟨s0, e, z⟩ := getD_kill f1
      subst z
      have z := R.sl j s0 x e f2
      cases s0 with
      | own us =>
        obtain ⟨c, zs, rfl, c1, c2, c3, c4, c5⟩ := z
        have ne : c ≠ a := fun z => by rw [z, b4] at c4; cases c4
        exact ⟨c, zs, rfl, c1, c2, c3, by rw [upd_ne ne]; exact c4, c5⟩
      | dic us => trivial
      | tre d =>
        obtain ⟨v, e, q⟩ := z
        refine ⟨v, e, q.imp (fun c xs h1 h0 h2 h3 h4 => ⟨h1, h0, h2, h3, ?_⟩) (fun c xs h1 h2 => ⟨sqT_upd b4 ⟨fun _ z => (nomatch z), fun _ _ z => (nomatch z)⟩ h1, h2⟩) (fun _ _ z => z)⟩
        have ne : c ≠ a := fun z => h1 (by rw [z, b1])
        rw [upd_ne ne]; exact h4
      | no => exact z
      | dat d => exact z
      | new d => exact z
      | raw v => exact z
      | sto => exact z
theorem ds_dicPut {i : Nat} (hu : X.A.units + 64 < cLine) (he : PE X e (lE X.K W de)) (hj : PE X ix (lE X.K W dj)) (hN : X.N[i]? = some x := by rfl) (hv : Vis X.env.scope x := by first | exact Or.inl rfl | exact Or.inr (Or.inl rfl) | exact Or.inr (Or.inr rfl)) (hd : (x == ("__debug__" : Str)) = false := by decide)
    (hcd : (x == ("__classdict__" : Str)) = false := by decide) (hs : swapsWith e (some (.Subscript (.Name x p1) ix p2)) pos.line X.env = pure false := by rfl) :
    PS X (.Assign [.Subscript (.Name x p1) ix p2] e pos) (lS X.K W (dDicPut i dj de)) := (ps_dput (by omega) (pe_var hN hv hd hcd) hj he hs).imp fun D σ H h => by
  obtain ⟨B, δ, G, D2, R, k, h⟩ := h
  obtain ⟨kvs, a, hs, q, ed, e1, b1, b2, b3, b4, b5⟩ := dic_at R h
  refine ⟨B, δ, G, _, _, R, q, fun r v G1 H1 w1 t1 o1 q1 => ?_, k.xok⟩
  obtain ⟨r', f1, q1⟩ := fzQ_some q1
  obtain ⟨G2, w2, t2, s2, o2⟩ := o1.fz w1 t1 f1
  split at q1
  · rename_i d f2
    have R2 := R.step w2 t2
    refine ⟨_, e1, B, δ, G2, _, _, R2, q1, fun r3 v3 G3 H3 w3 t3 o3 q3 => ?_, k.xok⟩
    obtain ⟨j, rfl, hl, q⟩ := isI_ok o3 q3
    have R3 := R2.step w3 t3
    have hH := t3.hh a _ b3 (t2.hh a _ b3 b4)
    have t23 := t2.trans t3
    have hG3 : G3 a = none := t23.fr a (by rw [b4]; exact fun z => nomatch z) b2
    refine ⟨a, _, rfl, DPut.k (k := .inl j) hH (Nat.lt_of_lt_of_le (by rw [b5.len]; exact hl) (by decide : 2 ^ 20 ≤ sizeLine)), ?_⟩
    exact k.nx _ _ G3 _ (R3.put e1 b1 hG3 b3 hH (((b5.mono t2.gg).mono t3.gg).put ((fz_d o2 f2).mono t3.gg))) q
  · exact q1.elim
end
end RB

set_option Elab.async false
set_option linter.all false
set_option maxRecDepth 100000
set_option maxHeartbeats 4000000
/-! RB18: the place of an entry, the least and the greatest entry -/
namespace RB
open PySem PySem.Spec PyProof.Rows L2
def dIndex (da de : DTE) : DTE := fun δ Q X => da δ (fun r1 => match r1.d? with
  | some (.list ds) => de δ (fun r2 => isI r2 fun k => ∃ (ns : List Int) (j : Nat), ds = ns.map PyData.int ∧ ns[j]? = some k ∧ (∀ m < j, ns[m]? ≠ some k) ∧ Q (.dat (.int (j : Nat)))) X
  | _ => False) X
theorem flat_ints (ns : List Int) : (ns.map V.int).all flatV = true := by
  rw [List.all_eq_true]
  intro v hv
  obtain ⟨n, _, rfl⟩ := List.mem_map.mp hv
  rfl
section
variable {X : Cx} {W : WX} {o e : Expr} {da de : DTE} {p2 p3 p pos : Pos}
theorem de_index (ha : PE X o (lE X.K W da)) (he : PE X e (lE X.K W de)) (hcall : ∀ {t1 : TE} {t2 : TA}, PE X o t1 → PA X [e] t2 → PE X (.Call (.Attribute o "index" p2) [e] [] p3) (tBM X.K "list" (rIndex X.K) t1 t2)) (hst : starEach [e] X.env = (false, eval e X.env) :: starEach [] X.env := by rfl) :
    PE X (.Call (.Attribute o "index" p2) [e] [] p3) (lE X.K W (dIndex da de)) := (hcall ha (pa_cons he pa_nil hst)).imp fun σ H Q h => by
  obtain ⟨B, δ, G, Q2, X2, R, h, k, kx⟩ := h
  refine ⟨B, δ, G, _, X2, R, h, fun r x G1 H1 w1 t1 o1 q1 => ?_, kx⟩
  split at q1
  · rename_i ds e1
    obtain ⟨a, xs, rfl, hH, q⟩ := o1.lst w1.sub e1
    refine ⟨.inl ⟨rfl, _, SqL.of hH⟩, B, δ, G1, _, X2, R.step w1 t1, q1, fun r2 y G2 H2 w2 t2 o2 q2 => ?_, kx⟩
    obtain ⟨i, rfl, ns, j, e2, e3, e4, q3⟩ := isI_ok o2 q2
    subst e2
    obtain ⟨a', xs', e5, hH2, q'⟩ := (o1.mono t2).lst w2.sub e1
    cases e5
    have e6 := q'.intsV
    subst e6
    refine ⟨a, _, .int i, j, .int i, rfl, rfl, SqL.of hH2, rfl, flat_ints ns, by rw [List.getElem?_map, e3]; rfl, by show (i == i) = true; exact beq_self_eq_true i, fun m z hm hz => ?_, k (.dat (.int _)) _ G2 H2 w2 (t1.trans t2) (Dt.int _) q3⟩
    rw [List.getElem?_map] at hz
    cases e7 : ns[m]? with
    | none => rw [e7] at hz; cases hz
    | some n =>
      rw [e7] at hz
      cases hz
      have : n ≠ i := fun z => e4 m hm (by rw [e7, z])
      show (n == i) = false
      exact beq_eq_false_iff_ne.mpr this
  · exact q1.elim
end
def bMin1 (r : RV) (Q : RV → Prop) : Prop := match r.d? with
  | some (.list ds) => ∃ ns : List Int, ds = ns.map PyData.int ∧ 0 < ns.length ∧ ∀ m ∈ ns, (∀ y ∈ ns, m ≤ y) → Q (.dat (.int m))
  | _ => False
def bMax1 (r : RV) (Q : RV → Prop) : Prop := match r.d? with
  | some (.list ds) => ∃ ns : List Int, ds = ns.map PyData.int ∧ 0 < ns.length ∧ ∀ m ∈ ns, (∀ y ∈ ns, y ≤ m) → Q (.dat (.int m))
  | _ => False
theorem o1_min1 {K : PySem.W.Frag} : Op1 K (rMin K) bMin1 := by
  intro M HB H0 G H x r1 Q2 Q w o1 hf k
  unfold bMin1 at hf
  split at hf
  · rename_i ds e
    obtain ⟨ns, rfl, hn, hf⟩ := hf
    obtain ⟨a, xs, rfl, hH, q⟩ := o1.lst w.sub e
    have e6 := q.intsV
    subst e6
    exact ⟨a, ns, rfl, SqL.of hH, hn, fun m hm hy => k (.dat (.int m)) _ G H w .refl (Dt.int _) (hf m hm hy)⟩
  · exact hf.elim
theorem o1_max1 {K : PySem.W.Frag} : Op1 K (rMax K) bMax1 := by
  intro M HB H0 G H x r1 Q2 Q w o1 hf k
  unfold bMax1 at hf
  split at hf
  · rename_i ds e
    obtain ⟨ns, rfl, hn, hf⟩ := hf
    obtain ⟨a, xs, rfl, hH, q⟩ := o1.lst w.sub e
    have e6 := q.intsV
    subst e6
    exact ⟨a, ns, rfl, SqL.of hH, hn, fun m hm hy => k (.dat (.int m)) _ G H w .refl (Dt.int _) (hf m hm hy)⟩
  · exact hf.elim
end RB

set_option Elab.async false
set_option linter.all false
set_option maxRecDepth 100000
set_option maxHeartbeats 4000000
/-! RB19: an integer in a tuple of integers -/
namespace RB
open PySem PySem.Spec PyProof.Rows L2
def bInT (neg : Bool) (r1 r2 : RV) (Q : RV → Prop) : Prop := match r1.d?, r2.d? with
  | some (.int i), some (.tuple ds) => ∃ ns : List Int, ds = ns.map PyData.int ∧ Q (.dat (.bool (if neg then !decide (i ∈ ns) else decide (i ∈ ns))))
  | _, _ => False
section
variable {K : PySem.W.Frag}
theorem o2_inT {neg : Bool} : Op2 K (rIn K neg) (bInT neg) := by
  intro M HB H0 G H x y r1 r2 Q2 Q w o1 o2 hf k
  unfold bInT at hf
  split at hf
  · rename_i i ds e1 e2
    obtain ⟨ns, rfl, q⟩ := hf
    obtain ⟨a, us, rfl, h1, d1⟩ := o2.tup e2
    have eu := DtA.intsV d1
    have ex := o1.int e1
    subst eu ex
    refine ⟨a, _, rfl, .inr (same_sqT w.sub h1), rfl, by rw [List.all_eq_true]; intro v hv; obtain ⟨n, _, rfl⟩ := List.mem_map.mp hv; rfl, ?_⟩
    rw [inV_ints]
    exact k (.dat (.bool _)) _ G H w .refl (Dt.bl _) q
  · exact hf.elim
end
section
variable {X : Cx} {W : WX} {a b : Expr} {da db : DTE} {pos : Pos}
theorem de_inT (ha : PE X a (lE X.K W da)) (hb : PE X b (lE X.K W db)) (hm : behindInMarks .In b = false) : PE X (.Compare a [.In] [b] pos) (lE X.K W (dBin (bInT false) da db)) := de_cmp op_in_seq o2_inT ha hb hm
theorem dt_inT (ha : PE X a (lE X.K W da)) (hb : PE X b (lE X.K W db)) (hm : behindInMarks .In b = false) : PT X (.Compare a [.In] [b] pos) (lT X.K W (dB (dBin (bInT false) da db))) := dt_cmp op_in_seq o2_inT ha hb hm
theorem de_notinT (ha : PE X a (lE X.K W da)) (hb : PE X b (lE X.K W db)) (hm : behindInMarks .NotIn b = false) : PE X (.Compare a [.NotIn] [b] pos) (lE X.K W (dBin (bInT true) da db)) := de_cmp op_notIn_seq o2_inT ha hb hm
theorem dt_notinT (ha : PE X a (lE X.K W da)) (hb : PE X b (lE X.K W db)) (hm : behindInMarks .NotIn b = false) : PT X (.Compare a [.NotIn] [b] pos) (lT X.K W (dB (dBin (bInT true) da db))) := dt_cmp op_notIn_seq o2_inT ha hb hm
end
end RB

set_option Elab.async false
set_option linter.all false
set_option maxRecDepth 100000
set_option maxHeartbeats 4000000
/-! RB20: list comprehensions while an exception is handled -/
namespace RB
open PySem PySem.Spec PyProof.Rows L2 L2H HotX
/-- the block's context, the handled exception still pinned -/
abbrev blkH (X : Cx) (s : Shared) (H : Hp) (scope : Scope) (ce : Env) (fp : List Addr) : Cx := { Cx.blk X s H scope ce fp with pn := X.pn }
section
variable {X : Cx} {σ : St} {g : TG} {tt : TT} {te : TE} {wi : TI} {scope : Scope} {elt tg iter : Expr} {ifs : List Expr} {pos : Pos}
theorem blk_hot {pins : List (Addr × Obj)} {H : Hp} {s : Shared} {own : List (Str × Nat)} {fp : List Addr} (I : Inv X pins σ H s) (ok : BlkOk X.N X.env.scope scope own) (hN : X.N.Nodup) (hf : ∀ b ∈ fp, FpOk X pins H b ∧ b < s.heap.objs.size) :
    Inv (blkH X s H scope (compEnvC scope (cellsFrom (s.heap.objs.size + 1) scope.names (cloFrom X.env.cells scope.names [])) s.heap.objs.size X.env) fp) [] (wipe σ (own.map (·.2))) H { s with heap := pushCells (s.heap.push { cls := .type "dict", data := .dict #[] }) scope.names } := by
  have J := block_start I ok hN hf
  have q := J.ok
  refine ⟨⟨q.mod, q.kind, q.glob, q.blt, q.above, q.inj, q.has, q.cab, q.hd, q.frames, q.stk, q.exf, q.bs, q.bsz, q.noex, q.exfs, q.funs, q.frf⟩, J.os, J.bare, J.base, J.loc, J.cell, J.free, J.freeC, fun p hp => ?_, J.hok, J.len⟩
  have hp : p ∈ X.pn := by simpa using hp
  obtain ⟨g1, g2, g3, g4, g5⟩ := I.pin p (List.mem_append_left _ hp)
  exact ⟨pushCells_keeps _ _ _ _ (Heap.get?_push_of_some _ g1), g2, Nat.ne_of_lt (Heap.lt_size g1), fun m => (List.mem_cons.mp (I.stkSub p.1 m)).elim g3 g4, g5⟩
/-- what the turns promise -/
def TurnsD (J : It) (D : Addr) (g : TG) (tt : TT) (te : TE) (vs : List Nat) (σ : St) (W : Nat → Nat → Hp → Prop) (Qd : Hp → Prop) : Prop := ∀ i m H, W i m H →
  (J.stop i H ∧ Qd H) ∨ (J.go i H ∧ ∃ Nx : Hp → Prop, (∀ H', Nx H' → ∃ m', m' < m ∧ W (i + 1) m' H') ∧ ∀ x H', J.yld i H x H' → g x (wipe σ vs) H' fun σ2 H2 => wipe σ2 vs = wipe σ vs ∧ tt σ2 H2 fun b H3 =>
    if b = true then te σ2 H3 fun y H4 => ∃ acc, H4 D = some (.lst acc) ∧ acc.length < sizeLine ∧ Nx (upd H4 D (.lst (acc ++ [y]))) else Nx H3)
theorem loop_hot {H3 : Hp} {s3 s4 : Shared} {ce : Env} {fp : List Addr} {J : It} {it D : Addr} {tn : Nat → Heap → Prop} {W : Nat → Nat → Hp → Prop} {m0 : Nat} {R : Result → Shared → Prop} {vs : List Nat} {Qd : Hp → Prop}
    (T : TurnH X.prog X.w X.K tg J fp it tn) (hc : HotC X) (pg : PG (blkH X s3 H3 scope ce fp) tg g) (pt : PTs (blkH X s3 H3 scope ce fp) ifs tt) (pe : PE (blkH X s3 H3 scope ce fp) elt te) (far : ∀ b ∈ fp, ∀ p ∈ X.pn, p.1 ≠ b)
    (I4 : Inv (blkH X s3 H3 scope ce fp) [] (wipe σ vs) H3 s4) (t4 : tn 0 s4.heap) (n4 : ∀ b ∈ fp, H3 b = none) (w0 : W 0 m0 H3) (turns : TurnsD J D g tt te vs σ W Qd)
    (fin : ∀ s' H', Inv (blkH X s3 H3 scope ce fp) [] (wipe σ vs) H' s' → Qd H' → R (.ok .next) s') :
    codeAny (model X.prog X.w) X.A (.compLoop (.ListComp elt [⟨tg, iter, ifs, 0⟩] scope pos) 0 (.ref it) (.ref D) ce) R s4 := by
  have hb : HotC (blkH X s3 H3 scope ce fp) := hc
  have fo : ∀ {σ' : St} {H' : Hp} {s' : Shared}, Inv (blkH X s3 H3 scope ce fp) [] σ' H' s' → (∀ b ∈ fp, H' b = none) → ∀ b ∈ fp, FpOk (blkH X s3 H3 scope ce fp) [] H' b := fun {σ' H' s'} K hn b m =>
    ⟨hn b m, (K.ok.exf b m).1, K.ok.exfs b m, .inl m, fun x c e => (K.ok.exf b m).2 x c e, fun p hp => far b m p (by simpa using hp)⟩
  refine compLoop_any (fun n s' => ∃ i H', Inv (blkH X s3 H3 scope ce fp) [] (wipe σ vs) H' s' ∧ tn i s'.heap ∧ (∀ b ∈ fp, H' b = none) ∧ W i n H') ?_ m0 ⟨0, H3, I4, t4, n4, w0⟩
  rintro n s5 ⟨i, H5, I5, t5, n5, w5⟩
  rcases turns i n H5 w5 with ⟨stop, done⟩ | ⟨go, Nx, less, step⟩
  · refine thnF (T.done (blkH X s3 H3 scope ce fp) rfl rfl rfl hb i [] s5 _ H5 (fun _ _ => False) I5 (fo I5 n5) t5 stop) fun r s6 hr => ?_
    obtain ⟨e, I6⟩ := hr
    subst e
    exact fin s6 H5 I6 done
  refine thnF (T.item (blkH X s3 H3 scope ce fp) rfl rfl rfl hb i [] s5 _ H5 (fun _ _ => False) I5 (fo I5 n5) t5 go) fun r s6 hr => ?_
  obtain ⟨u, e, own⟩ := hr
  subst e
  refine thnF own fun _ s7 hx => ?_
  obtain ⟨x, H7, I7, rx, yl, t7, n7⟩ := hx
  have P7 := I7.pinned (fo I7 n7) (T.obj _ _ t7)
  have next : ∀ {σ8 : St} {H' : Hp} {s' : Shared}, wipe σ8 vs = wipe σ vs → Inv (blkH X s3 H3 scope ce fp) ([] ++ pinsAt fp s7.heap) σ8 H' s' → Nx H' →
      ∃ m, m < n ∧ ∃ i H', Inv (blkH X s3 H3 scope ce fp) [] (wipe σ vs) H' s' ∧ tn i s'.heap ∧ (∀ b ∈ fp, H' b = none) ∧ W i m H' := fun {σ8 H' s'} ew K nx => by
    obtain ⟨m, lt, w⟩ := less H' nx
    have at7 : ∀ b ∈ fp, ∀ o, s7.heap.get? b = some o → s'.heap.get? b = some o ∧ H' b = none := fun b m o e => by
      have z := K.pin (b, o) (List.mem_append_right _ (List.mem_append_right _ (mem_pinsAt m e)))
      exact ⟨z.1, z.2.1⟩
    refine ⟨m, lt, i + 1, H', ?_, T.keep _ _ _ t7 fun b m o e => (at7 b m o e).1, fun b m => ?_, w⟩
    · refine (K.unpinned (pins := [])).weak ?_ fun j v e => ?_
      · rw [← ew, wipe_length]
      · rw [← ew] at e
        exact (wipe_some e).1
    · obtain ⟨o, e, _⟩ := T.obj _ _ t7 b m
      exact (at7 b m o e).2
  refine thnF (pg.run _ s7 _ H7 x u _ P7 rx (step x H7 yl)) fun _ s8 h8 => ?_
  obtain ⟨σ8, H8, I8, ew, h8⟩ := h8
  refine thnF (pt.run _ s8 σ8 H8 _ I8 h8) fun b s9 h9 => ?_
  obtain ⟨H9, I9, h9⟩ := h9
  cases b with
  | false => exact next ew I9 (by simpa using h9)
  | true =>
    have h9 : te σ8 H9 fun y H4 => ∃ acc, H4 D = some (.lst acc) ∧ acc.length < sizeLine ∧ Nx (upd H4 D (.lst (acc ++ [y]))) := by simpa using h9
    show wpAny _ _ (eval elt ce) _ _ _
    refine thnF (pe.run _ s9 σ8 H9 _ I9 h9) fun z s10 hz => ?_
    obtain ⟨y, H10, I10, ry, acc, e10, l10, nx⟩ := hz
    exact app_ok (X := blkH X s3 H3 scope ce fp) I10 e10 l10 ry fun s11 I11 => next ew I11 nx
theorem lc_hot {pins : List (Addr × Obj)} {H : Hp} {s : Shared} {Q : VK} {own : List (Str × Nat)} {pos' : Pos} {use : Option (Value → Sem Unit)} {Qf : Value → Shared → Prop} (hc : HotC X) (hN : X.N.Nodup) (I : Inv X pins σ H s) (hi : PIH X tg iter wi) (ok : BlkOk X.N X.env.scope scope own)
    (hg : ∀ (s : Shared) (H : Hp) (C : Addr) (cl : List (Str × Addr)) (fp : List Addr), PG (blkH X s H scope (compEnvC scope cl C X.env) fp) tg g) (ht : ∀ (s : Shared) (H : Hp) (C : Addr) (cl : List (Str × Addr)) (fp : List Addr), PTs (blkH X s H scope (compEnvC scope cl C X.env) fp) ifs tt)
    (he : ∀ (s : Shared) (H : Hp) (C : Addr) (cl : List (Str × Addr)) (fp : List Addr), PE (blkH X s H scope (compEnvC scope cl C X.env) fp) elt te) (hs : ∀ x, foldedSetIterable iter X.env x = pure x) (h : tLc wi g tt te (own.map (·.2)) σ H Q)
    (post : ∀ D C s' m H', Inv X pins σ H' s' → Q (.ref D) H' → s'.heap.Ns C m → FpOk X pins H' C → compPost (model X.prog X.w) X.A X.xe use Qf (.ref D) C (.ok .next) s') :
    wpAny (model X.prog X.w) X.A (comprehension (.ListComp elt [⟨tg, iter, ifs, 0⟩] scope pos) scope X.env pos' (newList []) false (eval iter X.env) use) Qf X.xe s := by
  have cl : ∀ y ∈ scope.names, y.2 = .free → ∃ c, X.env.cells.lookup y.1 = some c := fun y hy e => (ok.free y hy e).elim (fun k => I.ok.has _ (.inl k)) (fun k => I.ok.has _ (.inr k))
  refine wpAny_comprehension_free (use := use) rfl hs (closure_ok cl) ok.kind (fun y hy e => by rw [ok.uniq y hy, e]) (thn (hi.run pins s σ H _ I h) fun xv s1 h1 => thn h1 fun itv s2 h2 => ?_)
  obtain ⟨it, fp, tn, J, H2, e, I2, T, t2, f2, q⟩ := h2
  subst e
  refine wpAny_newObj_type (newEnv_comp ?_) (by show 0 ≤ sizeLine; decide)
  obtain ⟨W, ⟨m0, w0⟩, turns⟩ := q s2.heap.objs.size (I2.hok.fresh (Nat.le_refl _))
  have grow : ∀ b o, s2.heap.get? b = some o → (s2.heap.push { cls := .type "list", data := .seq ([] : List Value).toArray }).get? b = some o := fun b o e => Heap.get?_push_of_some _ e
  have I3 : Inv X pins σ (upd H2 s2.heap.objs.size (.lst [])) { s2 with heap := s2.heap.push { cls := .type "list", data := .seq ([] : List Value).toArray } } :=
    I2.laid (t' := s2.toks) grow (Nat.le_refl _) ⟨Nat.zero_le _, [], 0, .nil, Heap.get?_push_size _ rfl⟩
  have low : ∀ b ∈ fp, b < s2.heap.objs.size := fun b m => by
    obtain ⟨o, e, _⟩ := T.obj _ _ t2 b m
    exact Heap.lt_size e
  have f3 : ∀ b ∈ fp, FpOk X pins (upd H2 s2.heap.objs.size (.lst [])) b ∧ b < (s2.heap.push { cls := .type "list", data := .seq ([] : List Value).toArray }).objs.size := fun b m =>
    ⟨⟨by rw [upd_ne (Nat.ne_of_lt (low b m))]; exact (f2 b m).1, (f2 b m).2⟩, by rw [Heap.size_push]; exact Nat.lt_succ_of_lt (low b m)⟩
  generalize hs3 : ({ s2 with heap := s2.heap.push { cls := .type "list", data := .seq ([] : List Value).toArray } } : Shared) = s3 at I3
  have h3 : s3.heap = s2.heap.push { cls := .type "list", data := .seq ([] : List Value).toArray } := by rw [← hs3]
  rw [← h3] at f3
  have t3 : tn 0 s3.heap := T.keep _ _ _ t2 fun b _ o e => by rw [h3]; exact grow b o e
  have I4 := blk_hot I3 ok hN f3
  have t4 : tn 0 (pushCells (s3.heap.push { cls := .type "dict", data := .dict #[] }) scope.names) := T.keep _ _ _ t3 fun b _ o e => pushCells_keeps _ _ _ _ (Heap.get?_push_of_some _ e)
  have key : codeAny (model X.prog X.w) X.A (.compLoop (.ListComp elt [⟨tg, iter, ifs, 0⟩] scope pos) 0 (.ref it) (.ref s2.heap.objs.size) (compEnvC scope (cellsFrom (s3.heap.objs.size + 1) scope.names (cloFrom X.env.cells scope.names [])) s3.heap.objs.size X.env))
      (compPost (model X.prog X.w) X.A X.xe use Qf (.ref s2.heap.objs.size) s3.heap.objs.size) { s3 with heap := pushCells (s3.heap.push { cls := .type "dict", data := .dict #[] }) scope.names } := by
    refine loop_hot T hc (hg _ _ _ _ _) (ht _ _ _ _ _) (he _ _ _ _ _) (fun b m p hp => (f3 b m).1.2.2.2.2.2 p (List.mem_append_left _ hp)) I4 t4 (fun b m => (f3 b m).1.1) w0 turns fun s' H' K qd => ?_
    obtain ⟨m, hn, _⟩ := K.loc
    have back : Inv X pins σ H' s' := I3.call' (ch := fp) K.os K.base K.hok K.bare fun b m => ⟨(f3 b m).1.2.2.2.1, (f3 b m).1.2.1, (f3 b m).1.2.2.2.2.1, (f3 b m).1.2.2.2.2.2⟩
    exact post _ _ s' m H' back qd hn (I3.fpOk (Nat.le_refl _) K.free)
  have fin : codeAny (model X.prog X.w) X.A (.compStart (.ListComp elt [⟨tg, iter, ifs, 0⟩] scope pos) 0 (.ref it) (.ref s2.heap.objs.size) (compEnvC scope (cellsFrom (s3.heap.objs.size + 1) scope.names (cloFrom X.env.cells scope.names [])) s3.heap.objs.size X.env))
      (compPost (model X.prog X.w) X.A X.xe use Qf (.ref s2.heap.objs.size) s3.heap.objs.size) { s3 with heap := pushCells (s3.heap.push { cls := .type "dict", data := .dict #[] }) scope.names } := codeAny_compStart_list key (T.self X.A 0 _ _ _ t4 key)
  exact fin
/-- as a value -/
theorem pe_lcH {own : List (Str × Nat)} (hc : HotC X) (hN : X.N.Nodup) (hi : PIH X tg iter wi) (ok : BlkOk X.N X.env.scope scope own)
    (hg : ∀ (s : Shared) (H : Hp) (C : Addr) (cl : List (Str × Addr)) (fp : List Addr), PG (blkH X s H scope (compEnvC scope cl C X.env) fp) tg g) (ht : ∀ (s : Shared) (H : Hp) (C : Addr) (cl : List (Str × Addr)) (fp : List Addr), PTs (blkH X s H scope (compEnvC scope cl C X.env) fp) ifs tt)
    (he : ∀ (s : Shared) (H : Hp) (C : Addr) (cl : List (Str × Addr)) (fp : List Addr), PE (blkH X s H scope (compEnvC scope cl C X.env) fp) elt te) (hs : ∀ x, foldedSetIterable iter X.env x = pure x := by intro _; rfl) :
    PE X (.ListComp elt [⟨tg, iter, ifs, 0⟩] scope pos) (tLc wi g tt te (own.map (·.2))) := ⟨fun pins s σ H Q I h => by
  rw [eval_ListComp]
  refine lc_hot hc hN I hi ok hg ht he hs h fun D C s' m H' K q hn f => ?_
  obtain ⟨f0, f1, f2, f3, f4, f5⟩ := f
  exact ⟨m, hn, fun h'' sb => ⟨.ref D, H', K.turned (t' := s'.toks) (fun b o hb e => (sb.2 b hb).trans e) f0 f1 f3 f4 f5, rfl, q⟩⟩⟩
/-- name = [..], the name a local -/
theorem ps_setLcH {own : List (Str × Nat)} {i : Nat} {y : Str} {py spos : Pos} (hc : HotC X) (hN : X.N.Nodup) (hy : X.N[i]? = some y) (hyl : X.env.scope.names.lookup y = some .local)
    (hsw : swapsWith (.ListComp elt [⟨tg, iter, ifs, 0⟩] scope pos) (some (.Name y py)) spos.line X.env = pure true) (hi : PIH X tg iter wi) (ok : BlkOk X.N X.env.scope scope own)
    (hg : ∀ (s : Shared) (H : Hp) (C : Addr) (cl : List (Str × Addr)) (fp : List Addr), PG (blkH X s H scope (compEnvC scope cl C X.env) fp) tg g) (ht : ∀ (s : Shared) (H : Hp) (C : Addr) (cl : List (Str × Addr)) (fp : List Addr), PTs (blkH X s H scope (compEnvC scope cl C X.env) fp) ifs tt)
    (he : ∀ (s : Shared) (H : Hp) (C : Addr) (cl : List (Str × Addr)) (fp : List Addr), PE (blkH X s H scope (compEnvC scope cl C X.env) fp) elt te) (hs : ∀ x, foldedSetIterable iter X.env x = pure x := by intro _; rfl) :
    PS X (.Assign [.Name y py] (.ListComp elt [⟨tg, iter, ifs, 0⟩] scope pos) spos) (tAsg (tLc wi g tt te (own.map (·.2))) (gName i)) := ⟨fun pins s σ H D I h => by
  rw [exec_Assign_Name_used _ _ _ _ hsw]
  refine wpAny_bind (wpAny_standAt (wpAny_bind ?_))
  show wpAny _ X.A (do let _ ← comprehension (.ListComp elt [⟨tg, iter, ifs, 0⟩] scope pos) scope X.env (firstIterPos [⟨tg, iter, ifs, 0⟩] pos) (newList []) false (eval iter X.env) (some (assign (.Name y py) X.env))) _ _ s
  have h : tLc wi g tt te (own.map (·.2)) σ H (fun x H1 => gName i x σ H1 D.nx) := h
  refine wpAny_bind (thn (lc_hot (Qf := fun _ s' => SP X pins D .next s') hc hN I hi ok hg ht he hs h fun L C s' m H' K q hn f => ?_) fun _ s' z => wpAny_pure (wpAny_pure z))
  obtain ⟨f0, f1, f2, f3, f4, f5⟩ := f
  show wpAny _ _ (assign (.Name y py) X.env (.ref L)) _ _ _
  refine wpAny_assign_Name (store_ok2 (v := V.ref L) K hN hy (.inl hyl) rfl (fun s2 K2 hx => ?_) (.inr hyl))
  obtain ⟨a, sb, ha⟩ := hx
  have off : C ≠ a := ha.elim (fun z => by rw [z]; exact f1) fun z e => f4 y a z e.symm
  exact ⟨m, hn.sameBut sb off, fun h3 sb3 => ⟨_, H', K2.turned (t' := s2.toks) (fun b o hb e => (sb3.2 b hb).trans e) f0 f1 f3 f4 f5, q⟩⟩⟩
end
end RB

set_option Elab.async false
set_option linter.all false
set_option maxRecDepth 100000
set_option maxHeartbeats 4000000
/-! RB21: within a suite: calls of defs, their loops and comprehensions; isinstance of a built-in class -/
namespace RB
open PySem PySem.Spec PyProof.Rows L2 L2H HotX
theorem hot_suite {X : Cx} {a C : Addr} {oe : Obj} {pn : List (Addr × Obj)} (hz : L2N.Zn (.ref C) none oe) (hf : ∃ vs, oe.data = .fields vs) : HotC (X.suite a ((a, oe) :: pn)) := by
  obtain ⟨vs, hv⟩ := hf
  exact ⟨(a, oe), ⟨rfl, vs, hv, hz.2.2 vs hv⟩, List.mem_cons_self⟩
theorem takes0 {X : Cx} : L2N.Takes X W0 := fun u s' h => by
  obtain ⟨_, _, _, _, _, _, _, _, _, _, _, _, _, _, _, _, w⟩ := h
  exact w.elim
theorem room_suite {k : Nat} {X : Cx} {a : Addr} {pn : List (Addr × Obj)} (r : Room k X.A) : RoomH k (X.suite a pn).A := ⟨r.dp, r.un⟩
theorem huOfH {k : Nat} {A : Around} (hr : RoomH k A) : A.units + 64 < cLine := by have := hr.un; omega
/-- a def of the module keeps its promise where an exception is handled -/
structure OkH (P : Program) (w : World) (K : PySem.W.Frag) (mg : Str → Option Value) (base : Heap) (k : Nat) (x : Str) (n : Nat) (dsp : DSp) : Prop where
  ex : ∃ (f : Addr) (fd : FuncData) (ps : List Str), FnH P w K mg base (L2N.CX P w) k f fd ps (spD K n dsp) ∧ mg x = some (.ref f) ∧ PySem.W.keepIn K (.ref f) = true ∧ Binds K fd ps []
section
variable {X : Cx} {W : WX} {k kr n : Nat} {dsp : DSp} {x : Str} {p pos : Pos} {e : Expr} {es : List Expr} {dA : DTA}
theorem de_fnH (O : OkH X.prog X.w X.K X.mg X.base k x n dsp) (hr : RoomH kr X.A) (hc : HotC X) (tk : L2N.Takes X W) (ha : PA X (e :: es) (lA X.K W dA)) (hkr : k ≤ kr := by decide) (hg : Gl X x := by rfl) (hdb : (x == ("__debug__" : Str)) = false := by decide) (he : starEach (e :: es) X.env = (false, eval e X.env) :: starEach es X.env := by rfl) (hpl : (backTo pos (starEach es X.env)).any (·.1) = false := by rfl) :
    PE X (.Call (.Name x p) (e :: es) [] pos) (lE X.K W (dCall n dsp dA)) := by
  obtain ⟨f, fd, ps, F, hm, hk, hb⟩ := O.ex
  exact (pe_callH F (hr.mono hkr) hc hg hm hk hb (fun σ => L2N.passAt tk σ) ha hdb he hpl).imp fun _ _ _ h => lE_call h
end
section
variable {P : Program} {w : World} {K : PySem.W.Frag} {mg : Str → Option Value} {base : Heap} {fa : List Fb} {fn : List He.DefD}
abbrev cxHD (P : Program) (w : World) (K : PySem.W.Frag) (mg : Str → Option Value) (base : Heap) (N : List Str) (qual : Str) (st : Stmt) (f : Addr) (cdv : Value) (A : Around) (outer : List Env) (s : Shared) (H : Hp) (E : XK) (p : Addr × Obj) : Cx := cxH (L2N.CX P w) P w K mg base N qual (defScope st) f cdv A outer s H E p
abbrev BodyOkH (P : Program) (w : World) (K : PySem.W.Frag) (mg : Str → Option Value) (base : Heap) (N : List Str) (x : Str) (st : Stmt) (k : Nat) (body : DTS) : Prop :=
  ∀ (f : Addr) (cdv : Value) (A : Around) (outer : List Env) (s : Shared) (H : Hp) (E : XK) (p : Addr × Obj), HotC (cxHD P w K mg base N x st f cdv A outer s H E p) → RoomH k (A.deeper (envOfC x (defScope st) s.heap.objs.size f cdv)) → L2N.Takes (cxHD P w K mg base N x st f cdv A outer s H E p) (WE0 E) →
    PassesOwn (model P w) (cxHD P w K mg base N x st f cdv A outer s H E p).A (cxHD P w K mg base N x st f cdv A outer s H E p).env (cxHD P w K mg base N x st f cdv A outer s H E p).xe → PSs (cxHD P w K mg base N x st f cdv A outer s H E p) (defBody st) (lS K (WE0 E) body)
theorem okDH (X : K.In base) (G : base.Ns mainGlobals mg) (c : SaysR fa fn K) {al x : Str} {st : Stmt} {N ps : List Str} {k : Nat} {dsp : DSp} {body : DTS} (i : Nat) (hdef : fn[i]? = some (dfd2 al x st)) (g : mg al = some (.ref (He.ga K al))) (S : FnScope N ps (defScope st))
    (hbd : ∀ (kV doc pm : Value) (an : Option Addr) (cdv ct : Value) (us : List Value), us.length = ps.length → bindArgs (PySem.W.fnOf x x (defArgs st) (defBody st) (defScope st) .none kV doc pm an cdv ct) ⟨us, []⟩ = pure (ps.zip us))
    (hb : BodyOkH P w K mg base N x st k body) (hp : ∀ rs Q2 X2, rs.length = ps.length → dsp rs Q2 X2 → body (endD Q2 X2) (startD N rs)) : OkH P w K mg base (k + 1) al ps.length dsp := by
  obtain ⟨fd, F, FD⟩ := c.fun2 i hdef
  have kp := F.kp
  have B := FD.bindsN hbd
  obtain ⟨oc, od, kV, doc, pm, an, cdv, ct, osl, rfl, lk, hcd⟩ := F.ex
  refine ⟨_, _, ps, ?_, g, kp, B⟩
  refine fn_ofH lk hcd S (fun vs H Q E h => spD_len rfl vs H Q E h) fun A outer s H vs Q E p hot hr h => ⟨_, hb _ cdv A outer s H E p ⟨p, hot, List.mem_singleton.mpr rfl⟩ hr (L2N.takes_of rfl rfl rfl rfl) (passes_of rfl), ?_⟩
  obtain ⟨M, HB, G, rs, Q2, X2, wd, a, l, hd, kq, kx⟩ := h
  refine ⟨⟨M, G, H, noT⟩, startD N rs, G, endD Q2 X2, rel_start wd a, ⟨fun B' lb δ σ G' H' R q => kq (.dat .none) .non G' H' (lb.top R).1 (lb.top R).2 Dt.non q, fun _ _ _ _ _ _ _ q => q.elim, fun _ _ _ _ _ _ _ q => q.elim, fun B' lb r v δ σ G' H' R o' q' => kq r v G' H' (lb.top R).1 (lb.top R).2 (lb.rv o') q', fun B' lb C δ σ G' H' R q => kx C G' H' (lb.top R).1 (lb.top R).2 q⟩, hp rs Q2 X2 l hd⟩
end
/-! ### range, comprehensions -/
section
variable {X : Cx} {W : WX} {dr : DSrc} {tg0 : Tg0} {dt : DTT} {del de : DTE} {elt tg iter : Expr} {ifs : List Expr} {scope : Scope} {own : List (Str × Nat)} {p pos spos : Pos} {i : Nat} {y : Str} {py : Pos}
theorem pih_imp {wi wi' : TI} (h : PIH X tg iter wi) (k : ∀ σ H R, wi' σ H R → wi σ H R) : PIH X tg iter wi' := ⟨fun pins s σ H R I q => h.run pins s σ H R I (k σ H R q)⟩
theorem lIVH_of {dr : DSrc} (h : PIH X tg iter (lI X.K W dr)) : PIH X tg iter (lIV X.K W dr) := pih_imp h fun σ H R q => by
  obtain ⟨B, δ, G, Q2, X2, R', q, k, kx⟩ := q
  exact ⟨B, δ, G, Q2, X2, R', q, fun J ds G1 H1 w1 t1 wk => k J ds G1 H1 w1 t1 wk.v, kx⟩
theorem di_rng1H {a : Expr} (hm : X.mg "range" = none) (ha : PE X a (lE X.K W de)) (hg : Gl X "range" := by rfl) (hs : starEach [a] X.env = [(false, eval a X.env)] := by rfl) (hs2 : starEach [a] X.env = (false, eval a X.env) :: starEach [] X.env := by rfl) : PIH X tg (.Call (.Name "range" p) [a] [] pos) (lI X.K W (sRng1 de)) := by
  refine pih_imp (pi_range1H hg hm (pa_cons ha pa_nil hs2) hs) fun σ H R h => ?_
  obtain ⟨B, δ, G, Q2, X2, R', h, kq, kx⟩ := h
  refine ⟨B, δ, G, _, X2, R', h, fun r v G1 H1 w1 t1 o1 q1 => ?_, kx⟩
  obtain ⟨j, rfl, ⟨b1, b2⟩, q⟩ := isI_ok o1 q1
  exact ⟨j, rfl, b1, b2, kq _ _ G1 H1 w1 t1 walk_rng q⟩
theorem de_lcH (hu : tg0.ok (own.map (·.2)) = true) (hc : HotC X) (hN : X.N.Nodup) (hi : PIH X tg iter (lIV X.K W dr)) (ok : BlkOk X.N X.env.scope scope own)
    (hg : ∀ (s : Shared) (H : Hp) (C : Addr) (cl : List (Str × Addr)) (fp : List Addr), PG (blkH X s H scope (compEnvC scope cl C X.env) fp) tg (gTg X.K tg0)) (ht : ∀ (s : Shared) (H : Hp) (C : Addr) (cl : List (Str × Addr)) (fp : List Addr), PTs (blkH X s H scope (compEnvC scope cl C X.env) fp) ifs (lT X.K W0 dt))
    (he : ∀ (s : Shared) (H : Hp) (C : Addr) (cl : List (Str × Addr)) (fp : List Addr), PE (blkH X s H scope (compEnvC scope cl C X.env) fp) elt (lE X.K W0 del)) (hs : ∀ x, foldedSetIterable iter X.env x = pure x := by intro _; rfl) :
    PE X (.ListComp elt [⟨tg, iter, ifs, 0⟩] scope pos) (lE X.K W (dLc dr tg0 (own.map (·.2)) dt del)) := (pe_lcH hc hN hi ok hg ht he hs).imp fun _ _ _ h => lE_lc hu h
theorem ds_setLcH (hu : tg0.ok (own.map (·.2)) = true) (hc : HotC X) (hN : X.N.Nodup) (hsw : swapsWith (.ListComp elt [⟨tg, iter, ifs, 0⟩] scope pos) (some (.Name y py)) spos.line X.env = pure true) (hi : PIH X tg iter (lIV X.K W dr)) (ok : BlkOk X.N X.env.scope scope own)
    (hg : ∀ (s : Shared) (H : Hp) (C : Addr) (cl : List (Str × Addr)) (fp : List Addr), PG (blkH X s H scope (compEnvC scope cl C X.env) fp) tg (gTg X.K tg0)) (ht : ∀ (s : Shared) (H : Hp) (C : Addr) (cl : List (Str × Addr)) (fp : List Addr), PTs (blkH X s H scope (compEnvC scope cl C X.env) fp) ifs (lT X.K W0 dt))
    (he : ∀ (s : Shared) (H : Hp) (C : Addr) (cl : List (Str × Addr)) (fp : List Addr), PE (blkH X s H scope (compEnvC scope cl C X.env) fp) elt (lE X.K W0 del)) (hy : X.N[i]? = some y := by rfl) (hyl : X.env.scope.names.lookup y = some .local := by rfl) (hs : ∀ x, foldedSetIterable iter X.env x = pure x := by intro _; rfl) :
    PS X (.Assign [.Name y py] (.ListComp elt [⟨tg, iter, ifs, 0⟩] scope pos) spos) (lS X.K W (dSet i (dLc dr tg0 (own.map (·.2)) dt del))) := (ps_setLcH hc hN hy hyl hsw hi ok hg ht he hs).imp fun D σ H h => by
  obtain ⟨B, δ, G, D2, R, k, h⟩ := h
  exact lE_lc hu ⟨B, δ, G, _, _, R, h, fun r v G1 H1 w1 t1 o1 q1 => asgF_ok (Q := D.nx) R w1 t1 o1 q1 k.nx, k.xok⟩
/-! ### isinstance of a caught error and a built-in class -/
def dIsV (K : PySem.W.Frag) (i : Nat) (a C : Addr) (n : String) : DTE := fun δ Q _ => ExcC K C ∧ δ.getD i .no = .raw (.ref a) ∧ ∃ b, PySem.W.kitOne K (.ref C) (.type n) = some b ∧ Q (.dat (.bool b))
theorem boot_VE : bootBuiltins "ValueError" = some (.type "ValueError") := by decide +kernel
theorem de_isVE {a C : Addr} {oe : Obj} {pn : List (Addr × Obj)} {x : Str} {p2 p3 : Pos} (i : Nat) (hz : L2N.Zn (.ref C) none oe) (hf : ∃ vs, oe.data = .fields vs) (hm : X.mg "isinstance" = none) (hy : X.mg "ValueError" = none) (hN : X.N[i]? = some x := by rfl)
    (hv : Vis X.env.scope x := by first | exact Or.inl rfl | exact Or.inr (Or.inl rfl) | exact Or.inr (Or.inr rfl)) (hd : (x == ("__debug__" : Str)) = false := by decide) (hcd : (x == ("__classdict__" : Str)) = false := by decide) (hg : Gl X "isinstance" := by rfl) (hgy : Gl X "ValueError" := by rfl)
    (he : starEach [.Name x p2, .Name "ValueError" p3] X.env = (false, eval (.Name x p2) X.env) :: starEach [.Name "ValueError" p3] X.env := by rfl) (he2 : starEach [.Name "ValueError" p3] X.env = (false, eval (.Name "ValueError" p3) X.env) :: starEach [] X.env := by rfl) (hpl : (backTo pos (starEach [.Name "ValueError" p3] X.env)).any (·.1) = false := by rfl) :
    PE (X.suite a ((a, oe) :: pn)) (.Call (.Name "isinstance" p) [.Name x p2, .Name "ValueError" p3] [] pos) (lE X.K W (dIsV X.K i a C "ValueError")) := by
  refine (pe_callB (call_isE1 hz hf) hg hm boot_isinstance (pa_cons (pe_var hN hv hd hcd) (pa_cons (pe_bltn (v := .ty "ValueError") hgy hy boot_VE rfl) pa_nil he2) he) (by decide) (by decide) he hpl).imp fun σ H Q h => ?_
  obtain ⟨B, δ, G, Q2, X2, R, ⟨h0, h1, b, h2, h3⟩, k, kx⟩ := h
  refine ⟨.ref a, raw_at R h1, ?_⟩
  exact ⟨h0, .ty "ValueError", .type "ValueError", b, rfl, fun u h => h, h2, k (.dat (.bool b)) _ G _ R.wd .refl (Dt.bl _) h3⟩
end
end RB

set_option Elab.async false
set_option linter.all false
set_option maxRecDepth 100000
set_option maxHeartbeats 4000000
/-! RB22: walks along lists while an exception is handled -/
namespace RB
open PySem PySem.Spec PyProof.Rows L2 L2H HotX
theorem next_list_hot {prog : Program} {w : World} {A : Around} {E : Value → Shared → Prop} {s : Shared} {it l x1 : Addr} {i : Nat} {items : Array Value} {Q : Option Value → Shared → Prop} (hot : HotAt A x1 s.heap) (hit : s.heap.IsListIter it l i) (hl : s.heap.IsList l items) (hx : items[i]? = none)
    (hQ : ∀ h', (∀ b o, b ≠ it → s.heap.get? b = some o → h'.get? b = some o) → Q none { s with heap := h' }) : wpAny (model prog w) A (pyNext (.ref it)) Q E s := by
  obtain ⟨hh, o1, vs1, g1, d1, c1⟩ := hot
  obtain ⟨o, ho, hc, hd⟩ := id hit
  obtain ⟨ol, hol, _, nl, hdl⟩ := hl
  have off : x1 ≠ it := fun z => by
    rw [z, ho] at g1
    cases g1
    rw [hd] at d1
    cases d1
    cases c1
  unfold pyNext
  refine wpAny_bind (wpAny_attempt (wpAny_callSpecial?_slot (name := Str.ofString "__next__") hit.typeIs slot_listiter_next (wpAny_call_entry slot_listiter_next hit.typeIs entry_listiter_next ?_ (args_listiter_next _))))
  show wpAny _ _ (field (.ref it) 0 >>= _) _ _ s
  refine wpAny_bind (wpAny_field ho hd (x := .ref l) rfl ?_)
  show wpAny _ _ (if (Value.ref l == Value.none) = true then _ else _) _ _ s
  rw [if_neg (show ¬ ((Value.ref l == Value.none) = true) from Bool.false_ne_true)]
  show wpAny _ _ (field (.ref it) 1 >>= _) _ _ s
  refine wpAny_bind (wpAny_field ho hd (x := .int i 0) rfl ?_)
  show wpAny _ _ (seqItems? (.ref l) >>= _) _ _ s
  refine wpAny_bind (wpAny_seqItems hol hdl ?_)
  simp only [Int.toNat_natCast, hx]
  refine wpAny_bind (wpAny_rule (wpAny_bind (wpAny_setField ho hd (by simp) ?_)))
  show wpAny _ _ (newExc (.type "StopIteration") [] >>= _) _ _ _
  refine wpAny_bind ?_
  simp only [newExc, newTuple]
  refine wpAny_bind (wpAny_newObj_type ?_ (by size_fits))
  refine wpAny_bind (m := firstArgMember _ _) (wpAny_of_eq (a := Value.none) (by first | rfl | (simp only [firstArgMember]; rfl)) ?_)
  refine wpAny_newObj_type ?_ (by size_fits)
  have k1 : ∀ (f : Obj → Obj) (b : Addr) (o : Obj), b ≠ it → s.heap.get? b = some o → (s.heap.update it f).get? b = some o := fun f b o hb e => by rw [Heap.get?_update_other _ _ (Ne.symm hb)]; exact e
  refine raiseNew_hot ⟨hh, o1, vs1, Heap.get?_push_of_some _ (Heap.get?_push_of_some _ (k1 _ _ _ off g1)), d1, c1⟩ (Nat.ne_of_lt (Heap.lt_size (Heap.get?_push_of_some _ (k1 _ _ _ off g1)))) (Heap.get?_push_size _ rfl) rfl (by first | (simp; done) | (simp; omega) | (simp only [Array.size_append]; simp; omega)) ?_
  refine wpAny_bind (wpAny_isInstance (T := "StopIteration") (b := true) ⟨_, Heap.get?_update_self _ (Heap.get?_push_size _ rfl) rfl, rfl⟩ isSubtype_stop ?_)
  refine wpAny_pure (hQ _ fun b o hb e => ?_)
  rw [Heap.get?_update_other _ _ (Nat.ne_of_gt (Heap.lt_size (Heap.get?_push_of_some _ (k1 _ b o hb e))))]
  exact Heap.get?_push_of_some _ (Heap.get?_push_of_some _ (k1 _ b o hb e))
theorem turn_listH {P : Program} {w : World} {K : PySem.W.Frag} {tg : Expr} (a it : Addr) : TurnH P w K tg (Itl K a) [it] it (fun i h => h.IsListIter it a i) := by
  have T := turn_list (P := P) (w := w) (K := K) (tg := tg) a it
  refine ⟨T.mem, T.obj, T.keep, ?_, ?_, T.self⟩
  · intro X hP hw hK hc i pins s σ H E I hf st hg
    subst hP hw hK
    obtain ⟨xs, x, hq, hx⟩ := hg
    obtain ⟨its, rv, p, hz⟩ := I.list hq
    obtain ⟨u, hu, ru⟩ := rv.get hx
    obtain ⟨f0, f1, f2, f3, f4, f5⟩ := hf it (by simp)
    refine wpAny_pyNext_list_item st p.isList (x := u) (by simpa using hu) fun h' st' sb => ?_
    have J : Inv X pins σ H { s with heap := h' } := I.turned (t' := s.toks) (fun b o hb e => (sb.2 b hb).trans e) f0 f1 f3 f4 f5
    obtain ⟨o, e, c, d⟩ := id st'
    exact ⟨u, rfl, go_of (s := { s with heap := h' }) e c d (by decide) ⟨x, H, J, ru, ⟨rfl, fun ys hy => by rw [I.list_inj hy hq]; exact hx⟩, st', fun b hb => (hf b hb).1⟩⟩
  · intro X hP hw hK hc i pins s σ H E I hf st hg
    subst hP hw hK
    obtain ⟨xs, hq, hx⟩ := hg
    obtain ⟨its, rv, p, hz⟩ := I.list hq
    obtain ⟨f0, f1, f2, f3, f4, f5⟩ := hf it (by simp)
    have hl := rv.length
    obtain ⟨x1, hot⟩ := hc.at I
    exact next_list_hot hot st p.isList (by simp; omega) fun h' eb => ⟨rfl, I.turned (t' := s.toks) (fun b o hb e => eb b o hb e) f0 f1 f3 f4 f5⟩
section
variable {X : Cx} {W : WX} {tg : Expr} {de : DTE}
theorem pih_list {l : Expr} {tl : TE} (hl : PE X l tl) : PIH X tg l (iList X.K tl) := by
  refine ⟨fun pins s σ H R I h => ?_⟩
  refine thn (hl.run pins s σ H _ I h) fun v s1 hv => ?_
  obtain ⟨x, H1, I1, r1, a, e, ⟨xs, hq⟩, q⟩ := hv
  subst e
  cases r1
  obtain ⟨its, rv, p, hz⟩ := I1.list hq
  refine wpAny_pyIter_list p.isList ?_
  refine ⟨s1.heap.objs.size, [s1.heap.objs.size], _, _, H1, rfl, I1.kept (t' := s1.toks) fun b o e => Heap.get?_push_of_some _ e, turn_listH a _, ⟨_, Heap.get?_push_size _ rfl, rfl, rfl⟩, fun b hb => ?_, q⟩
  have e : b = s1.heap.objs.size := by simpa using hb
  subst e
  exact I1.fpOk (Nat.le_refl _) (I1.hok.fresh (Nat.le_refl _))
variable {s : DTS} {pos : Pos}
theorem di_lstH {tg : Expr} {e : Expr} (he : PE X e (lE X.K W de)) : PIH X tg e (lI X.K W (sLst de)) := by
  refine pih_imp (pih_list he) fun σ H R h => ?_
  obtain ⟨B, δ, G, Q2, X2, R', h, kq, kx⟩ := h
  refine ⟨B, δ, G, _, X2, R', h, fun r v G1 H1 w1 t1 o1 q1 => ?_, kx⟩
  obtain ⟨r', e1, q1⟩ := fzQ_some q1
  obtain ⟨G2, w2, t2, s2, o2⟩ := o1.fz w1 t1 e1
  have fin : ∀ ds : List D, Dt X.K G2 v (.list ds) → Q2 ds → ∃ a, v = .ref a ∧ (∃ xs, SqL X.K H1 a xs) ∧ R (Itl X.K a) H1 := fun ds dd q => by
    cases dd with
    | lst h1 h2 => exact ⟨_, rfl, ⟨_, SqL.of (w2.sub _ _ h1)⟩, kq _ ds G2 H1 w2 t2 (walk_list h1 h2) q⟩
  cases r' with
  | dat d =>
    cases d with
    | list ds => exact fin ds o2 q1
    | _ => exact q1.elim
  | new d =>
    cases d with
    | list ds => exact fin ds (Nw.dt o2) q1
    | _ => exact q1.elim
  | own ds => exact o2.elim
  | view ds => exact o2.elim
  | raw _ => exact q1.elim
  | sto => exact q1.elim
theorem ds_forH {tg : Expr} {iter : Expr} {body : List Stmt} {dr : DSrc} {tg0 : Tg0} (hp : PassesOwn (model X.prog X.w) X.A X.env X.xe) (hc : HotC X) (hi : PIH X tg iter (lI X.K W dr)) (hg : PG X tg (gTg X.K tg0)) (hb : PSs X body (lS X.K W s)) (hs : ∀ x, foldedSetIterable iter X.env x = pure x := by intro _; rfl) : PS X (.For tg iter body [] pos) (lS X.K W (dFor dr tg0 s)) := (ps_forH hp hc hi hg hb hs).imp fun D σ H h => by
  obtain ⟨B, δ, G, D2, R, k, h⟩ := h
  refine ⟨B, δ, G, _, _, R, h, fun J ds G1 H1 w1 t1 wk q1 => ?_, k.xok⟩
  obtain ⟨I, i0, turn, fin⟩ := q1
  refine ⟨fun i m σ H => i ≤ ds.length ∧ m = ds.length - i ∧ ∃ B' δ G, Le B B' ∧ Rel X.K B' δ σ G H ∧ Same G1 G ∧ I i δ, ⟨ds.length, Nat.zero_le _, rfl, B, δ, G1, .rfl, R.step w1 t1, fun _ _ z => z, i0⟩, fun i m σ H hw => ?_⟩
  obtain ⟨hi, rfl, B2, δ, G2, l2, R2, s2, ii⟩ := hw
  have k2 := k.up l2
  have wd2 : Wd B.M G2 H := by rw [← l2.m]; exact R2.wd
  by_cases hlt : i < ds.length
  · refine .inr ⟨wk.go i G2 H s2 wd2 hlt, fun σ' H' => ∃ B' δ' G', Le B B' ∧ Rel X.K B' δ' σ' G' H' ∧ Same G1 G' ∧ I (i + 1) δ', fun σ' H' h => ?_, fun x H' y => ?_⟩
    · obtain ⟨B', δ', G', l', R', s', i'⟩ := h
      exact ⟨ds.length - (i + 1), by omega, hlt, rfl, B', δ', G', l', R', s', i'⟩
    · obtain ⟨d, G3, ed, w3, t3, dd⟩ := wk.yld i G2 H x H' s2 wd2 hlt y
      have R3 := R2.step (by rw [l2.m]; exact w3) (by rw [l2.m]; exact t3)
      have s3 : Same G1 G3 := fun c o z => t3.gg c o (s2 c o z)
      refine tg_ok (fun δ' σ' R' n => ?_) R3 dd (turn i d δ ed ii)
      refine ⟨⟨B2.M, G3, B2.H, B2.T⟩, δ', G3, { D2 with nx := I (i + 1), ct := I (i + 1), bk := D2.nx }, R'.up, ⟨fun B' l δ σ G H Q q => ?_, fun B' l δ σ G H Q q => k2.nx' B' (Le.down R' l) δ σ G H Q q, fun B' l δ σ G H Q q => ?_, fun B' l r v δ σ G H Q o q => k2.rt' B' (Le.down R' l) r v δ σ G H Q o q, fun B' l C δ σ G H Q q => k2.ex' B' (Le.down R' l) C δ σ G H Q q⟩, n⟩
      · exact ⟨B', δ, G, l2.trans (Le.down R' l), Q, fun c o z => Q.ext.gg c o (l.e.gg c o (s3 c o z)), q⟩
      · exact ⟨B', δ, G, l2.trans (Le.down R' l), Q, fun c o z => Q.ext.gg c o (l.e.gg c o (s3 c o z)), q⟩
  · have e : i = ds.length := by omega
    subst e
    exact .inl ⟨wk.stop _ G2 H s2 wd2 (Nat.le_refl _), k2.nx δ σ G2 H R2 (fin δ ii)⟩
end
end RB

set_option Elab.async false
set_option linter.all false
set_option maxRecDepth 100000
set_option maxHeartbeats 4000000
/-! RB23: name, name .. = a tuple or a list -/
namespace RB
open PySem PySem.Spec PyProof.Rows L2
theorem pg_or {X : Cx} {e : Expr} {t1 t2 : TG} (h1 : PG X e t1) (h2 : PG X e t2) : PG X e (fun v σ H Q => t1 v σ H Q ∨ t2 v σ H Q) :=
  ⟨fun pins s σ H v u Q I r h => h.elim (h1.run pins s σ H v u Q I r) (h2.run pins s σ H v u Q I r)⟩
def dSetU (is : List Nat) (de : DTE) : DTS := fun D δ => de δ (fun r => match r.d? with
  | some (.tuple ds) => ds.length = is.length ∧ D.nx ((is.zip ds).foldl (fun s p => s.set p.1 (.dat p.2)) δ)
  | some (.list ds) => ds.length = is.length ∧ D.nx ((is.zip ds).foldl (fun s p => s.set p.1 (.dat p.2)) δ)
  | _ => False) (fun C => D.ex C δ)
section
variable {X : Cx} {W : WX} {e : Expr} {de : DTE} {pos : Pos}
theorem ds_setU {es : List Expr} {kk : Nat} {is : List Nat} {pt : Pos} (hc : X.calm = true) (he : PE X e (lE X.K W de)) (hg : PGs X es (gNs is)) (hn : (assignEach es X.env).length = is.length := by rfl) (hst : (assignEach es X.env).findIdx? (·.1) = none := by rfl)
    (hs : swapsWithSole [.Tuple es kk pt] e pos.line X.env = pure false := by rfl) (hw : swappedStores [.Tuple es kk pt] e X.env = pure none := by rfl)
    (h1 : (assignEach [.Tuple es kk pt] X.env).map (·.2) = [assign (.Tuple es kk pt) X.env] := by rfl) : PS X (.Assign [.Tuple es kk pt] e pos) (lS X.K W (dSetU is de)) := (ps_asg he (pg_or (pg_tup hc hg hn hst) (pg_unl hc hg hn hst)) hs hw h1).imp fun D σ H h => by
  obtain ⟨B, δ, G, D2, R, k, h⟩ := h
  refine ⟨B, δ, G, _, _, R, h, fun r v G1 H1 w1 t1 o1 q1 => ?_, k.xok⟩
  split at q1
  · rename_i ds e1
    have R1 := R.step w1 t1
    have o2 := o1.dt (by intro _ z; cases z) e1
    exact .inl (tg_ok (tg := .tp is) (fun δ' σ' R' n => k.nx δ' σ' G1 H1 R' n) R1 o2 q1)
  · rename_i ds e1
    have R1 := R.step w1 t1
    obtain ⟨a, xs, e2, h1, h2⟩ := o1.lst R1.wd.sub e1
    exact .inr ⟨a, xs, e2, SqL.of h1, by rw [h2.length]; exact q1.1, rel_sets (fun δ' σ' R' n => k.nx δ' σ' G1 H1 R' n) is ds _ δ _ R1 h2 q1.1 q1.2⟩
  · exact q1.elim
end
end RB

set_option Elab.async false
set_option linter.all false
set_option maxRecDepth 100000
set_option maxHeartbeats 4000000
/-! RB24: told = e; if t: ..; line = told[1]: the list in a new answer is taken as an own one -/
namespace RB
open PySem PySem.Spec PyProof.Rows L2
/-- e's result is new, its second item a list of ints; t is false; behind it told is forgotten and line is own -/
def dEl (i j : Nat) (de : DTE) (dt : DTT) (u : DTS) : DTS := fun D δ => (i < δ.length ∧ j < δ.length ∧ i ≠ j) ∧ de (δ.map bare) (fun r => ∃ d1 ds, r = .new (.tuple [d1, .list ds]) ∧ (∀ d ∈ ds, ∃ n : Int, d = .int n) ∧
  dt ((δ.map bare).set i (.dat (.tuple [d1, .list ds]))) (fun b => b = false ∧ u D ((δ.set j (.own ds)).set i .no)) (fun _ => False)) (fun _ => False)
theorem dtA_ints {K : PySem.W.Frag} {G G' : Hp} : ∀ {ds : List D} {xs : List V}, DtA K G' xs ds → (∀ d ∈ ds, ∃ n : Int, d = .int n) → DtA K G xs ds
  | [], _, h, _ => by cases h; exact .nil
  | d :: ds, _, h, k => by
    cases h with
    | cons h1 h2 =>
      obtain ⟨n, rfl⟩ := k d List.mem_cons_self
      cases h1
      exact .cons (.int n) (dtA_ints h2 fun d hd => k d (List.mem_cons_of_mem _ hd))
section
variable {X : Cx} {W : WX} {i j : Nat} {x y : Str} {e c : Expr} {th rest : List Stmt} {de : DTE} {dt : DTT} {u : DTS} {p1 p2 p3 p4 p5 p6 p7 p8 : Pos} {k1 : Nat}
theorem dss_el (hN : X.N.Nodup) (he : PE X e (lE X.K W0 de)) (hc : PT X c (lT X.K W0 dt)) (hr : PSs X rest (lS X.K W u)) (hi : X.N[i]? = some x := by rfl) (hx : Loc X.env.scope x := by first | exact Or.inl rfl | exact Or.inr rfl) (hs : swapsWith e (some (.Name x p1)) p2.line X.env = pure false := by rfl) (hf : X.fn x = true ∨ X.env.scope.names.lookup x = some .local := by first | exact .inl rfl | exact .inr rfl | assumption)
    (hj : X.N[j]? = some y := by rfl) (hy : Loc X.env.scope y := by first | exact Or.inl rfl | exact Or.inr rfl) (hs2 : swapsWith (.Subscript (.Name x p4) (.Constant (.int 1) k1 p5) p6) (some (.Name y p7)) p8.line X.env = pure false := by rfl) (hf2 : X.fn y = true ∨ X.env.scope.names.lookup y = some .local := by first | exact .inl rfl | exact .inr rfl | assumption)
    (hvi : Vis X.env.scope x := by first | exact Or.inl rfl | exact Or.inr (Or.inl rfl) | exact Or.inr (Or.inr rfl)) (hd : (x == ("__debug__" : Str)) = false := by decide) (hcd : (x == ("__classdict__" : Str)) = false := by decide) :
    PSs X (.Assign [.Name x p1] e p2 :: .If c th [] p3 :: .Assign [.Name y p7] (.Subscript (.Name x p4) (.Constant (.int 1) k1 p5) p6) p8 :: rest) (lS X.K W (dEl i j de dt u)) := by
  have pif : PS X (.If c th [] p3) (fun D σ H => lT X.K W0 dt σ H fun b H1 => b = false ∧ D.nx σ H1) := ⟨fun pins s σ H D I h => (ps_if (t := fun _ _ _ => False) (u := fun D σ H => D.nx σ H) hc ⟨fun _ _ _ _ _ _ z => z.elim⟩ pss_nil).run pins s σ H D I (by
    obtain ⟨B, δ, G, Q2, X2, R, h, k, kx⟩ := h
    refine ⟨B, δ, G, Q2, X2, R, h, fun b G1 H1 w t q => ?_, kx⟩
    obtain ⟨rfl, z⟩ := k b G1 H1 w t q
    exact z)⟩
  have pv : ∀ {p0 : Pos}, PE X (.Name x p0) (tVar i) := pe_var hi hvi hd hcd
  refine (pss_cons (ps_set hN hi hx he hs hf) (pss_cons pif (pss_cons (ps_set hN hj hy (pe_ix ix_seq pv pe_int (fun _ _ => rfl)) hs2 hf2) hr))).imp fun D σ H h => ?_
  obtain ⟨B, δ, G, D2, R, k, ⟨hi1, hj1, hij⟩, h⟩ := h
  have hi0 : i < σ.length := by rw [← R.len]; exact hi1
  have R0 := rel_bare R
  refine ⟨_, _, G, _, fun _ => False, R0, h, fun r v G1 H1 w1 t1 o1 q1 => ?_, fun _ _ _ _ z => z⟩
  obtain ⟨d1, ds, rfl, hz, q1⟩ := q1
  have nw : Nw X.K H G1 v (.tuple [d1, .list ds]) := o1
  have R1 := R0.set w1 t1 (i := i) (v := v) (s := .dat _) ⟨v, rfl, Nw.dt nw⟩ (fun _ _ z => nomatch z)
  refine ⟨_, _, G1, _, fun _ => False, R1, q1, fun b G2 H2 w2 t2 q2 => ?_, fun _ _ _ _ z => z⟩
  obtain ⟨rfl, q2⟩ := q2
  refine ⟨rfl, ?_⟩
  have nw2 := nw.mono t2.gg fun _ z => z
  cases nw2 with
  | tup h1 n1 => cases n1 with
    | cons m1 n1 => cases n1 with
      | cons m2 n1 => cases n1; cases m2 with
        | @lst a xs _ ha hg hl =>
          have es : ∀ z : Option V, (σ.set i z)[i]? = some z := fun z => by rw [List.getElem?_set, if_pos rfl, if_pos hi0]
          refine ⟨_, es _, .inr (.inl ⟨_, _, 1, _, rfl, rfl, same_sqT w2.sub h1, rfl, ?_⟩)⟩
          have hH : H2 a = some (.lst xs) := w2.sub _ _ hg
          have t02 := t1.trans t2
          have w' : Wd B.M G H2 := ⟨fun b o g => t02.hh b o (fun z => z) (R.wd.sub _ _ g), fun b m => by
            have so := R.wd.sto b m
            refine so.mono (fun _ _ z => z) so.fr ?_
            obtain ⟨_, _, _, _, _, _, _, _, e, _⟩ := so.ex
            rw [e]
            exact t02.hh b _ (fun z => z) e⟩
          have t' : Ext B.M G H G H2 := ⟨fun b o _ g => t02.hh b o (fun z => z) g, fun _ _ z => z, fun _ _ z => z, fun b z => t02.hm b z⟩
          have Ra := R.set w' t' (i := j) (v := .ref a) (s := .own ds) ⟨a, xs, rfl, none_early R.ext.hm a ha, R.wd.noG ha, R.wd.nm ha, hH, dtA_ints (NwA.dt hl) hz⟩ (fun b us _ e => by cases e; exact ha)
          refine ⟨B, _, G, D2, ?_, k, q2⟩
          rw [List.set_comm _ _ hij]
          exact Ra.set w' .refl (i := i) (s := .no) trivial (fun _ _ z => nomatch z)
/-- an own result without inner lists is frozen, known to be new -/
def dNewE (de : DTE) : DTE := fun δ Q X => de δ (fun r => match r with
  | .own ds => (∀ d ∈ ds, NoL d) ∧ Q (.new (.list ds))
  | r => Q r) X
theorem de_newE (he : PE X e (lE X.K W de)) : PE X e (lE X.K W (dNewE de)) := by
  refine he.imp fun σ H Q h => ?_
  obtain ⟨B, δ, G, Q2, X2, R, h, k, kx⟩ := h
  refine ⟨B, δ, G, _, X2, R, h, fun r v G1 H1 w1 t1 o1 q1 => ?_, kx⟩
  cases r with
  | own ds =>
    obtain ⟨hn, q1⟩ := q1
    obtain ⟨a, xs, rfl, b1, b2, b3, b4, b5⟩ := o1
    have s1 : Same G1 (upd G1 a (.lst xs)) := same_upd b2
    refine k (.new (.list ds)) (.ref a) (upd G1 a (.lst xs)) H1 (w1.freeze b4 b2 b3) ⟨t1.hh, fun c o z => s1 _ _ (t1.gg c o z), fun c z z2 => ?_, t1.hm⟩ ?_ q1
    · have ne : c ≠ a := fun z3 => z (by rw [z3]; exact b1)
      rw [upd_ne ne]
      exact t1.fr c z z2
    · exact Nw.lst (none_early R.ext.hm a b1) upd_same (NwA.of (b5.mono s1) hn)
  | dat d => exact k _ v G1 H1 w1 t1 o1 q1
  | new d => exact k _ v G1 H1 w1 t1 o1 q1
  | view ds => exact k _ v G1 H1 w1 t1 o1 q1
  | raw z => exact k _ v G1 H1 w1 t1 o1 q1
  | sto => exact k _ v G1 H1 w1 t1 o1 q1
end
end RB

set_option Elab.async false
set_option linter.all false
set_option maxRecDepth 100000
set_option maxHeartbeats 4000000
/-! RB25: min of three ints -/
namespace RB
open PySem PySem.Spec PyProof.Rows L2
def mn2 (i j : Int) : Int := if j < i then j else i
def mn3 (i j k : Int) : Int := mn2 (mn2 i j) k
theorem nuMin2_int (i j : Int) : nuMin2 (.int i) (.int j) = some (.int (mn2 i j)) := by
  unfold nuMin2 mn2
  show Option.map (fun c => if c = true then V.int j else V.int i) (some (decide (j < i))) = _
  by_cases h : j < i
  · rw [decide_eq_true h, if_pos h]; rfl
  · rw [decide_eq_false h, if_neg h]; rfl
theorem call_min3I {X : Cx} (hc : X.calm = true) : CallR X (.builtin "min") (fun xs H Q => ∃ i j k, xs = [.int i, .int j, .int k] ∧ Q (.int (mn3 i j k)) H) := by
  intro pins s σ H xs us Q I r h
  obtain ⟨i, j, k, rfl, q⟩ := h
  refine call_min3Nu hc pins s σ H _ us Q I r ⟨_, _, _, .int (mn3 i j k), rfl, ?_, q⟩
  unfold nuMin3
  rw [nuMin2_int]
  exact nuMin2_int _ _
def dMin3 (dA : DTA) : DTE := fun δ Q X => dA δ (fun rs => match rs with
  | [.dat (.int i), .dat (.int j), .dat (.int k)] => Q (.dat (.int (mn3 i j k)))
  | _ => False) X
section
variable {X : Cx} {W : WX} {a b c : Expr} {dA : DTA} {p pos : Pos}
theorem de_min3 (hc : X.calm = true) (hm : X.mg "min" = none) (ha : PA X [a, b, c] (lA X.K W dA)) (hg : Gl X "min" := by rfl)
    (he : starEach [a, b, c] X.env = (false, eval a X.env) :: starEach [b, c] X.env := by rfl) (hpl : (backTo pos (starEach [b, c] X.env)).any (·.1) = false := by rfl) : PE X (.Call (.Name "min" p) [a, b, c] [] pos) (lE X.K W (dMin3 dA)) := by
  refine (pe_callB (call_min3I hc) hg hm (by decide +kernel) ha (by decide) (by decide) he hpl).imp fun σ H Q h => ?_
  obtain ⟨B, δ, G, Q2, X2, R, h, k, kx⟩ := h
  refine ⟨B, δ, G, _, X2, R, h, fun rs vs G1 H1 w1 t1 o1 q1 => ?_, kx⟩
  split at q1
  · rename_i i j l
    cases o1 with
    | cons h1 o1 => cases o1 with
      | cons h2 o1 => cases o1 with
        | cons h3 o1 =>
          cases o1
          cases (show Dt X.K G1 _ (.int i) from h1)
          cases (show Dt X.K G1 _ (.int j) from h2)
          cases (show Dt X.K G1 _ (.int l) from h3)
          exact ⟨i, j, l, rfl, k (.dat (.int _)) _ G1 H1 w1 t1 (Dt.int _) q1⟩
  · exact q1.elim
end
end RB

set_option Elab.async false
set_option linter.all false
set_option maxRecDepth 100000
set_option maxHeartbeats 4000000
/-! RB26: raise X() -/
namespace L2N
open PySem PySem.Spec PyProof.Rows L2
section
variable {X : Cx} {C : Addr} {bmB : List Value} {B newId initId : String}
/-- X() -/
theorem pmk_own0 {x : Str} {p pos : Pos} (F : ExcBaseFacts B newId initId bmB) (q : PySem.W.excIn X.K C bmB newId = true) (gC : X.mg x = some (.ref C)) (kC : PySem.W.keepIn X.K (.ref C) = true) (r : Raises X (.ref C)) (hg : Gl X x)
    (hdb : (x == ("__debug__" : Str)) = false := by decide) : PMk X (.Call (.Name x p) [] [] pos) (fun _ H Q => Q (.ref C) none H) := by
  intro pins s σ H Q I h
  refine wpAny_Call_Name_kw (ld_glob I hg gC ?_ hdb)
  refine PySem.W.callWith_K0 I.kIn kC ?_
  show wpAny _ _ (call (.ref C) []) _ _ _
  obtain ⟨bm, N, nm, qn, bs, hdct, sn, sub, ab, col, dd, k0, k1, k2, k3, k5, mN, hC, hN, hni, T⟩ := exc_obj I.kIn q
  refine wpAny_call_exc_subT F T hC hN hni (fun h' e hm => ?_) (by show 0 ≤ sizeLine; rw [sizeLine_eq]; omega)
  exact mk_of I hm r h (I.hok.gone hm.new)
end
end L2N
namespace RB
open PySem PySem.Spec PyProof.Rows L2
section
variable {X : Cx} {W : WX}
theorem ds_raise0 {x : Str} {p pos pos' : Pos} {C : Addr} (hc : X.calm = true) (tk : L2N.Takes X W) (e : ExK X.K X.mg x C) (hg : Gl X x := by rfl) (hdb : (x == ("__debug__" : Str)) = false := by decide) : PS X (.Raise (some (.Call (.Name x p) [] [] pos')) none pos) (lS X.K W (dRaise C)) :=
  (L2N.ps_raise hc tk (L2N.pmk_own0 PySem.F.excBase_ValueError e.q e.g e.k (raises_own e.b e.t) hg hdb)).imp fun D σ H h => by
  obtain ⟨B, δ, G, D2, R, k, h⟩ := h
  exact k.ex C δ σ G H R h
end
end RB

set_option Elab.async false
set_option linter.all false
set_option maxRecDepth 100000
set_option maxHeartbeats 4000000
/-! RB27: for over range(i, j, -1) -/
namespace RB
open PySem PySem.Spec PyProof.Rows L2
/-- hi, hi - 1, .. (n of them) -/
def downD (hi : Int) (n : Nat) : List D := (List.range n).map fun i => PyData.int (hi - (i : Nat))
theorem downD_length (hi : Int) (n : Nat) : (downD hi n).length = n := by unfold downD; rw [List.length_map, List.length_range]
theorem downD_at {hi : Int} {n i : Nat} (h : i < n) : (downD hi n)[i]? = some (.int (hi - i)) := by
  unfold downD
  rw [List.getElem?_map, List.getElem?_range h]
  rfl
theorem downD_get {hi : Int} {n i : Nat} {d : D} (h : (downD hi n)[i]? = some d) : i < n ∧ d = .int (hi - i) := by
  have hl : i < n := by
    have := (List.getElem?_eq_some_iff.mp h).1
    rwa [downD_length] at this
  rw [downD_at hl] at h
  exact ⟨hl, (Option.some.inj h).symm⟩
theorem walk_down {K : PySem.W.Frag} {M : Addr → Prop} {G : Hp} {hi : Int} {n : Nat} : WalkD K M G (Itc hi (-1) n) (downD hi n) where
  go := fun i G2 H2 s w h => by rw [downD_length] at h; exact h
  yld := fun i G2 H2 x H' s w h y => by
    obtain ⟨e, y⟩ := y
    subst e y
    rw [downD_length] at h
    refine ⟨_, G2, downD_at h, w, .refl, ?_⟩
    rw [show hi + ((i : Nat) : Int) * -1 = hi - (i : Nat) by omega]
    exact Dt.int _
  stop := fun i G2 H2 s w h => by rw [downD_length] at h; exact h
def RgDn (i j : Int) : Prop := (-(2 ^ 62) ≤ i ∧ i < 2 ^ 62) ∧ -(2 ^ 62) ≤ j ∧ j < 2 ^ 62
def sRngD (dA : DTA) : DSrc := fun δ Q X => dA δ (fun rs => match rs with
  | [.dat (.int i), .dat (.int j), .dat (.int c)] => c = -1 ∧ RgDn i j ∧ Q (downD i (i - j).toNat)
  | _ => False) X
section
variable {X : Cx} {W : WX} {tg a b c : Expr} {dA : DTA} {p pos : Pos}
theorem di_rngD (hm : X.mg "range" = none) (ha : PA X [a, b, c] (lA X.K W dA)) (hg : Gl X "range" := by rfl)
    (hs : starEach [a, b, c] X.env = (false, eval a X.env) :: starEach [b, c] X.env := by rfl) (hpl : (backTo pos (starEach [b, c] X.env)).any (·.1) = false := by rfl) : PI X tg (.Call (.Name "range" p) [a, b, c] [] pos) (lI X.K W (sRngD dA)) := by
  refine (pi_range3 hg hm ha hs hpl).imp fun σ H R h => ?_
  obtain ⟨B, δ, G, Q2, X2, R', h, kq, kx⟩ := h
  refine ⟨B, δ, G, _, X2, R', h, fun rs vs G1 H1 w1 t1 o1 q1 => ?_, kx⟩
  split at q1
  · rename_i i j k
    obtain ⟨rfl, ⟨⟨b1, b2⟩, b3, b4⟩, q1⟩ := q1
    cases o1 with
    | cons h1 o1 => cases o1 with
      | cons h2 o1 => cases o1 with
        | cons h3 o1 =>
          cases o1
          cases (show Dt X.K G1 _ (.int i) from h1)
          cases (show Dt X.K G1 _ (.int j) from h2)
          cases (show Dt X.K G1 _ (.int (-1)) from h3)
          exact ⟨i, j, -1, (i - j).toNat, rfl, RgC.neg b1 b2 b3 b4, kq _ _ G1 H1 w1 t1 walk_down q1⟩
  · exact q1.elim
end
end RB

set_option Elab.async false
set_option linter.all false
set_option maxRecDepth 100000
set_option maxHeartbeats 4000000
/-! RB28: for line in [x[1], y[1]]: the lists within two new tuples are changed -/
namespace RB
open PySem PySem.Spec PyProof.Rows L2
def plainS : Sl → Prop
  | .no => True
  | .dat _ => True
  | .raw _ => True
  | .sto => True
  | _ => False
theorem SlOk.rebase {K : PySem.W.Frag} {B B' : Base} {G H : Hp} {x : Option V} {s : Sl} (hp : plainS s) (hM : B'.M = B.M) (h : SlOk K B G H x s) : SlOk K B' G H x s := by
  cases s with
  | no => trivial
  | dat d => exact h
  | raw v => exact h
  | sto => obtain ⟨a, e, m⟩ := h; exact ⟨a, e, by rw [hM]; exact m⟩
  | _ => exact hp.elim
/-- the heap without one object -/
def offH (H : Hp) (a : Addr) : Hp := fun b => if b = a then none else H b
theorem offH_ne {H : Hp} {a b : Addr} (h : b ≠ a) : offH H a b = H b := if_neg h
theorem offH_self {H : Hp} {a : Addr} : offH H a a = none := if_pos rfl
/-- a list of ints, told of nowhere -/
structure Lone (B : Base) (G H : Hp) (a : Addr) : Prop where
  h : ∃ ns : List Int, ns.length < 4000 ∧ H a = some (.lst (ns.map V.int))
  g : G a = none
  b : B.H a = none
  m : ¬ B.M a
def tM7 (K : PySem.W.Frag) (i j l : Nat) (mb : DTS) : TS := fun D σ H => ∃ (B : Base) (δ0 : DSt) (G : Hp) (p1 p2 a1 a2 : Addr) (w1 w2 : V), Rel K B δ0 σ G H ∧ (∀ (k : Nat) (s : Sl), δ0[k]? = some s → plainS s) ∧ δ0[l]? = some .no ∧
  (σ[i]? = some (some (.ref p1)) ∧ SqT K H p1 [w1, .ref a1]) ∧ (σ[j]? = some (some (.ref p2)) ∧ SqT K H p2 [w2, .ref a2]) ∧ Lone B G H a1 ∧ Lone B G H a2 ∧ a1 ≠ a2 ∧
  (∀ ns : List Int, ns.length < 4000 → mb ⟨fun δ' => ∃ ns' : List Int, δ' = δ0.set l (.own (ns'.map PyData.int)), fun _ _ => False, fun _ => False, fun _ => False, fun _ _ => False⟩ (δ0.set l (.own (ns.map PyData.int)))) ∧
  ∀ σ' G' H', Rel K B δ0 σ' G' H' → D.nx σ' H'
theorem dtA_of_ints {K : PySem.W.Frag} {G : Hp} : ∀ ns : List Int, DtA K G (ns.map V.int) (ns.map PyData.int)
  | [] => .nil
  | n :: ns => .cons (.int n) (dtA_of_ints ns)
/-- one turn: the list is own while the body runs -/
theorem turn7 {K : PySem.W.Frag} {W : WX} {B : Base} {δ0 : DSt} {σ : St} {G H : Hp} {l : Nat} {a : Addr} {mb : DTS} {D : Ends} {N : St → Hp → Prop} (R : Rel K B δ0 σ G H) (hp : ∀ (k : Nat) (s : Sl), δ0[k]? = some s → plainS s) (hl : δ0[l]? = some .no) (L : Lone B G H a)
    (hm : ∀ ns : List Int, ns.length < 4000 → mb ⟨fun δ' => ∃ ns' : List Int, δ' = δ0.set l (.own (ns'.map PyData.int)), fun _ _ => False, fun _ => False, fun _ => False, fun _ _ => False⟩ (δ0.set l (.own (ns.map PyData.int))))
    (hN : ∀ σ' G' H', Rel K B δ0 σ' G' H' → (∀ b, b ≠ a → H b ≠ none → ¬ B.M b → H' b = H b) → (∀ b, b ≠ a → H b ≠ none → G b = none → G' b = none) → N σ' H') : lS K W mb { D with nx := N, ct := N, bk := D.nx } (σ.set l (some (.ref a))) H := by
  obtain ⟨⟨ns, hln, hns⟩, hg, hb, hM⟩ := L
  have hl0 : l < δ0.length := (List.getElem?_eq_some_iff.mp hl).1
  have hl1 : l < σ.length := by rw [← R.len]; exact hl0
  refine ⟨⟨B.M, G, offH H a, noT⟩, δ0.set l (.own (ns.map PyData.int)), G, ⟨fun δ' => ∃ ns' : List Int, δ' = δ0.set l (.own (ns'.map PyData.int)), fun _ _ => False, fun _ => False, fun _ => False, fun _ _ => False⟩, ?_, ?_, hm ns hln⟩
  · refine ⟨R.wd, ⟨fun b o m e => ?_, fun _ _ z => z, fun _ _ z => z, fun b z => ?_⟩, by rw [List.length_set, List.length_set]; exact R.len, fun k s x e1 e2 => ?_, fun k1 k2 c us vs f1 f2 _ _ => ?_⟩
    · have e : offH H a b = some o := e
      by_cases h : b = a
      · subst h; rw [offH_self] at e; cases e
      · rw [offH_ne h] at e; exact e
    · have z : offH H a b ≠ none := z
      by_cases h : b = a
      · subst h; rw [offH_self] at z; exact absurd rfl z
      · rw [offH_ne h] at z; exact z
    · by_cases hk : l = k
      · subst hk
        rw [List.getElem?_set, if_pos rfl, if_pos hl0] at e1
        rw [List.getElem?_set, if_pos rfl, if_pos hl1] at e2
        cases e1; cases e2
        exact ⟨a, _, rfl, offH_self, hg, hM, hns, dtA_of_ints ns⟩
      · rw [List.getElem?_set_ne hk] at e1 e2
        exact SlOk.rebase (B := B) (hp k s e1) rfl (R.sl k s x e1 e2)
    · have own : ∀ {k : Nat} {us : List PyData}, (δ0.set l (.own (ns.map PyData.int)))[k]? = some (.own us) → l = k := fun {k us} f => by
        by_cases hk : l = k
        · exact hk
        · rw [List.getElem?_set_ne hk] at f
          exact (hp k _ f).elim
      exact (own f1).symm.trans (own f2)
  · have fin : ∀ B', Le ⟨B.M, G, offH H a, noT⟩ B' → ∀ δ' σ' G' H', Rel K B' δ' σ' G' H' → (∃ ns' : List Int, δ' = δ0.set l (.own (ns'.map PyData.int))) → N σ' H' := fun B' lb δ' σ' G' H' R' hn => by
      obtain ⟨wd', ext'⟩ := lb.top R'
      obtain ⟨ns', rfl⟩ := hn
      have off : ∀ b, B.H b ≠ none → b ≠ a := fun b z e => z (by rw [e]; exact hb)
      have Hoff : ∀ b, b ≠ a → offH H a b = H b := fun b h => offH_ne h
      refine hN σ' G' H' ⟨wd', ⟨fun b o m e => ?_, fun c o z => ext'.gg c o (R.ext.gg c o z), fun c z z2 => ?_, fun b z => ?_⟩, ?_, fun k s x e1 e2 => ?_, fun k1 k2 c us vs f1 f2 _ _ => ?_⟩ (fun b hb1 hb2 hb3 => ?_) (fun b hb1 hb2 hb3 => ?_)
      · have h1 := R.ext.hh b o m e
        exact ext'.hh b o (fun z => m (.inl z)) ((Hoff b (off b (by rw [e]; exact fun z => nomatch z))).trans h1)
      · have h1 := R.ext.fr c z z2
        exact ext'.fr c (by rw [show offH H a c = H c from Hoff c (off c z)]; exact R.ext.hm c z) h1
      · exact ext'.hm b (by rw [show offH H a b = H b from Hoff b (off b z)]; exact R.ext.hm b z)
      · have := R'.len
        rw [List.length_set] at this
        exact this
      · by_cases hk : l = k
        · subst hk
          rw [hl] at e1
          cases e1
          trivial
        · have e1' : (δ0.set l (.own (ns'.map PyData.int)))[k]? = some s := by rw [List.getElem?_set_ne hk]; exact e1
          exact SlOk.rebase (B := B') (hp k s e1) lb.m.symm (R'.sl k s x e1' e2)
      · exact (hp k1 _ f1).elim
      · cases e : H b with
        | none => exact absurd e hb2
        | some o => exact ext'.hh b o hb3 ((Hoff b hb1).trans e)
      · exact ext'.fr b (by rw [show offH H a b = H b from Hoff b hb1]; exact hb2) hb3
    exact ⟨fin, fun _ _ _ _ _ _ _ z => z.elim, fun _ _ _ _ _ _ _ z => z.elim, fun _ _ _ _ _ _ _ _ _ _ z => z.elim, fun _ _ _ _ _ _ _ _ z => z.elim⟩
section
variable {X : Cx} {W : WX} {i j l : Nat} {x y z : Str} {body : List Stmt} {mb : DTS} {q1 q2 q3 q4 q5 q6 q7 q8 pos : Pos} {k1 k2 : Nat}
theorem ps_m7 (hps : PassesOwn (model X.prog X.w) X.A X.env X.xe) (hc : X.calm = true) (hg : PG X (.Name z q8) (gName l)) (hb : PSs X body (lS X.K W mb)) (hi : X.N[i]? = some x := by rfl) (hj : X.N[j]? = some y := by rfl)
    (hvi : Vis X.env.scope x := by first | exact Or.inl rfl | exact Or.inr (Or.inl rfl) | exact Or.inr (Or.inr rfl)) (hd : (x == ("__debug__" : Str)) = false := by decide) (hcd : (x == ("__classdict__" : Str)) = false := by decide)
    (hvj : Vis X.env.scope y := by first | exact Or.inl rfl | exact Or.inr (Or.inl rfl) | exact Or.inr (Or.inr rfl)) (hd2 : (y == ("__debug__" : Str)) = false := by decide) (hcd2 : (y == ("__classdict__" : Str)) = false := by decide)
    (hs : ∀ v, foldedSetIterable (.List [.Subscript (.Name x q1) (.Constant (.int 1) k1 q2) q3, .Subscript (.Name y q4) (.Constant (.int 1) k2 q5) q6] q7) X.env v = pure v := by intro _; rfl)
    (hst : starEach [.Subscript (.Name x q1) (.Constant (.int 1) k1 q2) q3, .Subscript (.Name y q4) (.Constant (.int 1) k2 q5) q6] X.env = (false, eval (.Subscript (.Name x q1) (.Constant (.int 1) k1 q2) q3) X.env) :: starEach [.Subscript (.Name y q4) (.Constant (.int 1) k2 q5) q6] X.env := by rfl)
    (hst2 : starEach [.Subscript (.Name y q4) (.Constant (.int 1) k2 q5) q6] X.env = (false, eval (.Subscript (.Name y q4) (.Constant (.int 1) k2 q5) q6) X.env) :: starEach [] X.env := by rfl) :
    PS X (.For (.Name z q8) (.List [.Subscript (.Name x q1) (.Constant (.int 1) k1 q2) q3, .Subscript (.Name y q4) (.Constant (.int 1) k2 q5) q6] q7) body [] pos) (tM7 X.K i j l mb) := by
  have pv : ∀ {p0 : Pos}, PE X (.Name x p0) (tVar i) := pe_var hi hvi hd hcd
  have pw : ∀ {p0 : Pos}, PE X (.Name y p0) (tVar j) := pe_var hj hvj hd2 hcd2
  refine (ps_for hps hc (pi_list (pe_lst (pa_cons (pe_ix ix_seq pv pe_int (fun _ _ => rfl)) (pa_cons (pe_ix ix_seq pw pe_int (fun _ _ => rfl)) pa_nil hst2) hst))) hg hb hs).imp fun D σ H h => ?_
  obtain ⟨B, δ0, G, p1, p2, a1, a2, w1, w2, R, hpl, hl, ⟨e1, t1⟩, ⟨e2, t2⟩, L1, L2, hne, hm, hfin⟩ := h
  refine ⟨_, e1, .inr (.inl ⟨_, _, 1, _, rfl, rfl, t1, rfl, ?_⟩)⟩
  refine ⟨_, e2, .inr (.inl ⟨_, _, 1, _, rfl, rfl, t2, rfl, ?_⟩)⟩
  refine ⟨szLine (show 2 < 2 ^ 20 by decide), fun p hp => ?_⟩
  have np : ∀ {a : Addr}, Lone B G H a → a ≠ p := fun L e => by
    obtain ⟨ns, hln, hns⟩ := L.h
    rw [e, hp] at hns
    cases hns
  have up : ∀ {a : Addr}, Lone B G H a → Lone B G (upd H p (.lst [V.ref a1, V.ref a2])) a := fun L => ⟨by
    obtain ⟨ns, hln, hns⟩ := L.h
    exact ⟨ns, hln, by rw [upd_ne (np L)]; exact hns⟩, L.g, L.b, L.m⟩
  refine ⟨p, rfl, ⟨_, SqL.of upd_same⟩, fun k m σ H => (k ≤ 2 ∧ m = 2 - k) ∧ ∃ G, Rel X.K B δ0 σ G H ∧ H p = some (.lst [V.ref a1, V.ref a2]) ∧ G p = none ∧ (k = 0 → Lone B G H a1) ∧ (k ≤ 1 → Lone B G H a2), ⟨2, ⟨by omega, rfl⟩, G, R.step (R.wd.alloc hp) (Ext.alloc hp), upd_same, R.wd.noG hp, fun _ => up L1, fun _ => up L2⟩, fun k m σ H hw => ?_⟩
  have hMp : ¬ B.M p := R.wd.nm hp
  have n1 := np L1
  have n2 := np L2
  obtain ⟨⟨hk, rfl⟩, G3, R3, hHp, hGp, hA, hB⟩ := hw
  have main : ∀ (k : Nat) (a : Addr) (b : Addr), k < 2 → [V.ref a1, V.ref a2][k]? = some (.ref a) → a ≠ p → Lone B G3 H a → (k = 0 → a2 ≠ a) → (k = 0 → Lone B G3 H a2) → (k = 0 ∨ k = 1) → (Itl X.K p).go k H ∧ ∃ N : St → Hp → Prop, (∀ σ' H', N σ' H' → ∃ m', m' < 2 - k ∧ ((k + 1 ≤ 2 ∧ m' = 2 - (k + 1)) ∧ ∃ G, Rel X.K B δ0 σ' G H' ∧ H' p = some (.lst [V.ref a1, V.ref a2]) ∧ G p = none ∧ (k + 1 = 0 → Lone B G H' a1) ∧ (k + 1 ≤ 1 → Lone B G H' a2))) ∧ ∀ v H', (Itl X.K p).yld k H v H' → gName l v σ H' fun σ2 H2 => lS X.K W mb { D with nx := N, ct := N, bk := D.nx } σ2 H2 := by
    intro k a b hk2 hat hap La hne2 Lb hk01
    refine ⟨⟨_, _, SqL.of hHp, hat⟩, fun σ' H' => ∃ G, Rel X.K B δ0 σ' G H' ∧ H' p = some (.lst [V.ref a1, V.ref a2]) ∧ G p = none ∧ (k = 0 → Lone B G H' a2), fun σ' H' hN => ?_, fun v H' hy => ?_⟩
    · obtain ⟨G', R', h1, h2, h3⟩ := hN
      exact ⟨2 - (k + 1), by omega, ⟨by omega, rfl⟩, G', R', h1, h2, fun z => by omega, fun z => h3 (by omega)⟩
    · obtain ⟨eH, hv⟩ := hy
      replace eH := eH.symm
      subst eH
      have ev := hv _ (SqL.of hHp)
      rw [hat] at ev
      cases ev
      refine turn7 R3 hpl hl La hm fun σ' G' H' R' k1 k2 => ⟨G', R', ?_, ?_, fun z => ?_⟩
      · rw [k1 p (fun z => hap z.symm) (by rw [hHp]; exact fun z => nomatch z) hMp]; exact hHp
      · exact k2 p (fun z => hap z.symm) (by rw [hHp]; exact fun z => nomatch z) hGp
      · have L := Lb z
        obtain ⟨ns, hln, hns⟩ := L.h
        have hn0 : H a2 ≠ none := by rw [hns]; exact fun z => nomatch z
        exact ⟨⟨ns, hln, by rw [k1 a2 (hne2 z) hn0 L.m]; exact hns⟩, k2 a2 (hne2 z) hn0 L.g, L.b, L.m⟩
  match k, hk, hA, hB with
  | 0, _, hA, hB => exact .inr (main 0 a1 a2 (by decide) rfl n1 (hA rfl) (fun _ z => hne z.symm) (fun _ => hB (by decide)) (.inl rfl))
  | 1, _, hA, hB => exact .inr (main 1 a2 a1 (by decide) rfl n2 (hB (Nat.le_refl _)) (fun z => nomatch z) (fun z => nomatch z) (.inr rfl))
  | 2, _, _, _ => exact .inl ⟨⟨_, SqL.of hHp, Nat.le_refl _⟩, hfin σ G3 H R3⟩
end
end RB

set_option Elab.async false
set_option linter.all false
set_option maxRecDepth 100000
set_option maxHeartbeats 4000000
/-! RB29: x = e1; if ..; y = e2; if ..; if ..; for ..; for line in [x[1], y[1]]: .. -/
namespace RB
open PySem PySem.Spec PyProof.Rows L2
def plainD (δ : DSt) : Prop := ∀ (k : Nat) (s : Sl), δ[k]? = some s → plainS s
def dEm (i j l : Nat) (de1 : DTE) (dt1 : DTT) (de2 : DTE) (dt2 dt3 : DTT) (dF mb u : DTS) : DTS := fun D δ => (i < δ.length ∧ j < δ.length ∧ i ≠ j ∧ l ≠ i ∧ l ≠ j) ∧ plainD δ ∧
  de1 (δ.map bare) (fun r => ∃ d1 ds, r = .new (.tuple [d1, .list ds]) ∧ (∃ ns : List Int, ds = ns.map PyData.int ∧ ns.length < 4000) ∧
  dt1 ((δ.map bare).set i (.dat (.tuple [d1, .list ds]))) (fun b => b = false ∧
  de2 ((δ.map bare).set i (.dat (.tuple [d1, .list ds]))) (fun r2 => ∃ d2 es, r2 = .new (.tuple [d2, .list es]) ∧ (∃ ns : List Int, es = ns.map PyData.int ∧ ns.length < 4000) ∧
  dt2 (((δ.map bare).set i (.dat (.tuple [d1, .list ds]))).set j (.dat (.tuple [d2, .list es]))) (fun b => b = false ∧
  dt3 (((δ.map bare).set i (.dat (.tuple [d1, .list ds]))).set j (.dat (.tuple [d2, .list es]))) (fun b => b = false ∧
  ∀ v1 v2 : V, dF ⟨fun δ' => plainD δ' ∧ δ'[i]? = some (.raw v1) ∧ δ'[j]? = some (.raw v2) ∧ δ'[l]? = some .no ∧
    (∀ ns : List Int, ns.length < 4000 → mb ⟨fun δ2 => ∃ ns' : List Int, δ2 = δ'.set l (.own (ns'.map PyData.int)), fun _ _ => False, fun _ => False, fun _ => False, fun _ _ => False⟩ (δ'.set l (.own (ns.map PyData.int)))) ∧
    u D ((δ'.set i .no).set j .no), fun _ _ => False, fun _ => False, fun _ => False, fun _ _ => False⟩ ((δ.set i (.raw v1)).set j (.raw v2)))
  (fun _ => False)) (fun _ => False)) (fun _ => False)) (fun _ => False)) (fun _ => False)
theorem Rel.forget0 {K : PySem.W.Frag} {B : Base} {δ : DSt} {σ : St} {G H : Hp} (R : Rel K B δ σ G H) (i : Nat) : Rel K B (δ.set i .no) σ G H := by
  refine ⟨R.wd, R.ext, by rw [List.length_set]; exact R.len, fun k s x e1 e2 => ?_, fun k1 k2 a ds es e1 e2 e3 e4 => ?_⟩
  · by_cases h : i = k
    · subst h
      by_cases hl : i < δ.length
      · rw [List.getElem?_set, if_pos rfl, if_pos hl] at e1
        cases e1
        trivial
      · rw [List.getElem?_eq_none (by rw [List.length_set]; omega)] at e1
        cases e1
    · rw [List.getElem?_set_ne h] at e1
      exact R.sl k s x e1 e2
  · have ne : ∀ {k : Nat} {ds : List D}, (δ.set i .no)[k]? = some (.own ds) → δ[k]? = some (.own ds) := fun {k ds} e => by
      by_cases h : i = k
      · subst h
        by_cases hl : i < δ.length
        · rw [List.getElem?_set, if_pos rfl, if_pos hl] at e
          cases e
        · rw [List.getElem?_eq_none (by rw [List.length_set]; omega)] at e
          cases e
      · rw [List.getElem?_set_ne h] at e
        exact e
    exact R.sep k1 k2 a ds es (ne e1) (ne e2) e3 e4
theorem ints_of_dtA {K : PySem.W.Frag} {G : Hp} : ∀ {ns : List Int} {xs : List V}, DtA K G xs (ns.map PyData.int) → xs = ns.map V.int
  | [], _, h => by cases h; rfl
  | n :: ns, _, h => by
    cases h with
    | cons h1 h2 =>
      cases h1
      rw [ints_of_dtA h2]
      rfl
theorem plain_set {δ : DSt} {i : Nat} {s : Sl} (h : plainD δ) (hs : plainS s) : plainD (δ.set i s) := fun k t e => by
  by_cases hk : i = k
  · subst hk
    by_cases hl : i < δ.length
    · rw [List.getElem?_set, if_pos rfl, if_pos hl] at e
      cases e
      exact hs
    · rw [List.getElem?_eq_none (by rw [List.length_set]; omega)] at e
      cases e
  · rw [List.getElem?_set_ne hk] at e
    exact h k t e
section
variable {X : Cx} {W : WX} {i j l : Nat} {x y z : Str} {e1 e2 c1 c2 c3 : Expr} {th1 th2 th3 rest body : List Stmt} {sF : Stmt} {de1 de2 : DTE} {dt1 dt2 dt3 : DTT} {dF mb u : DTS} {p1 p2 p3 p4 p5 p6 p7 q1 q2 q3 q4 q5 q6 q7 q8 pos : Pos} {k1 k2 : Nat}
theorem dss_em (hN : X.N.Nodup) (hps : PassesOwn (model X.prog X.w) X.A X.env X.xe) (hcl : X.calm = true) (he1 : PE X e1 (lE X.K W0 de1)) (hc1 : PT X c1 (lT X.K W0 dt1)) (he2 : PE X e2 (lE X.K W0 de2)) (hc2 : PT X c2 (lT X.K W0 dt2)) (hc3 : PT X c3 (lT X.K W0 dt3)) (hF : PS X sF (lS X.K W dF)) (hg : PG X (.Name z q8) (gName l)) (hb : PSs X body (lS X.K W mb)) (hr : PSs X rest (lS X.K W u))
    (hi : X.N[i]? = some x := by rfl) (hx : Loc X.env.scope x := by first | exact Or.inl rfl | exact Or.inr rfl) (hs : swapsWith e1 (some (.Name x p1)) p2.line X.env = pure false := by rfl) (hf : X.fn x = true ∨ X.env.scope.names.lookup x = some .local := by first | exact .inl rfl | exact .inr rfl | assumption)
    (hj : X.N[j]? = some y := by rfl) (hy : Loc X.env.scope y := by first | exact Or.inl rfl | exact Or.inr rfl) (hs2 : swapsWith e2 (some (.Name y p4)) p5.line X.env = pure false := by rfl) (hf2 : X.fn y = true ∨ X.env.scope.names.lookup y = some .local := by first | exact .inl rfl | exact .inr rfl | assumption)
    (hvi : Vis X.env.scope x := by first | exact Or.inl rfl | exact Or.inr (Or.inl rfl) | exact Or.inr (Or.inr rfl)) (hd : (x == ("__debug__" : Str)) = false := by decide) (hcd : (x == ("__classdict__" : Str)) = false := by decide)
    (hvj : Vis X.env.scope y := by first | exact Or.inl rfl | exact Or.inr (Or.inl rfl) | exact Or.inr (Or.inr rfl)) (hd2 : (y == ("__debug__" : Str)) = false := by decide) (hcd2 : (y == ("__classdict__" : Str)) = false := by decide)
    (hs3 : ∀ v, foldedSetIterable (.List [.Subscript (.Name x q1) (.Constant (.int 1) k1 q2) q3, .Subscript (.Name y q4) (.Constant (.int 1) k2 q5) q6] q7) X.env v = pure v := by intro _; rfl)
    (hst : starEach [.Subscript (.Name x q1) (.Constant (.int 1) k1 q2) q3, .Subscript (.Name y q4) (.Constant (.int 1) k2 q5) q6] X.env = (false, eval (.Subscript (.Name x q1) (.Constant (.int 1) k1 q2) q3) X.env) :: starEach [.Subscript (.Name y q4) (.Constant (.int 1) k2 q5) q6] X.env := by rfl)
    (hst2 : starEach [.Subscript (.Name y q4) (.Constant (.int 1) k2 q5) q6] X.env = (false, eval (.Subscript (.Name y q4) (.Constant (.int 1) k2 q5) q6) X.env) :: starEach [] X.env := by rfl) :
    PSs X (.Assign [.Name x p1] e1 p2 :: .If c1 th1 [] p3 :: .Assign [.Name y p4] e2 p5 :: .If c2 th2 [] p6 :: .If c3 th3 [] p7 :: sF :: .For (.Name z q8) (.List [.Subscript (.Name x q1) (.Constant (.int 1) k1 q2) q3, .Subscript (.Name y q4) (.Constant (.int 1) k2 q5) q6] q7) body [] pos :: rest) (lS X.K W (dEm i j l de1 dt1 de2 dt2 dt3 dF mb u)) := by
  have pif : ∀ {c : Expr} {th : List Stmt} {p : Pos} {dt : DTT}, PT X c (lT X.K W0 dt) → PS X (.If c th [] p) (fun D σ H => lT X.K W0 dt σ H fun b H1 => b = false ∧ D.nx σ H1) := fun {c th p dt} hc => ⟨fun pins s σ H D I h => (ps_if (t := fun _ _ _ => False) (u := fun D σ H => D.nx σ H) hc ⟨fun _ _ _ _ _ _ z => z.elim⟩ pss_nil).run pins s σ H D I (by
    obtain ⟨B, δ, G, Q2, X2, R, h, k, kx⟩ := h
    refine ⟨B, δ, G, Q2, X2, R, h, fun b G1 H1 w t q => ?_, kx⟩
    obtain ⟨rfl, z⟩ := k b G1 H1 w t q
    exact z)⟩
  refine (pss_cons (ps_set hN hi hx he1 hs hf) (pss_cons (pif hc1) (pss_cons (ps_set hN hj hy he2 hs2 hf2) (pss_cons (pif hc2) (pss_cons (pif hc3) (pss_cons hF (pss_cons (ps_m7 hps hcl hg hb hi hj hvi hd hcd hvj hd2 hcd2 hs3 hst hst2) hr))))))).imp fun D σ H h => ?_
  obtain ⟨B, δ, G, D2, R, k, ⟨hi1, hj1, hij, hli, hlj⟩, hpl, h⟩ := h
  have hi0 : i < σ.length := by rw [← R.len]; exact hi1
  have hj0 : j < σ.length := by rw [← R.len]; exact hj1
  have R0 := rel_bare R
  refine ⟨_, _, G, _, fun _ => False, R0, h, fun r v G1 H1 w1 t1 o1 q1 => ?_, fun _ _ _ _ z => z⟩
  obtain ⟨d1, ds, rfl, ⟨ns1, rfl, hz1⟩, q1⟩ := q1
  have nw : Nw X.K H G1 v (.tuple [d1, .list (ns1.map PyData.int)]) := o1
  have R1 := R0.set w1 t1 (i := i) (v := v) (s := .dat _) ⟨v, rfl, Nw.dt nw⟩ (fun _ _ z => nomatch z)
  refine ⟨_, _, G1, _, fun _ => False, R1, q1, fun b G2 H2 w2 t2 q2 => ?_, fun _ _ _ _ z => z⟩
  obtain ⟨rfl, q2⟩ := q2
  refine ⟨rfl, ?_⟩
  have R2 := R1.step w2 t2
  -- the second call: from here on the base is the heap as it stands
  have R2' : Rel X.K ⟨fun _ => False, G2, H2, noT⟩ ((δ.map bare).set i (.dat (.tuple [d1, .list (ns1.map PyData.int)]))) (σ.set i (some v)) G2 H2 := ⟨w2, .refl, R2.len, fun k s x e1 e2 => by
    have hb : (∃ d, s = .dat d) ∨ s = .no := by
      by_cases h : i = k
      · subst h
        rw [List.getElem?_set, if_pos rfl, if_pos (by rw [List.length_map]; exact hi1)] at e1
        cases e1
        exact .inl ⟨_, rfl⟩
      · rw [List.getElem?_set_ne h, List.getElem?_map] at e1
        cases z : δ[k]? with
        | none => rw [z] at e1; cases e1
        | some s0 =>
          rw [z] at e1
          cases e1
          cases s0 with
          | dat d => exact .inl ⟨d, rfl⟩
          | new d => exact .inl ⟨d, rfl⟩
          | _ => exact .inr rfl
    obtain ⟨d, rfl⟩ | rfl := hb
    · exact R2.sl k _ x e1 e2
    · trivial, R2.sep⟩
  refine ⟨_, _, G2, _, fun _ => False, R2', q2, fun r2 v2 G3 H3 w3 t3 o3 q3 => ?_, fun _ _ _ _ z => z⟩
  obtain ⟨d2, es, rfl, ⟨ns2, rfl, hz2⟩, q3⟩ := q3
  have nw2 : Nw X.K H2 G3 v2 (.tuple [d2, .list (ns2.map PyData.int)]) := o3
  have R3 := R2'.set w3 t3 (i := j) (v := v2) (s := .dat _) ⟨v2, rfl, Nw.dt nw2⟩ (fun _ _ z => nomatch z)
  refine ⟨_, _, G3, _, fun _ => False, R3, q3, fun b G4 H4 w4 t4 q4 => ?_, fun _ _ _ _ z => z⟩
  obtain ⟨rfl, q4⟩ := q4
  refine ⟨rfl, ?_⟩
  have R4 := R3.step w4 t4
  refine ⟨_, _, G4, _, fun _ => False, R4, q4, fun b G5 H5 w5 t5 q5 => ?_, fun _ _ _ _ z => z⟩
  obtain ⟨rfl, q5⟩ := q5
  refine ⟨rfl, ?_⟩
  have t25 := t3.trans (t4.trans t5)
  have t15 := t2.trans t25
  have t05 := t1.trans t15
  have w' : Wd B.M G H5 := ⟨fun b o g => t05.hh b o (fun z => z) (R.wd.sub _ _ g), fun b m => by
    have so := R.wd.sto b m
    refine so.mono (fun _ _ z => z) so.fr ?_
    obtain ⟨_, _, _, _, _, _, _, _, e, _⟩ := so.ex
    rw [e]
    exact t05.hh b _ (fun z => z) e⟩
  have t' : Ext B.M G H G H5 := ⟨fun b o _ g => t05.hh b o (fun z => z) g, fun _ _ z => z, fun _ _ z => z, fun b z => t05.hm b z⟩
  have hzA := t15.gg
  have hzB := (t4.trans t5).gg
  cases nw with
  | @tup pa _ _ hA0 n1 => cases n1 with
    | cons m1 n1 => cases n1 with
      | cons m2 n1 => cases n1; cases m2 with
        | @lst a1 xs1 _ ha1 hg1 hl1 =>
  cases nw2 with
  | @tup pb _ _ hB0 n2 => cases n2 with
    | cons m3 n2 => cases n2 with
      | cons m4 n2 => cases n2; cases m4 with
        | @lst a2 xs2 _ ha2 hg2 hl2 =>
  have hA1 := same_sqT hzA hA0
  have hB1 := same_sqT hzB hB0
  have hl1' := (NwA.dt hl1).mono hzA
  have hl2' := (NwA.dt hl2).mono hzB
  have hH1 : H5 a1 = some (.lst xs1) := w5.sub _ _ (hzA _ _ hg1)
  have hH2 : H5 a2 = some (.lst xs2) := w5.sub _ _ (hzB _ _ hg2)
  have ne12 : a1 ≠ a2 := fun e => by
    subst e
    have z1 := t2.hh _ _ (fun z => z) (w1.sub _ _ hg1)
    rw [z1] at ha2
    cases ha2
  have Ra := (R.set w' t' (i := i) (v := .ref pa) (s := .raw (.ref pa)) rfl (fun _ _ z => nomatch z)).set w' .refl (i := j) (v := .ref pb) (s := .raw (.ref pb)) rfl (fun _ _ z => nomatch z)
  have plA : plainD ((δ.set i (.raw (.ref pa))).set j (.raw (.ref pb))) := plain_set (plain_set hpl trivial) trivial
  have Rb : Rel X.K ⟨B.M, G, H5, noT⟩ ((δ.set i (.raw (.ref pa))).set j (.raw (.ref pb))) ((σ.set i (some (.ref pa))).set j (some (.ref pb))) G H5 := ⟨w', .refl, Ra.len, fun k s x e1 e2 => SlOk.rebase (B := B) (plA k s e1) rfl (Ra.sl k s x e1 e2), fun k1 k2 c us vs f1 _ _ _ => (plA k1 _ f1).elim⟩
  refine ⟨⟨B.M, G, H5, noT⟩, _, G, _, Rb, ?_, q5 (.ref pa) (.ref pb)⟩
  refine ⟨fun B' lb δ' σ' G' H' R' hn => ?_, fun _ _ _ _ _ _ _ z => z.elim, fun _ _ _ _ _ _ _ z => z.elim, fun _ _ _ _ _ _ _ _ _ _ z => z.elim, fun _ _ _ _ _ _ _ _ z => z.elim⟩
  obtain ⟨wd', ext'⟩ := lb.top R'
  obtain ⟨hp', hri, hrj, hnl, hm, hu⟩ := hn
  have Rc : Rel X.K B δ' σ' G' H' := ⟨wd', ⟨fun b o m e => ext'.hh b o (fun z => m (.inl z)) (Ra.ext.hh b o m e), fun c o z => ext'.gg c o (R.ext.gg c o z), fun c z z2 => ext'.fr c (Ra.ext.hm c z) (R.ext.fr c z z2), fun b z => ext'.hm b (Ra.ext.hm b z)⟩, R'.len, fun k s x e1 e2 => SlOk.rebase (B := B') (hp' k s e1) lb.m.symm (R'.sl k s x e1 e2), fun k1 k2 c us vs f1 _ _ _ => (hp' k1 _ f1).elim⟩
  have get : ∀ {k : Nat} {v : V}, δ'[k]? = some (.raw v) → σ'[k]? = some (some v) := fun {k v} e => by
    have hk : k < σ'.length := by rw [← R'.len]; exact (List.getElem?_eq_some_iff.mp e).1
    have := R'.sl k _ _ e (List.getElem?_eq_getElem hk)
    rw [List.getElem?_eq_getElem hk]
    exact congrArg some this
  have nm : ∀ {a : Addr}, H a = none → ¬ B.M a := fun {a} e m => by
    obtain ⟨_, _, _, _, _, _, _, _, e2, _⟩ := (R.wd.sto a m).ex
    rw [e] at e2
    cases e2
  have gn : ∀ {a : Addr}, H a = none → G a = none := fun {a} e => R.wd.noG e
  have keep : ∀ {p : Addr} {h : HO}, H5 p = some h → (∀ xs, h ≠ .lst xs) → H' p = some h := fun {p h} e hl => ext'.hh p h (fun m => by
    obtain ⟨_, _, _, _, _, _, _, _, e2, _⟩ := (w'.sto p m).ex
    rw [e] at e2
    cases e2
    exact hl _ rfl) e
  have sqt : ∀ {p : Addr} {us : List V}, SqT X.K G5 p us → SqT X.K H' p us := fun {p us} h => by
    rcases h with (h | ⟨o, h⟩) | h
    · exact .inl (.inl (keep (w5.sub _ _ h) fun _ z => nomatch z))
    · exact .inl (.inr ⟨o, keep (w5.sub _ _ h) fun _ z => nomatch z⟩)
    · exact .inr h
  have ha2' : H a2 = none := none_early (fun b z => (t1.trans t2).hm b z) a2 ha2
  have lone : ∀ {a : Addr} {ns : List Int} {xs : List V}, H a = none → H5 a = some (.lst xs) → DtA X.K G5 xs (ns.map PyData.int) → ns.length < 4000 → Lone B G' H' a := fun {a ns xs} h1 h2 h3 h4 => ⟨⟨ns, h4, by rw [← ints_of_dtA h3]; exact ext'.hh a _ (nm h1) h2⟩, ext'.fr a (by show H5 a ≠ none; rw [h2]; exact fun z => nomatch z) (gn h1), none_early R.ext.hm a h1, nm h1⟩
  refine ⟨B, δ', G', pa, pb, a1, a2, _, _, Rc, hp', hnl, ⟨get hri, sqt hA1⟩, ⟨get hrj, sqt hB1⟩, lone ha1 hH1 hl1' hz1, lone ha2' hH2 hl2' hz2, ne12, hm, fun σ2 G2' H2' Rd => ?_⟩
  exact ⟨B, _, G2', D2, (Rd.forget0 i).forget0 j, k, hu⟩
end
end RB

set_option Elab.async false
set_option linter.all false
set_option maxRecDepth 100000
set_option maxHeartbeats 4000000
/-! RB30: a def that is handed the caught exception within its suite -/
namespace RB
open PySem PySem.Spec PyProof.Rows L2 L2H HotX
/-- the promise may speak of the pinned exception -/
structure FnE (P : Program) (w : World) (K : PySem.W.Frag) (mg : Str → Option Value) (base : Heap) (k : Nat) (f : Addr) (fd : FuncData) (ps : List Str) (sp : Addr × Obj → Sp) : Prop where
  len : ∀ q vs H Q E, sp q vs H Q E → vs.length = ps.length
  run : ∀ (A : Around) (outer : List Env) (s : Shared) (H : Hp) (args : Args) (us : List Value) (vs : List V) (Q : VK) (E : XK) (q : Addr × Obj), RoomH k A → Hot1 A q → PinOk outer H s q → Env0 P w K mg base A outer s H →
    BindsTo s fd args (ps.zip us) → Vals vs us → sp q vs H Q E → codeAny (model P w) A (.call (.ref f) args) (CR (L2N.CX P w) outer P w H s Q E) s
abbrev cxS (P : Program) (w : World) (K : PySem.W.Frag) (mg : Str → Option Value) (base : Heap) (N : List Str) (qual : Str) (scope : Scope) (f : Addr) (cdv : Value) (A : Around) (outer : List Env) (s : Shared) (H : Hp) (q : Addr × Obj) : Cx :=
  (cxOf (L2N.CX P w) P w K mg base N qual scope f cdv A outer s H (fun _ _ _ => False)).suite q.1 [q]
theorem mark_hot {A : Around} {q : Addr × Obj} (h : Hot1 A q) (env : Env) : (A.deeper env).mark (some (.ref q.1)) = A.deeper env := by
  obtain ⟨hd, dp, fr, gs, un⟩ := A
  have e : hd = some (.ref q.1) := h.1
  subst e
  rfl
theorem ok_xe {X Y : Cx} (h : X = { Y with xe := X.xe }) (o : X.Ok) : Y.Ok := by
  rw [h] at o
  exact ⟨o.mod, o.kind, o.glob, o.blt, o.above, o.inj, o.has, o.cab, o.hd, o.frames, o.stk, o.exf, o.bs, o.bsz, o.noex, o.exfs, o.funs, o.frf⟩
theorem fn_ofE {P : Program} {w : World} {K : PySem.W.Frag} {mg : Str → Option Value} {base : Heap} {k : Nat} {f : Addr} {name qual : Str} {params : Arguments} {body : List Stmt} {scope : Scope} {dV kV doc pm cdv ct oc : Value} {an od : Option Addr} {osl : Array (Option Value)} {N ps : List Str} {sp : Addr × Obj → Sp}
    (hlook : K.lookup f = some ⟨oc, od, .func (PySem.W.fnOf name qual params body scope dV kV doc pm an cdv ct), osl⟩) (hcode : PySem.W.codeIn K cdv qual = true) (S : FnScope N ps scope) (hlen : ∀ q vs H Q E, sp q vs H Q E → vs.length = ps.length)
    (hbody : ∀ (A : Around) (outer : List Env) (s : Shared) (H : Hp) (vs : List V) (Q : VK) (E : XK) (q : Addr × Obj), Hot1 A q → RoomH k (A.deeper (envOfC qual scope s.heap.objs.size f cdv)) → sp q vs H Q E →
      ∃ t, PSs (cxS P w K mg base N qual scope f cdv A outer s H q) body t ∧ t { nx := fun _ H' => Q .non H', rt := Q } (L2.start N vs) H) : FnE P w K mg base (k + 1) f (PySem.W.fnOf name qual params body scope dV kV doc pm an cdv ct) ps sp := by
  refine ⟨hlen, fun A outer s H args us vs Q E q hroom hot hpin henv hbind hvals hspec => ?_⟩
  have hl := hlen _ _ _ _ _ hspec
  have hKin : K.In s.heap := henv.mod.kin.keeps fun b o e => (henv.bs b o e).1
  have hnl : s.heap.NoLimit := henv.mod.nolimit.keeps fun b o e => (henv.bs b o e).1
  refine codeAny_call_function hroom.depth (hKin _ _ hlook) rfl S.co S.gen rfl (PySem.W.codeRec_of hKin hcode) (hbind _ _ _ _ ?_)
  refine wpAny_newFunctionEnv_cells S.kind (fun ⟨n, v⟩ hy => (S.par n (List.of_mem_zip hy).1).elim .inl fun z => .inr ⟨z, PySem.W.cellsFrom_some _ _ _ (.inl z)⟩) fun env he s1 x => ?_
  subst he
  refine ⟨hnl.keeps x.toInCall.keep, codeAny_func ?_⟩
  obtain ⟨t, ht, hq⟩ := hbody A outer s H vs Q E q hot (hroom.deeper _) hspec
  have I0 := inv_startH (CX := L2N.CX P w) (E := fun _ _ _ => False) (f := f) (cd := cdv) (qual := qual) S hpin henv hl hvals x
  have I : Inv (cxS P w K mg base N qual scope f cdv A outer s H q) [] (L2.start N vs) H s1 := by
    have e := mark_hot hot (envOfC qual scope s.heap.objs.size f cdv)
    have o : (cxS P w K mg base N qual scope f cdv A outer s H q).Ok := by
      have o := I0.ok
      refine ⟨o.mod, o.kind, o.glob, o.blt, o.above, o.inj, o.has, o.cab, (fun z => nomatch z), ?_, o.stk, o.exf, o.bs, o.bsz, o.noex, o.exfs, o.funs, o.frf⟩
      have := o.frames
      exact (congrArg Around.frames e).trans this
    exact ⟨o, I0.os, I0.bare, I0.base, I0.loc, I0.cell, I0.free, I0.freeC, I0.pin, I0.hok, I0.len⟩
  have run := ht.run [] s1 (L2.start N vs) H _ I hq
  rw [show (cxS P w K mg base N qual scope f cdv A outer s H q).A = A.deeper (envOfC qual scope s.heap.objs.size f cdv) from mark_hot hot _] at run
  refine wpAny_mono run (fun fl s' hs => ?_) fun e s' hs => (hs : False).elim
  have fin : ∀ {σ' : St} {H' : Hp} {v : V} {u : Value}, Inv (cxS P w K mg base N qual scope f cdv A outer s H q) [] σ' H' s' → RelV v u → Q v H' → CE outer P w H s Q u s' := fun {σ' H' v u} J rv z => ⟨v, H', J.os, J.bare, J.base, J.hok, rv, z⟩
  cases fl with
  | ret u =>
    obtain ⟨v, σ', H', J, rv, z⟩ := hs
    exact fin J rv z
  | next =>
    obtain ⟨σ', H', J, z⟩ := hs
    exact fin (v := V.non) (u := Value.none) J rfl z
  | brk =>
    obtain ⟨_, _, _, z⟩ := hs
    exact (z : False).elim
  | cont =>
    obtain ⟨_, _, _, z⟩ := hs
    exact (z : False).elim
/-- a def of the module that is handed the caught exception keeps its promise -/
structure OkE (P : Program) (w : World) (K : PySem.W.Frag) (mg : Str → Option Value) (base : Heap) (k : Nat) (x : Str) (n : Nat) (dsp : Addr → Addr → DSp) : Prop where
  ex : ∃ (f : Addr) (fd : FuncData) (ps : List Str), FnE P w K mg base k f fd ps (fun q vs H Q E => ∃ C, L2N.Zn (.ref C) none q.2 ∧ (∃ fs, q.2.data = .fields fs) ∧ spD K n (dsp q.1 C) vs H Q E) ∧ mg x = some (.ref f) ∧ PySem.W.keepIn K (.ref f) = true ∧ Binds K fd ps []
section
variable {X : Cx} {W : WX} {k kr n : Nat} {dsp : Addr → Addr → DSp} {x : Str} {p pos : Pos} {e : Expr} {es : List Expr} {dA : DTA} {a C : Addr} {oe : Obj} {pn : List (Addr × Obj)}
theorem run_fnE {f : Addr} {fd : FuncData} {ps : List Str} {sp : Addr × Obj → Sp} {E : XK} {pins : List (Addr × Obj)} {σ : St} {H : Hp} {s : Shared} {Q : VK} {us : List Value} {vs : List V} (F : FnE X.prog X.w X.K X.mg X.base k f fd ps sp) (hroom : RoomH k (X.suite a ((a, oe) :: pn)).A) (hot : Hot1 (X.suite a ((a, oe) :: pn)).A (a, oe)) (hbinds : Binds X.K fd ps [])
    (hpass : PassesAt (L2N.CX X.prog X.w) (X.suite a ((a, oe) :: pn)) σ E) (I : Inv (X.suite a ((a, oe) :: pn)) pins σ H s) (hv : Vals vs us) (h : sp (a, oe) vs H Q E) : wpAny (model X.prog X.w) (X.suite a ((a, oe) :: pn)).A (call (.ref f) us) (EP (X.suite a ((a, oe) :: pn)) pins σ Q) (X.suite a ((a, oe) :: pn)).xe s := by
  have hlu : us.length = ps.length := (Vals.length hv).symm.trans (F.len _ _ _ _ _ h)
  have hbt := hbinds s us I.kIn (by rw [List.append_nil]; exact hlu)
  rw [List.append_nil] at hbt
  obtain ⟨g1, g2, g3, g4, g5⟩ := I.pin (a, oe) (List.mem_append_left _ List.mem_cons_self)
  have hpo : PinOk (X.suite a ((a, oe) :: pn)).stack H s (a, oe) := ⟨g1, g2, fun z => (List.mem_cons.mp (I.stkSub a z)).elim g3 g4, g5⟩
  refine wpAny_call (codeAny_mono (F.run _ (X.suite a ((a, oe) :: pn)).stack s H ⟨us, []⟩ us vs Q E (a, oe) hroom hot hpo I.env0 hbt hv h) fun r s' hq => ?_)
  match r, hq with
  | .error err, hq => exact hpass pins H s err s' I hq
  | .ok (.ret u), hq => exact I.after hq
  | .ok .next, hq => exact False.elim hq
  | .ok .brk, hq => exact False.elim hq
  | .ok .cont, hq => exact False.elim hq
theorem de_fnE (hz : L2N.Zn (.ref C) none oe) (hf : ∃ fs, oe.data = .fields fs) (O : OkE X.prog X.w X.K X.mg X.base k x n dsp) (hr : RoomH kr (X.suite a ((a, oe) :: pn)).A) (tk : L2N.Takes (X.suite a ((a, oe) :: pn)) W) (ha : PA (X.suite a ((a, oe) :: pn)) (e :: es) (lA X.K W dA)) (hkr : k ≤ kr := by decide) (hg : Gl X x := by rfl) (hdb : (x == ("__debug__" : Str)) = false := by decide)
    (he : starEach (e :: es) X.env = (false, eval e X.env) :: starEach es X.env := by rfl) (hpl : (backTo pos (starEach es X.env)).any (·.1) = false := by rfl) : PE (X.suite a ((a, oe) :: pn)) (.Call (.Name x p) (e :: es) [] pos) (lE X.K W (dCall n (dsp a C) dA)) := by
  obtain ⟨f, fd, ps, F, hm, hk, hb⟩ := O.ex
  obtain ⟨fs, hfs⟩ := hf
  refine ⟨fun pins s σ H Q I h => ?_⟩
  refine wpAny_Call_Name_kw (ld_glob I hg hm ?_ hdb)
  refine PySem.W.callWith_K (h₀ := X.base) I.ok.mod.kin hk (thn (ha.run pos pins s σ H _ I (lE_call h)) fun us s1 ⟨vs, H1, I1, r, q⟩ => ⟨I1.kIn, ?_⟩) he hpl
  exact run_fnE F (hr.mono hkr) ⟨rfl, fs, hfs, hz.2.2 fs hfs⟩ hb (L2N.passAt tk σ) I1 r ⟨C, hz, ⟨fs, hfs⟩, q⟩
end
section
variable {P : Program} {w : World} {K : PySem.W.Frag} {mg : Str → Option Value} {base : Heap} {fa : List Fb} {fn : List He.DefD}
abbrev BodyOkE (P : Program) (w : World) (K : PySem.W.Frag) (mg : Str → Option Value) (base : Heap) (N : List Str) (x : Str) (st : Stmt) (k : Nat) (body : Addr → Addr → DTS) : Prop :=
  ∀ (f : Addr) (cdv : Value) (A : Around) (outer : List Env) (s : Shared) (H : Hp) (a C : Addr) (oe : Obj), L2N.Zn (.ref C) none oe → (∃ fs, oe.data = .fields fs) → RoomH k (A.deeper (envOfC x (defScope st) s.heap.objs.size f cdv)) →
    PSs ((cxD P w K mg base N x st f cdv A outer s H (fun _ _ _ => False)).suite a [(a, oe)]) (defBody st) (lS K W0 (body a C))
theorem okDE (X : K.In base) (G : base.Ns mainGlobals mg) (c : SaysR fa fn K) {al x : Str} {st : Stmt} {N ps : List Str} {k : Nat} {dsp : Addr → Addr → DSp} {body : Addr → Addr → DTS} (i : Nat) (hdef : fn[i]? = some (dfd2 al x st)) (g : mg al = some (.ref (He.ga K al))) (S : FnScope N ps (defScope st))
    (hbd : ∀ (kV doc pm : Value) (an : Option Addr) (cdv ct : Value) (us : List Value), us.length = ps.length → bindArgs (PySem.W.fnOf x x (defArgs st) (defBody st) (defScope st) .none kV doc pm an cdv ct) ⟨us, []⟩ = pure (ps.zip us))
    (hb : BodyOkE P w K mg base N x st k body) (hp : ∀ a C rs Q2 X2, rs.length = ps.length → dsp a C rs Q2 X2 → body a C (endD Q2 (fun _ => False)) (startD N rs)) : OkE P w K mg base (k + 1) al ps.length dsp := by
  obtain ⟨fd, F, FD⟩ := c.fun2 i hdef
  have kp := F.kp
  have B := FD.bindsN hbd
  obtain ⟨oc, od, kV, doc, pm, an, cdv, ct, osl, rfl, lk, hcd⟩ := F.ex
  refine ⟨_, _, ps, ?_, g, kp, B⟩
  refine fn_ofE lk hcd S (fun q vs H Q E ⟨_, _, _, h⟩ => spD_len rfl vs H Q E h) fun A outer s H vs Q E q hot hr ⟨C, hz, hf, h⟩ => ⟨_, hb _ cdv A outer s H q.1 C q.2 hz hf hr, ?_⟩
  obtain ⟨M, HB, G, rs, Q2, X2, wd, al, l, hd, kq, kx⟩ := h
  refine ⟨⟨M, G, H, noT⟩, startD N rs, G, endD Q2 (fun _ => False), rel_start wd al, ⟨fun B' lb δ σ G' H' R z => kq (.dat .none) .non G' H' (lb.top R).1 (lb.top R).2 Dt.non z, fun _ _ _ _ _ _ _ z => z.elim, fun _ _ _ _ _ _ _ z => z.elim, fun B' lb r v δ σ G' H' R o' z => kq r v G' H' (lb.top R).1 (lb.top R).2 (lb.rv o') z, fun _ _ _ _ _ _ _ _ z => z.elim⟩, hp q.1 C rs Q2 X2 l hd⟩
end
end RB

set_option Elab.async false
set_option linter.all false
set_option maxRecDepth 100000
set_option maxHeartbeats 4000000
/-! RB31: a walk along a text, the number of a text -/
namespace RB
open PySem PySem.Spec PyProof.Rows L2
theorem roomH_suite {k : Nat} {X : Cx} {a : Addr} {pn : List (Addr × Obj)} (r : L2H.RoomH k X.A) : L2H.RoomH k (X.suite a pn).A := ⟨r.dp, r.un⟩
/-- the signs of a text, one by one -/
def strD (z : Str) : List D := z.cps.toList.map fun c => .str ⟨#[c]⟩
def sStr (de : DTE) : DSrc := fun δ Q X => de δ (fun r => match r.d? with
  | some (.str z) => Q (strD z)
  | _ => False) X
theorem walk_str {K : PySem.W.Frag} {M : Addr → Prop} {G : Hp} {z : Str} : WalkD K M G (Its z) (strD z) where
  go := fun i G2 H2 s w hi => by
    unfold strD at hi
    rw [List.length_map, Array.length_toList] at hi
    exact hi
  yld := fun i G2 H2 x H' s w hi y => by
    obtain ⟨e, c, hc, hx⟩ := y
    subst e hx
    refine ⟨.str ⟨#[c]⟩, G2, ?_, w, .refl, Dt.str _⟩
    unfold strD
    rw [List.getElem?_map, Array.getElem?_toList, hc]
    rfl
  stop := fun i G2 H2 s w hi => by
    unfold strD at hi
    rw [List.length_map, Array.length_toList] at hi
    exact hi
theorem di_str {X : Cx} {W : WX} {de : DTE} {tg e : Expr} (he : PE X e (lE X.K W de)) : PI X tg e (lI X.K W (sStr de)) := by
  refine (pi_str he).imp fun σ H R h => ?_
  obtain ⟨B, δ, G, Q2, X2, R', h, kq, kx⟩ := h
  refine ⟨B, δ, G, _, X2, R', h, fun r v G1 H1 w1 t1 o1 q1 => ?_, kx⟩
  split at q1
  · rename_i z e1
    have ez := o1.str e1
    subst ez
    exact ⟨z, rfl, kq _ _ G1 H1 w1 t1 walk_str q1⟩
  · exact q1.elim
def bIntS (r : RV) (Q : RV → Prop) : Prop := match r.d? with
  | some (.str z) => ∃ n, PySem.intText? z = some n ∧ z.length ≤ 640 ∧ Q (.dat (.int n))
  | _ => False
theorem o1_intS {K : PySem.W.Frag} : Op1 K (fun xs H Q => ∃ a n, xs = [.str a] ∧ PySem.intText? a = some n ∧ a.length ≤ 640 ∧ Q (.int n) H) bIntS := by
  intro M HB H0 G H x r1 Q2 Q w o1 hf k
  unfold bIntS at hf
  split at hf
  · rename_i z e
    have ez := o1.str e
    subst ez
    obtain ⟨n, hn, hl, hq⟩ := hf
    exact ⟨z, n, rfl, hn, hl, k (.dat (.int _)) _ G H w .refl (Dt.int _) hq⟩
  · exact hf.elim
end RB

set_option Elab.async false
set_option linter.all false
set_option maxRecDepth 100000
set_option maxHeartbeats 4000000
/-! RB32: repr; defs at which no repr is under way -/
namespace RB
open PySem PySem.Spec PyProof.Rows L2 L2H HotX
mutual
theorem dp_nodict {K : PySem.W.Frag} {H : Hp} : ∀ (d : D) (v : V), Dp K H v d → d.hasDict = false
  | .none, _, _ => by simp only [PyData.hasDict]
  | .bool _, _, _ => by simp only [PyData.hasDict]
  | .int _, _, _ => by simp only [PyData.hasDict]
  | .str _, _, _ => by simp only [PyData.hasDict]
  | .list ds, _, .lst _ q => by rw [PyData.hasDict]; exact dpA_nodict ds _ q
  | .tuple ds, _, .tup _ q => by rw [PyData.hasDict]; exact dpA_nodict ds _ q
  | .dict _, _, q => nomatch q
theorem dpA_nodict {K : PySem.W.Frag} {H : Hp} : ∀ (ds : List D) (vs : List V), DpAll K H vs ds → PyData.hasDictAll ds = false
  | [], _, _ => by simp only [PyData.hasDictAll]
  | d :: ds, _, .cons h q => by rw [PyData.hasDictAll, dp_nodict d _ h, dpA_nodict ds _ q]; rfl
end
/-- what repr shows fits: depth, length -/
structure Rep (n z : Nat) (d : D) : Prop where
  dep : d.depth ≤ n
  sho : d.showable = true
  len : d.shown.length ≤ z
def rRepr (K : PySem.W.Frag) : List V → Hp → VK → Prop := fun xs H Q => ∃ v d, xs = [v] ∧ Dp K H v d ∧ Rep 60 (2 ^ 24) d ∧ Q (.str d.shown) H
theorem cr_repr {X : Cx} (gd : X.A.guards = some []) (hu : X.A.units + 64 < cLine) : CallR X (.builtin "repr") (rRepr X.K) := by
  intro pins s σ H xs us Q I rs h
  obtain ⟨v, d, rfl, hd, ⟨h1, h2, h3⟩, h⟩ := h
  cases rs with
  | cons r1 rs =>
    cases rs
    rename_i u
    obtain ⟨as, rd⟩ := Dp.reads I d v u hd r1
    have fin : ∀ (h' : Heap) (t : Tok) (tk : Nat), (∀ b o, s.heap.get? b = some o → h'.get? b = some o) → EP X pins σ Q (.str d.shown t) { s with heap := h', toks := tk } := fun h' t tk kp => ⟨.str d.shown, H, I.kept kp, ⟨_, rfl⟩, h⟩
    have f0 := fin s.heap s.toks (s.toks + 1) fun _ _ e => e
    cases hd with
    | non =>
      obtain rfl : u = Value.none := r1
      rw [PyData.shown_none] at f0
      exact PySem.P.repr_of_none f0
    | bl b =>
      obtain rfl : u = Value.bool b := r1
      rw [PyData.shown_bool] at f0
      refine PySem.P.repr_of_bool ?_
      cases b <;> exact f0
    | int i =>
      obtain ⟨t, rfl⟩ := r1
      rw [PyData.shown_int] at f0
      exact PySem.P.repr_of_int (by simpa [PyData.showable] using h2) f0
    | str x =>
      obtain ⟨t, rfl⟩ := r1
      rw [PyData.shown_str] at f0 h3
      exact PySem.P.repr_of_str f0 h3
    | lst hs q =>
      obtain rfl : u = Value.ref _ := r1
      exact repr_of_reads' rd h2 (PySem.PyData.noDict_hsm (dp_nodict _ _ (.lst hs q))) gd (by omega) (fun _ _ e => e) fin h3
    | tup hs q =>
      obtain rfl : u = Value.ref _ := r1
      exact repr_of_reads' rd h2 (PySem.PyData.noDict_hsm (dp_nodict _ _ (.tup hs q))) gd (by omega) (fun _ _ e => e) fin h3
def bRepr (r : RV) (Q : RV → Prop) : Prop := match r.d? with
  | some d => Rep 60 (2 ^ 24) d ∧ Q (.dat (.str d.shown))
  | _ => False
theorem o1_repr {K : PySem.W.Frag} : Op1 K (rRepr K) bRepr := by
  intro M HB H0 G H x r1 Q2 Q w o1 hf k
  unfold bRepr at hf
  split at hf
  · rename_i d e
    exact ⟨x, d, rfl, o1.dp w.sub e, hf.1, k (.dat (.str _)) _ G H w .refl (Dt.str _) hf.2⟩
  · exact hf.elim
/-! ### defs with a known guard -/
structure FnG (P : Program) (w : World) (K : PySem.W.Frag) (mg : Str → Option Value) (base : Heap) (k : Nat) (f : Addr) (fd : FuncData) (ps : List Str) (sp : Sp) : Prop where
  len : ∀ vs H Q E, sp vs H Q E → vs.length = ps.length
  run : ∀ (A : Around) (outer : List Env) (s : Shared) (H : Hp) (args : Args) (us : List Value) (vs : List V) (Q : VK) (E : XK), Room k A → A.guards = some [] → Env0 P w K mg base A outer s H →
    BindsTo s fd args (ps.zip us) → Vals vs us → sp vs H Q E → codeAny (model P w) A (.call (.ref f) args) (CR (L2N.CX P w) outer P w H s Q E) s
theorem FnG.of {P : Program} {w : World} {K : PySem.W.Frag} {mg : Str → Option Value} {base : Heap} {k : Nat} {f : Addr} {fd : FuncData} {ps : List Str} {sp : Sp} (F : FnOk P w K mg base (L2N.CX P w) k f fd ps sp) : FnG P w K mg base k f fd ps sp :=
  ⟨F.len, fun A outer s H args us vs Q E hr _ => F.run A outer s H args us vs Q E hr⟩
theorem fn_ofG {P : Program} {w : World} {K : PySem.W.Frag} {mg : Str → Option Value} {base : Heap} {k : Nat} {f : Addr} {name qual : Str} {params : Arguments} {body : List Stmt} {scope : Scope} {dV kV doc pm cdv ct oc : Value} {an od : Option Addr} {osl : Array (Option Value)} {N ps : List Str} {sp : Sp}
    (hlook : K.lookup f = some ⟨oc, od, .func (PySem.W.fnOf name qual params body scope dV kV doc pm an cdv ct), osl⟩) (hcode : PySem.W.codeIn K cdv qual = true) (S : FnScope N ps scope) (hlen : ∀ vs H Q E, sp vs H Q E → vs.length = ps.length)
    (hbody : ∀ (A : Around) (outer : List Env) (s : Shared) (H : Hp) (vs : List V) (Q : VK) (E : XK), (A.deeper (envOfC qual scope s.heap.objs.size f cdv)).guards = some [] → Room k (A.deeper (envOfC qual scope s.heap.objs.size f cdv)) → sp vs H Q E →
      ∃ t, PSs (cxOf (L2N.CX P w) P w K mg base N qual scope f cdv A outer s H E) body t ∧ t { nx := fun _ H' => Q .non H', rt := Q } (L2.start N vs) H) : FnG P w K mg base (k + 1) f (PySem.W.fnOf name qual params body scope dV kV doc pm an cdv ct) ps sp := by
  refine ⟨hlen, fun A outer s H args us vs Q E hroom gd henv hbind hvals hspec => ?_⟩
  have hl := hlen _ _ _ _ hspec
  have hKin : K.In s.heap := henv.mod.kin.keeps fun b o e => (henv.bs b o e).1
  have hnl : s.heap.NoLimit := henv.mod.nolimit.keeps fun b o e => (henv.bs b o e).1
  refine codeAny_call_function hroom.depth (hKin _ _ hlook) rfl S.co S.gen rfl (PySem.W.codeRec_of hKin hcode) (hbind _ _ _ _ ?_)
  refine wpAny_newFunctionEnv_cells S.kind (fun ⟨n, v⟩ hy => (S.par n (List.of_mem_zip hy).1).elim .inl fun z => .inr ⟨z, PySem.W.cellsFrom_some _ _ _ (.inl z)⟩) fun env he s1 x => ?_
  subst he
  refine ⟨hnl.keeps x.toInCall.keep, codeAny_func ?_⟩
  obtain ⟨t, ht, hq⟩ := hbody A outer s H vs Q E gd (hroom.deeper _) hspec
  have I := L2.inv_start (CX := L2N.CX P w) (E := E) (f := f) (cd := cdv) (qual := qual) S hroom.hd henv hl hvals x
  have run := ht.run [] s1 (L2.start N vs) H _ I hq
  refine wpAny_mono run (fun fl s' hs => ?_) fun e s' hs => hs
  have fin : ∀ {σ' : St} {H' : Hp} {v : V} {u : Value}, Inv (cxOf (L2N.CX P w) P w K mg base N qual scope f cdv A outer s H E) [] σ' H' s' → RelV v u → Q v H' → CE outer P w H s Q u s' := fun {σ' H' v u} J rv z => ⟨v, H', J.os, J.bare, J.base, J.hok, rv, z⟩
  cases fl with
  | ret u =>
    obtain ⟨v, σ', H', J, rv, z⟩ := hs
    exact fin J rv z
  | next =>
    obtain ⟨σ', H', J, z⟩ := hs
    exact fin (v := V.non) (u := Value.none) J rfl z
  | brk =>
    obtain ⟨_, _, _, z⟩ := hs
    exact (z : False).elim
  | cont =>
    obtain ⟨_, _, _, z⟩ := hs
    exact (z : False).elim
structure OkG (P : Program) (w : World) (K : PySem.W.Frag) (mg : Str → Option Value) (base : Heap) (k : Nat) (x : Str) (n : Nat) (dsp : DSp) : Prop where
  ex : ∃ (f : Addr) (fd : FuncData) (ps : List Str), FnG P w K mg base k f fd ps (spD K n dsp) ∧ mg x = some (.ref f) ∧ PySem.W.keepIn K (.ref f) = true ∧ Binds K fd ps []
section
variable {X : Cx} {W : WX} {k kr n : Nat} {dsp : DSp} {x : Str} {p pos : Pos} {e : Expr} {es : List Expr} {dA : DTA}
theorem run_fnG {f : Addr} {fd : FuncData} {ps : List Str} {sp : Sp} {E : XK} {pins : List (Addr × Obj)} {σ : St} {H : Hp} {s : Shared} {Q : VK} {us : List Value} {vs : List V} (F : FnG X.prog X.w X.K X.mg X.base k f fd ps sp) (hroom : Room k X.A) (gd : X.A.guards = some []) (hbinds : Binds X.K fd ps [])
    (hpass : PassesAt (L2N.CX X.prog X.w) X σ E) (I : Inv X pins σ H s) (hv : Vals vs us) (h : sp vs H Q E) : wpAny (model X.prog X.w) X.A (call (.ref f) us) (EP X pins σ Q) X.xe s := by
  have hlu : us.length = ps.length := (Vals.length hv).symm.trans (F.len _ _ _ _ h)
  have hbt := hbinds s us I.kIn (by rw [List.append_nil]; exact hlu)
  rw [List.append_nil] at hbt
  refine wpAny_call (codeAny_mono (F.run _ X.stack s H ⟨us, []⟩ us vs Q E hroom gd I.env0 hbt hv h) fun r s' hq => ?_)
  match r, hq with
  | .error err, hq => exact hpass pins H s err s' I hq
  | .ok (.ret u), hq => exact I.after hq
  | .ok .next, hq => exact False.elim hq
  | .ok .brk, hq => exact False.elim hq
  | .ok .cont, hq => exact False.elim hq
theorem de_fnG (O : OkG X.prog X.w X.K X.mg X.base k x n dsp) (hr : Room kr X.A) (gd : X.A.guards = some []) (tk : L2N.Takes X W) (ha : PA X (e :: es) (lA X.K W dA)) (hkr : k ≤ kr := by decide) (hg : Gl X x := by rfl) (hdb : (x == ("__debug__" : Str)) = false := by decide)
    (he : starEach (e :: es) X.env = (false, eval e X.env) :: starEach es X.env := by rfl) (hpl : (backTo pos (starEach es X.env)).any (·.1) = false := by rfl) : PE X (.Call (.Name x p) (e :: es) [] pos) (lE X.K W (dCall n dsp dA)) := by
  obtain ⟨f, fd, ps, F, hm, hk, hb⟩ := O.ex
  refine ⟨fun pins s σ H Q I h => ?_⟩
  refine wpAny_Call_Name_kw (ld_glob I hg hm ?_ hdb)
  refine PySem.W.callWith_K (h₀ := X.base) I.ok.mod.kin hk (thn (ha.run pos pins s σ H _ I (lE_call h)) fun us s1 ⟨vs, H1, I1, r, q⟩ => ⟨I1.kIn, ?_⟩) he hpl
  exact run_fnG F (hr.mono hkr) gd hb (L2N.passAt tk σ) I1 r q
end
section
variable {P : Program} {w : World} {K : PySem.W.Frag} {mg : Str → Option Value} {base : Heap} {fa : List Fb} {fn : List He.DefD}
abbrev BodyOkG (P : Program) (w : World) (K : PySem.W.Frag) (mg : Str → Option Value) (base : Heap) (N : List Str) (x : Str) (st : Stmt) (k : Nat) (body : DTS) : Prop :=
  ∀ (f : Addr) (cdv : Value) (A : Around) (outer : List Env) (s : Shared) (H : Hp) (E : XK), (A.deeper (envOfC x (defScope st) s.heap.objs.size f cdv)).guards = some [] → Room k (A.deeper (envOfC x (defScope st) s.heap.objs.size f cdv)) → L2N.Takes (cxD P w K mg base N x st f cdv A outer s H E) (WE0 E) → PassesOwn (model P w) (cxD P w K mg base N x st f cdv A outer s H E).A (cxD P w K mg base N x st f cdv A outer s H E).env (cxD P w K mg base N x st f cdv A outer s H E).xe →
    PSs (cxD P w K mg base N x st f cdv A outer s H E) (defBody st) (lS K (WE0 E) body)
theorem okDG (X : K.In base) (G : base.Ns mainGlobals mg) (c : SaysR fa fn K) {al x : Str} {st : Stmt} {N ps : List Str} {k : Nat} {dsp : DSp} {body : DTS} (i : Nat) (hdef : fn[i]? = some (dfd2 al x st)) (g : mg al = some (.ref (He.ga K al))) (S : FnScope N ps (defScope st))
    (hbd : ∀ (kV doc pm : Value) (an : Option Addr) (cdv ct : Value) (us : List Value), us.length = ps.length → bindArgs (PySem.W.fnOf x x (defArgs st) (defBody st) (defScope st) .none kV doc pm an cdv ct) ⟨us, []⟩ = pure (ps.zip us))
    (hb : BodyOkG P w K mg base N x st k body) (hp : ∀ rs Q2 X2, rs.length = ps.length → dsp rs Q2 X2 → body (endD Q2 X2) (startD N rs)) : OkG P w K mg base (k + 1) al ps.length dsp := by
  obtain ⟨fd, F, FD⟩ := c.fun2 i hdef
  have kp := F.kp
  have B := FD.bindsN hbd
  obtain ⟨oc, od, kV, doc, pm, an, cdv, ct, osl, rfl, lk, hcd⟩ := F.ex
  refine ⟨_, _, ps, ?_, g, kp, B⟩
  refine fn_ofG lk hcd S (fun vs H Q E h => spD_len rfl vs H Q E h) fun A outer s H vs Q E gd hr h => ⟨_, hb _ cdv A outer s H E gd hr (L2N.takes_of rfl rfl rfl rfl) (passes_of rfl), ?_⟩
  obtain ⟨M, HB, G, rs, Q2, X2, wd, al, l, hd, kq, kx⟩ := h
  refine ⟨⟨M, G, H, noT⟩, startD N rs, G, endD Q2 X2, rel_start wd al, ⟨fun B' lb δ σ G' H' R z => kq (.dat .none) .non G' H' (lb.top R).1 (lb.top R).2 Dt.non z, fun _ _ _ _ _ _ _ z => z.elim, fun _ _ _ _ _ _ _ z => z.elim, fun B' lb r v δ σ G' H' R o' z => kq r v G' H' (lb.top R).1 (lb.top R).2 (lb.rv o') z, fun B' lb C δ σ G' H' R z => kx C G' H' (lb.top R).1 (lb.top R).2 z⟩, hp rs Q2 X2 l hd⟩
theorem okXG {x qual : Str} {st : Stmt} {f : Addr} {fd : FuncData} {N ps : List Str} {k : Nat} {sp : Sp} (F : Fun K x qual st f fd) (S : FnScope N ps (defScope st)) (hl : ∀ vs H Q E, sp vs H Q E → vs.length = ps.length)
    (hbody : ∀ (cdv : Value) (A : Around) (outer : List Env) (s : Shared) (H : Hp) (vs : List V) (Q : VK) (E : XK), (A.deeper (envOfC qual (defScope st) s.heap.objs.size f cdv)).guards = some [] → Room k (A.deeper (envOfC qual (defScope st) s.heap.objs.size f cdv)) → sp vs H Q E →
      ∃ t, PSs (cxOf (L2N.CX P w) P w K mg base N qual (defScope st) f cdv A outer s H E) (defBody st) t ∧ t { nx := fun _ H' => Q .non H', rt := Q } (start N vs) H) : FnG P w K mg base (k + 1) f fd ps sp := by
  obtain ⟨oc, od, kV, doc, pm, an, cdv, ct, osl, rfl, lk, hcd⟩ := F.ex
  exact fn_ofG lk hcd S hl fun A outer s H vs Q E gd hr h => hbody cdv A outer s H vs Q E gd hr h
end
theorem intsV : ∀ {vs : List Value} {ns : List Int}, IntsAre vs ns → Vals (ns.map V.int) vs
  | _, _, .nil => .nil
  | _, _, .cons n tk r => .cons ⟨tk, rfl⟩ (intsV r)
/-- the head's call of a law with a known guard -/
theorem law_callG {P : Program} {w : World} {K : PySem.W.Frag} {mg mb : Str → Option Value} {k : Nat} {fa adr : Addr} {fd : FuncData} {x : Str} {sp : Sp} {st : Shared} {us : List Value} {ns : List Int}
    (hin : K.In st.heap) (hG : st.heap.Ns mainGlobals mg) (hB : st.heap.Ns builtinsNs mb) (hboot : ∀ y : Str, y ≠ "__name__" → mb y = bootBuiltins y) (hnl : st.heap.NoLimit) (hgen : st.gens = #[])
    (hobj : st.heap.get? adr = some { cls := .type "list", data := .seq us.toArray }) (hints : IntsAre us ns) (hlen : ns.length ≤ sizeLine) (hroom : Room k callerA)
    (hfn : ∀ base : Heap, K.In base → base.Ns mainGlobals mg → FnG P w K mg base k fa fd [x] sp) (hbnd : ∀ (s : Shared) (u : Value), BindsTo s fd ⟨[u], []⟩ [(x, u)])
    (hprom : ∀ H : Hp, Only H → SqL K H adr (ns.map V.int) → sp [.ref adr] H (fun v _ => v = .bl true) fun _ _ _ => False)
    (hno : ∀ H e s', L2N.CX P w [] H st (fun _ _ _ => False) e s' → False) :
    codeAny (model P w) callerA (.call (.ref fa) ⟨[.ref adr], []⟩) (fun r s' => r = .ok (.ret (.bool true)) ∧ OldK st.heap s'.heap ∧ s'.os = st.os ∧ AllBare s'.gens) st := by
  have hvals := intsV hints
  have body : ∀ H : Hp, Only H → SqL K H adr (ns.map V.int) → HOk P w H st.heap → (∀ b, H b ≠ none → b = adr) → (H adr ≠ none → K.lookup adr = none) →
      codeAny (model P w) callerA (.call (.ref fa) ⟨[.ref adr], []⟩) (fun r s' => r = .ok (.ret (.bool true)) ∧ OldK st.heap s'.heap ∧ s'.os = st.os ∧ AllBare s'.gens) st := by
    intro H only sq hok single notK
    have untracked : ∀ {b : Addr} {u : Obj} {es : Array DictEntry} {ep : Nat}, st.heap.get? b = some u → u.data = .dict es ep → H b = none := fun {b u es ep} e1 e2 => by
      by_cases z : H b = none
      · exact z
      · obtain rfl := single b z
        rw [hobj] at e1
        cases e1
        exact nomatch (e2 : Data.seq us.toArray _ = Data.dict es ep)
    have nsHid : ∀ {b : Addr} {m : Str → Option Value}, st.heap.Ns b m → (hidT st.heap H).Ns b m := fun {b m} ⟨u, es, ep, e1, e2, r⟩ => ⟨u, es, ep, hidT_get e1 (untracked e1 e2), e2, r⟩
    have inHid : K.In (hidT st.heap H) := fun b u e1 => hidT_get (hin b u e1) (by
      by_cases z : H b = none
      · exact z
      · obtain rfl := single b z
        rw [notK z] at e1
        cases e1)
    have modHid : Mod K mg (hidT st.heap H) := ⟨inHid, nsHid hG, ⟨mb, nsHid hB, hboot⟩, let ⟨mc, z1, z2⟩ := hnl; ⟨mc, nsHid z1, z2⟩⟩
    have env0 : Env0 P w K mg (hidT st.heap H) callerA [] st H := ⟨rfl, modHid, fun b u e1 => of_hidT e1, Nat.le_of_eq (hidT_size _ _), trivial, fun b hb => absurd (show b ∈ ([] : List Addr) from hb) (List.not_mem_nil), hok, .of_eq hgen⟩
    refine codeAny_mono ((hfn _ inHid (nsHid hG)).run callerA [] st H ⟨[.ref adr], []⟩ [.ref adr] [.ref adr] _ _ hroom rfl env0 (hbnd st (.ref adr)) (.cons rfl .nil) (hprom H only sq)) fun r s' res => ?_
    match r, res with
    | .error e, res => exact (hno H e s' res).elim
    | .ok .next, res => exact False.elim res
    | .ok .brk, res => exact False.elim res
    | .ok .cont, res => exact False.elim res
    | .ok (.ret u), res =>
      obtain ⟨v, H', eos, ebare, un, hok', rv, rfl⟩ := res
      obtain rfl : u = Value.bool true := rv
      refine ⟨rfl, OldK.of_keep fun b u e1 => ?_, eos, ebare⟩
      rcases only b with z | ⟨ob, ys, z⟩
      · exact un.keep b u e1 z (fun y => absurd (show b ∈ ([] : List Addr) from y) (List.not_mem_nil)) (by simp)
      · obtain ⟨p1, _⟩ := hok b _ z
        obtain ⟨p2, _⟩ := hok' b _ (un.frzs b ob _ z)
        rw [e1] at p1
        cases p1
        exact p2
  let obj : Obj := { cls := .type "list", data := .seq us.toArray }
  by_cases look : K.lookup adr = none
  · let trk : Hp := fun b => if b = adr then some (.frz obj (.lst (ns.map V.int))) else none
    have at_ : trk adr = some (.frz obj (.lst (ns.map V.int))) := if_pos rfl
    have off : ∀ {b : Addr}, ¬ b = adr → trk b = none := fun z => if_neg z
    refine body trk (fun b => ?_) (.inl (.inr ⟨obj, at_⟩)) (fun b u z => ?_) (fun b z => ?_) fun _ => look
    · by_cases e : b = adr
      · subst e; exact .inr ⟨_, _, at_⟩
      · exact .inl (off e)
    · by_cases e : b = adr
      · subst e
        cases at_.symm.trans z
        exact ⟨hobj, by rw [List.length_map]; exact hlen, us, _, hvals, hobj⟩
      · cases (off e).symm.trans z
    · by_cases e : b = adr
      · exact e
      · exact absurd (off e) z
  · obtain ⟨u, look⟩ := Option.ne_none_iff_exists'.mp look
    cases hobj.symm.trans (hin adr u look)
    exact body (fun _ => none) (fun _ => .inl rfl) (.inr ⟨_, us.toArray, _, look, rfl, rfl, rfl, by rw [List.size_toArray, hints.length]; exact hlen, by simpa using hvals⟩) (fun b u z => nomatch z) (fun b z => absurd rfl z) fun z => absurd rfl z
theorem walkWG {l : PySem.W.OpenLaw} {n k : Nat} {q : Program} {loose : List Str} {XP : (Str → Option Value) → Heap → Prop} {YP : World → Heap → Prop} {d : DefRec} {x : Str} (hmost : l.most = some n) (hline : n ≤ sizeLine) (hdefs : d.params.defaults = []) (hroom : Room k callerA)
    (F : ∀ (w : World) (mg : Str → Option Value) (fa : Addr) (h : Heap), YP w h → h.Ns mainGlobals mg → mg d.name = some (.ref fa) →
      ∃ (K : PySem.W.Frag) (fd : FuncData) (sp : Sp), K.In h ∧ (∀ (s : Shared) (u : Value), BindsTo s fd ⟨[u], []⟩ [(x, u)]) ∧ (∀ (H : Hp) (a : Addr) (ns : List Int), ns.length ≤ n → Only H → SqL K H a (ns.map V.int) → sp [.ref a] H (fun v _ => v = .bl true) fun _ _ _ => False) ∧
        ∀ base : Heap, K.In base → base.Ns mainGlobals mg → FnG l.prog w K mg base k fa fd [x] sp) : PySem.W.WalkO q loose XP YP l.row.toRowW d [] (fun f vs => PySem.call f vs) := by
  refine Att.attach_call hmost hdefs fun w s0 s1 mg mb fa o pm cd doc a vs ns Gr Yh ho hd hcd hmg hobj hints hlen hgen => ?_
  obtain ⟨K, fd, sp, KX, hb, hsp, hF⟩ := F w mg fa _ Yh Gr.T.g hmg
  refine law_callG KX Gr.T.g Gr.T.b Gr.T.builtins Gr.T.nolimit hgen hobj hints (Nat.le_trans hlen hline) hroom hF hb (fun H hO hS => hsp H a ns hlen hO hS) fun H e s' h => ?_
  obtain ⟨_, _, _, _, _, _, _, _, _, _, _, _, z⟩ := h
  exact z
end RB

set_option Elab.async false
set_option linter.all false
set_option maxRecDepth 100000
set_option maxHeartbeats 4000000
/-! RB33: an own list lent to a test; what fits repr -/
namespace RB
open PySem PySem.Spec PyProof.Rows L2
/-- while t is asked, slot i's own list is seen as data -/
def dLendT (i : Nat) (dt : DTT) : DTT := fun δ Q _ => ∃ ds, δ[i]? = some (.own ds) ∧ dt ((δ.map bare).set i (.dat (.list ds))) Q (fun _ => False)
theorem dt_lend {X : Cx} {W : WX} {i : Nat} {c : Expr} {dt : DTT} (hc : PT X c (lT X.K W0 dt)) : PT X c (lT X.K W (dLendT i dt)) := ⟨fun pins s σ H Q I h => hc.run pins s σ H Q I (by
  obtain ⟨B, δ, G, Q2, X2, R, ⟨ds, hd, h⟩, k, kx⟩ := h
  obtain ⟨y, hy, a, xs, rfl, b1, b2, b3, b4, b5⟩ := R.at hd
  have R0 := rel_bare R
  have s1 : Same G (upd G a (.lst xs)) := same_upd b2
  have w1 := R0.wd.freeze b4 b2 (fun z => z)
  have R1 : Rel X.K ⟨fun _ => False, upd G a (.lst xs), H, noT⟩ ((δ.map bare).set i (.dat (.list ds))) σ (upd G a (.lst xs)) H := by
    refine ⟨w1, .refl, by rw [List.length_set]; exact R0.len, fun j t x e1 e2 => ?_, fun j l c us vs f1 f2 _ _ => ?_⟩
    · rw [List.getElem?_set] at e1
      split at e1
      · rename_i hij
        subst hij
        split at e1
        · cases e1
          rw [hy] at e2
          cases e2
          exact ⟨_, rfl, Dt.lst upd_same (b5.mono s1)⟩
        · cases e1
      · have q := R0.sl j t x e1 e2
        cases t with
        | no => trivial
        | dat d => obtain ⟨v, e, q⟩ := q; exact ⟨v, e, q.mono s1⟩
        | new d => obtain ⟨v, e, q⟩ := q; exact ⟨v, e, q.mono s1 fun _ z => z⟩
        | own ds =>
          exfalso
          rw [List.getElem?_map] at e1
          cases z : δ[j]? with
          | none => rw [z] at e1; cases e1
          | some t => rw [z] at e1; cases t <;> cases e1
        | raw v => exact q
        | sto => exact q
        | dic kvs =>
          exfalso
          rw [List.getElem?_map] at e1
          cases z : δ[j]? with
          | none => rw [z] at e1; cases e1
          | some t => rw [z] at e1; cases t <;> cases e1
        | tre d =>
          exfalso
          rw [List.getElem?_map] at e1
          cases z : δ[j]? with
          | none => rw [z] at e1; cases e1
          | some t => rw [z] at e1; cases t <;> cases e1
    · exfalso
      rw [List.getElem?_set] at f1
      split at f1
      · split at f1 <;> cases f1
      · rw [List.getElem?_map] at f1
        cases z : δ[j]? with
        | none => rw [z] at f1; cases f1
        | some t => rw [z] at f1; cases t <;> cases f1
  refine ⟨_, _, _, Q2, fun _ => False, R1, h, fun b G2 H2 w2 t2 q2 => ?_, fun _ _ _ _ z => z⟩
  have w' : Wd B.M G H2 := ⟨fun b o g => t2.hh b o (fun z => z) (R.wd.sub _ _ g), fun b m => by
    have so := R.wd.sto b m
    refine so.mono (fun _ _ z => z) so.fr ?_
    obtain ⟨_, _, _, _, _, _, _, _, e, _⟩ := so.ex
    rw [e]
    exact t2.hh b _ (fun z => z) e⟩
  have t' : Ext B.M G H G H2 := ⟨fun b o _ g => t2.hh b o (fun z => z) g, fun _ _ z => z, fun _ _ z => z, fun b z => t2.hm b z⟩
  exact k b G H2 w' t' q2)⟩
/-! ### what repr shows fits -/
theorem Rep.mono {n m y z : Nat} {d : D} (h : Rep n y d) (h1 : n ≤ m) (h2 : y ≤ z) : Rep m z d := ⟨Nat.le_trans h.dep h1, h.sho, Nat.le_trans h.len h2⟩
theorem rep_none {n z : Nat} (hz : 4 ≤ z) : Rep n z .none := ⟨by simp [PyData.depth], by simp [PyData.showable], by rw [PyData.shown_none]; exact hz⟩
theorem rep_bool {n z : Nat} (b : Bool) (hz : 5 ≤ z) : Rep n z (.bool b) := ⟨by simp [PyData.depth], by simp [PyData.showable], by rw [PyData.shown_bool]; cases b; exact hz; exact Nat.le_trans (by decide) hz⟩
theorem rep_int {n z : Nat} {i : Int} (hi : i.natAbs < 2 ^ 1900) (hz : 600 ≤ z) : Rep n z (.int i) := by
  have hlog : i.natAbs.log2 < 1920 := by
    by_cases n0 : i.natAbs = 0
    · rw [n0]; decide
    · have : i.natAbs.log2 < 1900 := (Nat.log2_lt n0).mpr hi
      omega
  refine ⟨by simp [PyData.depth], by simpa [PyData.showable] using hlog, ?_⟩
  rw [PyData.shown_int]
  have e := int_text_length_le10 (k := 580) (a := i) (by decide) (Nat.lt_trans hi (by decide +kernel))
  rw [PySem.ofString_length]
  omega
theorem rep_str {n z : Nat} {x : Str} (h : (reprText x).length ≤ z) : Rep n z (.str x) := ⟨by simp [PyData.depth], by simp [PyData.showable], by rw [PyData.shown_str]; exact h⟩
theorem showAll {n z : Nat} : ∀ {ds : List D}, (∀ d ∈ ds, Rep n z d) → PyData.showableAll ds = true ∧ PyData.depthAll ds ≤ n ∧ piled (PyData.shownAll ds) ≤ ds.length * (z + 2)
  | [], _ => ⟨by simp [PyData.showableAll], by simp [PyData.depthAll], by rw [PyData.shownAll_nil]; simp [piled]⟩
  | d :: ds, h => by
    obtain ⟨h1, h2, h3⟩ := h d List.mem_cons_self
    obtain ⟨k1, k2, k3⟩ := showAll fun e he => h e (List.mem_cons_of_mem _ he)
    refine ⟨by rw [PyData.showableAll, h2, k1]; rfl, by simp only [PyData.depthAll]; omega, ?_⟩
    rw [PyData.shownAll_cons, piled_cons, List.length_cons, Nat.succ_mul]
    omega
theorem join_le {ts : List Str} : (Str.join ", " ts).length ≤ piled ts := by
  by_cases h : ts = []
  · subst h; exact Nat.zero_le _
  · have := join_length_add ts h
    omega
theorem rep_lst {n z L B : Nat} {ds : List D} (h : ∀ d ∈ ds, Rep n z d) (hl : ds.length ≤ L) (hB : L * (z + 2) + 2 ≤ B) : Rep (n + 1) B (.list ds) := by
  obtain ⟨k1, k2, k3⟩ := showAll h
  refine ⟨by simp only [PyData.depth]; omega, by simpa [PyData.showable] using k1, ?_⟩
  have e : (PyData.list ds).shown = listText (PyData.shownAll ds) := by simp only [PyData.shown]
  rw [e, listText_eq_join, strLen_append, strLen_append]
  have := join_le (ts := PyData.shownAll ds)
  have := Nat.mul_le_mul_right (z + 2) hl
  have e1 : ((("[" : String) : Str)).length = 1 := rfl
  have e2 : ((("]" : String) : Str)).length = 1 := rfl
  omega
theorem rep_tup {n z L B : Nat} {ds : List D} (h : ∀ d ∈ ds, Rep n z d) (hl : ds.length ≤ L) (hB : L * (z + 2) + 3 ≤ B) : Rep (n + 1) B (.tuple ds) := by
  obtain ⟨k1, k2, k3⟩ := showAll h
  refine ⟨by simp only [PyData.depth]; omega, by simpa [PyData.showable] using k1, ?_⟩
  have e : (PyData.tuple ds).shown = tupleText (PyData.shownAll ds) := by simp only [PyData.shown]
  rw [e, tupleText, strLen_append, strLen_append]
  have := join_le (ts := PyData.shownAll ds)
  have := Nat.mul_le_mul_right (z + 2) hl
  have e1 : ((("(" : String) : Str)).length = 1 := rfl
  have e2 : ((if (PyData.shownAll ds).length == 1 then ",)" else ")" : String) : Str).length ≤ 2 := by split <;> decide
  omega
end RB

set_option Elab.async false
set_option linter.all false
set_option maxRecDepth 100000
set_option maxHeartbeats 4000000
/-! RB34: x is True, x is not False -/
namespace RB
open PySem PySem.Spec PyProof.Rows L2
theorem op_isB {X : Cx} : OpR X (compareOp .Is) (fun x y H Q => ∃ b c, x = .bl b ∧ y = .bl c ∧ Q (.bl (decide (b = c))) H) := by
  intro pins s σ H x y v u Q I rx ry h
  obtain ⟨b, c, rfl, rfl, q⟩ := h
  cases rx
  cases ry
  refine wpAny_is_plain rfl (fin_bl I q ?_)
  cases b <;> cases c <;> rfl
theorem op_notB {X : Cx} : OpR X (compareOp .IsNot) (fun x y H Q => ∃ b c, x = .bl b ∧ y = .bl c ∧ Q (.bl (!decide (b = c))) H) := by
  intro pins s σ H x y v u Q I rx ry h
  obtain ⟨b, c, rfl, rfl, q⟩ := h
  cases rx
  cases ry
  refine wpAny_isNot_plain rfl (fin_bl I q ?_)
  cases b <;> cases c <;> rfl
def bIsB (r1 r2 : RV) (Q : RV → Prop) : Prop := match r1.d?, r2.d? with
  | some (.bool a), some (.bool b) => Q (.dat (.bool (decide (a = b))))
  | _, _ => False
def bNotB (r1 r2 : RV) (Q : RV → Prop) : Prop := match r1.d?, r2.d? with
  | some (.bool a), some (.bool b) => Q (.dat (.bool (!decide (a = b))))
  | _, _ => False
section
variable {K : PySem.W.Frag}
theorem o2_isB : Op2 K (fun x y H Q => ∃ b c, x = .bl b ∧ y = .bl c ∧ Q (.bl (decide (b = c))) H) bIsB := by
  intro M HB H0 G H x y r1 r2 Q2 Q w o1 o2 hf k
  unfold bIsB at hf
  split at hf
  · rename_i i j e1 e2
    exact ⟨i, j, o1.bool e1, o2.bool e2, k (.dat (.bool _)) _ G H w .refl (Dt.bl _) hf⟩
  · exact hf.elim
theorem o2_notB : Op2 K (fun x y H Q => ∃ b c, x = .bl b ∧ y = .bl c ∧ Q (.bl (!decide (b = c))) H) bNotB := by
  intro M HB H0 G H x y r1 r2 Q2 Q w o1 o2 hf k
  unfold bNotB at hf
  split at hf
  · rename_i i j e1 e2
    exact ⟨i, j, o1.bool e1, o2.bool e2, k (.dat (.bool _)) _ G H w .refl (Dt.bl _) hf⟩
  · exact hf.elim
end
section
variable {X : Cx} {W : WX} {a b : Expr} {da db : DTE} {pos : Pos}
theorem de_isB (ha : PE X a (lE X.K W da)) (hb : PE X b (lE X.K W db)) : PE X (.Compare a [.Is] [b] pos) (lE X.K W (dBin bIsB da db)) := de_cmp op_isB o2_isB ha hb (nomark _)
theorem dt_isB (ha : PE X a (lE X.K W da)) (hb : PE X b (lE X.K W db)) : PT X (.Compare a [.Is] [b] pos) (lT X.K W (dB (dBin bIsB da db))) := dt_cmp op_isB o2_isB ha hb (nomark _)
theorem de_notB (ha : PE X a (lE X.K W da)) (hb : PE X b (lE X.K W db)) : PE X (.Compare a [.IsNot] [b] pos) (lE X.K W (dBin bNotB da db)) := de_cmp op_notB o2_notB ha hb (nomark _)
theorem dt_notB (ha : PE X a (lE X.K W da)) (hb : PE X b (lE X.K W db)) : PT X (.Compare a [.IsNot] [b] pos) (lT X.K W (dB (dBin bNotB da db))) := dt_cmp op_notB o2_notB ha hb (nomark _)
end
end RB

set_option Elab.async false
set_option linter.all false
set_option maxRecDepth 100000
set_option maxHeartbeats 4000000
/-! RB35: a new list of ints is taken as an own one; a name that may hold an own list lent to a test -/
namespace RB
open PySem PySem.Spec PyProof.Rows L2
/-- an own list, if the name holds one, is seen as data by the test -/
def dLendV (i : Nat) (dt : DTT) : DTT := fun δ Q X => match δ.getD i .no with
  | .own ds => dt ((δ.map bare).set i (.dat (.list ds))) Q (fun _ => False)
  | _ => dt δ Q (fun _ => False)
theorem dt_lendV {X : Cx} {W : WX} {i : Nat} {c : Expr} {dt : DTT} (hc : PT X c (lT X.K W0 dt)) : PT X c (lT X.K W (dLendV i dt)) := ⟨fun pins s σ H Q I h => by
  obtain ⟨B, δ, G, Q2, X2, R, h, k, kx⟩ := h
  unfold dLendV at h
  split at h
  · rename_i ds e
    exact (dt_lend (W := W) hc).run pins s σ H Q I ⟨B, δ, G, Q2, X2, R, ⟨ds, getD_some e fun z => (nomatch z), h⟩, k, kx⟩
  · exact hc.run pins s σ H Q I ⟨B, δ, G, Q2, _, R, h, k, fun _ _ _ _ z => z⟩⟩
/-- what was new or own is own -/
def ownR (Q : RV → Prop) : RV → Prop
  | .new (.list ds) => (∀ d ∈ ds, ∃ n : Int, d = .int n) ∧ Q (.own ds)
  | .own ds => (∀ d ∈ ds, ∃ n : Int, d = .int n) ∧ Q (.own ds)
  | .dat (.int n) => Q (.dat (.int n))
  | .dat .none => Q (.dat .none)
  | _ => False
def dNewO (de : DTE) : DTE := fun δ Q X => de (δ.map bare) (ownR Q) X
theorem bare_back {K : PySem.W.Frag} {B : Base} {δ : DSt} {σ : St} {G H G' H' : Hp} (R : Rel K B δ σ G H) (w : Wd (fun _ => False) G' H') (t : Ext (fun _ => False) G H G' H') : Wd B.M G H' ∧ Ext B.M G H G H' :=
  ⟨⟨fun b o g => t.hh b o (fun z => z) (R.wd.sub _ _ g), fun b m => by
    have so := R.wd.sto b m
    refine so.mono (fun _ _ z => z) so.fr ?_
    obtain ⟨_, _, _, _, _, _, _, _, e, _⟩ := so.ex
    rw [e]
    exact t.hh b _ (fun z => z) e⟩, ⟨fun b o _ g => t.hh b o (fun z => z) g, fun _ _ z => z, fun _ _ z => z, fun b z => t.hm b z⟩⟩
theorem de_newO {X : Cx} {W : WX} {e : Expr} {de : DTE} (he : PE X e (lE X.K W de)) : PE X e (lE X.K W (dNewO de)) := by
  refine he.imp fun σ H Q h => ?_
  obtain ⟨B, δ, G, Q2, X2, R, h, k, kx⟩ := h
  have R0 := rel_bare R
  refine ⟨_, _, G, _, X2, R0, h, fun r v G1 H1 w1 t1 o1 q1 => ?_, fun C G' H' R' x => ?_⟩
  · obtain ⟨w', t'⟩ := bare_back R w1 t1
    cases r with
    | dat d =>
      cases d
      case int n =>
        cases (show Dt X.K G1 v (.int n) from o1)
        exact k (.dat (.int n)) _ G H1 w' t' (Dt.int n) q1
      case none =>
        cases (show Dt X.K G1 v .none from o1)
        exact k (.dat .none) _ G H1 w' t' Dt.non q1
      all_goals exact q1.elim
    | new d =>
      cases d
      case list ds =>
        obtain ⟨hz, q1⟩ := q1
        have nw : Nw X.K H G1 v (.list ds) := o1
        cases nw with
        | @lst a xs _ ha hg hl =>
          have hH : H1 a = some (.lst xs) := w1.sub _ _ hg
          exact k (.own ds) _ G H1 w' t' ⟨a, xs, rfl, ha, R.wd.noG ha, R.wd.nm ha, hH, dtA_ints (NwA.dt hl) hz⟩ q1
      all_goals exact q1.elim
    | own ds =>
      obtain ⟨hz, q1⟩ := q1
      obtain ⟨a, xs, rfl, b1, b2, b3, b4, b5⟩ := o1
      exact k (.own ds) _ G H1 w' t' ⟨a, xs, rfl, b1, R.wd.noG b1, R.wd.nm b1, b4, dtA_ints b5 hz⟩ q1
    | view ds => exact q1.elim
    | raw z => exact q1.elim
    | sto => exact q1.elim
  · obtain ⟨w', t'⟩ := bare_back R R'.wd (Ext.nt R'.ext)
    exact kx C G H' (R.step w' t') x
end RB

set_option Elab.async false
set_option linter.all false
set_option maxRecDepth 100000
set_option maxHeartbeats 4000000
/-! RB36: a new answer is kept with its lists open; it is lent to tests; its lists are changed -/
namespace RB
open PySem PySem.Spec PyProof.Rows L2
/-! ### x = e -/
def unT : Sl → Sl
  | .new d => .dat d
  | s => s
def noTre : Sl → Sl
  | .tre _ => .no
  | s => s
/-- what is new or own is kept open -/
def treR (Q : Sl → Prop) : RV → Prop
  | .new d => Q (.tre d)
  | .own ds => (∀ d ∈ ds, NoL d) ∧ Q (.tre (.list ds))
  | .dat (.int n) => Q (.dat (.int n))
  | .dat (.bool b) => Q (.dat (.bool b))
  | .dat (.str x) => Q (.dat (.str x))
  | .dat .none => Q (.dat .none)
  | .dat (.tuple ds) => NoL (.tuple ds) ∧ Q (.tre (.tuple ds))
  | _ => False
def dSetW (i : Nat) (de : DTE) : DTS := fun D δ => de (δ.map bare) (treR fun s => D.nx ((δ.map unT).set i s)) (fun C => D.ex C δ)
def newH (B H H1 : Hp) : Hp := fun b => match H b with
  | none => H1 b
  | some _ => B b
theorem newH_old {B H H1 : Hp} {b : Addr} (h : H b ≠ none) : newH B H H1 b = B b := by
  unfold newH
  cases e : H b with
  | none => exact absurd e h
  | some o => rfl
theorem newH_new {B H H1 : Hp} {b : Addr} (h : H b = none) : newH B H H1 b = H1 b := by
  unfold newH
  rw [h]
def newB (B : Base) (H H1 : Hp) : Base := ⟨B.M, B.G, newH B.H H H1, fun b => B.T b ∨ (H b = none ∧ H1 b ≠ none)⟩
section
variable {K : PySem.W.Frag} {B : Base} {δ : DSt} {σ : St} {G H G1 H1 : Hp}
theorem newB_le (R : Rel K B δ σ G H) : Le B (newB B H H1) := by
  refine ⟨rfl, ⟨fun b o m e => ?_, fun _ _ z => z, fun _ _ z => z, fun b z => ?_⟩, fun b z y => ?_⟩
  · have : H b ≠ none := R.ext.hm b (by rw [e]; exact fun z => nomatch z)
    show newH B.H H H1 b = some o
    rw [newH_old this]; exact e
  · show newH B.H H H1 b ≠ none
    rw [newH_old (R.ext.hm b z)]; exact z
  · exact y.elim id fun y => absurd y.1 (R.ext.hm b z)
mutual
theorem Tr.ofNw (w : Same G1 H1) (sm : ∀ a, H a = none → G a = none ∧ ¬ B.M a) (st : ∀ a, B.M a → H a ≠ none) (sT : ∀ a xs, SqT K G1 a xs → (¬ B.M a ∨ ∀ Z, SqT K Z a xs)) : ∀ {d : D} {v : V}, Nw K H G1 v d → Tr K B.M (newB B H H1).T (newB B H H1).H G H1 v d
  | .none, _, h => by cases h; exact .old .non .non
  | .bool b, _, h => by cases h; exact .old (.bl b) (.bl b)
  | .int i, _, h => by cases h; exact .old (.int i) (.int i)
  | .str x, _, h => by cases h; exact .old (.str x) (.str x)
  | .list ds, _, h => by
    cases h with
    | lst h0 h1 h2 =>
      have e := w _ _ h1
      refine .lst ?_ (.inr ⟨h0, by rw [e]; exact fun z => nomatch z⟩) (sm _ h0).1 (sm _ h0).2 e (TrA.ofNw w sm st sT h2)
      show newH B.H H H1 _ ≠ none
      rw [newH_new h0, e]; exact fun z => nomatch z
  | .tuple ds, _, h => by
    cases h with
    | tup h1 h2 => exact .tup (same_sqT w h1) (sT _ _ h1) (TrA.ofNw w sm st sT h2)
  | .dict _, _, h => by cases h
theorem TrA.ofNw (w : Same G1 H1) (sm : ∀ a, H a = none → G a = none ∧ ¬ B.M a) (st : ∀ a, B.M a → H a ≠ none) (sT : ∀ a xs, SqT K G1 a xs → (¬ B.M a ∨ ∀ Z, SqT K Z a xs)) : ∀ {ds : List D} {vs : List V}, NwA K H G1 vs ds → TrA K B.M (newB B H H1).T (newB B H H1).H G H1 vs ds
  | [], _, h => by cases h; exact .nil
  | d :: ds, _, h => by
    cases h with
    | cons h1 h2 => exact .cons (Tr.ofNw w sm st sT h1) (TrA.ofNw w sm st sT h2)
end
theorem sqT_free (R : Rel K B δ σ G H) (w1 : Same G1 H1) (t1 : Ext (fun _ => False) G H G1 H1) : ∀ a xs, SqT K G1 a xs → (¬ B.M a ∨ ∀ Z, SqT K Z a xs) := fun a xs h => by
  have no : ∀ {o : HO}, G1 a = some o → (∀ ys, o ≠ .lst ys) → ¬ B.M a := fun {o} e n m => by
    obtain ⟨_, _, _, _, _, _, _, _, e2, _⟩ := (R.wd.sto a m).ex
    have := t1.hh a _ (fun z => z) e2
    rw [w1 _ _ e] at this
    exact n _ (Option.some.inj this)
  rcases h with (h | ⟨o, h⟩) | h
  · exact .inl (no h fun _ z => (nomatch z))
  · exact .inl (no h fun _ z => (nomatch z))
  · exact .inr fun Z => .inr h
/-- the slots over the new base -/
theorem rel_new (R : Rel K B δ σ G H) (w' : Wd B.M G H1) (t' : Ext B.M G H G H1) {i : Nat} {v : V} {s : Sl} (hs : SlOk K (newB B H H1) G H1 (some v) s) (hn : ∀ ds, s ≠ .own ds) : Rel K (newB B H H1) ((δ.map unT).set i s) (σ.set i (some v)) G H1 := by
  have out : ∀ {a : Addr}, H a ≠ none → (newB B H H1).H a = B.H a := fun z => newH_old z
  refine ⟨w', ⟨fun b o m e => ?_, R.ext.gg, fun b z g => ?_, fun b z => ?_⟩, by rw [List.length_set, List.length_set, List.length_map]; exact R.len, fun j s' x e1 e2 => ?_, fun j l a ds es e1 e2 e3 e4 => ?_⟩
  · cases eH : H b with
    | none => exact absurd (.inr (.inr ⟨eH, by
        have e : newH B.H H H1 b = some o := e
        rw [newH_new eH] at e
        rw [e]; exact fun z => nomatch z⟩)) m
    | some u =>
      rw [out (by rw [eH]; exact fun z => nomatch z)] at e
      have mM : ¬ B.MT b := fun z => m (z.imp id .inl)
      have := R.ext.hh b o mM e
      exact t'.hh b o (fun z => mM (.inl z)) this
  · cases eH : H b with
    | none => exact R.wd.noG eH
    | some u =>
      have hb : H b ≠ none := by rw [eH]; exact fun z => nomatch z
      rw [out hb] at z
      exact R.ext.fr b z g
  · cases eH : H b with
    | none =>
      have z : newH B.H H H1 b ≠ none := z
      rw [newH_new eH] at z; exact z
    | some u => exact t'.hm b (by rw [eH]; exact fun z => nomatch z)
  · by_cases hj : i = j
    · subst hj
      rw [List.getElem?_set, if_pos rfl] at e1 e2
      split at e1
      · split at e2
        · cases e1; cases e2; exact hs
        · cases e2
      · cases e1
    · rw [List.getElem?_set_ne hj, List.getElem?_map] at e1
      rw [List.getElem?_set_ne hj] at e2
      cases z : δ[j]? with
      | none => rw [z] at e1; cases e1
      | some s0 =>
        rw [z] at e1
        cases e1
        have q := R.sl j s0 x z e2
        cases s0 with
        | no => trivial
        | dat d => exact q
        | new d => obtain ⟨u, e, q⟩ := q; exact ⟨u, e, Nw.dt q⟩
        | own us =>
          obtain ⟨c, zs, rfl, c1, c2, c3, c4, c5⟩ := q
          exact ⟨c, zs, rfl, by rw [out (by rw [c4]; exact fun z => nomatch z)]; exact c1, c2, c3, t'.hh c _ c3 c4, c5⟩
        | raw u => exact q
        | sto => exact q
        | dic us =>
          obtain ⟨c, zs, rfl, c1, c2, c3, c4, c5⟩ := q
          exact ⟨c, zs, rfl, by rw [out (by rw [c4]; exact fun z => nomatch z)]; exact c1, c2, c3, t'.hh c _ c3 c4, c5⟩
        | tre d =>
          obtain ⟨u, e, q⟩ := q
          exact ⟨u, e, q.imp (fun c xs h1 h0 h2 h3 h4 => ⟨by rw [out (by rw [h4]; exact fun z => nomatch z)]; exact h1, .inl h0, h2, h3, t'.hh c _ h3 h4⟩) (fun c xs h1 h2 => ⟨sqT_ext t' h2 h1, h2⟩) (fun _ _ z => z)⟩
  · have ne : ∀ {j : Nat} {us : List D}, ((δ.map unT).set i s)[j]? = some (.own us) → i ≠ j ∧ δ[j]? = some (.own us) := fun {j us} f => by
      by_cases hj : i = j
      · subst hj
        rw [List.getElem?_set, if_pos rfl] at f
        split at f
        · cases f; exact absurd rfl (hn us)
        · cases f
      · rw [List.getElem?_set_ne hj, List.getElem?_map] at f
        cases z : δ[j]? with
        | none => rw [z] at f; cases f
        | some s0 => rw [z] at f; cases s0 <;> cases f; exact ⟨hj, rfl⟩
    obtain ⟨n1, f1⟩ := ne e1
    obtain ⟨n2, f2⟩ := ne e2
    rw [List.getElem?_set_ne n1] at e3
    rw [List.getElem?_set_ne n2] at e4
    exact R.sep j l a ds es f1 f2 e3 e4
end
section
variable {X : Cx} {W : WX} {i : Nat} {x : Str} {e c : Expr} {de dv : DTE} {dt : DTT} {p1 p2 p3 p4 p5 p6 p7 p8 p9 p10 p11 : Pos} {k1 k2 : Nat}
theorem ds_setW (hN : X.N.Nodup) (he : PE X e (lE X.K W de)) (hi : X.N[i]? = some x := by rfl) (hx : Loc X.env.scope x := by first | exact Or.inl rfl | exact Or.inr rfl) (hs : swapsWith e (some (.Name x p1)) p2.line X.env = pure false := by rfl) (hf : X.fn x = true ∨ X.env.scope.names.lookup x = some .local := by first | exact .inl rfl | exact .inr rfl | assumption) : PS X (.Assign [.Name x p1] e p2) (lS X.K W (dSetW i de)) := (ps_set hN hi hx he hs hf).imp fun D σ H h => by
  obtain ⟨B, δ, G, D2, R, k, h⟩ := h
  have R0 := rel_bare R
  refine ⟨_, _, G, _, _, R0, h, fun r v G1 H1 w1 t1 o1 q1 => ?_, fun C G' H' R' x => ?_⟩
  · obtain ⟨w', t'⟩ := bare_back R w1 t1
    have sm : ∀ a, H a = none → G a = none ∧ ¬ B.M a := fun a z => ⟨R.wd.noG z, R.wd.nm z⟩
    have st : ∀ a, B.M a → H a ≠ none := fun a m => (R.wd.sto a m).there
    have sT := sqT_free R w1.sub t1
    have go : ∀ s, SlOk X.K (newB B H H1) G H1 (some v) s → (∀ ds, s ≠ .own ds) → D2.nx ((δ.map unT).set i s) → D.nx (σ.set i (some v)) H1 := fun s hs hn q => k.nx' _ (newB_le R) _ _ G H1 (rel_new R w' t' hs hn) q
    cases r with
    | dat d =>
      cases d
      case int n => exact go (.dat (.int n)) ⟨v, rfl, by cases (show Dt X.K G1 v (.int n) from o1); exact .int n⟩ (fun _ z => nomatch z) q1
      case bool b => exact go (.dat (.bool b)) ⟨v, rfl, by cases (show Dt X.K G1 v (.bool b) from o1); exact .bl b⟩ (fun _ z => nomatch z) q1
      case str b => exact go (.dat (.str b)) ⟨v, rfl, by cases (show Dt X.K G1 v (.str b) from o1); exact .str b⟩ (fun _ z => nomatch z) q1
      case tuple ds => exact go (.tre (.tuple ds)) ⟨v, rfl, Tr.ofNw w1.sub sm st sT (Nw.of (show Dt X.K G1 v (.tuple ds) from o1) q1.1)⟩ (fun _ z => nomatch z) q1.2
      case none => exact go (.dat .none) ⟨v, rfl, by cases (show Dt X.K G1 v .none from o1); exact .non⟩ (fun _ z => nomatch z) q1
      all_goals exact q1.elim
    | new d => exact go (.tre d) ⟨v, rfl, Tr.ofNw w1.sub sm st sT o1⟩ (fun _ z => nomatch z) q1
    | own ds =>
      obtain ⟨hz, q1⟩ := q1
      obtain ⟨a, xs, rfl, b1, b2, b3, b4, b5⟩ := o1
      refine go (.tre (.list ds)) ⟨_, rfl, .lst ?_ (.inr ⟨b1, by rw [b4]; exact fun z => nomatch z⟩) (sm _ b1).1 (sm _ b1).2 b4 (TrA.ofNw w1.sub sm st sT (NwA.of b5 hz))⟩ (fun _ z => nomatch z) q1
      show newH B.H H H1 a ≠ none
      rw [newH_new b1, b4]; exact fun z => nomatch z
    | view ds => exact q1.elim
    | raw z => exact q1.elim
    | sto => exact q1.elim
  · obtain ⟨w', t'⟩ := bare_back R R'.wd (Ext.nt R'.ext)
    exact k.ex C δ σ G H' (R.step w' t') x
end
end RB

set_option Elab.async false
set_option linter.all false
set_option maxRecDepth 100000
set_option maxHeartbeats 4000000
/-! RB37: an open answer is lent to tests; its lists are changed -/
namespace RB
open PySem PySem.Spec PyProof.Rows L2
/-! ### lent to a test -/
def dLendW (i : Nat) (dt : DTT) : DTT := fun δ Q X => match δ.getD i .no with
  | .own ds => dt ((δ.map bare).set i (.dat (.list ds))) Q (fun _ => False)
  | .tre d => dt ((δ.map bare).set i (.dat d)) Q (fun _ => False)
  | _ => dt δ Q (fun _ => False)
section
variable {K : PySem.W.Frag} {M T : Addr → Prop} {HB G H : Hp}
mutual
theorem Tr.dt (w : Same G H) : ∀ {d : D} {v : V}, Tr K M T HB G H v d → Dt K H v d
  | .none, _, h => by cases h with | old n h => exact h.mono w
  | .bool b, _, h => by cases h with | old n h => exact h.mono w
  | .int i, _, h => by cases h with | old n h => exact h.mono w
  | .str x, _, h => by cases h with | old n h => exact h.mono w
  | .list ds, _, h => by
    cases h with
    | old n h => exact h.mono w
    | lst h1 h0 h2 h3 h4 h5 => exact .lst h4 (TrA.dt w h5)
  | .tuple ds, _, h => by
    cases h with
    | old n h => exact h.mono w
    | tup h1 h2 h3 => exact .tup h1 (TrA.dt w h3)
  | .dict _, _, h => by cases h with | old n h => exact h.mono w
theorem TrA.dt (w : Same G H) : ∀ {ds : List D} {vs : List V}, TrA K M T HB G H vs ds → DtA K H vs ds
  | [], _, h => by cases h; exact .nil
  | d :: ds, _, h => by
    cases h with
    | cons h1 h2 => exact .cons (Tr.dt w h1) (TrA.dt w h2)
end
end
theorem rel_all {K : PySem.W.Frag} {B : Base} {δ : DSt} {σ : St} {G H : Hp} (R : Rel K B δ σ G H) {i : Nat} {d : D} {v : V} (hy : σ[i]? = some (some v)) (hv : Dt K H v d) : Rel K ⟨fun _ => False, H, H, noT⟩ ((δ.map bare).set i (.dat d)) σ H H := by
  have R0 := rel_bare R
  refine ⟨⟨fun _ _ z => z, fun _ z => z.elim⟩, .refl, by rw [List.length_set]; exact R0.len, fun j t x e1 e2 => ?_, fun j l c us vs f1 f2 _ _ => ?_⟩
  · rw [List.getElem?_set] at e1
    split at e1
    · rename_i hij
      subst hij
      split at e1
      · cases e1
        rw [hy] at e2
        cases e2
        exact ⟨_, rfl, hv⟩
      · cases e1
    · have q := R0.sl j t x e1 e2
      rw [List.getElem?_map] at e1
      cases z : δ[j]? with
      | none => rw [z] at e1; cases e1
      | some s0 =>
        rw [z] at e1
        cases e1
        cases s0 with
        | dat d => obtain ⟨u, e, q⟩ := q; exact ⟨u, e, q.mono R.wd.sub⟩
        | new d => obtain ⟨u, e, q⟩ := q; exact ⟨u, e, q.mono R.wd.sub⟩
        | _ => trivial
  · exfalso
    rw [List.getElem?_set] at f1
    split at f1
    · split at f1 <;> cases f1
    · rw [List.getElem?_map] at f1
      cases z : δ[j]? with
      | none => rw [z] at f1; cases f1
      | some t => rw [z] at f1; cases t <;> cases f1
theorem back_all {K : PySem.W.Frag} {B : Base} {δ : DSt} {σ : St} {G H G' H' : Hp} (R : Rel K B δ σ G H) (w : Wd (fun _ => False) G' H') (t : Ext (fun _ => False) H H G' H') : Wd B.M G H' ∧ Ext B.M G H G H' :=
  ⟨⟨fun b o g => t.hh b o (fun z => z) (R.wd.sub _ _ g), fun b m => by
    have so := R.wd.sto b m
    refine so.mono (fun _ _ z => z) so.fr ?_
    obtain ⟨_, _, _, _, _, _, _, _, e, _⟩ := so.ex
    rw [e]
    exact t.hh b _ (fun z => z) e⟩, ⟨fun b o _ g => t.hh b o (fun z => z) g, fun _ _ z => z, fun _ _ z => z, fun b z => t.hm b z⟩⟩
theorem dt_lendW {X : Cx} {W : WX} {i : Nat} {c : Expr} {dt : DTT} (hc : PT X c (lT X.K W0 dt)) : PT X c (lT X.K W (dLendW i dt)) := ⟨fun pins s σ H Q I h => by
  obtain ⟨B, δ, G, Q2, X2, R, h, k, kx⟩ := h
  unfold dLendW at h
  split at h
  · rename_i ds e
    exact (dt_lend (W := W) hc).run pins s σ H Q I ⟨B, δ, G, Q2, X2, R, ⟨ds, getD_some e fun z => (nomatch z), h⟩, k, kx⟩
  · rename_i d e
    obtain ⟨y, hy, v, rfl, tr⟩ := R.at (getD_some e fun z => (nomatch z))
    have R1 := rel_all R hy (tr.dt R.wd.sub)
    refine hc.run pins s σ H Q I ⟨_, _, H, Q2, fun _ => False, R1, h, fun b G2 H2 w2 t2 q2 => ?_, fun _ _ _ _ z => z⟩
    obtain ⟨w', t'⟩ := back_all R w2 t2
    exact k b G H2 w' t' q2
  · exact hc.run pins s σ H Q I ⟨B, δ, G, Q2, _, R, h, k, fun _ _ _ _ z => z⟩⟩
/-! ### the lists within -/
def pathL : D → List Nat → Option (List D)
  | .list ds, [] => some ds
  | .list ds, k :: ks => (ds[k]?).bind fun d => pathL d ks
  | .tuple ds, k :: ks => (ds[k]?).bind fun d => pathL d ks
  | _, _ => none
inductive Wk (K : PySem.W.Frag) (M : Addr → Prop) (H : Hp) : V → List Nat → V → Prop
  | nil (v : V) : Wk K M H v [] v
  | cons {a : Addr} {xs : List V} {k : Nat} {ks : List Nat} {w u : V} : ((SqT K H a xs ∧ (¬ M a ∨ ∀ Z, SqT K Z a xs)) ∨ (H a = some (.lst xs) ∧ ¬ M a)) → xs[k]? = some w → Wk K M H w ks u → Wk K M H (.ref a) (k :: ks) u
structure Cell (B : Base) (G H : Hp) (l : Addr) (xs : List V) : Prop where
  b : B.H l ≠ none
  t : B.T l
  g : G l = none
  m : ¬ B.M l
  h : H l = some (.lst xs)
section
variable {K : PySem.W.Frag} {B : Base} {M : Addr → Prop} {G H G' H' : Hp}
theorem noL_path : ∀ (ks : List Nat) {d : D} {ds : List D}, NoL d → pathL d ks = some ds → False
  | [], d, ds, n, e => by cases n <;> cases e
  | k :: ks, d, ds, n, e => by
    cases n with
    | @tup es h =>
      cases z : es[k]? with
      | none => rw [pathL, z] at e; cases e
      | some c =>
        rw [pathL, z] at e
        exact noL_path ks (h c (List.mem_of_getElem? z)) e
    | _ => cases e
theorem trA_get : ∀ {ds : List D} {vs : List V} {k : Nat} {d : D}, TrA K B.M B.T B.H G H vs ds → ds[k]? = some d → ∃ v, vs[k]? = some v ∧ Tr K B.M B.T B.H G H v d
  | _ :: _, _, 0, d, h, e => by
    cases h with
    | cons h1 h2 => cases e; exact ⟨_, rfl, h1⟩
  | _ :: _, _, k + 1, d, h, e => by
    cases h with
    | cons h1 h2 =>
      obtain ⟨w, ew, t⟩ := trA_get (k := k) h2 (by simpa using e)
      exact ⟨w, by simpa using ew, t⟩
theorem trA_len : ∀ {ds : List D} {vs : List V}, TrA K B.M B.T B.H G H vs ds → vs.length = ds.length
  | [], _, h => by cases h; rfl
  | _ :: _, _, h => by
    cases h with
    | cons h1 h2 => rw [List.length_cons, List.length_cons, trA_len h2]
theorem tr_path : ∀ (ks : List Nat) {d : D} {v : V} {ds : List D}, Tr K B.M B.T B.H G H v d → pathL d ks = some ds → ∃ l xs, Wk K B.M H v ks (.ref l) ∧ Cell B G H l xs ∧ xs.length = ds.length
  | [], d, v, ds, h, e => by
    cases h with
    | old n h => exact (noL_path [] n e).elim
    | lst h1 h0 h2 h3 h4 h5 => cases e; exact ⟨_, _, .nil _, ⟨h1, h0, h2, h3, h4⟩, trA_len h5⟩
    | tup h1 h2 h3 => cases e
  | k :: ks, d, v, ds, h, e => by
    cases h with
    | old n h => exact (noL_path _ n e).elim
    | @lst a xs es h1 h0 h2 h3 h4 h5 =>
      cases z : es[k]? with
      | none => rw [pathL, z] at e; cases e
      | some c =>
        rw [pathL, z] at e
        obtain ⟨w, ew, tw⟩ := trA_get h5 z
        obtain ⟨l, ys, wk, ce, hl⟩ := tr_path ks tw e
        exact ⟨l, ys, .cons (.inr ⟨h4, h3⟩) ew wk, ce, hl⟩
    | @tup a xs es h1 h2 h3 =>
      cases z : es[k]? with
      | none => rw [pathL, z] at e; cases e
      | some c =>
        rw [pathL, z] at e
        obtain ⟨w, ew, tw⟩ := trA_get h3 z
        obtain ⟨l, ys, wk, ce, hl⟩ := tr_path ks tw e
        exact ⟨l, ys, .cons (.inl ⟨h1, h2⟩) ew wk, ce, hl⟩
theorem Wk.ext (t : Ext M G H G' H') : ∀ {ks : List Nat} {v u : V}, Wk K M H v ks u → Wk K M H' v ks u
  | [], _, _, h => by cases h; exact .nil _
  | k :: ks, _, _, h => by
    cases h with
    | cons h1 h2 h3 =>
      refine .cons ?_ h2 (Wk.ext t h3)
      rcases h1 with ⟨h1, m⟩ | ⟨h1, m⟩
      · exact .inl ⟨sqT_ext t m h1, m⟩
      · exact .inr ⟨t.hh _ _ m h1, m⟩
theorem Wk.grow {l : Addr} {xs ys : List V} (hl : H l = some (.lst xs)) : ∀ {ks : List Nat} {v u : V}, Wk K M H v ks u → Wk K M (upd H l (.lst (xs ++ ys))) v ks u
  | [], _, _, h => by cases h; exact .nil _
  | k :: ks, _, _, h => by
    cases h with
    | @cons a zs _ _ w _ h1 h2 h3 =>
      have ih := Wk.grow (ys := ys) hl h3
      rcases h1 with ⟨h1, m⟩ | ⟨h1, m⟩
      · exact .cons (.inl ⟨sqT_upd hl ⟨fun _ z => (nomatch z), fun _ _ z => (nomatch z)⟩ h1, m⟩) h2 ih
      · by_cases e : a = l
        · subst e
          rw [hl] at h1
          cases h1
          refine .cons (.inr ⟨upd_same, m⟩) ?_ ih
          rw [List.getElem?_append_left (List.getElem?_eq_some_iff.mp h2).1]
          exact h2
        · exact .cons (.inr ⟨by rw [upd_ne e]; exact h1, m⟩) h2 ih
theorem Wk.snoc {k : Nat} {u : V} : ∀ {ks : List Nat} {v : V}, Wk K M H v (ks ++ [k]) u → ∃ a xs, Wk K M H v ks (.ref a) ∧ ((SqT K H a xs ∧ (¬ M a ∨ ∀ Z, SqT K Z a xs)) ∨ (H a = some (.lst xs) ∧ ¬ M a)) ∧ xs[k]? = some u
  | [], _, h => by
    cases h with
    | cons h1 h2 h3 => cases h3; exact ⟨_, _, .nil _, h1, h2⟩
  | j :: ks, _, h => by
    cases h with
    | cons h1 h2 h3 =>
      obtain ⟨a, xs, w, q, e⟩ := Wk.snoc h3
      exact ⟨a, xs, .cons h1 h2 w, q, e⟩
theorem Cell.mono {l : Addr} {xs : List V} (c : Cell B G H l xs) (t : Ext B.M G H G' H') : Cell B G' H' l xs := ⟨c.b, c.t, t.fr _ (by rw [c.h]; exact fun z => nomatch z) c.g, c.m, t.hh _ _ c.m c.h⟩
theorem Cell.grow {l k : Addr} {xs ys zs : List V} (c : Cell B G H l xs) (hk : H k = some (.lst zs)) : ∃ us, Cell B G (upd H k (.lst (zs ++ ys))) l us ∧ us.length ≤ xs.length + ys.length := by
  by_cases e : l = k
  · subst e
    rw [c.h] at hk
    cases hk
    exact ⟨_, ⟨c.b, c.t, c.g, c.m, upd_same⟩, by rw [List.length_append]; exact Nat.le_refl _⟩
  · exact ⟨xs, ⟨c.b, c.t, c.g, c.m, by rw [upd_ne e]; exact c.h⟩, Nat.le_add_right _ _⟩
/-- a kept list is changed: what was kept open is forgotten -/
theorem rel_mut {δ : DSt} {σ : St} (R : Rel K B δ σ G H) {l : Addr} {xs ys : List V} (c : Cell B G H l xs) : Rel K B (δ.map noTre) σ G (upd H l (.lst ys)) := by
  have hn : H l ≠ none := by rw [c.h]; exact fun z => nomatch z
  refine ⟨(sto_upd R.wd c.m c.g hn).1, ⟨fun b o m h => ?_, R.ext.gg, R.ext.fr, fun b h => ?_⟩, by rw [List.length_map]; exact R.len, fun j s' x f1 f2 => ?_, fun i j a us vs f1 f2 f3 f4 => ?_⟩
  · have ne : b ≠ l := fun z => m (.inr (by rw [z]; exact c.t))
    rw [upd_ne ne]
    exact R.ext.hh b o m h
  · by_cases z : b = l
    · subst z; rw [upd_same]; exact fun y => nomatch y
    · rw [upd_ne z]; exact R.ext.hm b h
  · rw [List.getElem?_map] at f1
    cases z : δ[j]? with
    | none => rw [z] at f1; cases f1
    | some s0 =>
      rw [z] at f1
      cases f1
      have q := R.sl j s0 x z f2
      cases s0 with
      | own us =>
        obtain ⟨a, zs, rfl, c1, c2, c3, c4, c5⟩ := q
        have ne : a ≠ l := fun z => c.b (by rw [← z]; exact c1)
        exact ⟨a, zs, rfl, c1, c2, c3, by rw [upd_ne ne]; exact c4, c5⟩
      | dic us =>
        obtain ⟨a, zs, rfl, c1, c2, c3, c4, c5⟩ := q
        have ne : a ≠ l := fun z => c.b (by rw [← z]; exact c1)
        exact ⟨a, zs, rfl, c1, c2, c3, by rw [upd_ne ne]; exact c4, c5⟩
      | tre d => trivial
      | no => trivial
      | dat d => exact q
      | new d => exact q
      | raw v => exact q
      | sto => exact q
  · have back : ∀ {j : Nat} {us : List D}, (δ.map noTre)[j]? = some (.own us) → δ[j]? = some (.own us) := fun {j us} f => by
      rw [List.getElem?_map] at f
      cases z : δ[j]? with
      | none => rw [z] at f; cases f
      | some s0 => rw [z] at f; cases s0 <;> cases f; rfl
    exact R.sep i j a us vs (back f1) (back f2) f3 f4
end
/-! ### x[k][..].append(e) -/
def tP (K : PySem.W.Frag) (i : Nat) (ks : List Nat) : TE := fun σ H Q => ∃ (M : Addr → Prop) (v u : V), σ[i]? = some (some v) ∧ Wk K M H v ks u ∧ Q u H
def dMut (i : Nat) (ks : List Nat) (dv : DTE) : DTS := fun D δ => match δ.getD i .no with
  | .tre d => ∃ ds, pathL d ks = some ds ∧ ds.length < sizeLine ∧ dv δ (fun _ => D.nx (δ.map noTre)) (fun C => D.ex C δ)
  | _ => False
/-- two of them -/
def dMut2 (i : Nat) (ks : List Nat) (dv : DTE) (ks2 : List Nat) (dv2 : DTE) (t : DTS) : DTS := fun D δ => match δ.getD i .no with
  | .tre d => ∃ ds es, pathL d ks = some ds ∧ ds.length < sizeLine ∧ pathL d ks2 = some es ∧ es.length + 1 < sizeLine ∧ dv δ (fun _ => dv2 (δ.map noTre) (fun _ => t D (δ.map noTre)) (fun C => D.ex C (δ.map noTre))) (fun C => D.ex C δ)
  | _ => False
section
variable {X : Cx} {W : WX} {i : Nat} {x : Str} {e ex ex2 v v2 : Expr} {ks ks2 : List Nat} {p1 p2 p3 p8 p9 p10 q8 q9 q10 : Pos} {dv dv2 : DTE} {rest : List Stmt} {u : DTS}
theorem pp_nil (hi : X.N[i]? = some x := by rfl) (hv : Vis X.env.scope x := by first | exact Or.inl rfl | exact Or.inr (Or.inl rfl) | exact Or.inr (Or.inr rfl)) (hd : (x == ("__debug__" : Str)) = false := by decide) (hcd : (x == ("__classdict__" : Str)) = false := by decide) : PE X (.Name x p1) (tP X.K i []) := (pe_var hi hv hd hcd).imp fun σ H Q h => by
  obtain ⟨M, v, u, e, w, q⟩ := h
  cases w
  exact ⟨v, e, q⟩
theorem pp_ix (k : Nat) {j : Nat} (h : PE X e (tP X.K i ks)) : PE X (.Subscript e (.Constant (.int (k : Int)) j p2) p3) (tP X.K i (ks ++ [k])) := (pe_ix ix_seq h pe_int (fun _ _ => rfl)).imp fun σ H Q h => by
  obtain ⟨M, v, u, e, w, q⟩ := h
  obtain ⟨a, xs, w, q1, ex⟩ := w.snoc
  have hk : k < xs.length := (List.getElem?_eq_some_iff.mp ex).1
  refine ⟨M, v, _, e, w, ?_⟩
  have at' : L2.atI xs (k : Int) = some u := by
    unfold L2.atI L2.ixN
    rw [if_pos (by omega), if_pos (by omega), Option.bind_some, Int.toNat_natCast]
    exact ex
  rcases q1 with ⟨q1, _⟩ | ⟨q1, _⟩
  · exact .inr (.inl ⟨_, _, k, _, rfl, rfl, q1, at', q⟩)
  · exact .inl ⟨_, _, k, _, rfl, rfl, SqL.of q1, at', q⟩
theorem ds_mut (hp : PE X ex (tP X.K i ks)) (hv : PE X v (lE X.K W dv))
    (hcall : ∀ {t1 : TE} {t2 : TA}, PE X ex t1 → PA X [v] t2 → PE X (.Call (.Attribute ex "append" p8) [v] [] p9) (tBM X.K "list" rAppend t1 t2))
    (hsw : swapsWith (.Call (.Attribute ex "append" p8) [v] [] p9) none p10.line X.env = pure false := by rfl) (hst : starEach [v] X.env = (false, eval v X.env) :: starEach [] X.env := by rfl) :
    PS X (.Expr (.Call (.Attribute ex "append" p8) [v] [] p9) p10) (lS X.K W (dMut i ks dv)) := (ps_expr (hcall hp (pa_cons hv pa_nil hst)) hsw).imp fun D σ H h => by
  obtain ⟨B, δ, G, D2, R, k, h⟩ := h
  unfold dMut at h
  split at h
  · rename_i d e
    obtain ⟨ds, hd, hz, h⟩ := h
    obtain ⟨y, e1, v0, rfl, tr⟩ := R.at (getD_some e fun z => nomatch z)
    obtain ⟨l, xs, wk, c, hl⟩ := tr_path ks tr hd
    refine ⟨_, v0, _, e1, wk, .inl ⟨rfl, _, SqL.of c.h⟩, B, δ, G, _, _, R, h, fun r y G1 H1 w1 t1 o1 q1 => ?_, k.xok⟩
    have c1 := c.mono t1
    exact ⟨l, xs, _, rfl, rfl, c1.h, by omega, k.nx _ _ G1 _ (rel_mut (R.step w1 t1) c1) q1⟩
  · exact h.elim
theorem dss_mut2 (hp : PE X ex (tP X.K i ks)) (hv : PE X v (lE X.K W dv)) (hp2 : PE X ex2 (tP X.K i ks2)) (hv2 : PE X v2 (lE X.K W dv2)) (hr : PSs X rest (lS X.K W u))
    (hcall : ∀ {t1 : TE} {t2 : TA}, PE X ex t1 → PA X [v] t2 → PE X (.Call (.Attribute ex "append" p8) [v] [] p9) (tBM X.K "list" rAppend t1 t2))
    (hcall2 : ∀ {t1 : TE} {t2 : TA}, PE X ex2 t1 → PA X [v2] t2 → PE X (.Call (.Attribute ex2 "append" q8) [v2] [] q9) (tBM X.K "list" rAppend t1 t2))
    (hsw : swapsWith (.Call (.Attribute ex "append" p8) [v] [] p9) none p10.line X.env = pure false := by rfl) (hst : starEach [v] X.env = (false, eval v X.env) :: starEach [] X.env := by rfl)
    (hsw2 : swapsWith (.Call (.Attribute ex2 "append" q8) [v2] [] q9) none q10.line X.env = pure false := by rfl) (hst2 : starEach [v2] X.env = (false, eval v2 X.env) :: starEach [] X.env := by rfl) :
    PSs X (.Expr (.Call (.Attribute ex "append" p8) [v] [] p9) p10 :: .Expr (.Call (.Attribute ex2 "append" q8) [v2] [] q9) q10 :: rest) (lS X.K W (dMut2 i ks dv ks2 dv2 u)) := (pss_cons (ps_expr (hcall hp (pa_cons hv pa_nil hst)) hsw) (pss_cons (ps_expr (hcall2 hp2 (pa_cons hv2 pa_nil hst2)) hsw2) hr)).imp fun D σ H h => by
  obtain ⟨B, δ, G, D2, R, k, h⟩ := h
  unfold dMut2 at h
  split at h
  · rename_i d e
    obtain ⟨ds, es, hd, hz, hd2, hz2, h⟩ := h
    obtain ⟨y, e1, v0, rfl, tr⟩ := R.at (getD_some e fun z => nomatch z)
    obtain ⟨l, xs, wk, c, hl⟩ := tr_path ks tr hd
    obtain ⟨l2, xs2, wk2, c2, hl2⟩ := tr_path ks2 tr hd2
    refine ⟨_, v0, _, e1, wk, .inl ⟨rfl, _, SqL.of c.h⟩, B, δ, G, _, _, R, h, fun r y G1 H1 w1 t1 o1 q1 => ?_, k.xok⟩
    have c1 := c.mono t1
    refine ⟨l, xs, _, rfl, rfl, c1.h, by omega, ?_⟩
    have R1 := rel_mut (ys := xs ++ [y]) (R.step w1 t1) c1
    obtain ⟨us, c3, hu⟩ := (c2.mono t1).grow (ys := [y]) c1.h
    have wk3 := (wk2.ext t1).grow (ys := [y]) c1.h
    refine ⟨_, v0, _, e1, wk3, .inl ⟨rfl, _, SqL.of c3.h⟩, B, _, G1, _, _, R1, q1, fun r y2 G2 H2 w2 t2 o2 q2 => ?_, k.xok⟩
    have c4 := c3.mono t2
    have hu : us.length ≤ xs2.length + 1 := hu
    exact ⟨l2, us, _, rfl, rfl, c4.h, by omega, B, _, G2, D2, rel_mut (R1.step w2 t2) c4, k, by rw [List.map_map, show noTre ∘ noTre = noTre from funext fun s => by cases s <;> rfl]; exact q2⟩
  · exact h.elim
end
end RB

set_option Elab.async false
set_option linter.all false
set_option maxRecDepth 100000
set_option maxHeartbeats 4000000
/-! RB38: [e for a in xs for b in ys]; an open list's item is stored, then one is appended -/
namespace RB
open PySem PySem.Spec PyProof.Rows L2
/-- slots of a block's target, at every later heap -/
def RelF (K : PySem.W.Frag) (B : Base) (δ0 : DSt) (σ0 : St) (G : Hp) (δ : DSt) (σ : St) : Prop := ∀ G5 H5, Same G G5 → Rel K B δ0 σ0 G5 H5 → Rel K B δ σ G5 H5
theorem RelF.set {K : PySem.W.Frag} {B : Base} {δ0 δ : DSt} {σ0 σ : St} {G : Hp} (R : RelF K B δ0 σ0 G δ σ) {i : Nat} {v : V} {d : D} (h : Dt K G v d) : RelF K B δ0 σ0 G (δ.set i (.dat d)) (σ.set i (some v)) := fun G5 H5 s R5 =>
  (R G5 H5 s R5).set R5.wd .refl (i := i) (s := .dat d) ⟨_, rfl, h.mono s⟩ (fun _ _ z => nomatch z)
theorem wipe_set_in {σ : St} {us : List Nat} {i : Nat} {x : Option V} : ∀ (vs : List Nat) (τ : St), i ∈ vs → L2.wipe (τ.set i x) vs = L2.wipe τ vs := by
  intro vs
  induction vs with
  | nil => intro τ hm; cases hm
  | cons v vs ih =>
    intro τ hm
    show (L2.wipe (τ.set i x) vs).set v none = (L2.wipe τ vs).set v none
    by_cases hv : i ∈ vs
    · rw [ih τ hv]
    · have e : i = v := (List.mem_cons.mp hm).resolve_right hv
      subst e
      have out : ∀ (ws : List Nat) (τ : St), i ∉ ws → L2.wipe (τ.set i x) ws = (L2.wipe τ ws).set i x := by
        intro ws
        induction ws with
        | nil => intro τ _; rfl
        | cons w ws ih2 =>
          intro τ hn
          show (L2.wipe (τ.set i x) ws).set w none = ((L2.wipe τ ws).set w none).set i x
          rw [ih2 τ fun z => hn (List.mem_cons_of_mem _ z), List.set_comm _ _ (fun z => hn (by rw [z]; exact List.mem_cons_self))]
      rw [out vs τ hv, List.set_set]
theorem gNs_wipeF {K : PySem.W.Frag} {B : Base} {δ0 : DSt} {G H : Hp} {Q : St → Hp → Prop} {N : DSt → Prop} {τ0 σ0 : St} {us : List Nat} (kq : ∀ δ σ, RelF K B δ0 τ0 G δ σ → L2.wipe σ us = L2.wipe σ0 us → N δ → Q σ H) : ∀ (is : List Nat) (ds : List D) (vs : List V) (δ : DSt) (σ : St), (∀ i ∈ is, i ∈ us) → (L2.wipe σ us = L2.wipe σ0 us) → RelF K B δ0 τ0 G δ σ → DtA K G vs ds → ds.length = is.length → N ((is.zip ds).foldl (fun s p => s.set p.1 (.dat p.2)) δ) → gNs is vs σ H Q
  | [], [], _, δ, σ, _, hw, R, h, _, n => by cases h; exact ⟨rfl, kq δ σ R hw n⟩
  | [], d :: ds, _, δ, σ, _, _, R, h, e, n => by simp at e
  | i :: is, [], _, δ, σ, _, _, R, h, e, n => by simp at e
  | i :: is, d :: ds, _, δ, σ, hs, hw, R, h, e, n => by
    cases h with
    | cons h1 h2 =>
      refine ⟨_, _, rfl, ?_⟩
      refine gNs_wipeF kq is ds _ _ _ (fun j m => hs j (List.mem_cons_of_mem _ m)) ?_ (R.set h1) h2 (by simpa using e) n
      rw [← hw]
      exact wipe_set_in (σ := σ) (us := us) us σ (hs i List.mem_cons_self)
theorem tg_wipeF {K : PySem.W.Frag} {B : Base} {G H : Hp} {Q : St → Hp → Prop} {N : DSt → Prop} {us : List Nat} {tg : Tg0} (hu : tg.ok us = true) {d : D} {v : V} {δ : DSt} {σ : St} (kq : ∀ δ' σ', RelF K B δ σ G δ' σ' → L2.wipe σ' us = L2.wipe σ us → N δ' → Q σ' H) (w : Same G H) (h : Dt K G v d) (n : setD tg d δ N) : gTg K tg v σ H Q := by
  have mem : ∀ i : Nat, us.contains i = true → i ∈ us := fun i e => by simpa using e
  have R : RelF K B δ σ G δ σ := fun _ _ _ z => z
  cases tg with
  | nm i =>
    have hi : i ∈ us := mem i hu
    have q := gNs_wipeF (K := K) (B := B) (G := G) (H := H) (Q := Q) (N := N) (σ0 := σ) (us := us) kq [i] [d] [v] δ σ (fun j m => by rw [List.mem_singleton.mp m]; exact hi) rfl R (.cons h .nil) rfl n
    obtain ⟨w, r, e, q⟩ := q
    cases e
    exact q.2
  | tp is =>
    have hi : ∀ i ∈ is, i ∈ us := fun i m => mem i (List.all_eq_true.mp hu i m)
    cases d with
    | tuple ds =>
      obtain ⟨e, n⟩ := n
      cases h with
      | tup h1 h2 => exact ⟨_, _, rfl, same_sqT w h1, by rw [h2.length]; exact e, gNs_wipeF kq is ds _ δ σ hi rfl R h2 e n⟩
    | _ => exact n.elim
  | tq i js => cases hu
/-- two sources: the inner walk within each turn of the outer one -/
structure LcS2 (ds : List D) (tg : Tg0) (tt : DTT) (dr1 : DSrc) (tg1 : Tg0) (vs1 : List Nat) (tt1 : DTT) (el : DTE) (δ : DSt) (Q : RV → Prop) : Prop where
  h : ∃ I : Nat → List D → Prop, I 0 [] ∧ (∀ k acc d, ds[k]? = some d → I k acc → setD tg d δ fun δ' => tt δ' (fun b => Br b (dr1 δ' (fun es => ∃ J : Nat → List D → Prop, J 0 acc ∧ (∀ j acc e, es[j]? = some e → J j acc → setD tg1 e (wipeD δ' vs1) fun δ'' => tt1 δ'' (fun b => Br b (el δ'' (fun r => fzQ r fun r' => match r'.d? with
    | some d' => acc.length < sizeLine ∧ J (j + 1) (acc ++ [d'])
    | none => False) (fun _ => False)) (J (j + 1) acc)) (fun _ => False)) ∧ ∀ acc, J es.length acc → I (k + 1) acc) (fun _ => False)) (I (k + 1) acc)) (fun _ => False)) ∧ ∀ acc, I ds.length acc → Q (.own acc)
def dLc2 (dr : DSrc) (tg : Tg0) (vs : List Nat) (tt : DTT) (dr1 : DSrc) (tg1 : Tg0) (vs1 : List Nat) (tt1 : DTT) (el : DTE) : DTE := fun δ Q X => dr δ (fun ds => LcS2 ds tg tt dr1 tg1 vs1 tt1 el (wipeD δ vs) Q) X
theorem lE_lc2 {K : PySem.W.Frag} {dr dr1 : DSrc} {tg tg1 : Tg0} {vs vs1 : List Nat} {tt tt1 : DTT} {el : DTE} (hu : tg.ok vs = true) (hu1 : tg1.ok vs1 = true) {σ : St} {H : Hp} {Q : VK} (h : lE K W (dLc2 dr tg vs tt dr1 tg1 vs1 tt1 el) σ H Q) : tLc2 (lIV K W dr) (gTg K tg) (lT K W0 tt) (lI K W0 dr1) (gTg K tg1) (lT K W0 tt1) (lE K W0 el) vs vs1 σ H Q := by
  obtain ⟨B, δ, G, Q2, X2, R, h, k, kx⟩ := h
  refine ⟨B, δ, G, _, X2, R, h, fun J ds G1 H1 w1 t1 wk q1 => ?_, kx⟩
  obtain ⟨I, i0, turn, fin⟩ := q1
  intro Dn hDn
  have g1 : G1 Dn = none := w1.noG hDn
  have m1 : ¬ B.M Dn := w1.nm hDn
  have RW := (R.step w1 t1).wipe vs
  refine ⟨fun i m H2 => i ≤ ds.length ∧ m = ds.length - i ∧ ∃ G2 acc xs, Wd B.M G2 H2 ∧ Ext B.M G1 H1 G2 H2 ∧ G2 Dn = none ∧ H2 Dn = some (.lst xs) ∧ DtA K G2 xs acc ∧ I i acc, ⟨ds.length, Nat.zero_le _, rfl, G1, [], [], w1.alloc hDn, Ext.alloc hDn, g1, upd_same, .nil, i0⟩, fun i m H2 hw => ?_⟩
  obtain ⟨hi, rfl, G2, acc, xs, w2, t2, g2, h2, d2, ii⟩ := hw
  by_cases hlt : i < ds.length
  · refine .inr ⟨wk.go i G2 H2 t2 w2 hlt, fun H' => ∃ G' acc xs, Wd B.M G' H' ∧ Ext B.M G1 H1 G' H' ∧ G' Dn = none ∧ H' Dn = some (.lst xs) ∧ DtA K G' xs acc ∧ I (i + 1) acc, fun H' h => ⟨ds.length - (i + 1), by omega, hlt, rfl, h⟩, fun x H' y => ?_⟩
    obtain ⟨d, G3, ed, w3, t3, dd⟩ := wk.yld i G2 H2 x H' t2 w2 hlt y
    have up : ∀ {Ga Ha Gb Hb : Hp}, Ext B.M G1 H1 Ga Ha → Ext B.M Ga Ha Gb Hb → Ext B.M G1 H1 Gb Hb := fun a b => ⟨fun c o mb e => b.hh c o mb (a.hh c o mb e), fun c o z => b.gg c o (a.gg c o z), fun c z g => b.fr c (a.hm c z) (a.fr c z g), fun c z => b.hm c (a.hm c z)⟩
    have t13 := up t2 t3
    have keepD : ∀ {Ga Ha Gb Hb : Hp} {zs : List V}, Ext B.M Ga Ha Gb Hb → Ga Dn = none → Ha Dn = some (.lst zs) → Gb Dn = none ∧ Hb Dn = some (.lst zs) := fun b g h => ⟨b.fr Dn (by rw [h]; exact fun z => nomatch z) g, b.hh Dn _ m1 h⟩
    obtain ⟨g3, h3⟩ := keepD t3 g2 h2
    refine tg_wipeF (B := B) hu (fun δ' σ' RF ew n => ?_) w3.sub dd (turn i acc d ed ii)
    refine ⟨by rw [ew]; exact wipe_none vs vs fun _ z => z, ?_⟩
    have R4 := RF G3 H' (fun _ _ z => z) (RW.step w3 t13)
    refine ⟨B, δ', G3, _, _, R4, n, fun b G4 H4 w4 t4 q4 => Br.ite ⟨fun e => ?_, fun e => ?_⟩, fun _ _ _ _ z => z⟩
    · refine ⟨B, δ', G4, _, _, R4.step w4 t4, q4.y e, fun J1 es G5 H5 w5 t5 wk1 q5 => ?_, fun _ _ _ _ z => z⟩
      obtain ⟨Jv, j0, turn1, fin1⟩ := q5
      have t35 := t4.trans t5
      have t15 := up t13 t35
      obtain ⟨g5, h5⟩ := keepD t35 g3 h3
      refine ⟨fun j k H6 => j ≤ es.length ∧ k = es.length - j ∧ ∃ G6 acc xs, Wd B.M G6 H6 ∧ Ext B.M G1 H1 G6 H6 ∧ Same G5 G6 ∧ G6 Dn = none ∧ H6 Dn = some (.lst xs) ∧ DtA K G6 xs acc ∧ Jv j acc, ⟨es.length, Nat.zero_le _, rfl, G5, acc, xs, w5, t15, fun _ _ z => z, g5, h5, (d2.mono t3.gg).mono t35.gg, j0⟩, fun j k H6 hw => ?_⟩
      obtain ⟨hj, rfl, G6, acc, xs, w6, t6, s6, g6, h6, d6, jj⟩ := hw
      by_cases hlt1 : j < es.length
      · refine .inr ⟨wk1.go j G6 H6 s6 w6 hlt1, fun H' => ∃ G' acc xs, Wd B.M G' H' ∧ Ext B.M G1 H1 G' H' ∧ Same G5 G' ∧ G' Dn = none ∧ H' Dn = some (.lst xs) ∧ DtA K G' xs acc ∧ Jv (j + 1) acc, fun H' h => ⟨es.length - (j + 1), by omega, hlt1, rfl, h⟩, fun x1 H7 y1 => ?_⟩
        obtain ⟨d1, G7, ed1, w7, t7, dd1⟩ := wk1.yld j G6 H6 x1 H7 s6 w6 hlt1 y1
        have t17 := up t6 t7
        obtain ⟨g7, h7⟩ := keepD t7 g6 h6
        have s37 : Same G3 G7 := fun c o z => t7.gg c o (s6 c o (t35.gg c o z))
        refine tg_wipeF (B := B) hu1 (fun δ2 σ2 RF1 ew1 n1 => ?_) w7.sub dd1 (turn1 j acc d1 ed1 jj)
        refine ⟨by rw [ew1]; exact wipe_none vs1 vs1 fun _ z => z, ?_⟩
        have R7 := RF1 G7 H7 (fun _ _ z => z) ((RF G7 H7 s37 (RW.step w7 t17)).wipe vs1)
        refine ⟨B, δ2, G7, _, _, R7, n1, fun b1 G8 H8 w8 t8 q8 => Br.ite ⟨fun e1 => ?_, fun e1 => ?_⟩, fun _ _ _ _ z => z⟩
        · refine ⟨B, δ2, G8, _, _, R7.step w8 t8, q8.y e1, fun r v G9 H9 w9 t9 o9 q9 => ?_, fun _ _ _ _ z => z⟩
          obtain ⟨r', f1, q9⟩ := fzQ_some q9
          obtain ⟨Ga, wa, ta, sa, oa⟩ := o9.fz w9 t9 f1
          split at q9
          · rename_i d' f2
            have t7a := t8.trans ta
            have t1a := up t17 t7a
            obtain ⟨ga, ha⟩ := keepD t7a g7 h7
            have hn : H9 Dn ≠ none := by rw [ha]; exact fun z => nomatch z
            have su := sto_upd (o := .lst (xs ++ [v])) wa m1 ga hn
            have sz := d6.length
            refine ⟨xs, ha, by have := q9.1; omega, Ga, acc ++ [d'], xs ++ [v], su.1, ⟨fun b o mb e => ?_, t1a.gg, t1a.fr, fun c z => ?_⟩, fun c o z => t7a.gg c o (t7.gg c o (s6 c o z)), ga, upd_same, ((d6.mono t7.gg).mono t7a.gg).append (.cons (fz_d oa f2) .nil), q9.2⟩
            · have ne : b ≠ Dn := fun z => by rw [z, hDn] at e; cases e
              rw [upd_ne ne]
              exact t1a.hh b o mb e
            · by_cases zz : c = Dn
              · subst zz; rw [upd_same]; exact fun y => nomatch y
              · rw [upd_ne zz]; exact t1a.hm c z
          · exact q9.elim
        · have t78 := t8
          have t18 := up t17 t8
          obtain ⟨g8, h8⟩ := keepD t8 g7 h7
          exact ⟨G8, acc, xs, w8, t18, fun c o z => t8.gg c o (t7.gg c o (s6 c o z)), g8, h8, (d6.mono t7.gg).mono t8.gg, q8.n e1⟩
      · have e : j = es.length := by omega
        subst e
        exact .inl ⟨wk1.stop _ G6 H6 s6 w6 (Nat.le_refl _), G6, acc, xs, w6, t6, g6, h6, d6, fin1 acc jj⟩
    · obtain ⟨g4, h4⟩ := keepD t4 g3 h3
      exact ⟨G4, acc, xs, w4, up t13 t4, g4, h4, (d2.mono t3.gg).mono t4.gg, q4.n e⟩
  · have e : i = ds.length := by omega
    subst e
    refine .inl ⟨wk.stop _ G2 H2 t2 w2 (Nat.le_refl _), ?_⟩
    exact k (.own acc) _ G2 H2 w2 (t1.trans t2) ⟨Dn, xs, rfl, none_early t1.hm Dn hDn, g2, m1, h2, d2⟩ (fin acc ii)
section
variable {X : Cx} {W : WX} {elt tg iter tg' iter' : Expr} {ifs ifs' : List Expr} {scope : Scope} {own : List (Str × Nat)} {vs1 : List Nat} {pos spos : Pos} {dr dr1 : DSrc} {tg0 tg1 : Tg0} {dt dt1 : DTT} {del : DTE}
theorem ds_setLc2 {i : Nat} {y : Str} {py : Pos} (hu : tg0.ok (own.map (·.2)) = true) (hu1 : tg1.ok vs1 = true) (hv : ∀ i ∈ vs1, i ∈ own.map (·.2)) (hc : X.calm = true) (hN : X.N.Nodup) (hsw : swapsWith (.ListComp elt [⟨tg, iter, ifs, 0⟩, ⟨tg', iter', ifs', 0⟩] scope pos) (some (.Name y py)) spos.line X.env = pure true) (hi : PI X tg iter (lIV X.K W dr)) (ok : BlkOk X.N X.env.scope scope own)
    (hg : ∀ (s : Shared) (H : Hp) (C : Addr) (cl : List (Str × Addr)) (fp : List Addr), PG (X.blk s H scope (compEnvC scope cl C X.env) fp) tg (gTg X.K tg0)) (ht : ∀ (s : Shared) (H : Hp) (C : Addr) (cl : List (Str × Addr)) (fp : List Addr), PTs (X.blk s H scope (compEnvC scope cl C X.env) fp) ifs (lT X.K W0 dt))
    (hi1 : ∀ (s : Shared) (H : Hp) (C : Addr) (cl : List (Str × Addr)) (fp : List Addr), PI (X.blk s H scope (compEnvC scope cl C X.env) fp) tg' iter' (lI X.K W0 dr1))
    (hg1 : ∀ (s : Shared) (H : Hp) (C : Addr) (cl : List (Str × Addr)) (fp : List Addr), PG (X.blk s H scope (compEnvC scope cl C X.env) fp) tg' (gTg X.K tg1)) (ht1 : ∀ (s : Shared) (H : Hp) (C : Addr) (cl : List (Str × Addr)) (fp : List Addr), PTs (X.blk s H scope (compEnvC scope cl C X.env) fp) ifs' (lT X.K W0 dt1))
    (he : ∀ (s : Shared) (H : Hp) (C : Addr) (cl : List (Str × Addr)) (fp : List Addr), PE (X.blk s H scope (compEnvC scope cl C X.env) fp) elt (lE X.K W0 del)) (hy : X.N[i]? = some y := by rfl) (hyl : X.env.scope.names.lookup y = some .local := by rfl) (hs : ∀ x, foldedSetIterable iter X.env x = pure x := by intro _; rfl) (hs1 : ∀ env x, foldedSetIterable iter' env x = pure x := by intro _ _; rfl) :
    PS X (.Assign [.Name y py] (.ListComp elt [⟨tg, iter, ifs, 0⟩, ⟨tg', iter', ifs', 0⟩] scope pos) spos) (lS X.K W (dSet i (dLc2 dr tg0 (own.map (·.2)) dt dr1 tg1 vs1 dt1 del))) := (ps_setLc2 hc hN hy hyl hsw hi ok hv hg ht hi1 hg1 ht1 he hs hs1).imp fun D σ H h => by
  obtain ⟨B, δ, G, D2, R, k, h⟩ := h
  exact lE_lc2 hu hu1 ⟨B, δ, G, _, _, R, h, fun r v G1 H1 w1 t1 o1 q1 => asgF_ok (Q := D.nx) R w1 t1 o1 q1 k.nx, k.xok⟩
end
/-! ### x[j] = e; x.append(v) -/
def dMutSA (i : Nat) (de dj dv : DTE) (t : DTS) : DTS := fun D δ => match δ.getD i .no with
  | .tre (.list ds) => ds.length + 1 < sizeLine ∧ de δ (fun _ => dj δ (fun q => isI q fun j => ∃ n, ixN ds.length j = some n ∧ dv (δ.map noTre) (fun _ => t D (δ.map noTre)) (fun C => D.ex C (δ.map noTre))) (fun C => D.ex C δ)) (fun C => D.ex C δ)
  | _ => False
section
variable {X : Cx} {W : WX} {i : Nat} {x : Str} {e ix v : Expr} {de dj dv : DTE} {rest : List Stmt} {u : DTS} {p1 p2 p3 p4 p8 p9 p10 : Pos}
theorem dss_mutSA (he : PE X e (lE X.K W de)) (hj : PE X ix (lE X.K W dj)) (hv : PE X v (lE X.K W dv)) (hr : PSs X rest (lS X.K W u))
    (hcall : ∀ {t1 : TE} {t2 : TA}, PE X (.Name x p4) t1 → PA X [v] t2 → PE X (.Call (.Attribute (.Name x p4) "append" p8) [v] [] p9) (tBM X.K "list" rAppend t1 t2))
    (hN : X.N[i]? = some x := by rfl) (hvi : Vis X.env.scope x := by first | exact Or.inl rfl | exact Or.inr (Or.inl rfl) | exact Or.inr (Or.inr rfl)) (hd : (x == ("__debug__" : Str)) = false := by decide) (hcd : (x == ("__classdict__" : Str)) = false := by decide)
    (ha : ∀ v, assign (.Subscript (.Name x p1) ix p2) X.env v = (do
      let ov ← holding [v] (eval (.Name x p1) X.env)
      let iv ← holding [v, ov] (eval ix X.env)
      standAt p2
      holding [v, ov, iv] (setItem ov iv v)
      release [v, ov, iv] []) := by intro _; rfl)
    (hs : swapsWithSole [.Subscript (.Name x p1) ix p2] e p3.line X.env = pure false := by rfl) (hw : swappedStores [.Subscript (.Name x p1) ix p2] e X.env = pure none := by rfl) (h1 : (assignEach [.Subscript (.Name x p1) ix p2] X.env).map (·.2) = [assign (.Subscript (.Name x p1) ix p2) X.env] := by rfl)
    (hsw : swapsWith (.Call (.Attribute (.Name x p4) "append" p8) [v] [] p9) none p10.line X.env = pure false := by rfl) (hst : starEach [v] X.env = (false, eval v X.env) :: starEach [] X.env := by rfl) :
    PSs X (.Assign [.Subscript (.Name x p1) ix p2] e p3 :: .Expr (.Call (.Attribute (.Name x p4) "append" p8) [v] [] p9) p10 :: rest) (lS X.K W (dMutSA i de dj dv u)) :=
  (pss_cons (ps_asg he (pg_sub (pe_var hN hvi hd hcd) hj set_list ha) hs hw h1) (pss_cons (ps_expr (hcall (pe_var hN hvi hd hcd) (pa_cons hv pa_nil hst)) hsw) hr)).imp fun D σ H h => by
  obtain ⟨B, δ, G, D2, R, k, h⟩ := h
  unfold dMutSA at h
  split at h
  · rename_i ds e
    obtain ⟨hz, h⟩ := h
    obtain ⟨y, e1, v0, rfl, tr⟩ := R.at (getD_some e fun z => nomatch z)
    obtain ⟨l, xs, wk, c, hl⟩ := tr_path [] tr (show pathL (.list ds) [] = some ds from rfl)
    cases wk
    refine ⟨B, δ, G, _, _, R, h, fun r v1 G1 H1 w1 t1 o1 q1 => ?_, k.xok⟩
    have R1 := R.step w1 t1
    refine ⟨_, e1, B, δ, G1, _, _, R1, q1, fun r3 v3 G3 H3 w3 t3 o3 q3 => ?_, k.xok⟩
    obtain ⟨j, rfl, n, en, q⟩ := isI_ok o3 q3
    have R3 := R1.step w3 t3
    have c3 := (c.mono t1).mono t3
    refine ⟨l, xs, j, n, rfl, rfl, c3.h, by rw [hl]; exact en, ?_⟩
    have R4 := rel_mut (ys := xs.set n v1) R3 c3
    have c4 : Cell B G3 (upd H3 l (.lst (xs.set n v1))) l (xs.set n v1) := ⟨c3.b, c3.t, c3.g, c3.m, upd_same⟩
    refine ⟨_, e1, .inl ⟨rfl, _, SqL.of c4.h⟩, B, _, G3, _, _, R4, q, fun r y2 G5 H5 w5 t5 o5 q5 => ?_, k.xok⟩
    have c5 := c4.mono t5
    have hl2 : (xs.set n v1).length < sizeLine := by rw [List.length_set]; omega
    exact ⟨l, _, _, rfl, rfl, c5.h, hl2, B, _, G5, D2, rel_mut (R4.step w5 t5) c5, k, by rw [List.map_map, show noTre ∘ noTre = noTre from funext fun s => by cases s <;> rfl]; exact q5⟩
  · exact h.elim
end
end RB

set_option Elab.async false
set_option linter.all false
set_option maxRecDepth 100000
set_option maxHeartbeats 4000000
/-! RB39: for y in x[k]..: y.append(c); x[k]...append(e) on an open answer -/
namespace RB
open PySem PySem.Spec PyProof.Rows L2
def dMutEA (i : Nat) (ks : List Nat) (j : Nat) (dv : DTE) (t : DTS) : DTS := fun D δ => match δ.getD i .no with
  | .tre d => j < δ.length ∧ ∃ ds, pathL d ks = some ds ∧ ds.length < sizeLine ∧ (∀ e ∈ ds, ∃ ns : List Int, e = .list (ns.map PyData.int) ∧ ns.length + ds.length < sizeLine) ∧ dv ((δ.map noTre).set j .no) (fun _ => t D ((δ.map noTre).set j .no)) (fun C => D.ex C ((δ.map noTre).set j .no))
  | _ => False
section
variable {K : PySem.W.Frag} {B : Base} {G H : Hp}
theorem trA_mem : ∀ {ds : List D} {vs : List V} {v : V}, TrA K B.M B.T B.H G H vs ds → v ∈ vs → ∃ d ∈ ds, Tr K B.M B.T B.H G H v d
  | [], _, v, h, e => by cases h; cases e
  | d :: ds, _, v, h, e => by
    cases h with
    | cons h1 h2 =>
      rcases List.mem_cons.mp e with rfl | e
      · exact ⟨d, List.mem_cons_self, h1⟩
      · obtain ⟨c, m, q⟩ := trA_mem h2 e
        exact ⟨c, List.mem_cons_of_mem _ m, q⟩
theorem trA_ints : ∀ {ns : List Int} {vs : List V}, TrA K B.M B.T B.H G H vs (ns.map PyData.int) → vs = ns.map V.int
  | [], _, h => by cases h; rfl
  | n :: ns, _, h => by
    cases h with
    | cons h1 h2 =>
      cases h1 with
      | old z h => cases h; rw [trA_ints h2]; rfl
theorem tr_pathA : ∀ (ks : List Nat) {d : D} {v : V} {ds : List D}, Tr K B.M B.T B.H G H v d → pathL d ks = some ds → ∃ l xs, Wk K B.M H v ks (.ref l) ∧ Cell B G H l xs ∧ TrA K B.M B.T B.H G H xs ds
  | [], d, v, ds, h, e => by
    cases h with
    | old n h => exact (noL_path [] n e).elim
    | lst h1 h0 h2 h3 h4 h5 => cases e; exact ⟨_, _, .nil _, ⟨h1, h0, h2, h3, h4⟩, h5⟩
    | tup h1 h2 h3 => cases e
  | k :: ks, d, v, ds, h, e => by
    cases h with
    | old n h => exact (noL_path _ n e).elim
    | @lst a xs es h1 h0 h2 h3 h4 h5 =>
      cases z : es[k]? with
      | none => rw [pathL, z] at e; cases e
      | some c =>
        rw [pathL, z] at e
        obtain ⟨w, ew, tw⟩ := trA_get h5 z
        obtain ⟨l, ys, wk, ce, hl⟩ := tr_pathA ks tw e
        exact ⟨l, ys, .cons (.inr ⟨h4, h3⟩) ew wk, ce, hl⟩
    | @tup a xs es h1 h2 h3 =>
      cases z : es[k]? with
      | none => rw [pathL, z] at e; cases e
      | some c =>
        rw [pathL, z] at e
        obtain ⟨w, ew, tw⟩ := trA_get h3 z
        obtain ⟨l, ys, wk, ce, hl⟩ := tr_pathA ks tw e
        exact ⟨l, ys, .cons (.inl ⟨h1, h2⟩) ew wk, ce, hl⟩
theorem upd_self {H : Hp} {l : Addr} {o : HO} (h : H l = some o) : upd H l o = H := funext fun b => by
  by_cases e : b = l
  · subst e; rw [upd_same, h]
  · rw [upd_ne e]
theorem set_self {σ : St} {j : Nat} : σ.set j (σ.getD j none) = σ := by
  refine List.ext_getElem? fun k => ?_
  by_cases e : j = k
  · subst e
    rw [List.getElem?_set, if_pos rfl]
    split
    · rename_i h
      rw [List.getElem?_eq_getElem h, List.getD_eq_getElem?_getD, List.getElem?_eq_getElem h]
      rfl
    · rename_i h
      rw [List.getElem?_eq_none (by omega)]
  · rw [List.getElem?_set_ne e]
theorem map_noTre_set {δ : DSt} {j : Nat} : ((δ.map noTre).set j .no).map noTre = (δ.map noTre).set j .no := by
  rw [List.map_set, List.map_map, show noTre ∘ noTre = noTre from funext fun s => by cases s <;> rfl]
  rfl
end
section
variable {X : Cx} {W : WX} {i j : Nat} {x y : Str} {ex ex2 v2 : Expr} {ks : List Nat} {c : Int} {kc : Nat} {p1 p2 p3 p4 p5 p6 p7 q8 q9 q10 : Pos} {dv2 : DTE} {rest : List Stmt} {u : DTS}
theorem dss_mutEA (hps : PassesOwn (model X.prog X.w) X.A X.env X.xe) (hc : X.calm = true) (hij : (i == j) = false) (hg : PG X (.Name y p1) (gName j)) (hp : PE X ex (tP X.K i ks)) (hp2 : PE X ex2 (tP X.K i ks)) (hv2 : PE X v2 (lE X.K W dv2)) (hr : PSs X rest (lS X.K W u))
    (hcall : ∀ {t1 : TE} {t2 : TA}, PE X (.Name y p2) t1 → PA X [.Constant (.int c) kc p3] t2 → PE X (.Call (.Attribute (.Name y p2) "append" p4) [.Constant (.int c) kc p3] [] p5) (tBM X.K "list" rAppend t1 t2))
    (hcall2 : ∀ {t1 : TE} {t2 : TA}, PE X ex2 t1 → PA X [v2] t2 → PE X (.Call (.Attribute ex2 "append" q8) [v2] [] q9) (tBM X.K "list" rAppend t1 t2))
    (hj : X.N[j]? = some y := by rfl) (hvj : Vis X.env.scope y := by first | exact Or.inl rfl | exact Or.inr (Or.inl rfl) | exact Or.inr (Or.inr rfl)) (hd : (y == ("__debug__" : Str)) = false := by decide) (hcd : (y == ("__classdict__" : Str)) = false := by decide)
    (hs : ∀ v, foldedSetIterable ex X.env v = pure v := by intro _; rfl)
    (hsw : swapsWith (.Call (.Attribute (.Name y p2) "append" p4) [.Constant (.int c) kc p3] [] p5) none p6.line X.env = pure false := by rfl) (hst : starEach [.Constant (.int c) kc p3] X.env = (false, eval (.Constant (.int c) kc p3) X.env) :: starEach [] X.env := by rfl)
    (hsw2 : swapsWith (.Call (.Attribute ex2 "append" q8) [v2] [] q9) none q10.line X.env = pure false := by rfl) (hst2 : starEach [v2] X.env = (false, eval v2 X.env) :: starEach [] X.env := by rfl) :
    PSs X (.For (.Name y p1) ex [.Expr (.Call (.Attribute (.Name y p2) "append" p4) [.Constant (.int c) kc p3] [] p5) p6] [] p7 :: .Expr (.Call (.Attribute ex2 "append" q8) [v2] [] q9) q10 :: rest) (lS X.K W (dMutEA i ks j dv2 u)) :=
  (pss_cons (ps_for hps hc (pi_list hp) hg (pss_cons (ps_expr (hcall (pe_var hj hvj hd hcd) (pa_cons pe_int pa_nil hst)) hsw) pss_nil) hs) (pss_cons (ps_expr (hcall2 hp2 (pa_cons hv2 pa_nil hst2)) hsw2) hr)).imp fun D σ H h => by
  obtain ⟨B, δ, G, D2, R, k, h⟩ := h
  unfold dMutEA at h
  split at h
  · rename_i d e
    obtain ⟨hjl0, ds, hd, hz, hes, h⟩ := h
    obtain ⟨y0, e1, v0, rfl, tr⟩ := R.at (getD_some e fun z => nomatch z)
    obtain ⟨l, xs, wk, ce, tra⟩ := tr_pathA ks tr hd
    have hl := trA_len tra
    have ne : i ≠ j := fun z => by rw [z] at hij; simp at hij
    have inner : ∀ v ∈ xs, ∃ a vs, v = .ref a ∧ a ≠ l ∧ Cell B G H a vs ∧ vs.length + ds.length < sizeLine := fun v hv => by
      obtain ⟨d1, m1, t1⟩ := trA_mem tra hv
      obtain ⟨ns, rfl, hn⟩ := hes d1 m1
      cases t1 with
      | old n h => cases n
      | @lst a vs _ h1 h0 h2 h3 h4 h5 =>
        refine ⟨a, vs, rfl, fun z => ?_, ⟨h1, h0, h2, h3, h4⟩, by rw [trA_len h5, List.length_map]; exact hn⟩
        have e5 := trA_ints h5
        subst z
        have := ce.h
        rw [h4] at this
        cases this
        rw [e5] at hv
        obtain ⟨_, _, z⟩ := List.mem_map.mp hv
        cases z
    refine ⟨_, v0, _, e1, wk, l, rfl, ⟨xs, SqL.of ce.h⟩, fun t m σ' H' => (t ≤ ds.length ∧ m = ds.length - t) ∧ Rel X.K B ((δ.map noTre).set j .no) σ' G H' ∧ Cell B G H' l xs ∧ Wk X.K B.M H' v0 ks (.ref l) ∧ σ'[i]? = some (some v0) ∧ (∀ v ∈ xs, ∃ a vs, v = .ref a ∧ a ≠ l ∧ Cell B G H' a vs ∧ vs.length + ds.length < sizeLine + t), ⟨ds.length, ⟨Nat.zero_le _, rfl⟩, ?_, ce, wk, e1, fun v hv => ?_⟩, fun t m σ' H' hw => ?_⟩
    · have R1 := rel_mut (ys := xs) R ce
      rw [upd_self ce.h] at R1
      have R2 := R1.forget j (σ.getD j none)
      rw [set_self] at R2
      exact R2
    · obtain ⟨a, vs, q1, q2, q3, q4⟩ := inner v hv
      exact ⟨a, vs, q1, q2, q3, by omega⟩
    · obtain ⟨⟨ht, rfl⟩, R', ce', wk', e1', inn⟩ := hw
      by_cases hlt : t < ds.length
      · have hx : t < xs.length := by omega
        refine .inr ⟨⟨xs, _, SqL.of ce'.h, List.getElem?_eq_getElem hx⟩, fun σ2 H2 => Rel X.K B ((δ.map noTre).set j .no) σ2 G H2 ∧ Cell B G H2 l xs ∧ Wk X.K B.M H2 v0 ks (.ref l) ∧ σ2[i]? = some (some v0) ∧ (∀ v ∈ xs, ∃ a vs, v = .ref a ∧ a ≠ l ∧ Cell B G H2 a vs ∧ vs.length + ds.length < sizeLine + (t + 1)), fun σ2 H2 q => ⟨ds.length - (t + 1), by omega, ⟨hlt, rfl⟩, q⟩, fun v H2 hy => ?_⟩
        obtain ⟨eH, hv⟩ := hy
        subst eH
        have ev := hv _ (SqL.of ce'.h)
        have hv : v ∈ xs := List.mem_of_getElem? ev
        obtain ⟨a, vs, rfl, q2, q3, q4⟩ := inn v hv
        have hjl : j < σ'.length := by
          rw [← R'.len, List.length_set, List.length_map]
          exact hjl0
        refine ⟨.ref a, by rw [List.getElem?_set, if_pos rfl, if_pos hjl], .inl ⟨rfl, _, SqL.of q3.h⟩, a, vs, _, rfl, rfl, q3.h, by omega, ?_⟩
        have R1 := rel_mut (ys := vs ++ [.int c]) (R'.forget j (some (.ref a))) q3
        rw [List.set_set, map_noTre_set] at R1
        refine ⟨R1, ⟨ce'.b, ce'.t, ce'.g, ce'.m, by rw [upd_ne (Ne.symm q2)]; exact ce'.h⟩, wk'.grow q3.h, by rw [List.getElem?_set_ne (Ne.symm ne)]; exact e1', fun v hv => ?_⟩
        obtain ⟨b, us, z1, z2, z3, z4⟩ := inn v hv
        obtain ⟨ws, c3, hu⟩ := z3.grow (ys := [.int c]) q3.h
        have hu : ws.length ≤ us.length + 1 := hu
        exact ⟨b, ws, z1, z2, c3, by omega⟩
      · have et : t = ds.length := by omega
        subst et
        refine .inl ⟨⟨xs, SqL.of ce'.h, by omega⟩, ?_⟩
        refine ⟨_, v0, _, e1', wk', .inl ⟨rfl, _, SqL.of ce'.h⟩, B, _, G, _, _, R', h, fun r y2 G2 H2 w2 t2 o2 q2 => ?_, k.xok⟩
        have c4 := ce'.mono t2
        exact ⟨l, xs, _, rfl, rfl, c4.h, by omega, B, _, G2, D2, rel_mut (R'.step w2 t2) c4, k, by rw [map_noTre_set]; exact q2⟩
  · exact h.elim
end
end RB

set_option Elab.async false
set_option linter.all false
set_option maxRecDepth 100000
set_option maxHeartbeats 4000000
/-! RB40: sorted() of lists of ints; a comprehension whose items are new -/
namespace RB
open PySem PySem.Spec PyProof.Rows L2
def leB (p q : List Int) : Bool := decide (p ≤ q)
def rowI (ns : List Int) : D := .list (ns.map .int)
def rSortedL (K : PySem.W.Frag) : List V → Hp → VK → Prop := fun vs H Q => ∃ (a : Addr) (bs : List (V × List Int)), vs = [V.ref a] ∧ SqL K H a (bs.map (·.1)) ∧ (∀ b ∈ bs, ∃ c, b.1 = .ref c ∧ SqL K H c (b.2.map V.int)) ∧
  ∀ p : Addr, H p = none → Q (.ref p) (upd H p (.lst ((bs.mergeSort fun b c => leB b.2 c.2).map (·.1))))
section
theorem readsInts {h : Heap} : ∀ {ns : List Int} {us : List Value}, Vals (ns.map V.int) us → ∃ as, ReadsAll h us (ns.map .int) as
  | [], _, r => by cases r; exact ⟨_, .nil⟩
  | n :: ns, _, r => by
    cases r with
    | cons h1 h2 =>
      obtain ⟨t, rfl⟩ := h1
      obtain ⟨as, q⟩ := readsInts (h := h) h2
      exact ⟨_, .cons (.int n t) q⟩
theorem each_vals : ∀ {bs : List (V × List Int)} {us : List Value}, Vals (bs.map (·.1)) us → PySem.W.EachIs (fun v (b : V × List Int) => RelV b.1 v) us bs
  | [], _, r => by cases r; exact .nil
  | b :: bs, _, r => by
    cases r with
    | cons h1 h2 => exact .cons h1 (each_vals h2)
theorem vals_each : ∀ {bs : List (V × List Int)} {us : List Value}, PySem.W.EachIs (fun v (b : V × List Int) => RelV b.1 v) us bs → Vals (bs.map (·.1)) us
  | [], _, r => by cases r; exact .nil
  | b :: bs, _, r => by
    cases r with
    | cons h1 h2 => exact .cons h1 (vals_each h2)
variable {X : Cx}
theorem each_reads {pins : List (Addr × Obj)} {σ : St} {H : Hp} {s : Shared} (I : Inv X pins σ H s) : ∀ {bs : List (V × List Int)} {us : List Value}, Vals (bs.map (·.1)) us → (∀ b ∈ bs, ∃ c, b.1 = V.ref c ∧ SqL X.K H c (b.2.map V.int)) → PySem.W.EachIs (fun v (b : V × List Int) => ∃ as, Reads s.heap v (PyData.list (b.2.map .int)) as) us bs
  | [], _, r, _ => by cases r; exact .nil
  | b :: bs, _, r, hb => by
    cases r with
    | cons h1 h2 =>
      refine .cons ?_ (each_reads I h2 fun c m => hb c (List.mem_cons_of_mem _ m))
      obtain ⟨c, e, hc⟩ := hb b List.mem_cons_self
      have h1 : RelV b.1 _ := h1
      rw [e] at h1
      cases h1
      obtain ⟨its, rv, ⟨o, n, e1, e2, _, e3⟩, _⟩ := I.list hc
      obtain ⟨as, q⟩ := readsInts (h := s.heap) rv
      exact ⟨_, .list e1 e2 e3 q⟩
theorem cr_sortedL (hu : X.A.units + 64 < cLine) : CallR X (.builtin "sorted") (rSortedL X.K) := by
  intro pins s σ H vs us Q I r h
  obtain ⟨a, bs, rfl, hs, hb, q⟩ := h
  obtain ⟨its, rv, hl, hz⟩ := I.list hs
  rw [Vals.ref1 r]
  have hz' : bs.length ≤ sizeLine := by rw [List.length_map] at hz; exact hz
  have le_eq : (PySem.W.dataLe false fun (b : V × List Int) => PyData.list (b.2.map .int)) = fun b c => leB b.2 c.2 := PySem.W.dataLe_rows fun b : V × List Int => b.2
  refine PySem.W.sorted_data (enc := fun b : V × List Int => PyData.list (b.2.map .int)) hl.isList (each_vals rv) (each_reads I rv hb) (PySem.W.AllAlike.of fun b c => ?_) (PySem.W.Sortable.others fun b => ⟨fun z => (nomatch z), fun _ z => (nomatch z)⟩) hz' (fun b _ => ?_) fun out hl2 eo => ?_
  · show PySem.W.alike (.list _) (.list _) = true
    rw [PySem.W.alike]
    exact PySem.W.alike_ints _ _
  · show X.A.units + 2 + (PyData.list _).depth < cLine
    rw [PyData.depth, PySem.W.depth_ints]
    omega
  · rw [le_eq] at eo
    obtain ⟨ep, he'⟩ := PyProof.Rows.sortedAll_at s.heap its out.toArray
    have hlen : ((bs.mergeSort fun b c => leB b.2 c.2).map (·.1)).length ≤ sizeLine := by rw [List.length_map, List.length_mergeSort]; exact hz'
    exact ⟨.ref _, upd H (s.heap.objs.size + 1) (.lst ((bs.mergeSort fun b c => leB b.2 c.2).map (·.1))), I.laid (t' := s.toks) (fun _ _ => PyProof.Rows.sortedAll_old) (Nat.le_succ _) ⟨hlen, out, ep, vals_each eo, he'⟩, rfl, q _ (I.hok.fresh (Nat.le_succ _))⟩
end
/-! ### sorted(x), a list of lists of ints -/
def bSortedL (r : RV) (Q : RV → Prop) : Prop := match r.d? with
  | some (.list ds) => ∃ rows : List (List Int), ds = rows.map rowI ∧ Q (.own ((rows.mergeSort leB).map rowI))
  | _ => False
section
variable {K : PySem.W.Frag}
theorem sort_snd (bs : List (V × List Int)) : (bs.mergeSort fun b c => leB b.2 c.2).map (·.2) = (bs.map (·.2)).mergeSort leB := List.map_mergeSort fun _ _ _ _ => rfl
theorem dtA_rows {G : Hp} : ∀ {rows : List (List Int)} {vs : List V}, DtA K G vs (rows.map rowI) → ∃ bs : List (V × List Int), bs.map (·.1) = vs ∧ bs.map (·.2) = rows ∧ ∀ b ∈ bs, Dt K G b.1 (rowI b.2)
  | [], _, h => by cases h; exact ⟨[], rfl, rfl, fun _ z => nomatch z⟩
  | r :: rows, _, h => by
    cases h with
    | @cons v _ _ _ h1 h2 =>
      obtain ⟨bs, e1, e2, q⟩ := dtA_rows h2
      exact ⟨(v, r) :: bs, by rw [List.map_cons, e1], by rw [List.map_cons, e2], fun b m => by
        rcases List.mem_cons.mp m with rfl | m
        · exact h1
        · exact q b m⟩
theorem dtA_of_rows {G : Hp} : ∀ (bs : List (V × List Int)), (∀ b ∈ bs, Dt K G b.1 (rowI b.2)) → DtA K G (bs.map (·.1)) ((bs.map (·.2)).map rowI)
  | [], _ => .nil
  | b :: bs, h => .cons (h b List.mem_cons_self) (dtA_of_rows bs fun c m => h c (List.mem_cons_of_mem _ m))
theorem nwA_rows {HB G : Hp} : ∀ {rows : List (List Int)} {vs : List V}, NwA K HB G vs (rows.map rowI) → ∃ bs : List (V × List Int), bs.map (·.1) = vs ∧ bs.map (·.2) = rows ∧ ∀ b ∈ bs, Nw K HB G b.1 (rowI b.2)
  | [], _, h => by cases h; exact ⟨[], rfl, rfl, fun _ z => nomatch z⟩
  | r :: rows, _, h => by
    cases h with
    | @cons v _ _ _ h1 h2 =>
      obtain ⟨bs, e1, e2, q⟩ := nwA_rows h2
      exact ⟨(v, r) :: bs, by rw [List.map_cons, e1], by rw [List.map_cons, e2], fun b m => by
        rcases List.mem_cons.mp m with rfl | m
        · exact h1
        · exact q b m⟩
theorem nwA_of_rows {HB G : Hp} : ∀ (bs : List (V × List Int)), (∀ b ∈ bs, Nw K HB G b.1 (rowI b.2)) → NwA K HB G (bs.map (·.1)) ((bs.map (·.2)).map rowI)
  | [], _ => .nil
  | b :: bs, h => .cons (h b List.mem_cons_self) (nwA_of_rows bs fun c m => h c (List.mem_cons_of_mem _ m))
theorem row_sq {G H : Hp} (w : Same G H) {v : V} {ns : List Int} (h : Dt K G v (rowI ns)) : ∃ c, v = .ref c ∧ SqL K H c (ns.map V.int) := by
  cases h with
  | lst h1 h2 => exact ⟨_, rfl, SqL.of (w _ _ (by rw [h1, DtA.intsV h2]))⟩
theorem o1_sortedL : Op1 K (rSortedL K) bSortedL := by
  intro M HB H0 G H x r1 Q2 Q w o1 hf k
  unfold bSortedL at hf
  split at hf
  · rename_i ds e
    obtain ⟨rows, rfl, q⟩ := hf
    obtain ⟨a, us, rfl, h1, d1⟩ := o1.lst w.sub e
    obtain ⟨bs, rfl, rfl, hb⟩ := dtA_rows d1
    refine ⟨a, bs, rfl, SqL.of h1, fun b m => row_sq w.sub (hb b m), fun p hp => ?_⟩
    refine k (.own _) _ G _ (w.alloc hp) (Ext.alloc hp) ⟨p, _, rfl, hp, w.noG hp, w.nm hp, upd_same, ?_⟩ q
    rw [← sort_snd]
    exact dtA_of_rows _ fun b m => hb b (List.mem_mergeSort.mp m)
  · exact hf.elim
end
/-- of a new answer -/
def dSortN (de : DTE) : DTE := fun δ Q X => de δ (fun r => match r with
  | .new (.list ds) => ∃ rows : List (List Int), ds = rows.map rowI ∧ Q (.new (.list ((rows.mergeSort leB).map rowI)))
  | _ => False) X
section
variable {X : Cx} {W : WX} {a : Expr} {da : DTE} {pos p : Pos} {x : Str}
theorem de_sortN (hc : CallR X (.builtin "sorted") (rSortedL X.K)) (hv : bootBuiltins x = some (.builtin "sorted")) (hm : X.mg x = none) (ha : PE X a (lE X.K W da)) (hg : Gl X x := by rfl) (hn : x ≠ "__name__" := by decide) (hdb : (x == ("__debug__" : Str)) = false := by decide)
    (he : starEach [a] X.env = (false, eval a X.env) :: starEach [] X.env := by rfl) (hpl : (backTo pos (starEach [] X.env)).any (·.1) = false := by rfl) : PE X (.Call (.Name x p) [a] [] pos) (lE X.K W (dSortN da)) :=
  (pe_callB hc hg hm hv (pa_cons ha pa_nil he) hn hdb he hpl).imp fun σ H Q h => by
  obtain ⟨B, δ, G, Q2, X2, R, h, k, kx⟩ := h
  refine ⟨B, δ, G, _, X2, R, h, fun r v G1 H1 w1 t1 o1 q1 => ?_, kx⟩
  split at q1
  · rename_i ds
    obtain ⟨rows, rfl, q⟩ := q1
    have o1 : Nw X.K B.H G1 v (.list (rows.map rowI)) := o1
    cases o1 with
    | @lst c xs _ h0 h1 h2 =>
      obtain ⟨bs, rfl, rfl, hb⟩ := nwA_rows h2
      refine ⟨c, bs, rfl, SqL.of (w1.sub _ _ h1), fun b m => row_sq w1.sub (hb b m).dt, fun p hp => ?_⟩
      have gp := w1.noG hp
      have s1 : Same G1 (upd G1 p (.lst ((bs.mergeSort fun b c => leB b.2 c.2).map (·.1)))) := same_upd gp
      have t2 := t1.trans (Ext.allocG (o := .lst ((bs.mergeSort fun b c => leB b.2 c.2).map (·.1))) w1 hp)
      refine k (.new _) _ _ _ (w1.allocG hp) t2 (Nw.lst ?_ upd_same ?_) q
      · exact none_early R.ext.hm p (none_early t1.hm p hp)
      · rw [← sort_snd]
        exact nwA_of_rows _ fun b m => (hb b (List.mem_mergeSort.mp m)).mono s1 fun _ z => z
  · exact q1.elim
end
/-! ### a comprehension whose items are new -/
def nwQ (r : RV) (Q : D → Prop) : Prop := match r with
  | .own ds => (∀ d ∈ ds, NoL d) ∧ Q (.list ds)
  | .new d => Q d
  | .dat d => NoL d ∧ Q d
  | _ => False
theorem nwQ_ok {K : PySem.W.Frag} {M : Addr → Prop} {HB H1 G1 G H : Hp} {v : V} {r : RV} {Q : D → Prop} (w : Wd M G H) (t : Ext M G1 H1 G H) (hh : ∀ b, HB b ≠ none → H1 b ≠ none) (o : RvOk K M HB H1 G H v r) (h : nwQ r Q) : ∃ d G', Wd M G' H ∧ Ext M G1 H1 G' H ∧ Nw K HB G' v d ∧ Q d := by
  cases r with
  | own ds =>
    obtain ⟨hn, q⟩ := h
    obtain ⟨a, xs, rfl, b1, b2, b3, b4, b5⟩ := o
    have s1 : Same G (upd G a (.lst xs)) := same_upd b2
    refine ⟨_, upd G a (.lst xs), w.freeze b4 b2 b3, ⟨t.hh, fun c o z => s1 _ _ (t.gg c o z), fun c z z2 => ?_, t.hm⟩, Nw.lst (none_early hh a b1) upd_same (NwA.of (b5.mono s1) hn), q⟩
    have ne : c ≠ a := fun z3 => z (by rw [z3]; exact b1)
    rw [upd_ne ne]
    exact t.fr c z z2
  | new d => exact ⟨d, G, w, t, o, h⟩
  | dat d => exact ⟨d, G, w, t, Nw.of (show Dt K G v d from o) h.1, h.2⟩
  | _ => exact h.elim
structure LcN (ds : List D) (tg : Tg0) (tt : DTT) (el : DTE) (δ : DSt) (Q : RV → Prop) : Prop where
  hz : ds.length ≤ sizeLine
  h : ∃ I : Nat → List D → Prop, I 0 [] ∧ (∀ k acc d, ds[k]? = some d → I k acc → acc.length ≤ k → setD tg d δ fun δ' => tt δ' (fun b => Br b (el δ' (fun r => nwQ r fun d' => I (k + 1) (acc ++ [d'])) (fun _ => False)) (I (k + 1) acc)) (fun _ => False)) ∧ ∀ acc, I ds.length acc → acc.length ≤ ds.length → Q (.new (.list acc))
def dLcN (dr : DSrc) (tg : Tg0) (vs : List Nat) (tt : DTT) (el : DTE) : DTE := fun δ Q X => dr δ (fun ds => LcN ds tg tt el (wipeD δ vs) Q) X
theorem NwA.append {K : PySem.W.Frag} {HB G : Hp} : ∀ {ds es : List D} {vs us : List V}, NwA K HB G vs ds → NwA K HB G us es → NwA K HB G (vs ++ us) (ds ++ es)
  | [], _, _, _, h, k => by cases h; exact k
  | d :: ds, _, _, _, h, k => by
    cases h with
    | cons h1 h2 => exact .cons h1 (NwA.append h2 k)
theorem lE_lcN {K : PySem.W.Frag} {W : WX} {dr : DSrc} {tg : Tg0} {vs : List Nat} {tt : DTT} {el : DTE} (hu : tg.ok vs = true) {σ : St} {H : Hp} {Q : VK} (h : lE K W (dLcN dr tg vs tt el) σ H Q) : tLc (lIV K W dr) (gTg K tg) (lT K W0 tt) (lE K W0 el) vs σ H Q := by
  obtain ⟨B, δ, G, Q2, X2, R, h, k, kx⟩ := h
  refine ⟨B, δ, G, _, X2, R, h, fun J ds G1 H1 w1 t1 wk q1 => ?_, kx⟩
  obtain ⟨hz, I, i0, turn, fin⟩ := q1
  intro Dn hDn
  have g1 : G1 Dn = none := w1.noG hDn
  have m1 : ¬ B.M Dn := w1.nm hDn
  have hB : ∀ b, B.H b ≠ none → H1 b ≠ none := fun b z => t1.hm b (R.ext.hm b z)
  refine ⟨fun i m H2 => i ≤ ds.length ∧ m = ds.length - i ∧ ∃ G2 acc xs, Wd B.M G2 H2 ∧ Ext B.M G1 H1 G2 H2 ∧ G2 Dn = none ∧ H2 Dn = some (.lst xs) ∧ NwA K B.H G2 xs acc ∧ acc.length ≤ i ∧ I i acc, ⟨ds.length, Nat.zero_le _, rfl, G1, [], [], w1.alloc hDn, Ext.alloc hDn, g1, upd_same, .nil, Nat.le_refl _, i0⟩, fun i m H2 hw => ?_⟩
  obtain ⟨hi, rfl, G2, acc, xs, w2, t2, g2, h2, d2, l2, ii⟩ := hw
  by_cases hlt : i < ds.length
  · refine .inr ⟨wk.go i G2 H2 t2 w2 hlt, fun H' => ∃ G' acc xs, Wd B.M G' H' ∧ Ext B.M G1 H1 G' H' ∧ G' Dn = none ∧ H' Dn = some (.lst xs) ∧ NwA K B.H G' xs acc ∧ acc.length ≤ i + 1 ∧ I (i + 1) acc, fun H' h => ⟨ds.length - (i + 1), by omega, hlt, rfl, h⟩, fun x H' y => ?_⟩
    obtain ⟨d, G3, ed, w3, t3, dd⟩ := wk.yld i G2 H2 x H' t2 w2 hlt y
    have hn2 : H2 Dn ≠ none := by rw [h2]; exact fun z => nomatch z
    have R3 : Rel K B (wipeD δ vs) (L2.wipe σ vs) G3 H' := (((R.step w1 t1).wipe vs).step w3 ⟨fun b o mb e => ?_, fun c o z => t3.gg c o (t2.gg c o z), fun c z g => ?_, fun c z => t3.hm c (t2.hm c z)⟩)
    · refine tg_wipe hu (fun δ' σ' R4 ew n => ?_) R3 dd (turn i acc d ed ii l2)
      refine ⟨by rw [ew]; exact wipe_none vs vs fun _ z => z, ?_⟩
      refine ⟨B, δ', G3, _, _, R4, n, fun b G4 H4 w4 t4 q4 => Br.ite ⟨fun e => ?_, fun e => ?_⟩, fun _ _ _ _ z => z⟩
      · refine ⟨B, δ', G4, _, _, R4.step w4 t4, q4.y e, fun r v G5 H5 w5 t5 o5 q5 => ?_, fun _ _ _ _ z => z⟩
        have hB4 : ∀ b, B.H b ≠ none → H4 b ≠ none := (R4.step w4 t4).ext.hm
        obtain ⟨d', G6, w6, t6, o6, q5⟩ := nwQ_ok w5 t5 hB4 o5 q5
        have hD' : H' Dn = some (.lst xs) := t3.hh Dn _ m1 h2
        have hD4 := t4.hh Dn _ m1 hD'
        have hD5 := t6.hh Dn _ m1 hD4
        have g3 : G3 Dn = none := t3.fr Dn hn2 g2
        have g4 : G4 Dn = none := t4.fr Dn (by rw [hD']; exact fun z => nomatch z) g3
        have g6 : G6 Dn = none := t6.fr Dn (by rw [hD4]; exact fun z => nomatch z) g4
        have su := sto_upd (o := .lst (xs ++ [v])) w6 m1 g6 (by rw [hD5]; exact fun z => nomatch z)
        have t46 := (t3.trans t4).trans t6
        have sz := d2.dt.length
        refine ⟨xs, hD5, by omega, G6, acc ++ [d'], xs ++ [v], su.1, ⟨fun b o mb e => ?_, fun c o z => t46.gg c o (t2.gg c o z), fun c z g => ?_, fun c z => ?_⟩, g6, upd_same, (d2.mono t46.gg fun _ z => z).append (.cons o6 .nil), by rw [List.length_append]; show acc.length + 1 ≤ i + 1; omega, q5⟩
        · have ne : b ≠ Dn := fun z => by rw [z, hDn] at e; cases e
          rw [upd_ne ne]
          exact t46.hh b o mb (t2.hh b o mb e)
        · exact t46.fr c (t2.hm c z) (t2.fr c z g)
        · by_cases zz : c = Dn
          · subst zz; rw [upd_same]; exact fun y => nomatch y
          · rw [upd_ne zz]; exact t46.hm c (t2.hm c z)
      · have t34 := t3.trans t4
        exact ⟨G4, acc, xs, w4, ⟨fun b o mb e => t34.hh b o mb (t2.hh b o mb e), fun c o z => t34.gg c o (t2.gg c o z), fun c z g => t34.fr c (t2.hm c z) (t2.fr c z g), fun c z => t34.hm c (t2.hm c z)⟩, t34.fr Dn hn2 g2, t34.hh Dn _ m1 h2, d2.mono t34.gg (fun _ z => z), by omega, q4.n e⟩
    · exact t3.hh b o mb (t2.hh b o mb e)
    · exact t3.fr c (t2.hm c z) (t2.fr c z g)
  · have e : i = ds.length := by omega
    subst e
    refine .inl ⟨wk.stop _ G2 H2 t2 w2 (Nat.le_refl _), ?_⟩
    have s1 : Same G2 (upd G2 Dn (.lst xs)) := same_upd g2
    refine k (.new (.list acc)) (.ref Dn) (upd G2 Dn (.lst xs)) H2 (w2.freeze h2 g2 m1) ⟨(t1.trans t2).hh, fun c o z => s1 _ _ ((t1.trans t2).gg c o z), fun c z z2 => ?_, (t1.trans t2).hm⟩ (Nw.lst (none_early hB Dn hDn) upd_same (d2.mono s1 fun _ z => z)) (fin acc ii l2)
    have ne : c ≠ Dn := fun z3 => t1.hm c z (by rw [z3]; exact hDn)
    rw [upd_ne ne]
    exact (t1.trans t2).fr c z z2
section
variable {X : Cx} {W : WX} {elt tg iter : Expr} {ifs : List Expr} {scope : Scope} {own : List (Str × Nat)} {pos : Pos} {dr : DSrc} {tg0 : Tg0} {dt : DTT} {del : DTE}
theorem de_lcN (hu : tg0.ok (own.map (·.2)) = true) (hc : X.calm = true) (hN : X.N.Nodup) (hi : PI X tg iter (lIV X.K W dr)) (ok : BlkOk X.N X.env.scope scope own)
    (hg : ∀ (s : Shared) (H : Hp) (C : Addr) (cl : List (Str × Addr)) (fp : List Addr), PG (X.blk s H scope (compEnvC scope cl C X.env) fp) tg (gTg X.K tg0)) (ht : ∀ (s : Shared) (H : Hp) (C : Addr) (cl : List (Str × Addr)) (fp : List Addr), PTs (X.blk s H scope (compEnvC scope cl C X.env) fp) ifs (lT X.K W0 dt))
    (he : ∀ (s : Shared) (H : Hp) (C : Addr) (cl : List (Str × Addr)) (fp : List Addr), PE (X.blk s H scope (compEnvC scope cl C X.env) fp) elt (lE X.K W0 del)) (hs : ∀ x, foldedSetIterable iter X.env x = pure x := by intro _; rfl) :
    PE X (.ListComp elt [⟨tg, iter, ifs, 0⟩] scope pos) (lE X.K W (dLcN dr tg0 (own.map (·.2)) dt del)) := (pe_lc hc hN hi ok hg ht he hs).imp fun _ _ _ h => lE_lcN hu h
end
end RB

set_option Elab.async false
set_option linter.all false
set_option maxRecDepth 100000
set_option maxHeartbeats 4000000
/-! RB41: the number of entries of a set comprehension of ints; all(..) -/
namespace RB
open PySem PySem.Spec PyProof.Rows L2
/-! ### {e for x in ..}, e an int: a new set -/
def tScI (w : World) (wi : TI) (g : TG) (te : TE) (vs : List Nat) : TE := fun σ H Q => wi σ H fun J H1 => ∀ a, H1 a = none → ∃ W : Nat → Nat → Hp → Prop, (∃ m, W 0 m (upd H1 a (SetO w a (fun _ => false) 0))) ∧ ∀ i m H, W i m H →
  (J.stop i H ∧ Q (.ref a) H) ∨ (J.go i H ∧ ∃ N : Hp → Prop, (∀ H', N H' → ∃ m', m' < m ∧ W (i + 1) m' H') ∧ ∀ x H', J.yld i H x H' → g x (wipe σ vs) H' fun σ2 H2 => wipe σ2 vs = wipe σ vs ∧
    te σ2 H2 fun y H4 => ∃ (c : Int) (S : Int → Bool) (n : Nat), y = .int c ∧ H4 a = some (SetO w a S n) ∧ n + 1 < scanBound ∧ N (upd H4 a (SetO w a (fun j => S j || decide (j = c)) (if S c = true then n else n + 1))))
section
variable {X : Cx}
abbrev sObj (w : World) : Obj := { cls := .type "set", dict := none, data := .set #[] 0 (.fresh 0 0 (!w.params.followText "set-order")) }
theorem scI_core {el tg iter : Expr} {scope : Scope} {own : List (PySem.Str × Nat)} {pos pos' : Pos} {wi : TI} {g : TG} {te : TE} {u : Option (Value → Sem Unit)} {Qf : Value → Shared → Prop} {pins : List (Addr × Obj)} {s : Shared} {σ : L2.St} {H : Hp} {Q : VK}
    (calm : X.calm = true) (nd : X.N.Nodup) (I : Inv X pins σ H s) (hi : PI X tg iter wi) (ok : BlkOk X.N X.env.scope scope own) (fold : ∀ x, foldedSetIterable iter X.env x = pure x)
    (hg : ∀ (s : Shared) (H : Hp) (C : Addr) (cl : List (PySem.Str × Addr)) (fp : List Addr), PG (X.blk s H scope (compEnvC scope cl C X.env) fp) tg g)
    (he : ∀ (s : Shared) (H : Hp) (C : Addr) (cl : List (PySem.Str × Addr)) (fp : List Addr), PE (X.blk s H scope (compEnvC scope cl C X.env) fp) el te)
    (h : tScI X.w wi g te (own.map (·.2)) σ H Q)
    (back : ∀ a C s' m H', Inv X pins σ H' s' → Q (.ref a) H' → s'.heap.Ns C m → FpOk X pins H' C → compPost (model X.prog X.w) X.A X.xe u Qf (.ref a) C (.ok .next) s') :
    wpAny (model X.prog X.w) X.A (comprehension (.SetComp el [⟨tg, iter, [], 0⟩] scope pos) scope X.env pos' (newSet (.type "set")) false (eval iter X.env) u) Qf X.xe s := by
  have fr : ∀ y ∈ scope.names, y.2 = .free → ∃ c, X.env.cells.lookup y.1 = some c := fun y hy e => (ok.free y hy e).elim (fun k => I.ok.has _ (.inl k)) fun k => I.ok.has _ (.inr k)
  refine wpAny_comprehension_free (use := u) rfl fold (closure_ok fr) ok.kind (fun y hy e => by rw [ok.uniq y hy, e]) (thn (hi.run pins s σ H _ I h) fun xv s1 hx => thn hx fun itv s2 h2 => ?_)
  obtain ⟨it, fp, tn, J, H2, e, I2, T, st2, f2, q⟩ := h2
  subst e
  refine PpSet.newSet_ok (newEnv_comp ?_)
  generalize ea : s2.heap.objs.size = a
  have an : H2 a = none := I2.hok.fresh (Nat.le_of_eq ea)
  obtain ⟨W, ⟨m0, w0⟩, turn⟩ := q a an
  generalize e3 : ({ s2 with heap := s2.heap.push (sObj X.w) } : Shared) = s3
  have p3 : s3.heap = s2.heap.push (sObj X.w) := by rw [← e3]
  have I3 : Inv X pins σ (upd H2 a (SetO X.w a (fun _ => false) 0)) s3 := by
    rw [← e3]
    refine I2.laid (t' := s2.toks) (fun b o z => Heap.get?_push_of_some _ z) (Nat.le_of_eq ea) ?_
    rw [← ea]
    exact setO_new (setR_fresh X.w)
  have sz : ∀ b ∈ fp, b < s2.heap.objs.size := fun b hb => (T.obj _ _ st2 b hb).elim fun o z => Heap.lt_size z.1
  have f3 : ∀ b ∈ fp, FpOk X pins (upd H2 a (SetO X.w a (fun _ => false) 0)) b ∧ b < s3.heap.objs.size := fun b hb =>
    ⟨⟨by rw [upd_ne (by rw [← ea]; exact Nat.ne_of_lt (sz b hb))]; exact (f2 b hb).1, (f2 b hb).2⟩, by rw [p3, Heap.size_push]; exact Nat.lt_succ_of_lt (sz b hb)⟩
  have st3 : tn 0 s3.heap := T.keep _ _ _ st2 fun b _ o z => by rw [p3]; exact Heap.get?_push_of_some _ z
  have I4 := block_start I3 ok nd f3
  have pg := hg s3 (upd H2 a (SetO X.w a (fun _ => false) 0)) s3.heap.objs.size (cellsFrom (s3.heap.objs.size + 1) scope.names (cloFrom X.env.cells scope.names [])) fp
  have pe := he s3 (upd H2 a (SetO X.w a (fun _ => false) 0)) s3.heap.objs.size (cellsFrom (s3.heap.objs.size + 1) scope.names (cloFrom X.env.cells scope.names [])) fp
  show codeAny _ _ (.compStart (.SetComp el [⟨tg, iter, [], 0⟩] scope pos) 0 (.ref it) (.ref a) (compEnvC scope (cellsFrom (s3.heap.objs.size + 1) scope.names (cloFrom X.env.cells scope.names [])) s3.heap.objs.size X.env)) (compPost (model X.prog X.w) X.A X.xe u Qf (.ref a) s3.heap.objs.size) { s3 with heap := pushCells (s3.heap.push { cls := .type "dict", data := .dict #[] }) scope.names }
  have nfp : ∀ b ∈ fp, (upd H2 a (SetO X.w a (fun _ => false) 0)) b = none := fun b hb => (f3 b hb).1.1
  generalize ece : compEnvC scope (cellsFrom (s3.heap.objs.size + 1) scope.names (cloFrom X.env.cells scope.names [])) s3.heap.objs.size X.env = ce at I4 pg pe ⊢
  have cl0 : ce.locals = s3.heap.objs.size := by subst ece; rfl
  generalize eH : upd H2 a (SetO X.w a (fun _ => false) 0) = H3 at I3 I4 pg pe w0 nfp f3
  generalize e4 : ({ s3 with heap := pushCells (s3.heap.push { cls := .type "dict", data := .dict #[] }) scope.names } : Shared) = s4 at I4 ⊢
  have st4 : tn 0 s4.heap := T.keep _ _ _ st3 fun b _ o z => by rw [← e4]; exact pushCells_keeps _ _ _ _ (Heap.get?_push_of_some _ z)
  have stat : ∀ {σ' : L2.St} {H' : Hp} {s' : Shared}, Inv (X.blk s3 H3 scope ce fp) [] σ' H' s' → (∀ b ∈ fp, H' b = none) → ∀ b ∈ fp, FpOk (X.blk s3 H3 scope ce fp) [] H' b := fun {σ' H' s'} I' hn b hb =>
    ⟨hn b hb, (I'.ok.exf b hb).1, I'.ok.exfs b hb, .inl hb, fun x c z => (I'.ok.exf b hb).2 x c z, fun p hp => absurd (show p ∈ ([] : List (Addr × Obj)) ++ [] from hp) (by simp)⟩
  have go : codeAny (model X.prog X.w) X.A (.compLoop (.SetComp el [⟨tg, iter, [], 0⟩] scope pos) 0 (.ref it) (.ref a) ce) (compPost (model X.prog X.w) X.A X.xe u Qf (.ref a) s3.heap.objs.size) s4 := by
    refine PpSet.compLoopS_any (fun n s' => ∃ i H', Inv (X.blk s3 H3 scope ce fp) [] (wipe σ (own.map (·.2))) H' s' ∧ tn i s'.heap ∧ (∀ b ∈ fp, H' b = none) ∧ W i n H') ?_ m0 ⟨0, H3, I4, st4, nfp, w0⟩
    rintro n s5 ⟨i, H5, I5, st5, n5, w5⟩
    rcases turn i n H5 w5 with ⟨stop, qq⟩ | ⟨goes, N, hN, step⟩
    · refine thnF (T.done (X.blk s3 H3 scope ce fp) rfl rfl rfl calm i [] s5 _ H5 (fun _ _ => False) I5 (stat I5 n5) st5 stop) fun r s6 ⟨hr, I6⟩ => ?_
      subst hr
      have I7 : Inv X pins σ H5 s6 := I3.call' (ch := fp) I6.os I6.base I6.hok I6.bare fun b hb => ⟨(f3 b hb).1.2.2.2.1, (f3 b hb).1.2.1, (f3 b hb).1.2.2.2.2.1, (f3 b hb).1.2.2.2.2.2⟩
      have nC : H5 s3.heap.objs.size = none := by rw [← cl0]; exact I6.free
      obtain ⟨m, hn, _⟩ := I6.loc
      exact back a s3.heap.objs.size s6 m H5 I7 qq (by rw [← cl0]; exact hn) (I3.fpOk (Nat.le_refl _) nC)
    · refine thnF (T.item (X.blk s3 H3 scope ce fp) rfl rfl rfl calm i [] s5 _ H5 (fun _ _ => False) I5 (stat I5 n5) st5 goes) fun r s6 ⟨v, hr, h6⟩ => ?_
      subst hr
      refine thnF h6 fun _ s7 ⟨x, H7, I7, r7, y7, st7, n7⟩ => ?_
      refine thnF (pg.run _ s7 _ H7 x v _ (I7.pinned (stat I7 n7) (T.obj _ _ st7)) r7 (step x H7 y7)) fun _ s8 ⟨σ8, H8, I8, hw8, q8⟩ => ?_
      have fin : ∀ {s' : Shared} {H' : Hp}, Inv (X.blk s3 H3 scope ce fp) ([] ++ pinsAt fp s7.heap) σ8 H' s' → N H' → ∃ m, m < n ∧ ∃ i H', Inv (X.blk s3 H3 scope ce fp) [] (wipe σ (own.map (·.2))) H' s' ∧ tn i s'.heap ∧ (∀ b ∈ fp, H' b = none) ∧ W i m H' := fun {s' H'} I' nx => by
        obtain ⟨m', hm, w'⟩ := hN H' nx
        have pin' : ∀ b ∈ fp, ∀ o, s7.heap.get? b = some o → s'.heap.get? b = some o ∧ H' b = none := fun b hb o z =>
          (fun y => ⟨y.1, y.2.1⟩) (I'.pin (b, o) (List.mem_append_right _ (List.mem_append_right _ (mem_pinsAt hb z))))
        refine ⟨m', hm, i + 1, H', (I'.unpinned (pins := [])).weak (by rw [← hw8, wipe_length]) (fun j y z => by rw [← hw8] at z; exact (wipe_some z).1), T.keep _ _ _ st7 fun b hb o z => (pin' b hb o z).1, fun b hb => ?_, w'⟩
        obtain ⟨o, z, _⟩ := T.obj _ _ st7 b hb
        exact (pin' b hb o z).2
      show wpAny _ _ (forIn ([] : List Expr) true _) _ _ s8
      rw [List.forIn_nil]
      refine wpAny_pure ?_
      rw [if_pos rfl]
      refine thnF (pe.run _ s8 σ8 H8 _ I8 q8) fun z s10 ⟨y, H10, I10, r10, c, S, k, ey, hD, room, nx⟩ => ?_
      subst ey
      refine thnF (mt_sadd (X := X.blk s3 H3 scope ce fp) _ s10 σ8 H10 (.ref a) [.int c] (.ref a) [z] (fun _ H' => N H') I10 rfl (.cons r10 .nil) ⟨a, c, S, k, rfl, rfl, hD, room, nx⟩) fun _ s11 ⟨_, H11, I11, _, nx⟩ => fin I11 nx
  exact PpSet.codeAny_compStart_set go (T.self X.A 0 _ _ _ st4 go)
theorem pe_scI {el tg iter : Expr} {scope : Scope} {own : List (PySem.Str × Nat)} {pos : Pos} {wi : TI} {g : TG} {te : TE} (calm : X.calm = true) (nd : X.N.Nodup) (hi : PI X tg iter wi) (ok : BlkOk X.N X.env.scope scope own)
    (hg : ∀ (s : Shared) (H : Hp) (C : Addr) (cl : List (PySem.Str × Addr)) (fp : List Addr), PG (X.blk s H scope (compEnvC scope cl C X.env) fp) tg g)
    (he : ∀ (s : Shared) (H : Hp) (C : Addr) (cl : List (PySem.Str × Addr)) (fp : List Addr), PE (X.blk s H scope (compEnvC scope cl C X.env) fp) el te) (fold : ∀ x, foldedSetIterable iter X.env x = pure x := by intro _; rfl) :
    PE X (.SetComp el [⟨tg, iter, [], 0⟩] scope pos) (tScI X.w wi g te (own.map (·.2))) := by
  refine ⟨fun pins s σ H Q I h => ?_⟩
  rw [PpSet.eval_SetComp]
  refine scI_core calm nd I hi ok fold hg he h fun a C s' m H' I' q hn f => ⟨m, hn, fun h'' sb => ?_⟩
  obtain ⟨f0, f1, f2, f3, f4, f5⟩ := f
  exact ⟨.ref a, H', I'.turned (t' := s'.toks) (fun b o hb e => (sb.2 b hb).trans e) f0 f1 f3 f4 f5, rfl, q⟩
end

theorem step_dd (ks : List Int) (c : Int) : step_dedup ks c = if c ∈ ks then ks else ks ++ [c] := by
  have e : (ks.any fun x => x == c) = decide (c ∈ ks) := by
    rw [Bool.eq_iff_iff, List.any_eq_true, decide_eq_true_iff]
    exact ⟨fun ⟨x, hx, h⟩ => beq_iff_eq.mp h ▸ hx, fun m => ⟨c, m, beq_self_eq_true c⟩⟩
  unfold step_dedup
  rw [e]
  by_cases m : c ∈ ks
  · rw [if_pos (decide_eq_true m), if_pos m]
  · rw [if_neg (fun z => m (of_decide_eq_true z)), if_neg m]
theorem dedup_snoc (acc : List Int) (c : Int) : dedup (acc ++ [c]) = if c ∈ dedup acc then dedup acc else dedup acc ++ [c] := by
  unfold dedup
  rw [List.foldl_append, List.foldl_cons, List.foldl_nil, step_dd]
theorem dedup_mem {acc : List Int} {c : Int} : c ∈ dedup acc ↔ c ∈ acc := by
  have key : ∀ (l ks : List Int), c ∈ l.foldl step_dedup ks ↔ c ∈ ks ∨ c ∈ l := by
    intro l
    induction l with
    | nil => intro ks; exact Iff.intro Or.inl fun h => h.resolve_right fun z => nomatch z
    | cons a l ih =>
      intro ks
      rw [List.foldl_cons, ih, step_dd, List.mem_cons]
      by_cases m : a ∈ ks
      · rw [if_pos m]
        exact Iff.intro (fun h => h.imp id Or.inr) (fun h => h.elim Or.inl fun h => h.elim (fun e => Or.inl (e ▸ m)) Or.inr)
      · rw [if_neg m, List.mem_append, List.mem_singleton]
        exact or_assoc
  exact (key acc []).trans (Iff.intro (fun h => h.resolve_left fun z => nomatch z) Or.inr)
/-- len of a set comprehension -/
structure ScS (ds : List D) (tg : Tg0) (el : DTE) (δ : DSt) (Q : RV → Prop) : Prop where
  hz : ds.length ≤ 4000
  h : ∃ I : Nat → List Int → Prop, I 0 [] ∧ (∀ k acc d, ds[k]? = some d → I k acc → acc.length = k → setD tg d δ fun δ' => el δ' (fun r => isI r fun x => I (k + 1) (acc ++ [x])) (fun _ => False)) ∧ ∀ acc, I ds.length acc → acc.length = ds.length → Q (.dat (.int ((dedup acc).length : Nat)))
def dScLen (dr : DSrc) (tg : Tg0) (vs : List Nat) (el : DTE) : DTE := fun δ Q X => dr δ (fun ds => ScS ds tg el (wipeD δ vs) Q) X
def tLenScI (w : World) (wi : TI) (g : TG) (te : TE) (vs : List Nat) : TE := fun σ H Q => tScI w wi g te vs σ H fun v H' => ∃ a S n, v = .ref a ∧ H' a = some (SetO w a S n) ∧ n ≤ 4000 ∧ Q (.int (n : Nat)) H'
theorem lE_sc {K : PySem.W.Frag} {W : WX} {w : World} {dr : DSrc} {tg : Tg0} {vs : List Nat} {el : DTE} (hu : tg.ok vs = true) {σ : L2.St} {H : Hp} {Q : VK} (h : lE K W (dScLen dr tg vs el) σ H Q) : tLenScI w (lIV K W dr) (gTg K tg) (lE K W0 el) vs σ H Q := by
  obtain ⟨B, δ, G, Q2, X2, R, h, k, kx⟩ := h
  refine ⟨B, δ, G, _, X2, R, h, fun J ds G1 H1 w1 t1 wk q1 => ?_, kx⟩
  obtain ⟨hz, I, i0, turn, fin⟩ := q1
  intro Dn hDn
  have g1 : G1 Dn = none := w1.noG hDn
  have m1 : ¬ B.M Dn := w1.nm hDn
  refine ⟨fun i m H2 => i ≤ ds.length ∧ m = ds.length - i ∧ ∃ G2 acc, Wd B.M G2 H2 ∧ Ext B.M G1 H1 G2 H2 ∧ G2 Dn = none ∧ H2 Dn = some (SetO w Dn (fun j => decide (j ∈ dedup acc)) (dedup acc).length) ∧ acc.length = i ∧ I i acc, ⟨ds.length, Nat.zero_le _, rfl, G1, [], w1.alloc hDn, Ext.alloc hDn, g1, ?_, rfl, i0⟩, fun i m H2 hw => ?_⟩
  · rw [upd_same]
    rfl
  obtain ⟨hi, rfl, G2, acc, w2, t2, g2, h2, l2, ii⟩ := hw
  by_cases hlt : i < ds.length
  · refine .inr ⟨wk.go i G2 H2 t2 w2 hlt, fun H' => ∃ G' acc, Wd B.M G' H' ∧ Ext B.M G1 H1 G' H' ∧ G' Dn = none ∧ H' Dn = some (SetO w Dn (fun j => decide (j ∈ dedup acc)) (dedup acc).length) ∧ acc.length = i + 1 ∧ I (i + 1) acc, fun H' h => ⟨ds.length - (i + 1), by omega, hlt, rfl, h⟩, fun x H' y => ?_⟩
    obtain ⟨d, G3, ed, w3, t3, dd⟩ := wk.yld i G2 H2 x H' t2 w2 hlt y
    have hn2 : H2 Dn ≠ none := by rw [h2]; exact fun z => nomatch z
    have R3 : Rel K B (wipeD δ vs) (L2.wipe σ vs) G3 H' := (((R.step w1 t1).wipe vs).step w3 ⟨fun b o mb e => ?_, fun c o z => t3.gg c o (t2.gg c o z), fun c z g => ?_, fun c z => t3.hm c (t2.hm c z)⟩)
    · refine tg_wipe hu (fun δ' σ' R4 ew n => ?_) R3 dd (turn i acc d ed ii l2)
      refine ⟨by rw [ew]; exact wipe_none vs vs fun _ z => z, ?_⟩
      refine ⟨B, δ', G3, _, _, R4, n, fun r v G5 H5 w5 t5 o5 q5 => ?_, fun _ _ _ _ z => z⟩
      obtain ⟨c, rfl, q5⟩ := isI_ok o5 q5
      have hD' := t3.hh Dn _ m1 h2
      have hD5 := t5.hh Dn _ m1 hD'
      have g3 : G3 Dn = none := t3.fr Dn hn2 g2
      have g5 : G5 Dn = none := t5.fr Dn (by rw [hD']; exact fun z => nomatch z) g3
      have t35 := t3.trans t5
      have le := dedup_le acc
      have su := sto_upd (o := SetO w Dn (fun j => decide (j ∈ dedup (acc ++ [c]))) (dedup (acc ++ [c])).length) w5 m1 g5 (by rw [hD5]; exact fun z => nomatch z)
      have eo : SetO w Dn (fun j => decide (j ∈ dedup acc) || decide (j = c)) (if decide (c ∈ dedup acc) = true then (dedup acc).length else (dedup acc).length + 1) = SetO w Dn (fun j => decide (j ∈ dedup (acc ++ [c]))) (dedup (acc ++ [c])).length := by
        have e1 : (fun j => decide (j ∈ dedup acc) || decide (j = c)) = fun j => decide (j ∈ dedup (acc ++ [c])) := funext fun j => by
          rw [Bool.eq_iff_iff, Bool.or_eq_true, decide_eq_true_iff, decide_eq_true_iff, decide_eq_true_iff, dedup_mem, dedup_mem, List.mem_append, List.mem_singleton]
        rw [e1, dedup_snoc]
        by_cases m : c ∈ dedup acc
        · rw [if_pos (decide_eq_true m), if_pos m]
        · rw [if_neg (fun z => m (of_decide_eq_true z)), if_neg m, List.length_append]
          rfl
      refine ⟨c, _, _, rfl, hD5, by unfold scanBound; omega, ?_⟩
      rw [eo]
      refine ⟨G5, acc ++ [c], su.1, ⟨fun b o mb e => ?_, fun c o z => t35.gg c o (t2.gg c o z), fun c z g => ?_, fun c z => ?_⟩, g5, upd_same, by rw [List.length_append, l2]; rfl, q5⟩
      · have ne : b ≠ Dn := fun z => by rw [z, hDn] at e; cases e
        rw [upd_ne ne]
        exact t35.hh b o mb (t2.hh b o mb e)
      · exact t35.fr c (t2.hm c z) (t2.fr c z g)
      · by_cases zz : c = Dn
        · subst zz; rw [upd_same]; exact fun y => nomatch y
        · rw [upd_ne zz]; exact t35.hm c (t2.hm c z)
    · exact t3.hh b o mb (t2.hh b o mb e)
    · exact t3.fr c (t2.hm c z) (t2.fr c z g)
  · have e : i = ds.length := by omega
    subst e
    have le := dedup_le acc
    refine .inl ⟨wk.stop _ G2 H2 t2 w2 (Nat.le_refl _), Dn, _, _, rfl, h2, by omega, ?_⟩
    exact k (.dat (.int _)) _ G2 H2 w2 (t1.trans t2) (Dt.int _) (fin acc ii l2)
section
variable {X : Cx}
theorem pe_lenScI {el tg iter : Expr} {scope : Scope} {own : List (PySem.Str × Nat)} {pos p q : Pos} {wi : TI} {g : TG} {te : TE} (hm : X.mg "len" = none) (calm : X.calm = true) (nd : X.N.Nodup) (hi : PI X tg iter wi) (ok : BlkOk X.N X.env.scope scope own)
    (hg : ∀ (s : Shared) (H : Hp) (C : Addr) (cl : List (PySem.Str × Addr)) (fp : List Addr), PG (X.blk s H scope (compEnvC scope cl C X.env) fp) tg g)
    (he : ∀ (s : Shared) (H : Hp) (C : Addr) (cl : List (PySem.Str × Addr)) (fp : List Addr), PE (X.blk s H scope (compEnvC scope cl C X.env) fp) el te) (fold : ∀ x, foldedSetIterable iter X.env x = pure x := by intro _; rfl)
    (hgl : Gl X "len" := by rfl) (na : starEach [.SetComp el [⟨tg, iter, [], 0⟩] scope pos] X.env = (false, eval (.SetComp el [⟨tg, iter, [], 0⟩] scope pos) X.env) :: starEach [] X.env := by rfl) :
    PE X (.Call (.Name "len" p) [.SetComp el [⟨tg, iter, [], 0⟩] scope pos] [] q) (tLenScI X.w wi g te (own.map (·.2))) := by
  refine ⟨fun pins s σ H Q I h => ?_⟩
  refine Call_ (ld_blt I hgl hm boot_len ?_)
  refine PyProof.Rows.callWith_builtin1 (PyProof.Rows.args_cons (thn ((pe_scI calm nd hi ok hg he fold).run pins s σ H _ I h) fun v s1 ⟨x, H1, I1, r1, a, S, n, ex, hD, hn, q1⟩ => PyProof.Rows.args_nil ?_) na) rfl rfl
  subst ex
  cases r1
  have hS : s1.heap.SetOf (intKind X.prog X.w) a S n := (setO_get I1 hD).setOf
  obtain ⟨o, es, ep, t, ho, hex, hd, _, _, _, hf, hsz⟩ := hS
  exact call_len_set ho hex hd hf (by rw [hsz]; omega) ⟨.int n, H1, I1.tok _, ⟨_, by rw [hsz]⟩, q1⟩
theorem de_scLen {el tg iter : Expr} {scope : Scope} {own : List (PySem.Str × Nat)} {pos p q : Pos} {W : WX} {dr : DSrc} {tg0 : Tg0} {de : DTE} (hu : tg0.ok (own.map (·.2)) = true) (hm : X.mg "len" = none) (calm : X.calm = true) (nd : X.N.Nodup) (hi : PI X tg iter (lIV X.K W dr)) (ok : BlkOk X.N X.env.scope scope own)
    (hg : ∀ (s : Shared) (H : Hp) (C : Addr) (cl : List (PySem.Str × Addr)) (fp : List Addr), PG (X.blk s H scope (compEnvC scope cl C X.env) fp) tg (gTg X.K tg0))
    (he : ∀ (s : Shared) (H : Hp) (C : Addr) (cl : List (PySem.Str × Addr)) (fp : List Addr), PE (X.blk s H scope (compEnvC scope cl C X.env) fp) el (lE X.K W0 de)) (fold : ∀ x, foldedSetIterable iter X.env x = pure x := by intro _; rfl)
    (hgl : Gl X "len" := by rfl) (na : starEach [.SetComp el [⟨tg, iter, [], 0⟩] scope pos] X.env = (false, eval (.SetComp el [⟨tg, iter, [], 0⟩] scope pos) X.env) :: starEach [] X.env := by rfl) :
    PE X (.Call (.Name "len" p) [.SetComp el [⟨tg, iter, [], 0⟩] scope pos] [] q) (lE X.K W (dScLen dr tg0 (own.map (·.2)) de)) := (pe_lenScI hm calm nd hi ok hg he fold hgl na).imp fun _ _ _ h => lE_sc hu h
end
/-! ### all(..) of a list of truth values -/
def bAll (r : RV) (Q : RV → Prop) : Prop := match r.d? with
  | some (.list ds) => ∃ bs : List Bool, ds = bs.map PyData.bool ∧ Q (.dat (.bool (bs.all id)))
  | _ => False
theorem dtA_bools {K : PySem.W.Frag} {G : Hp} : ∀ {bs : List Bool} {vs : List V}, DtA K G vs (bs.map PyData.bool) → vs = bs.map V.bl
  | [], _, h => by cases h; rfl
  | b :: bs, _, h => by
    cases h with
    | cons h1 h2 =>
      cases h1
      rw [dtA_bools h2]
      rfl
theorem o1_all {K : PySem.W.Frag} : Op1 K (rAll K) bAll := by
  intro M HB H0 G H x r1 Q2 Q w o1 hf k
  unfold bAll at hf
  split at hf
  · rename_i ds e
    obtain ⟨bs, rfl, hf⟩ := hf
    obtain ⟨a, xs, rfl, hH, q⟩ := o1.lst w.sub e
    have e6 := dtA_bools q
    subst e6
    exact ⟨a, bs, rfl, SqL.of hH, k (.dat (.bool _)) _ G H w .refl (Dt.bl _) hf⟩
  · exact hf.elim
end RB

set_option Elab.async false
set_option linter.all false
set_option maxRecDepth 100000
set_option maxHeartbeats 4000000
/-! RB42: for x in an own list by its name, which the loop leaves as it is; behind the loop it is own still -/
namespace RB
open PySem PySem.Spec PyProof.Rows L2
structure ForV (ds : List D) (tg : Tg0) (s : DTS) (i : Nat) (a : Addr) (D : DE2) (δ : DSt) : Prop where
  h : ∃ I : Nat → DSt → Prop, I 0 δ ∧ (∀ k d δ, ds[k]? = some d → I k δ → setD tg d δ fun δ' => s { D with nx := I (k + 1), ct := I (k + 1), bk := fun δ' => δ'[i]? = some (.raw (.ref a)) ∧ D.nx (δ'.set i (.own ds)) } δ') ∧ ∀ δ, I ds.length δ → δ[i]? = some (.raw (.ref a)) ∧ D.nx (δ.set i (.own ds))
def dForV (i : Nat) (tg : Tg0) (s : DTS) : DTS := fun D δ => match δ.getD i .no with
  | .own ds => ∀ a : Addr, ForV ds tg s i a D (δ.set i (.raw (.ref a)))
  | _ => False
section
variable {K : PySem.W.Frag}
mutual
theorem Nw.pin {HB G : Hp} {a : Addr} {o : HO} (g : G a = none) : ∀ {d : D} {v : V}, Nw K HB G v d → Nw K (upd HB a o) G v d
  | .none, _, h => by cases h; exact .non
  | .bool b, _, h => by cases h; exact .bl b
  | .int i, _, h => by cases h; exact .int i
  | .str x, _, h => by cases h; exact .str x
  | .list ds, _, h => by
    cases h with
    | @lst c _ _ h0 h1 h2 =>
      have ne : c ≠ a := fun z => by rw [z, g] at h1; cases h1
      exact .lst (by rw [upd_ne ne]; exact h0) h1 (NwA.pin g h2)
  | .tuple ds, _, h => by
    cases h with
    | tup h1 h2 => exact .tup h1 (NwA.pin g h2)
  | .dict _, _, h => by cases h
theorem NwA.pin {HB G : Hp} {a : Addr} {o : HO} (g : G a = none) : ∀ {ds : List D} {vs : List V}, NwA K HB G vs ds → NwA K (upd HB a o) G vs ds
  | [], _, h => by cases h; exact .nil
  | d :: ds, _, h => by
    cases h with
    | cons h1 h2 => exact .cons (Nw.pin g h1) (NwA.pin g h2)
end
def pinB (B : Base) (G : Hp) (a : Addr) (xs : List V) : Base := ⟨B.M, G, upd B.H a (.lst xs), fun b => B.T b ∧ b ≠ a⟩
/-- what is known of the list -/
structure Pin (K : PySem.W.Frag) (B : Base) (G H : Hp) (a : Addr) (xs : List V) (ds : List D) : Prop where
  b : B.H a = none
  g : G a = none
  m : ¬ B.M a
  h : H a = some (.lst xs)
  q : DtA K G xs ds
variable {B B' : Base} {δ δ' : DSt} {σ σ' : St} {G G' H H' : Hp} {a : Addr} {xs : List V} {ds : List D} {i : Nat}
theorem pin_le (R : Rel K B δ σ G H) (p : Pin K B G H a xs ds) : Le B (pinB B G a xs) := by
  refine ⟨rfl, ⟨fun b o m e => ?_, R.ext.gg, R.ext.fr, fun b z => ?_⟩, fun b _ y => y.1⟩
  · have ne : b ≠ a := fun z => by rw [z, p.b] at e; cases e
    show upd B.H a (.lst xs) b = some o
    rw [upd_ne ne]; exact e
  · have ne : b ≠ a := fun y => z (by rw [y, p.b])
    show upd B.H a (.lst xs) b ≠ none
    rw [upd_ne ne]; exact z
theorem pin_rel (R : Rel K B δ σ G H) (p : Pin K B G H a xs ds) (e1 : δ[i]? = some (.own ds)) (e2 : σ[i]? = some (some (.ref a))) : Rel K (pinB B G a xs) (δ.set i (.raw (.ref a))) σ G H := by
  have own_ne : ∀ {j : Nat} {us : List D}, i ≠ j → δ[j]? = some (.own us) → ∀ {c : Addr}, σ[j]? = some (some (.ref c)) → c ≠ a := fun {j us} hj f1 {c} f2 z => hj (R.sep i j a ds us e1 f1 e2 (by rw [f2, z]))
  refine ⟨R.wd, ⟨fun b o m e => ?_, fun _ _ z => z, fun _ _ z => z, fun b z => ?_⟩, by rw [List.length_set]; exact R.len, fun j s x f1 f2 => ?_, fun j l c us vs f1 f2 f3 f4 => ?_⟩
  · by_cases hb : b = a
    · subst hb
      have e : upd B.H b (.lst xs) b = some o := e
      rw [upd_same] at e
      rw [← e]
      exact p.h
    · have e : upd B.H a (.lst xs) b = some o := e
      rw [upd_ne hb] at e
      exact R.ext.hh b o (fun z => m (z.imp id fun y => ⟨y, hb⟩)) e
  · by_cases hb : b = a
    · subst hb; rw [p.h]; exact fun z => nomatch z
    · have z : upd B.H a (.lst xs) b ≠ none := z
      rw [upd_ne hb] at z
      exact R.ext.hm b z
  · by_cases hj : i = j
    · subst hj
      rw [List.getElem?_set, if_pos rfl] at f1
      split at f1
      · cases f1
        rw [e2] at f2
        cases f2
        rfl
      · cases f1
    · rw [List.getElem?_set_ne hj] at f1
      have z := R.sl j s x f1 f2
      cases s with
      | own us =>
        obtain ⟨c, zs, rfl, c1, c2, c3, c4, c5⟩ := z
        exact ⟨c, zs, rfl, by show upd B.H a (.lst xs) c = none; rw [upd_ne (own_ne hj f1 f2)]; exact c1, c2, c3, c4, c5⟩
      | dic us =>
        obtain ⟨c, zs, rfl, c1, c2, c3, c4, c5⟩ := z
        have ne : c ≠ a := fun z => by rw [z, p.h] at c4; cases c4
        exact ⟨c, zs, rfl, by show upd B.H a (.lst xs) c = none; rw [upd_ne ne]; exact c1, c2, c3, c4, c5⟩
      | tre d =>
        obtain ⟨v, e, q⟩ := z
        refine ⟨v, e, q.imp (fun c zs h1 h0 h2 h3 h4 => ?_) (fun c zs h1 h2 => ⟨h1, h2⟩) (fun _ _ z => z)⟩
        have ne : c ≠ a := fun z => h1 (by rw [z, p.b])
        exact ⟨by show upd B.H a (.lst xs) c ≠ none; rw [upd_ne ne]; exact h1, ⟨h0, ne⟩, h2, h3, h4⟩
      | new d => obtain ⟨v, e, q⟩ := z; exact ⟨v, e, q.pin p.g⟩
      | no => exact z
      | dat d => exact z
      | raw v => exact z
      | sto => exact z
  · have old : ∀ {j : Nat} {us : List D}, (δ.set i (.raw (.ref a)))[j]? = some (.own us) → δ[j]? = some (.own us) := fun {j us} f => by
      by_cases hj : i = j
      · subst hj
        rw [List.getElem?_set, if_pos rfl] at f
        split at f <;> cases f
      · rw [List.getElem?_set_ne hj] at f; exact f
    exact R.sep j l c us vs (old f1) (old f2) f3 f4
theorem pin_at (p : Pin K B G H a xs ds) (l : Le (pinB B G a xs) B') (R' : Rel K B' δ' σ' G' H') : H' a = some (.lst xs) ∧ G' a = none ∧ ¬ B'.MT a ∧ DtA K G' xs ds ∧ B'.H a ≠ none := by
  have m0 : ¬ (pinB B G a xs).MT a := fun z => z.elim p.m fun y => y.2 rfl
  have h0 : (pinB B G a xs).H a = some (.lst xs) := upd_same
  have n0 : (pinB B G a xs).H a ≠ none := by rw [h0]; exact fun z => nomatch z
  have h1 : B'.H a = some (.lst xs) := l.e.hh a _ m0 h0
  have n1 : B'.H a ≠ none := by rw [h1]; exact fun z => nomatch z
  have m1 : ¬ B'.MT a := fun z => z.elim (fun y => p.m (by have e : B'.M = B.M := l.m; rw [← e]; exact y)) fun y => (l.t a n0 y).2 rfl
  exact ⟨R'.ext.hh a _ m1 h1, R'.ext.fr a n1 (l.e.fr a n0 p.g), m1, p.q.mono fun c o z => R'.ext.gg c o (l.e.gg c o z), n1⟩
def pofH (H : Hp) (a : Addr) : Hp := fun b => if b = a then none else H b
theorem pofH_ne {H : Hp} {a b : Addr} (h : b ≠ a) : pofH H a b = H b := if_neg h
theorem pofH_some {H : Hp} {a b : Addr} {o : HO} (h : pofH H a b = some o) : b ≠ a ∧ H b = some o := by
  unfold pofH at h
  split at h
  · cases h
  · exact ⟨by assumption, h⟩
theorem pofH_nn {H : Hp} {a b : Addr} (h : pofH H a b ≠ none) : b ≠ a ∧ H b ≠ none := by
  cases e : pofH H a b with
  | none => exact absurd e h
  | some o => have := pofH_some e; exact ⟨this.1, by rw [this.2]; exact fun z => nomatch z⟩
theorem pin_off (R : Rel K B δ σ G H) (p : Pin K B G H a xs ds) (l : Le (pinB B G a xs) B') (R' : Rel K B' δ' σ' G' H') (e : δ'[i]? = some (.raw (.ref a))) :
    Le B ⟨B'.M, B'.G, pofH B'.H a, B'.T⟩ ∧ Rel K ⟨B'.M, B'.G, pofH B'.H a, B'.T⟩ (δ'.set i (.own ds)) σ' G' H' := by
  obtain ⟨h1, g1, m1, q1, n1⟩ := pin_at p l R'
  have up : ∀ {b : Addr}, B.H b ≠ none → b ≠ a ∧ (pinB B G a xs).H b = B.H b := fun {b} z => by
    have ne : b ≠ a := fun y => z (by rw [y, p.b])
    exact ⟨ne, upd_ne ne⟩
  refine ⟨⟨l.m, ⟨fun b o m z => ?_, fun c o z => l.e.gg c o (R.ext.gg c o z), fun b z g => ?_, fun b z => ?_⟩, fun b z y => ?_⟩, ⟨R'.wd, ⟨fun b o m z => ?_, R'.ext.gg, fun b z g => ?_, fun b z => ?_⟩, by rw [List.length_set]; exact R'.len, fun j s x f1 f2 => ?_, fun j k c us vs f1 f2 f3 f4 => ?_⟩⟩
  · obtain ⟨ne, u⟩ := up (b := b) (by rw [z]; exact fun y => nomatch y)
    show pofH B'.H a b = some o
    rw [pofH_ne ne]
    exact l.e.hh b o (fun y => m (y.imp id fun y => y.1)) (u.trans z)
  · obtain ⟨ne, u⟩ := up z
    exact l.e.fr b (by rw [u]; exact z) (R.ext.fr b z g)
  · obtain ⟨ne, u⟩ := up z
    show pofH B'.H a b ≠ none
    rw [pofH_ne ne]
    exact l.e.hm b (by rw [u]; exact z)
  · obtain ⟨ne, u⟩ := up z
    exact (l.t b (by rw [u]; exact z) y).1
  · exact R'.ext.hh b o m (pofH_some z).2
  · exact R'.ext.fr b (pofH_nn z).2 g
  · exact R'.ext.hm b (pofH_nn z).2
  · by_cases hj : i = j
    · subst hj
      obtain ⟨y, f3, f4⟩ := R'.at e
      rw [f2] at f3
      cases f3
      rw [List.getElem?_set, if_pos rfl] at f1
      split at f1
      · cases f1
        exact ⟨a, xs, f4, if_pos rfl, g1, fun z => m1 (.inl z), h1, q1⟩
      · cases f1
    · rw [List.getElem?_set_ne hj] at f1
      have z := R'.sl j s x f1 f2
      have nn : ∀ c : Addr, B'.H c = none → pofH B'.H a c = none := fun c y => by
        unfold pofH
        split
        · rfl
        · exact y
      cases s with
      | own us =>
        obtain ⟨c, zs, e1, c1, c2, c3, c4, c5⟩ := z
        exact ⟨c, zs, e1, nn c c1, c2, c3, c4, c5⟩
      | dic us =>
        obtain ⟨c, zs, e1, c1, c2, c3, c4, c5⟩ := z
        exact ⟨c, zs, e1, nn c c1, c2, c3, c4, c5⟩
      | tre d =>
        obtain ⟨v, e1, q⟩ := z
        refine ⟨v, e1, q.imp (fun c zs h1 h0 h2 h3 h4 => ?_) (fun c zs h1 h2 => ⟨h1, h2⟩) (fun _ _ z => z)⟩
        have ne : c ≠ a := fun z => m1 (.inr (z ▸ h0))
        exact ⟨by show pofH B'.H a c ≠ none; rw [pofH_ne ne]; exact h1, h0, h2, h3, h4⟩
      | new d => obtain ⟨v, e1, q⟩ := z; exact ⟨v, e1, q.mono (fun _ _ z => z) nn⟩
      | no => exact z
      | dat d => exact z
      | raw v => exact z
      | sto => exact z
  · have no_a : ∀ {j : Nat} {us : List D}, i ≠ j → δ'[j]? = some (.own us) → σ'[j]? = some (some (.ref a)) → False := fun {j us} hj f g => by
      obtain ⟨c, zs, e1, c1, _⟩ := R'.sl j _ _ f g
      cases e1
      exact n1 c1
    have at_i : ∀ {us : List D}, σ'[i]? = some (some (.ref c)) → c = a := fun {us} g => by
      obtain ⟨y, f5, f6⟩ := R'.at e
      rw [g] at f5
      cases f5
      exact V.ref.inj (Option.some.inj f6)
    by_cases hj : i = j
    · by_cases hk : i = k
      · exact hj.symm.trans hk
      · subst hj
        have := at_i (us := us) f3
        subst this
        rw [List.getElem?_set_ne hk] at f2
        exact (no_a hk f2 f4).elim
    · rw [List.getElem?_set_ne hj] at f1
      by_cases hk : i = k
      · subst hk
        have := at_i (us := us) f4
        subst this
        exact (no_a hj f1 f3).elim
      · rw [List.getElem?_set_ne hk] at f2
        exact R'.sep j k c us vs f1 f2 f3 f4
end
section
variable {X : Cx} {W : WX}
theorem ds_forV {tg : Expr} {body : List Stmt} {s : DTS} {tg0 : Tg0} {i : Nat} {x : Str} {pos pos' : Pos} (hp : PassesOwn (model X.prog X.w) X.A X.env X.xe) (hc : X.calm = true) (hg : PG X tg (gTg X.K tg0)) (hb : PSs X body (lS X.K W s)) (hN : X.N[i]? = some x := by rfl) (hv : Vis X.env.scope x := by first | exact Or.inl rfl | exact Or.inr (Or.inl rfl) | exact Or.inr (Or.inr rfl)) (hd : (x == ("__debug__" : Str)) = false := by decide)
    (hcd : (x == ("__classdict__" : Str)) = false := by decide) (hs : ∀ z, foldedSetIterable (.Name x pos') X.env z = pure z := by intro _; rfl) : PS X (.For tg (.Name x pos') body [] pos) (lS X.K W (dForV i tg0 s)) := (ps_for hp hc (pi_list (pe_var hN hv hd hcd)) hg hb hs).imp fun D σ H h => by
  obtain ⟨B, δ, G, D2, R, k, h⟩ := h
  unfold dForV at h
  split at h
  rotate_left
  · exact h.elim
  rename_i ds e
  have ed := getD_some e fun z => nomatch z
  obtain ⟨y, e1, a, xs, rfl, b1, b2, b3, b4, b5⟩ := R.at ed
  have p : Pin X.K B G H a xs ds := ⟨b1, b2, b3, b4, b5⟩
  obtain ⟨I, i0, turn, fin⟩ := h a
  have len := b5.length
  refine ⟨_, e1, a, rfl, ⟨xs, SqL.of b4⟩, fun j m σ H => j ≤ ds.length ∧ m = ds.length - j ∧ ∃ B' δ G', Le (pinB B G a xs) B' ∧ Rel X.K B' δ σ G' H ∧ I j δ, ⟨ds.length, Nat.zero_le _, rfl, _, _, G, .rfl, pin_rel R p ed e1, i0⟩, fun j m σ H hw => ?_⟩
  obtain ⟨hj, rfl, B2, δ2, G2, l2, R2, ii⟩ := hw
  obtain ⟨h2, g2, m2, q2, n2⟩ := pin_at p l2 R2
  have done : ∀ {B3 : Base} {δ3 : DSt} {σ3 : St} {G3 H3 : Hp}, Le (pinB B G a xs) B3 → Rel X.K B3 δ3 σ3 G3 H3 → δ3[i]? = some (.raw (.ref a)) → D2.nx (δ3.set i (.own ds)) → D.nx σ3 H3 := fun l3 R3 e3 n3 => by
    obtain ⟨lb, Rb⟩ := pin_off R p l3 R3 e3
    exact k.nx' _ lb _ _ _ _ Rb n3
  by_cases hlt : j < ds.length
  · obtain ⟨v, ev, dv⟩ := q2.get (List.getElem?_eq_getElem hlt)
    refine .inr ⟨⟨xs, v, SqL.of h2, ev⟩, fun σ' H' => ∃ B' δ' G', Le (pinB B G a xs) B' ∧ Rel X.K B' δ' σ' G' H' ∧ I (j + 1) δ', fun σ' H' hn => ?_, fun z H' yy => ?_⟩
    · obtain ⟨B', δ', G', l', R', i'⟩ := hn
      exact ⟨ds.length - (j + 1), by omega, hlt, rfl, B', δ', G', l', R', i'⟩
    · obtain ⟨eH, yy⟩ := yy
      subst eH
      have ez := yy xs (SqL.of h2)
      rw [ev] at ez
      cases ez
      refine tg_ok (fun δ' σ' R' n => ?_) R2 dv (turn j _ δ2 (List.getElem?_eq_getElem hlt) ii)
      have lk := (pin_le R p).trans l2
      refine ⟨B2, δ', G2, { D2 with nx := I (j + 1), ct := I (j + 1), bk := fun δ' => δ'[i]? = some (.raw (.ref a)) ∧ D2.nx (δ'.set i (.own ds)) }, R', ⟨fun B' l δ σ G H Q q => ⟨B', δ, G, l2.trans l, Q, q⟩, fun B' l δ σ G H Q q => done (l2.trans l) Q q.1 q.2, fun B' l δ σ G H Q q => ⟨B', δ, G, l2.trans l, Q, q⟩, (k.up lk).rt', (k.up lk).ex'⟩, n⟩
  · have e : j = ds.length := by omega
    subst e
    obtain ⟨f1, f2⟩ := fin δ2 ii
    exact .inl ⟨⟨xs, SqL.of h2, by omega⟩, done l2 R2 f1 f2⟩
end
end RB

set_option Elab.async false
set_option linter.all false
set_option maxRecDepth 100000
set_option maxHeartbeats 4000000
/-! RB43: an expression of flat result asked on a frozen view; behind it the lists are own still -/
namespace RB
open PySem PySem.Spec PyProof.Rows L2
def lendS : Sl → Sl
  | .own ds => .dat (.list ds)
  | .tre d => .dat d
  | .new d => .dat d
  | .dat d => .dat d
  | .raw v => .raw v
  | _ => .no
theorem rel_lend {K : PySem.W.Frag} {B : Base} {δ : DSt} {σ : St} {G H : Hp} (R : Rel K B δ σ G H) : Rel K ⟨fun _ => False, H, H, noT⟩ (δ.map lendS) σ H H := by
  refine ⟨⟨fun _ _ z => z, fun _ z => z.elim⟩, .refl, by rw [List.length_map]; exact R.len, fun j t x e1 e2 => ?_, fun j l c us vs f1 f2 _ _ => ?_⟩
  · rw [List.getElem?_map] at e1
    cases z : δ[j]? with
    | none => rw [z] at e1; cases e1
    | some s0 =>
      rw [z] at e1
      cases e1
      have q := R.sl j s0 x z e2
      cases s0 with
      | own ds =>
        obtain ⟨a, xs, rfl, b1, b2, b3, b4, b5⟩ := q
        exact ⟨_, rfl, Dt.lst b4 (b5.mono R.wd.sub)⟩
      | tre d => obtain ⟨v, e, q⟩ := q; exact ⟨v, e, q.dt R.wd.sub⟩
      | new d => obtain ⟨v, e, q⟩ := q; exact ⟨v, e, q.dt.mono R.wd.sub⟩
      | dat d => obtain ⟨v, e, q⟩ := q; exact ⟨v, e, q.mono R.wd.sub⟩
      | raw v => exact q
      | _ => trivial
  · exfalso
    rw [List.getElem?_map] at f1
    cases z : δ[j]? with
    | none => rw [z] at f1; cases f1
    | some t => rw [z] at f1; cases t <;> cases f1
def flatQ (Q : RV → Prop) : RV → Prop
  | .dat (.int n) => Q (.dat (.int n))
  | .dat (.bool b) => Q (.dat (.bool b))
  | .dat (.str x) => Q (.dat (.str x))
  | .dat .none => Q (.dat .none)
  | _ => False
def dLendE (de : DTE) : DTE := fun δ Q _ => de (δ.map lendS) (flatQ Q) (fun _ => False)
theorem de_lend {X : Cx} {W : WX} {e : Expr} {de : DTE} (he : PE X e (lE X.K W0 de)) : PE X e (lE X.K W (dLendE de)) := by
  refine ⟨fun pins s σ H Q I h => he.run pins s σ H Q I ?_⟩
  obtain ⟨B, δ, G, Q2, X2, R, h, k, kx⟩ := h
  refine ⟨_, _, H, _, fun _ => False, rel_lend R, h, fun r v G2 H2 w2 t2 o2 q2 => ?_, fun _ _ _ _ z => z⟩
  obtain ⟨w', t'⟩ := back_all R w2 t2
  unfold flatQ at q2
  split at q2
  · rename_i n
    cases (show Dt X.K G2 v (.int n) from o2)
    exact k (.dat (.int n)) _ G H2 w' t' (Dt.int n) q2
  · rename_i b
    cases (show Dt X.K G2 v (.bool b) from o2)
    exact k (.dat (.bool b)) _ G H2 w' t' (Dt.bl b) q2
  · rename_i x
    cases (show Dt X.K G2 v (.str x) from o2)
    exact k (.dat (.str x)) _ G H2 w' t' (Dt.str x) q2
  · cases (show Dt X.K G2 v .none from o2)
    exact k (.dat .none) _ G H2 w' t' Dt.non q2
  · exact q2.elim
end RB

set_option Elab.async false
set_option linter.all false
set_option maxRecDepth 100000
set_option maxHeartbeats 8000000
set_option exponentiation.threshold 100000
/-! SP: what the defs do, in plain words (taken over from other claims by lib.py) -/
namespace RB
open PySem PySem.Spec PyProof.Rows L2
abbrev Fr := PySem.W.Frag
abbrev cM (K : Fr) : Addr := He.ga K "BadModulus"
def withinD (d : D) (lo hi : Int) : Bool := match d with
  | .int x => decide (lo ≤ x) && decide (x ≤ hi)
  | _ => false
/-- how often p goes into n, asked at most f times -/
def vpF (p : Nat) : Nat → Nat → Nat
  | 0, _ => 0
  | f + 1, n => if n % p = 0 then vpF p f (n / p) + 1 else 0
def vp (p n : Nat) : Nat := vpF p 64 n
abbrev PR : List (Nat × Nat) := [(2, 38), (3, 18), (5, 9), (7, 5), (11, 3), (13, 3), (17, 2), (19, 2), (23, 1), (29, 1), (31, 1), (37, 1)]
def facRun : List (Nat × Nat) → Nat → Option (List (Nat × Nat))
  | [], r => if r = 1 then some [] else none
  | (p, most) :: ps, r => if most < vp p r then none else (facRun ps (r / p ^ vp p r)).map fun l => if 0 < vp p r then (p, vp p r) :: l else l
def facM (m : Int) : Option (List (Nat × Nat)) := if 2 ≤ m ∧ m ≤ 10000000000 then facRun PR m.toNat else none
def facD (d : D) : Option (List (Nat × Nat)) := match d with
  | .int m => facM m
  | _ => none
def lawFac : List Nat → Nat → List (Nat × Nat)
  | [], _ => []
  | p :: ps, r => if 0 < vp p r then (p, vp p r) :: lawFac ps (r / p ^ vp p r) else lawFac ps (r / p ^ vp p r)
abbrev P12 : List Nat := [2, 3, 5, 7, 11, 13, 17, 19, 23, 29, 31, 37]
def prD (q : Nat × Nat) : D := .tuple [.int q.1, .int q.2]
def fitD (d : D) : Bool := match d with
  | .int x => decide (-(10 ^ 60) ≤ x) && decide (x ≤ 10 ^ 60)
  | _ => false
abbrev sp_within (_ : Fr) : DSp := fun rs Q _ => ∃ d lo hi, rs = [.dat d, .dat (.int lo), .dat (.int hi)] ∧ Q (.dat (.bool (withinD d lo hi)))
abbrev sp_factors (K : Fr) : DSp := fun rs Q X => ∃ d, rs = [.dat d] ∧ (∀ l, facD d = some l → Q (.own (l.map prD))) ∧ (facD d = none → X (cM K))
abbrev sp_check_modulus (K : Fr) : DSp := fun rs Q X => ∃ d, rs = [.dat d] ∧ (∀ l, facD d = some l → Q (.dat .none)) ∧ (facD d = none → X (cM K))
abbrev sp__law_mixed (_ : Fr) : DSp := fun rs Q _ => ∃ a b, rs = [.dat (.int a), .dat (.int b)] ∧ ∀ r, Q (.dat (.int r))
abbrev sp__law_seldom (_ : Fr) : DSp := fun rs Q _ => ∃ n, rs = [.sto, .dat (.int n)] ∧ n < 2 ^ 64 ∧ ∀ b, Q (.dat (.bool b))
abbrev sp__law_pick (_ : Fr) : DSp := fun rs Q _ => ∃ ds, rs = [.sto, .dat (.list ds)] ∧ (ds ≠ [] ∧ ds.length < 2 ^ 62) ∧ ∀ d ∈ ds, Q (.dat d)
abbrev sp__law_modulus (_ : Fr) : DSp := fun rs Q _ => ∃ h : Nat, rs = [.sto, .dat (.int h)] ∧ (2 ≤ h ∧ h ≤ 10000000000) ∧ ∀ m : Nat, 2 ≤ m → m ≤ h → (∃ l, facM m = some l) → Q (.dat (.int m))
abbrev cP (K : Fr) : Addr := He.ga K "BadPoly"
def lastOk (ds : List D) : Bool := match ds.getLast? with
  | some (.int i) => !decide (i = 0)
  | _ => true
def polyB (d : D) : Bool := match d with
  | .list ds => decide (ds.length ≤ 40) && (ds.all fitD && lastOk ds)
  | _ => false
def cutL (ns : List Int) : List Int := (ns.reverse.dropWhile fun i => decide (i = 0)).reverse
def Res (q : Int) (ns : List Int) : Prop := ∀ x ∈ ns, 0 ≤ x ∧ x < q
abbrev sp_is_bounded (_ : Fr) : DSp := fun rs Q _ => ∃ d h, rs = [.dat d, .dat (.int h)] ∧ Q (.dat (.bool (withinD d (-h) h)))
abbrev sp_are_bounded (_ : Fr) : DSp := fun rs Q _ => ∃ d n h, rs = [.dat d, .dat (.int n), .dat (.int h)] ∧ Q (.dat (.bool (match d with
  | .list ds => decide ((ds.length : Int) ≤ n) && ds.all fun d => withinD d (-h) h
  | _ => false)))
abbrev sp_check_poly (K : Fr) : DSp := fun rs Q X => ∃ d, rs = [.dat d] ∧ (polyB d = true → Q (.dat .none)) ∧ (polyB d = false → X (cP K))
abbrev iL (ns : List Int) : List D := ns.map PyData.int
abbrev sp__law_cut (_ : Fr) : DSp := fun rs Q _ => ∃ ns, rs = [.dat (.list (iL ns))] ∧ ns.length ≤ 1000 ∧ Q (.own (iL (cutL ns)))
/-- the polynomial at x, by m: the first entry is that of the power 0 -/
def hor (m x : Int) : List Int → Int
  | [] => 0
  | c :: cs => (hor m x cs * x + c) % m
abbrev sp__law_at (_ : Fr) : DSp := fun rs Q _ => ∃ fs m x, rs = [.dat (.list (iL fs)), .dat (.int m), .dat (.int x)] ∧ (0 < m ∧ m < 2 ^ 64) ∧ fs.length ≤ 40 ∧ Q (.dat (.int (hor m (x % m) fs)))
def Pol (fs : List Int) : Prop := polyB (.list (iL fs)) = true
abbrev sp__law_power (_ : Fr) : DSp := fun rs Q _ => ∃ (b : Int) (e : Nat), rs = [.dat (.int b), .dat (.int e)] ∧ (-(2 ^ 64) < b ∧ b < 2 ^ 64) ∧ e < 1000 ∧ Q (.dat (.int (b ^ e)))
abbrev sp__law_factors (_ : Fr) : DSp := fun rs Q _ => ∃ m : Nat, rs = [.dat (.int m)] ∧ (0 < m ∧ m < 2 ^ 40) ∧ Q (.own ((lawFac P12 m).map prD))
def cnD (q : Int × Nat) : D := .tuple [.int q.1, .int q.2]
def prodN : List Nat → Nat
  | [] => 1
  | p :: ps => p * prodN ps
abbrev sp__law_through (_ : Fr) : DSp := fun rs Q _ => ∃ (p : Nat) (vs : List Int), rs = [.dat (.int p), .dat (.list (iL vs))] ∧ (2 ≤ p ∧ p ≤ 400) ∧ vs.length = p ∧ (∀ x ∈ vs, -400 ≤ x ∧ x ≤ 400) ∧ ∀ es : List Int, es.length = p → Res p es → Q (.own (iL es))
/-- x is a by q, 0 by the rest of m -/
structure Crt (m q : Nat) (a x : Int) : Prop where
  lo : 0 ≤ x
  hi : x < m
  cq : (x - a) % (q : Int) = 0
  cr : x % ((m / q : Nat) : Int) = 0
instance (m q : Nat) (a x : Int) : Decidable (Crt m q a x) := if h : (0 ≤ x ∧ x < m) ∧ (x - a) % (q : Int) = 0 ∧ x % ((m / q : Nat) : Int) = 0 then .isTrue ⟨h.1.1, h.1.2, h.2.1, h.2.2⟩ else .isFalse fun z => h ⟨⟨z.lo, z.hi⟩, z.cq, z.cr⟩
def crtF (m q : Nat) (a : Int) : Nat := ((List.range m).find? fun x => decide (Crt m q a (x : Nat))).getD 0
abbrev sp__law_undone (_ : Fr) : DSp := fun rs Q _ => ∃ a : Int, ∃ w : Nat, rs = [.dat (.int a), .dat (.int w)] ∧ (0 < w ∧ w < 2 ^ 40) ∧ ∀ r : Int, 0 ≤ r → r < w → (Int.gcd a w = 1 → (a * r - 1) % (w : Int) = 0) → Q (.dat (.int r))
abbrev sp__law_chinese (_ : Fr) : DSp := fun rs Q _ => ∃ cs : List (Int × Nat), rs = [.dat (.list (cs.map cnD))] ∧ cs.length ≤ 12 ∧ (∀ c ∈ cs, 0 < c.2 ∧ c.2 ≤ 10000000000) ∧ prodN (cs.map (·.2)) ≤ 10 ^ 14 ∧ ∀ r : Int, 0 ≤ r → r < prodN (cs.map (·.2)) → ((∀ i < cs.length, Int.gcd (prodN ((cs.map (·.2)).take i) : Nat) ((cs.map (·.2)).getD i 1 : Nat) = 1) → ∀ c ∈ cs, (r - c.1) % (c.2 : Int) = 0) → Q (.dat (.int r))
def rowF (fs : List Int) (m : Int) : Int → Nat → List Int
  | _, 0 => []
  | x, k + 1 => x :: rowF fs m (hor m (x % m) fs) k
abbrev sp_reduced (_ : Fr) : DSp := fun rs Q _ => ∃ fs m, rs = [.dat (.list (iL fs)), .dat (.int m)] ∧ 0 < m ∧ fs.length ≤ 40 ∧ Q (.own (iL (fs.map (· % m))))
abbrev sp_step_by (_ : Fr) : DSp := fun rs Q _ => ∃ fs m x, rs = [.dat (.list (iL fs)), .dat (.int m), .dat (.int x)] ∧ (0 < m ∧ m < 2 ^ 64) ∧ Q (.dat (.int (hor m x fs)))
abbrev sp__law_rowof (_ : Fr) : DSp := fun rs Q _ => ∃ fs m x, ∃ n : Nat, rs = [.dat (.list (iL fs)), .dat (.int m), .dat (.int x), .dat (.int n)] ∧ (0 < m ∧ m < 2 ^ 64) ∧ fs.length ≤ 40 ∧ n ≤ 1000 ∧ Q (.own (iL (rowF fs m x n)))
/-- the polynomial's value, its slope -/
def hz : List Int → Int → Int
  | [], _ => 0
  | c :: cs, x => hz cs x * x + c
def dz : List Int → Int → Int
  | [], _ => 0
  | _ :: cs, x => dz cs x * x + hz cs x
def slopeP (fs : List Int) (w : Int) (ring : List Int) : Int := ring.foldl (fun r x => r * (dz fs x % w) % w) 1
def slF (fs : List Int) (p : Int) : List Int := (List.range (fs.length - 1)).map fun i : Nat => ((1 + (i : Int)) * fs.getD (1 + i) 0) % p
abbrev sp_slope_by (_ : Fr) : DSp := fun rs Q _ => ∃ fs p, rs = [.dat (.list (iL fs)), .dat (.int p)] ∧ (0 < p ∧ fs.length ≤ 40) ∧ Q (.own (iL (slF fs p)))
abbrev sp_product_over (_ : Fr) : DSp := fun rs Q _ => ∃ fs p line, rs = [.dat (.list (iL (slF fs p))), .dat (.int p), .dat (.list (iL line))] ∧ (1 < p ∧ p < 2 ^ 64) ∧ line.length ≤ 1000 ∧ Q (.dat (.int (slopeP fs p line)))
def unI (d : D) : Int := match d with
  | .int i => i
  | _ => 0
def resB (q : Int) (ds : List D) : Bool := ds.all (fun d => withinD d 0 (q - 1)) && decide (ds.map unI).Nodup
def stepsB (fs : List Int) (q : Int) : Int → List Int → Bool
  | _, [] => true
  | b, x :: xs => decide (hor q b fs = x) && stepsB fs q x xs
structure RingC (fs : List Int) (q : Int) (ring : List Int) : Prop where
  l1 : 0 < ring.length
  l2 : ring.length ≤ 400
  r : Res q ring
  n : ring.Nodup
  s : ∀ i < ring.length, hor q (ring.getD i 0) fs = ring.getD ((i + 1) % ring.length) 0
def ringB (fs : List Int) (q : Int) (d : D) : Bool := match d with
  | .list ds => (decide (1 ≤ ds.length) && decide (ds.length ≤ 400)) && (resB q ds && stepsB fs q ((ds.map unI).getLastD 0) (ds.map unI))
  | _ => false
/-- the row's entry k -/
def itF (fs : List Int) (m : Int) (x : Int) : Nat → Int
  | 0 => x
  | k + 1 => hor m (itF fs m x k % m) fs
def cF (fs : List Int) (p q : Int) (ring : List Int) : Int := (itF fs (p * q) (ring.getD 0 0) ring.length - ring.getD 0 0) / q
def iter (F : Int → Int) : Nat → Int → Int
  | 0, x => x
  | k + 1, x => F (iter F k x)
def orb (F : Int → Int) (x : Int) (n : Nat) : List Int := (List.range n).map fun k => iter F k x
/-- n is the least number of steps from x to x -/
structure Per (F : Int → Int) (x : Int) (n : Nat) : Prop where
  n0 : 0 < n
  ret : iter F n x = x
  no : ∀ k, 0 < k → k < n → iter F k x ≠ x
def upF (fs : List Int) (m : Int) : Int → Int := fun z => hor m z fs
def NodP (p q : Int) (ring : List Int) (y : Int) : Prop := 0 ≤ y ∧ y < p * q ∧ y % q ∈ ring
def phi (p c d : Int) : Int → Int := fun t => (c + d * t) % p
/-- what is needed of a ring and its prime -/
structure RgW (fs : List Int) (p q : Int) (ring : List Int) : Prop where
  r : RingC fs q ring
  p1 : 1 < p
  q0 : 0 < q
  d : q % p = 0
abbrev sp__law_capped (_ : Fr) : DSp := fun rs Q _ => ∃ p e : Nat, rs = [.dat (.int p), .dat (.int e)] ∧ Q (.dat (.int (min e (if p < 4 then 3 else 2) : Nat)))
def goB (fs : List Int) (m : Nat) : Bool := decide (itF fs m 0 m = 0) && (List.range (m - 1)).all fun k => decide (itF fs m 0 (k + 1) ≠ 0)
def capK (p e : Nat) : Nat := min e (if p < 4 then 3 else 2)
/-- the least exponent at which f is no ring, or 0 -/
def brk (fs : List Int) (p k : Nat) : Nat := if goB fs p = false then 1 else if k = 1 then 0 else if goB fs (p ^ 2) = false then 2 else if k = 2 then 0 else if goB fs (p ^ 3) = false then 3 else 0
def lenE (p k : Nat) : Nat := max p (p ^ k / p)
def entD (fs : List Int) (p k : Nat) : D := .tuple [.int p, .int (p ^ k : Nat), .list (iL (orb (upF fs (p ^ k : Nat)) 0 (lenE p k))), .int (iter (upF fs (p ^ k : Nat)) (lenE p k) 0)]
def papL (fs : List Int) (l : List (Nat × Nat)) : List D := l.map fun q => entD fs q.1 (capK q.1 q.2)
/-- the row from x: a entries ahead, then a ring of n -/
structure Rho (F : Int → Int) (x : Int) (a n : Nat) : Prop where
  n0 : 0 < n
  d : ∀ i j, i < j → j < a + n → iter F i x ≠ iter F j x
  r : iter F (a + n) x = iter F a x
structure StartS (fs : List Int) (p j : Nat) (x : Int) : Prop where
  one : j ≠ 2 → x = 0
  two : j = 2 → ∃ t : Nat, t < p ∧ x = p * t ∧ iter (upF fs (p ^ 2 : Nat)) p (p * t) = p * t ∧ ∀ u : Nat, u < t → iter (upF fs (p ^ 2 : Nat)) p (p * u) ≠ p * u
def ShortD (fs : List Int) (p j : Nat) (d : D) : Prop := ∃ (x : Int) (a n : Nat), StartS fs p j x ∧ Rho (upF fs (p ^ j : Nat)) x a n ∧ d = .tuple [.str "short", .int (p ^ j : Nat), .list (iL (orb (upF fs (p ^ j : Nat)) (iter (upF fs (p ^ j : Nat)) a x) n))]
def firB (fs : List Int) (l : List (Nat × Nat)) : Option (Nat × Nat) := l.find? fun q => decide (brk fs q.1 (capK q.1 q.2) ≠ 0)
def VerD (fs : List Int) (l : List (Nat × Nat)) (d : D) : Prop := match firB fs l with
  | none => d = .tuple [.str "ring", .list (papL fs l)]
  | some q => ShortD fs q.1 (brk fs q.1 (capK q.1 q.2)) d
/-- a prime and its exponent -/
structure PK (p k : Nat) : Prop where
  m : p ∈ P12
  k0 : 0 < k
  k3 : k ≤ 3
  b : p ^ k ≤ 400
abbrev sp_path_from (_ : Fr) : DSp := fun rs Q _ => ∃ (fs : List Int) (q : Nat) (x : Int) (n : Nat), rs = [.dat (.list (iL (fs.map (· % (q : Int))))), .dat (.int q), .dat (.int x), .dat (.int n)] ∧ (0 < q ∧ q ≤ 400) ∧ (0 ≤ x ∧ x < q) ∧ (0 < n ∧ n ≤ 1000) ∧ Q (.own (iL (orb (upF fs q) x n)))
abbrev sp_power_of (_ : Fr) : DSp := fun rs Q _ => ∃ p k : Nat, rs = [.dat (.int p), .dat (.int k)] ∧ (0 < k ∧ k ≤ 3) ∧ p ≤ 100 ∧ Q (.dat (.int (p ^ k : Nat)))
abbrev sp_small_power (_ : Fr) : DSp := fun rs Q _ => ∃ p e : Nat, rs = [.dat (.int p), .dat (.int e)] ∧ 0 < e ∧ p ≤ 100 ∧ Q (.dat (.int (p ^ capK p e : Nat)))
abbrev sp_broken_at (_ : Fr) : DSp := fun rs Q _ => ∃ (fs : List Int) (p k : Nat), rs = [.dat (.list (iL fs)), .dat (entD fs p k)] ∧ PK p k ∧ fs.length ≤ 40 ∧ Q (.dat (.int (brk fs p k : Nat)))
abbrev sp__law_goesround (_ : Fr) : DSp := fun rs Q _ => ∃ (fs : List Int) (m : Nat), rs = [.dat (.list (iL fs)), .dat (.int m)] ∧ (0 < m ∧ m ≤ 400) ∧ fs.length ≤ 40 ∧ Q (.dat (.bool (goB fs m)))
abbrev sp__law_ringpaper (_ : Fr) : DSp := fun rs Q _ => ∃ (fs : List Int) (m : Nat) (l : List (Nat × Nat)), rs = [.dat (.list (iL fs)), .dat (.int m)] ∧ facM m = some l ∧ fs.length ≤ 40 ∧ Q (.own (papL fs l))
def ptD (q : List Int × Nat) : D := .tuple [.list (iL q.1), .int q.2]
def isIntD (d : D) : Bool := match d with
  | .int _ => true
  | _ => false
def Fit (x : Int) : Prop := -(10 ^ 60) ≤ x ∧ x ≤ 10 ^ 60
inductive Dep : Nat → D → Prop
  | non {n : Nat} : Dep (n + 1) .none
  | bl {n : Nat} (b : Bool) : Dep (n + 1) (.bool b)
  | int {n : Nat} (i : Int) : Dep (n + 1) (.int i)
  | str {n : Nat} (x : Str) : Dep (n + 1) (.str x)
  | lst {n : Nat} {ds : List D} : ds.length < 2 ^ 20 → (∀ d ∈ ds, Dep n d) → Dep (n + 1) (.list ds)
  | tup {n : Nat} {ds : List D} : ds.length < 2 ^ 20 → (∀ d ∈ ds, Dep n d) → Dep (n + 1) (.tuple ds)
/-- a copy: the same data -/
abbrev sp__law_copy (n : Nat) : DSp := fun rs Q _ => ∃ d k, rs = [.dat d, .dat (.int k)] ∧ Dep n d ∧ Q (.dat d) ∧ ∀ ds, d = .list ds → Q (.own ds)
abbrev sp_is_plain (_ : Fr) : DSp := fun rs Q _ => ∃ d, rs = [.dat d] ∧ Q (.dat (.bool (isIntD d)))
abbrev sp__law_vast (_ : Fr) : DSp := fun rs Q _ => ∃ fs, ∃ m : Nat, rs = [.sto, .dat (.list (iL fs)), .dat (.int m)] ∧ (2 ≤ m ∧ m ≤ 10000000000) ∧ fs.length ≤ 40 ∧ (∀ x ∈ fs, Fit x) ∧
  ∀ gs : List Int, polyB (.list (iL gs)) = true → (∀ q x : Int, 0 < q → (m : Int) % q = 0 → hor q x gs = hor q x fs) → Q (.own (iL gs))
abbrev sp__law_kindbent (n : Nat) : DSp := fun rs Q _ => ∃ (d : D) (k dp : Nat), rs = [.sto, .dat d, .dat (.int (dp : Nat))] ∧ dp < n ∧ Dep (k + 1) d ∧ ∀ d', Dep (k + 4) d' → Q (.dat d') ∧ ∀ ds, d' = .list ds → Q (.own ds)
end RB

set_option Elab.async false
set_option linter.all false
set_option maxRecDepth 100000
set_option maxHeartbeats 4000000
/-! SP: k13, judges of ring papers -/
namespace RB
open PySem PySem.Spec PyProof.Rows L2
/-- plain equality with a list of ints -/
def eqP : List D → List Int → Bool
  | [], [] => true
  | .int x :: ds, n :: ns => decide (x = n) && eqP ds ns
  | _, _ => false
def eqE (d : D) (a b : Int) (ns : List Int) (c : Int) : Bool := match d with
  | .tuple [x, y, .list ds, z] => eqP ds ns && eqP [x, y, z] [a, b, c]
  | _ => false
def eqEnt (fs : List Int) (p k : Nat) (d : D) : Bool := eqE d p (p ^ k : Nat) (orb (upF fs (p ^ k : Nat)) 0 (lenE p k)) (iter (upF fs (p ^ k : Nat)) (lenE p k) 0)
def papB (fs : List Int) : List (Nat × Nat) → List D → Bool
  | [], [] => true
  | q :: l, d :: ds => (eqEnt fs q.1 (capK q.1 q.2) d && decide (brk fs q.1 (capK q.1 q.2) = 0)) && papB fs l ds
  | _, _ => false
def showB (fs : List Int) (l : List (Nat × Nat)) (d : D) : Bool := match d with
  | .list ds => papB fs l ds
  | _ => false
/-- one and the same, kinds too -/
def sameB : Nat → D → D → Bool
  | 0, _, _ => false
  | n + 1, a, b => match a, b with
    | .none, .none => true
    | .bool x, .bool y => decide (x = y)
    | .int x, .int y => decide (x = y)
    | .str x, .str y => decide (x = y)
    | .list xs, .list ys => decide (xs.length = ys.length) && (List.range ys.length).all fun i => sameB n (xs.getD i .none) (ys.getD i .none)
    | .tuple xs, .tuple ys => decide (xs.length = ys.length) && (List.range ys.length).all fun i => sameB n (xs.getD i .none) (ys.getD i .none)
    | _, _ => false
abbrev sp_ring_entry (_ : Fr) : DSp := fun rs Q _ => ∃ (fs : List Int) (p k : Nat), rs = [.dat (.list (iL fs)), .dat (.int p), .dat (.int (p ^ k : Nat))] ∧ PK p k ∧ fs.length ≤ 40 ∧ Q (.dat (entD fs p k))
abbrev sp_equal_plain (_ : Fr) : DSp := fun rs Q _ => ∃ (ds : List D) (ns : List Int), rs = [.dat (.list ds), .dat (.list (iL ns))] ∧ ns.length ≤ 1000 ∧ Q (.dat (.bool (eqP ds ns)))
abbrev sp_equal_entry (_ : Fr) : DSp := fun rs Q _ => ∃ (d : D) (fs : List Int) (p k : Nat), rs = [.dat d, .dat (entD fs p k)] ∧ PK p k ∧ Q (.dat (.bool (eqEnt fs p k d)))
abbrev sp_shows_ring (K : Fr) : DSp := fun rs Q X => ∃ df dm d, rs = [.dat df, .dat dm, .dat d] ∧ (polyB df = false → X (cP K)) ∧ (polyB df = true → facD dm = none → X (cM K)) ∧
  ∀ fs l, df = .list (iL fs) → polyB df = true → facD dm = some l → Q (.dat (.bool (showB fs l d)))
abbrev sp__law_same (n : Nat) : DSp := fun rs Q _ => ∃ a b, rs = [.dat a, .dat b] ∧ Dep n a ∧ Dep n b ∧ Q (.dat (.bool (sameB n a b)))
abbrev sp__law_patched (_ : Fr) : DSp := fun rs Q _ => ∃ ps : List (List Int × Nat), rs = [.dat (.list (ps.map ptD))] ∧ ps.length ≤ 12 ∧ (∀ q ∈ ps, q.1.length ≤ 40 ∧ 0 < q.2 ∧ q.2 ≤ 10000000000) ∧ prodN (ps.map (·.2)) ≤ 10 ^ 14 ∧ (∀ i < ps.length, Int.gcd (prodN ((ps.map (·.2)).take i) : Nat) ((ps.map (·.2)).getD i 1 : Nat) = 1) ∧
  ∀ ns : List Int, ns.length ≤ 40 → (∀ x ∈ ns, 0 ≤ x ∧ x ≤ 10 ^ 14) → cutL ns = ns → (∀ q ∈ ps, ∀ x, hor q.2 x ns = hor q.2 x q.1) → Q (.own (iL ns))
/-- a capped prime power -/
structure PC (p k : Nat) : Prop where
  pk : PK p k
  c : k ≤ if p < 4 then 3 else 2
abbrev sp__law_linear (_ : Fr) : DSp := fun rs Q _ => ∃ p k : Nat, rs = [.sto, .dat (.int p), .dat (.int k)] ∧ PC p k ∧ ∀ es : List Int, es.length ≤ 40 → goB es (p ^ k) = true → Q (.own (iL es))
abbrev sp__law_cycle (_ : Fr) : DSp := fun rs Q _ => ∃ p : Nat, rs = [.sto, .dat (.int p)] ∧ p ∈ P12 ∧ ∀ vs : List Int, vs.length = p → (∀ x ∈ vs, 0 ≤ x ∧ x < p) → 0 ∈ vs → Q (.own (iL vs))
abbrev sp__law_localkind (_ : Fr) : DSp := fun rs Q _ => ∃ (p k : Nat) (kd : Int), rs = [.sto, .dat (.int p), .dat (.int k), .dat (.int kd)] ∧ PC p k ∧ ∀ es : List Int, es.length ≤ 40 → Q (.dat (.list (iL es))) ∧ Q (.own (iL es))
abbrev sp__law_maker (_ : Fr) : DSp := fun rs Q _ => ∃ (m : Nat) (l : List (Nat × Nat)) (b : Bool), rs = [.sto, .dat (.int m), .dat (.bool b)] ∧ facM m = some l ∧ ∀ fs : List Int, Pol fs → (b = true → ∀ q ∈ l, goB fs (q.1 ^ capK q.1 q.2) = true) → Q (.own (iL fs))
abbrev sp__law_allround (_ : Fr) : DSp := fun rs Q _ => ∃ (fs : List Int) (m : Nat) (l : List (Nat × Nat)), rs = [.dat (.list (iL fs)), .dat (.int m)] ∧ facM m = some l ∧ fs.length ≤ 40 ∧ Q (.dat (.bool (l.all fun q => goB fs (q.1 ^ capK q.1 q.2))))
abbrev sp__law_twist (_ : Fr) : DSp := fun rs Q _ => ∃ (fs : List Int) (m : Nat) (l : List (Nat × Nat)), rs = [.sto, .dat (.list (papL fs l)), .dat (.list (iL fs))] ∧ facM m = some l ∧ Pol fs ∧ ∀ d, Dep 24 d → Q (.dat d) ∧ ∀ ds, d = .list ds → Q (.own ds)
abbrev sp__law_judged (_ : Fr) : DSp := fun rs Q _ => ∃ (fs : List Int) (m : Nat) (l : List (Nat × Nat)) (d : D), rs = [.dat (.list (iL fs)), .dat (.int m), .dat d, .dat (.bool (showB fs l d))] ∧ facM m = some l ∧ Pol fs ∧ Dep 24 d ∧ Q (.dat (.bool true))
abbrev sp__law_refusal (_ : Fr) : DSp := fun rs Q _ => ∃ df dm d, rs = [.dat df, .dat dm, .dat d] ∧ (polyB df = false → Q (.dat (.str "poly"))) ∧ (polyB df = true → facD dm = none → Q (.dat (.str "modulus"))) ∧ (polyB df = false ∨ facD dm = none)
end RB

set_option Elab.async false
set_option linter.all false
set_option maxRecDepth 100000
set_option maxHeartbeats 8000000
/-! the readings of the defs over data, printed by gen.py -/
namespace RB
open PySem PySem.Spec PyProof.Rows L2
def d_within (K : PySem.W.Frag) : DTS :=
  dRet (dAndV (dUn (bIsi .int) (dVar 0)) (dAndV (dNotV (dUn (bIsi .bool) (dVar 0))) (dChain bLe bLe (dVar 1) (dVar 0) (dVar 2))))
def d_factors (K : PySem.W.Frag) : DTS :=
  dSeq (dIf (dNot (dB (dCall 3 (sp_within K) (dCons (dVar 0) (dCons (dK (.int 2)) (dCons (dK (.int 10000000000)) (dNil)))))))
  (dRaise (He.ga K "BadModulus"))
  (dSkip))
  (dSeq (dSetO 1 (dLst (dNil)))
  (dSeq (dSet 2 (dVar 0))
  (dSeq (dFor (sTup (dK (.tuple [(.tuple [(.int 2), (.int 38)]), (.tuple [(.int 3), (.int 18)]), (.tuple [(.int 5), (.int 9)]), (.tuple [(.int 7), (.int 5)]), (.tuple [(.int 11), (.int 3)]), (.tuple [(.int 13), (.int 3)]), (.tuple [(.int 17), (.int 2)]), (.tuple [(.int 19), (.int 2)]), (.tuple [(.int 23), (.int 1)]), (.tuple [(.int 29), (.int 1)]), (.tuple [(.int 31), (.int 1)]), (.tuple [(.int 37), (.int 1)])]))) (.tp [3, 4])
  (dSeq (dSet 5 (dK (.int 0)))
  (dSeq (dWhile (dB (dBin bEq (dBin bMod (dVar 2) (dVar 3)) (dK (.int 0))))
  (dSeq (dSet 2 (dBin bDiv (dVar 2) (dVar 3)))
  (dAugI (fun i j => i + j) 5 (dK (.int 1)))))
  (dSeq (dIf (dB (dBin bGt (dVar 5) (dVar 4)))
  (dRaise (He.ga K "BadModulus"))
  (dSkip))
  (dIf (dB (dBin bGt (dVar 5) (dK (.int 0))))
  (dApp 1 (dTup (dCons (dVar 3) (dCons (dVar 5) (dNil)))))
  (dSkip))))))
  (dSeq (dIf (dB (dBin bNe (dVar 2) (dK (.int 1))))
  (dRaise (He.ga K "BadModulus"))
  (dSkip))
  (dRetO 1)))))
def d_check_modulus (K : PySem.W.Frag) : DTS :=
  dDrop (dCall 1 (sp_factors K) (dCons (dVar 0) (dNil)))
def d_is_bounded (K : PySem.W.Frag) : DTS :=
  dSeq (dIf (dOr (dB (dUn (bIsi .bool) (dVar 0))) (dNot (dB (dUn (bIsi .int) (dVar 0)))))
  (dRet (dK (.bool false)))
  (dSkip))
  (dRet (dChain bLe bLe (dUn bNeg (dVar 1)) (dVar 0) (dVar 1)))
def d_are_bounded (K : PySem.W.Frag) : DTS :=
  dSeq (dIf (dOr (dNot (dB (dUn (bIsi .list) (dVar 0)))) (dB (dBin bGt (dUn bLen (dVar 0)) (dVar 1))))
  (dRet (dK (.bool false)))
  (dSkip))
  (dSeq (dFor (sLst (dVar 0)) (.nm 3)
  (dIf (dNot (dB (dCall 2 (sp_is_bounded K) (dCons (dVar 3) (dCons (dVar 2) (dNil))))))
  (dRet (dK (.bool false)))
  (dSkip)))
  (dRet (dK (.bool true))))
def d_check_poly (K : PySem.W.Frag) : DTS :=
  dSeq (dIf (dNot (dB (dCall 3 (sp_are_bounded K) (dCons (dVar 0) (dCons (dK (.int 40)) (dCons (dK (.int 1000000000000000000000000000000000000000000000000000000000000)) (dNil)))))))
  (dRaise (He.ga K "BadPoly"))
  (dSkip))
  (dIf (dAnd (dB (dBin bGt (dUn bLen (dVar 0)) (dK (.int 0)))) (dB (dBin bEq (dBin bIx (dVar 0) (dUn bNeg (dK (.int 1)))) (dK (.int 0)))))
  (dRaise (He.ga K "BadPoly"))
  (dSkip))
def d_is_plain (K : PySem.W.Frag) : DTS :=
  dRet (dAndV (dUn (bIsi .int) (dVar 0)) (dNotV (dUn (bIsi .bool) (dVar 0))))
def d_reduced (K : PySem.W.Frag) : DTS :=
  dRet (dLc (sLst (dVar 0)) (.nm 2) [2] (dYes) (dBin bMod (dVar 2) (dVar 1)))
def d_step_by (K : PySem.W.Frag) : DTS :=
  dSeq (dSet 3 (dK (.int 0)))
  (dSeq (dFor (sLst (dUn bRev (dVar 0))) (.nm 4)
  (dSet 3 (dBin bMod (dBin bAdd (dBin bMul (dVar 3) (dVar 2)) (dVar 4)) (dVar 1))))
  (dRet (dVar 3)))
def d_path_from (K : PySem.W.Frag) : DTS :=
  dSeq (dSetO 4 (dLst (dCons (dVar 2) (dNil))))
  (dSeq (dWhile (dB (dBin bLt (dUn bLen (dVar 4)) (dVar 3)))
  (dApp 4 (dCall 3 (sp_step_by K) (dCons (dVar 0) (dCons (dVar 1) (dCons (dBin bIx (dVar 4) (dUn bNeg (dK (.int 1)))) (dNil)))))))
  (dRetO 4))
def d_slope_by (K : PySem.W.Frag) : DTS :=
  dRet (dLc (sRng2 (dK (.int 1)) (dUn bLen (dVar 0))) (.nm 2) [2] (dYes) (dBin bMod (dBin bMul (dVar 2) (dBin bIx (dVar 0) (dVar 2))) (dVar 1)))
def d_product_over (K : PySem.W.Frag) : DTS :=
  dSeq (dSet 3 (dK (.int 1)))
  (dSeq (dFor (sLst (dVar 2)) (.nm 4)
  (dSet 3 (dBin bMod (dBin bMul (dVar 3) (dCall 3 (sp_step_by K) (dCons (dVar 0) (dCons (dVar 1) (dCons (dVar 4) (dNil)))))) (dVar 1))))
  (dRet (dVar 3)))
def d_power_of (K : PySem.W.Frag) : DTS :=
  dSeq (dSet 2 (dVar 0))
  (dSeq (dFor (sRng2 (dK (.int 1)) (dVar 1)) (.nm 3)
  (dSet 2 (dBin bMul (dVar 2) (dVar 0))))
  (dRet (dVar 2)))
def d_small_power (K : PySem.W.Frag) : DTS :=
  dSeq (dSet 2 (dIfE (dB (dBin bLe (dVar 0) (dK (.int 3)))) (dK (.int 3)) (dK (.int 2))))
  (dRet (dCall 2 (sp_power_of K) (dCons (dVar 0) (dCons (dBin (bI2 fun i j => if j < i then j else i) (dVar 1) (dVar 2)) (dNil)))))
def d_ring_entry (K : PySem.W.Frag) : DTS :=
  dSeq (dSet 3 (dCall 4 (sp_path_from K) (dCons (dCall 2 (sp_reduced K) (dCons (dVar 0) (dCons (dVar 2) (dNil)))) (dCons (dVar 2) (dCons (dK (.int 0)) (dCons (dBin bAdd (dBin (bI2 fun i j => if j > i then j else i) (dVar 1) (dBin bDiv (dVar 2) (dVar 1))) (dK (.int 1))) (dNil)))))))
  (dRet (dTup (dCons (dVar 1) (dCons (dVar 2) (dCons (dSl (dVar 3) (dNoP) (dPart (dUn bNeg (dK (.int 1))))) (dCons (dBin bIx (dVar 3) (dUn bNeg (dK (.int 1)))) (dNil)))))))
def d_broken_at (K : PySem.W.Frag) : DTS :=
  dSeq (dSetT [3, 4, 5, 6] (dVar 1))
  (dSeq (dSet 2 (dBin bAdd (dVar 5) (dLst (dCons (dVar 6) (dNil)))))
  (dSeq (dIf (dOr (dB (dBin bNe (dScLen (sLst (dSl (dVar 5) (dNoP) (dPart (dVar 3)))) (.nm 7) [7] (dBin bMod (dVar 7) (dVar 3))) (dVar 3))) (dB (dBin bNe (dBin bMod (dBin bIx (dVar 2) (dVar 3)) (dVar 3)) (dK (.int 0)))))
  (dRet (dK (.int 1)))
  (dSkip))
  (dSeq (dIf (dB (dBin bEq (dVar 4) (dVar 3)))
  (dRet (dK (.int 0)))
  (dSkip))
  (dSeq (dIf (dOr (dB (dBin bNe (dCall 3 (sp_product_over K) (dCons (dCall 2 (sp_slope_by K) (dCons (dVar 0) (dCons (dVar 3) (dNil)))) (dCons (dVar 3) (dCons (dSl (dVar 5) (dNoP) (dPart (dVar 3))) (dNil))))) (dK (.int 1)))) (dB (dBin bEq (dBin bMod (dBin bIx (dVar 2) (dVar 3)) (dBin bMul (dVar 3) (dVar 3))) (dK (.int 0)))))
  (dRet (dK (.int 2)))
  (dSkip))
  (dSeq (dIf (dAnd (dB (dBin bGt (dVar 4) (dBin bMul (dVar 3) (dVar 3)))) (dB (dBin bEq (dVar 6) (dK (.int 0)))))
  (dRet (dK (.int 3)))
  (dSkip))
  (dRet (dK (.int 0))))))))
def d_equal_plain (K : PySem.W.Frag) : DTS :=
  dSeq (dIf (dB (dBin bNe (dUn bLen (dVar 0)) (dUn bLen (dVar 1))))
  (dRet (dK (.bool false)))
  (dSkip))
  (dRet (dUn bAll (dLc (sZip (dVar 0) (dVar 1)) (.tp [2, 3]) [2, 3] (dYes) (dAndV (dCall 1 (sp_is_plain K) (dCons (dVar 2) (dNil))) (dBin bEq (dVar 2) (dVar 3))))))
def d_equal_entry (K : PySem.W.Frag) : DTS :=
  dSeq (dIf (dOr (dNot (dB (dUn (bIsi .tuple) (dVar 0)))) (dB (dBin bNe (dUn bLen (dVar 0)) (dK (.int 4)))))
  (dRet (dK (.bool false)))
  (dSkip))
  (dSeq (dIf (dOr (dNot (dB (dUn (bIsi .list) (dBin bIx (dVar 0) (dK (.int 2)))))) (dNot (dB (dCall 2 (sp_equal_plain K) (dCons (dBin bIx (dVar 0) (dK (.int 2))) (dCons (dBin bIx (dVar 1) (dK (.int 2))) (dNil)))))))
  (dRet (dK (.bool false)))
  (dSkip))
  (dRet (dCall 2 (sp_equal_plain K) (dCons (dLst (dCons (dBin bIx (dVar 0) (dK (.int 0))) (dCons (dBin bIx (dVar 0) (dK (.int 1))) (dCons (dBin bIx (dVar 0) (dK (.int 3))) (dNil))))) (dCons (dLst (dCons (dBin bIx (dVar 1) (dK (.int 0))) (dCons (dBin bIx (dVar 1) (dK (.int 1))) (dCons (dBin bIx (dVar 1) (dK (.int 3))) (dNil))))) (dNil))))))
def d_shows_ring (K : PySem.W.Frag) : DTS :=
  dSeq (dDrop (dCall 1 (sp_check_poly K) (dCons (dVar 0) (dNil))))
  (dSeq (dDrop (dCall 1 (sp_check_modulus K) (dCons (dVar 1) (dNil))))
  (dSeq (dSet 3 (dCall 1 (sp_factors K) (dCons (dVar 1) (dNil))))
  (dSeq (dIf (dOr (dNot (dB (dUn (bIsi .list) (dVar 2)))) (dB (dBin bNe (dUn bLen (dVar 2)) (dUn bLen (dVar 3)))))
  (dRet (dK (.bool false)))
  (dSkip))
  (dSeq (dFor (sZip (dVar 2) (dVar 3)) (.tq 4 [6, 7])
  (dSeq (dSet 5 (dCall 3 (sp_ring_entry K) (dCons (dVar 0) (dCons (dVar 6) (dCons (dCall 2 (sp_small_power K) (dCons (dVar 6) (dCons (dVar 7) (dNil)))) (dNil))))))
  (dIf (dOr (dNot (dB (dCall 2 (sp_equal_entry K) (dCons (dVar 4) (dCons (dVar 5) (dNil)))))) (dB (dBin bGt (dCall 2 (sp_broken_at K) (dCons (dVar 0) (dCons (dVar 5) (dNil)))) (dK (.int 0)))))
  (dRet (dK (.bool false)))
  (dSkip))))
  (dRet (dK (.bool true)))))))
def d__law_mixed (K : PySem.W.Frag) : DTS :=
  dSeq (dSet 2 (dK (.int 2305843009213693951)))
  (dSeq (dSet 3 (dBin bMod (dUn bInt (dBin bAdd (dBin bAdd (dBin bMul (dBin bAdd (dVar 0) (dK (.int 1))) (dK (.int 1318974652038471937))) (dBin bMul (dVar 1) (dK (.int 905127364518273641)))) (dK (.int 52711)))) (dVar 2)))
  (dSeq (dSet 4 (dBin bMod (dUn bInt (dBin bAdd (dBin bMul (dBin (bI2 Builtin.bitXor) (dVar 3) (dBin bShr (dVar 3) (dK (.int 31)))) (dK (.int 1790253481967340263))) (dBin bMul (dVar 1) (dK (.int 40961))))) (dVar 2)))
  (dSeq (dSet 5 (dBin bMod (dUn bInt (dBin bAdd (dBin bMul (dBin (bI2 Builtin.bitXor) (dVar 4) (dBin bShr (dVar 4) (dK (.int 27)))) (dBin (bI2 Builtin.bitOr) (dVar 4) (dK (.int 1)))) (dVar 3))) (dVar 2)))
  (dRet (dBin (bI2 Builtin.bitXor) (dVar 5) (dBin bShr (dVar 5) (dK (.int 33))))))))
def d__law_take (K : PySem.W.Frag) : DTS :=
  dSeq (dSet 1 (dBin (bI2 fun i j => if j > i then j else i) (dK (.int 1)) (dVar 1)))
  (dSeq (dStoS 0 5 (dBin bAdd (dStoI 0 5) (dK (.int 1))))
  (dCut (dIf (dAnd (dB (dBin bLt (dStoI 0 2) (dK (.int 2)))) (dB (dBin bEq (dStoI 0 4) (dK (.int 0)))))
  (dSeq (dStoS 0 3 (dStoI 0 6))
  (dSeq (dStoS 0 4 (dK (.int 1)))
  (dStoC 0 3 (dSeq (dStoS 0 1 (dBin bAdd (dStoI 0 1) (dK (.int 1))))
  (dSeq (dStoS 0 3 (dBin bMod (dVar 3) (dK (.int 2305843009213693951))))
  (dSeq (dStoS 0 4 (dK (.int 3)))
  (dIf (dB (dBin bGe (dVar 3) (dBin bPow (dK (.int 10)) (dK (.int 18)))))
  (dSeq (dStoS 0 2 (dVar 3))
  (dStoS 0 4 (dK (.int 0))))
  (dSkip))))))))
  (dSkip))
  (dSeq (dIf (dB (dBin bGt (dStoI 0 2) (dK (.int 1))))
  (dSeq (dSet 2 (dUn bInt (dStoI 0 2)))
  (dSeq (dStoS 0 2 (dBin bDiv (dVar 2) (dVar 1)))
  (dRet (dBin bMod (dVar 2) (dVar 1)))))
  (dSkip))
  (dSeq (dStoS 0 4 (dBin bSub (dStoI 0 4) (dK (.int 1))))
  (dRet (dBin bMod (dUn bInt (dCall 2 (sp__law_mixed K) (dCons (dStoI 0 3) (dCons (dStoI 0 5) (dNil))))) (dVar 1)))))))
def d__law_seldom (K : PySem.W.Frag) : DTS :=
  dRet (dBin bEq (dCall 2 spTake (dCons (dVar 0) (dCons (dVar 1) (dNil)))) (dK (.int 0)))
def d__law_pick (K : PySem.W.Frag) : DTS :=
  dRet (dBin bIx (dVar 1) (dCall 2 spTake (dCons (dVar 0) (dCons (dUn bLen (dVar 1)) (dNil)))))
def d__law_power (K : PySem.W.Frag) : DTS :=
  dSeq (dSet 2 (dK (.int 1)))
  (dSeq (dFor (sRng1 (dVar 1)) (.nm 3)
  (dSet 2 (dBin bMul (dVar 2) (dVar 0))))
  (dRet (dVar 2)))
def d__law_undone (K : PySem.W.Frag) : DTS :=
  dSeq (dSet 2 (dBin bMod (dUn bInt (dVar 0)) (dVar 1)))
  (dSeq (dSet 3 (dVar 1))
  (dSeq (dSet 4 (dK (.int 1)))
  (dSeq (dSet 5 (dK (.int 0)))
  (dSeq (dWhile (dB (dBin bGt (dVar 3) (dK (.int 0))))
  (dSeq (dSet 6 (dBin bDiv (dVar 2) (dVar 3)))
  (dSeq (dSet 7 (dBin bSub (dVar 2) (dBin bMul (dVar 6) (dVar 3))))
  (dSeq (dSet 2 (dVar 3))
  (dSeq (dSet 3 (dVar 7))
  (dSeq (dSet 7 (dBin bSub (dVar 4) (dBin bMul (dVar 6) (dVar 5))))
  (dSeq (dSet 4 (dVar 5))
  (dSet 5 (dVar 7)))))))))
  (dRet (dBin bMod (dUn bInt (dVar 4)) (dVar 1)))))))
def d__law_chinese (K : PySem.W.Frag) : DTS :=
  dSeq (dSet 1 (dK (.int 0)))
  (dSeq (dSet 2 (dK (.int 1)))
  (dSeq (dFor (sLst (dVar 0)) (.tp [3, 4])
  (dSeq (dSet 1 (dBin bAdd (dVar 1) (dBin bMul (dVar 2) (dBin bMod (dUn bInt (dBin bMul (dBin bSub (dVar 3) (dVar 1)) (dCall 2 (sp__law_undone K) (dCons (dVar 2) (dCons (dVar 4) (dNil)))))) (dVar 4)))))
  (dSet 2 (dBin bMul (dVar 2) (dVar 4)))))
  (dRet (dVar 1))))
def d__law_factors (K : PySem.W.Frag) : DTS :=
  dSeq (dSetO 1 (dLst (dNil)))
  (dSeq (dSet 2 (dVar 0))
  (dSeq (dFor (sLst (dLst (dCons (dK (.int 2)) (dCons (dK (.int 3)) (dCons (dK (.int 5)) (dCons (dK (.int 7)) (dCons (dK (.int 11)) (dCons (dK (.int 13)) (dCons (dK (.int 17)) (dCons (dK (.int 19)) (dCons (dK (.int 23)) (dCons (dK (.int 29)) (dCons (dK (.int 31)) (dCons (dK (.int 37)) (dNil))))))))))))))) (.nm 3)
  (dSeq (dSet 4 (dK (.int 0)))
  (dSeq (dWhile (dAnd (dB (dBin bGt (dVar 2) (dK (.int 0)))) (dB (dBin bEq (dBin bMod (dUn bInt (dVar 2)) (dVar 3)) (dK (.int 0)))))
  (dSeq (dSet 2 (dBin bDiv (dVar 2) (dVar 3)))
  (dSet 4 (dBin bAdd (dVar 4) (dK (.int 1))))))
  (dIf (dB (dBin bGt (dVar 4) (dK (.int 0))))
  (dApp 1 (dTup (dCons (dVar 3) (dCons (dVar 4) (dNil)))))
  (dSkip)))))
  (dRetO 1)))
def d__law_capped (K : PySem.W.Frag) : DTS :=
  dSeq (dIf (dB (dBin bLt (dVar 0) (dK (.int 4))))
  (dRet (dBin (bI2 fun i j => if j < i then j else i) (dVar 1) (dK (.int 3))))
  (dSkip))
  (dRet (dBin (bI2 fun i j => if j < i then j else i) (dVar 1) (dK (.int 2))))
def d__law_modulus (K : PySem.W.Frag) : DTS :=
  dSeq (dIf (dB (dCall 2 (sp__law_seldom K) (dCons (dVar 0) (dCons (dK (.int 3)) (dNil)))))
  (dSeq (dSet 6 (dLst (dCons (dK (.int 2)) (dCons (dK (.int 3)) (dCons (dK (.int 4)) (dCons (dK (.int 5)) (dCons (dK (.int 6)) (dCons (dK (.int 7)) (dCons (dK (.int 8)) (dCons (dK (.int 9)) (dCons (dK (.int 12)) (dCons (dK (.int 16)) (dCons (dK (.int 18)) (dCons (dK (.int 24)) (dCons (dK (.int 25)) (dCons (dK (.int 27)) (dCons (dK (.int 30)) (dCons (dK (.int 32)) (dCons (dK (.int 35)) (dCons (dK (.int 36)) (dCons (dK (.int 37)) (dCons (dK (.int 40)) (dCons (dK (.int 49)) (dCons (dK (.int 54)) (dCons (dK (.int 64)) (dCons (dK (.int 72)) (dCons (dK (.int 81)) (dCons (dK (.int 100)) (dCons (dK (.int 108)) (dNil))))))))))))))))))))))))))))))
  (dSeq (dSet 6 (dBin bAdd (dVar 6) (dLst (dCons (dK (.int 121)) (dCons (dK (.int 125)) (dCons (dK (.int 128)) (dCons (dK (.int 135)) (dCons (dK (.int 175)) (dCons (dK (.int 180)) (dCons (dK (.int 200)) (dCons (dK (.int 210)) (dCons (dK (.int 216)) (dCons (dK (.int 243)) (dCons (dK (.int 256)) (dCons (dK (.int 289)) (dCons (dK (.int 343)) (dCons (dK (.int 361)) (dCons (dK (.int 400)) (dCons (dK (.int 512)) (dCons (dK (.int 625)) (dCons (dK (.int 667)) (dCons (dK (.int 1147)) (dNil)))))))))))))))))))))))
  (dSeq (dSet 6 (dBin bAdd (dVar 6) (dLst (dCons (dK (.int 1331)) (dCons (dK (.int 2000)) (dCons (dK (.int 2197)) (dCons (dK (.int 2310)) (dCons (dK (.int 4096)) (dCons (dK (.int 16807)) (dCons (dK (.int 59049)) (dCons (dK (.int 765049)) (dCons (dK (.int 1953125)) (dCons (dK (.int 387420489)) (dCons (dK (.int 4294967296)) (dCons (dK (.int 5410805400)) (dNil))))))))))))))))
  (dSeq (dSet 6 (dBin bAdd (dVar 6) (dLst (dCons (dK (.int 6469693230)) (dCons (dK (.int 8589934592)) (dCons (dK (.int 9966796875)) (dNil)))))))
  (dSeq (dSet 7 (dLc (sLst (dVar 6)) (.nm 4) [4] (dB (dBin bLe (dVar 4) (dVar 1))) (dVar 4)))
  (dRet (dCall 2 (sp__law_pick K) (dCons (dVar 0) (dCons (dVar 7) (dNil))))))))))
  (dSkip))
  (dSeq (dSet 2 (dLst (dCons (dK (.int 2)) (dCons (dK (.int 3)) (dCons (dK (.int 5)) (dCons (dK (.int 7)) (dCons (dK (.int 11)) (dCons (dK (.int 13)) (dCons (dK (.int 17)) (dCons (dK (.int 19)) (dCons (dK (.int 23)) (dCons (dK (.int 29)) (dCons (dK (.int 31)) (dCons (dK (.int 37)) (dNil)))))))))))))))
  (dSeq (dSetO 3 (dLst (dCons (dK (.int 38)) (dCons (dK (.int 18)) (dCons (dK (.int 9)) (dCons (dK (.int 5)) (dCons (dK (.int 3)) (dCons (dK (.int 3)) (dCons (dK (.int 2)) (dCons (dK (.int 2)) (dCons (dK (.int 1)) (dCons (dK (.int 1)) (dCons (dK (.int 1)) (dCons (dK (.int 1)) (dNil)))))))))))))))
  (dSeq (dSet 4 (dK (.int 1)))
  (dSeq (dFor (sRng1 (dBin bAdd (dK (.int 2)) (dCall 2 spTake (dCons (dVar 0) (dCons (dBin bAdd (dK (.int 7)) (dBin bMul (dK (.int 6)) (dUn bInt (dBin bGt (dVar 1) (dK (.int 1000000)))))) (dNil)))))) (.nm 5)
  (dSeq (dSet 8 (dCall 2 spTake (dCons (dVar 0) (dCons (dBin bAdd (dK (.int 1)) (dCall 2 spTake (dCons (dVar 0) (dCons (dK (.int 12)) (dNil))))) (dNil)))))
  (dIf (dAnd (dB (dBin bGt (dBin bIx (dVar 3) (dVar 8)) (dK (.int 0)))) (dB (dBin bLe (dBin bMul (dVar 4) (dBin bIx (dVar 2) (dVar 8))) (dVar 1))))
  (dSeq (dSet 4 (dBin bMul (dVar 4) (dBin bIx (dVar 2) (dVar 8))))
  (dStore 3 (dVar 8) (dBin bSub (dBin bIx (dVar 3) (dVar 8)) (dK (.int 1)))))
  (dSkip))))
  (dRet (dBin (bI2 fun i j => if j > i then j else i) (dK (.int 2)) (dVar 4)))))))
def d__law_cut (K : PySem.W.Frag) : DTS :=
  dSeq (dSet 1 (dUn bLen (dVar 0)))
  (dSeq (dWhile (dAnd (dB (dBin bGt (dVar 1) (dK (.int 0)))) (dB (dBin bEq (dBin bIx (dVar 0) (dBin bSub (dVar 1) (dK (.int 1)))) (dK (.int 0)))))
  (dSet 1 (dBin bSub (dVar 1) (dK (.int 1)))))
  (dRet (dSl (dVar 0) (dNoP) (dPart (dVar 1)))))
def d__law_at (K : PySem.W.Frag) : DTS :=
  dSeq (dSet 3 (dBin bMod (dUn bInt (dVar 2)) (dVar 1)))
  (dSeq (dSet 4 (dK (.int 0)))
  (dSeq (dFor (sRng1 (dUn bLen (dVar 0))) (.nm 5)
  (dSet 4 (dBin bMod (dUn bInt (dBin bAdd (dBin bMul (dVar 4) (dVar 3)) (dBin bIx (dVar 0) (dBin bSub (dBin bSub (dUn bLen (dVar 0)) (dK (.int 1))) (dVar 5))))) (dVar 1))))
  (dRet (dVar 4))))
def d__law_through (K : PySem.W.Frag) : DTS :=
  dSeq (dSetO 2 (dBin bMul (dLst (dCons (dK (.int 0)) (dNil))) (dVar 0)))
  (dSeq (dSetO 3 (dBin bMul (dLst (dCons (dK (.int 1)) (dNil))) (dVar 0)))
  (dSeq (dFor (sRng1 (dBin bSub (dVar 0) (dK (.int 1)))) (.nm 4)
  (dSeq (dSet 5 (dK (.int 0)))
  (dSeq (dFor (sRng1 (dVar 0)) (.nm 6)
  (dSeq (dSet 5 (dBin bAdd (dVar 5) (dBin bMul (dBin bIx (dVar 1) (dVar 6)) (dBin bIx (dVar 3) (dVar 6)))))
  (dStore 3 (dVar 6) (dBin bMod (dUn bInt (dBin bMul (dBin bIx (dVar 3) (dVar 6)) (dVar 6))) (dVar 0)))))
  (dStore 2 (dBin bSub (dBin bSub (dVar 0) (dK (.int 1))) (dVar 4)) (dBin bMod (dUn bInt (dBin bSub (dK (.int 0)) (dVar 5))) (dVar 0))))))
  (dSeq (dStore 2 (dK (.int 0)) (dBin bMod (dUn bInt (dBin bIx (dVar 1) (dK (.int 0)))) (dVar 0)))
  (dRetO 2))))
def d__law_goesround (K : PySem.W.Frag) : DTS :=
  dSeq (dSet 2 (dK (.int 0)))
  (dSeq (dFor (sRng1 (dBin bSub (dVar 1) (dK (.int 1)))) (.nm 3)
  (dSeq (dSet 2 (dCall 3 (sp__law_at K) (dCons (dVar 0) (dCons (dVar 1) (dCons (dVar 2) (dNil))))))
  (dIf (dB (dBin bEq (dVar 2) (dK (.int 0))))
  (dRet (dK (.bool false)))
  (dSkip))))
  (dRet (dBin bEq (dCall 3 (sp__law_at K) (dCons (dVar 0) (dCons (dVar 1) (dCons (dVar 2) (dNil))))) (dK (.int 0)))))
def d__law_linear (K : PySem.W.Frag) : DTS :=
  dSeq (dSet 3 (dCall 2 (sp__law_power K) (dCons (dVar 1) (dCons (dVar 2) (dNil)))))
  (dSeq (dSet 4 (dVar 1))
  (dCut (dIf (dAnd (dB (dBin bEq (dVar 1) (dK (.int 2)))) (dB (dBin bGt (dVar 2) (dK (.int 1)))))
  (dSet 4 (dK (.int 4)))
  (dSkip))
  (dSeq (dSet 5 (dBin bAdd (dBin bAdd (dK (.int 1)) (dCall 2 spTake (dCons (dVar 0) (dCons (dBin bSub (dVar 1) (dK (.int 1))) (dNil))))) (dBin bMul (dVar 1) (dCall 2 spTake (dCons (dVar 0) (dCons (dBin bDiv (dVar 3) (dVar 1)) (dNil)))))))
  (dRet (dLst (dCons (dVar 5) (dCons (dBin bMod (dUn bInt (dBin bAdd (dK (.int 1)) (dBin bMul (dVar 4) (dCall 2 spTake (dCons (dVar 0) (dCons (dVar 3) (dNil))))))) (dVar 3)) (dNil))))))))
def d__law_patched (K : PySem.W.Frag) : DTS :=
  dSeq (dSet 1 (dK (.int 0)))
  (dSeq (dFor (sLst (dVar 0)) (.tp [4, 5])
  (dSet 1 (dBin (bI2 fun i j => if j > i then j else i) (dVar 1) (dUn bLen (dVar 4)))))
  (dSeq (dSetO 2 (dLst (dNil)))
  (dSeq (dFor (sRng1 (dVar 1)) (.nm 3)
  (dSeq (dSetO 6 (dLst (dNil)))
  (dSeq (dFor (sLst (dVar 0)) (.tp [4, 5])
  (dIf (dB (dBin bLt (dVar 3) (dUn bLen (dVar 4))))
  (dApp 6 (dTup (dCons (dBin bIx (dVar 4) (dVar 3)) (dCons (dVar 5) (dNil)))))
  (dApp 6 (dTup (dCons (dK (.int 0)) (dCons (dVar 5) (dNil)))))))
  (dFrz 6 (dApp 2 (dCall 1 (sp__law_chinese K) (dCons (dVar 6) (dNil))))))))
  (dFrz 2 (dRet (dCall 1 (sp__law_cut K) (dCons (dVar 2) (dNil))))))))
def d__law_rowof (K : PySem.W.Frag) : DTS :=
  dSeq (dSetO 4 (dLst (dNil)))
  (dSeq (dSet 5 (dVar 2))
  (dSeq (dFor (sRng1 (dVar 3)) (.nm 6)
  (dSeq (dApp 4 (dVar 5))
  (dSet 5 (dCall 3 (sp__law_at K) (dCons (dVar 0) (dCons (dVar 1) (dCons (dVar 5) (dNil))))))))
  (dRetO 4)))
def d__law_same (K : PySem.W.Frag) (sp__law_same : DSp) : DTS :=
  dSeq (dIf (dB (dUn (bIsi .bool) (dVar 1)))
  (dRet (dAndV (dUn (bIsi .bool) (dVar 0)) (dBin bEq (dVar 0) (dVar 1))))
  (dSkip))
  (dSeq (dIf (dB (dUn (bIsi .int) (dVar 1)))
  (dRet (dAndV (dUn (bIsi .int) (dVar 0)) (dAndV (dNotV (dUn (bIsi .bool) (dVar 0))) (dBin bEq (dVar 0) (dVar 1)))))
  (dSkip))
  (dSeq (dIf (dB (dUn (bIsi .str) (dVar 1)))
  (dRet (dAndV (dUn (bIsi .str) (dVar 0)) (dBin bEq (dVar 0) (dVar 1))))
  (dSkip))
  (dSeq (dIf (dB (dUn (bIsi .dict) (dVar 1)))
  ((fun _ _ => False))
  (dSkip))
  (dCut (dIf (dB (dUn (bIsi .list) (dVar 1)))
  (dIf (dNot (dB (dUn (bIsi .list) (dVar 0))))
  (dRet (dK (.bool false)))
  (dSkip))
  (dIf (dB (dUn (bIsi .tuple) (dVar 1)))
  (dIf (dNot (dB (dUn (bIsi .tuple) (dVar 0))))
  (dRet (dK (.bool false)))
  (dSkip))
  (dRet (dAndV (dBin bIsN (dVar 1) (dK .none)) (dBin bIsN (dVar 0) (dK .none))))))
  (dSeq (dIf (dB (dBin bNe (dUn bLen (dVar 0)) (dUn bLen (dVar 1))))
  (dRet (dK (.bool false)))
  (dSkip))
  (dSeq (dFor (sRng1 (dUn bLen (dVar 1))) (.nm 2)
  (dIf (dNot (dB (dCall 2 sp__law_same (dCons (dBin bIx (dVar 0) (dVar 2)) (dCons (dBin bIx (dVar 1) (dVar 2)) (dNil))))))
  (dRet (dK (.bool false)))
  (dSkip)))
  (dRet (dK (.bool true)))))))))
def d__law_copy (K : PySem.W.Frag) (sp__law_copy : DSp) : DTS :=
  dSeq (dIf (dAnd (dB (dUn (bIsi .list) (dVar 0))) (dB (dBin bGt (dVar 1) (dK (.int 0)))))
  (dRet (dLc (sLst (dVar 0)) (.nm 2) [2] (dYes) (dCall 2 sp__law_copy (dCons (dVar 2) (dCons (dBin bSub (dVar 1) (dK (.int 1))) (dNil))))))
  (dSkip))
  (dSeq (dIf (dAnd (dB (dUn (bIsi .tuple) (dVar 0))) (dB (dBin bGt (dVar 1) (dK (.int 0)))))
  (dRet (dUn bTuple (dLc (sTup (dVar 0)) (.nm 2) [2] (dYes) (dCall 2 sp__law_copy (dCons (dVar 2) (dCons (dBin bSub (dVar 1) (dK (.int 1))) (dNil)))))))
  (dSkip))
  (dRet (dVar 0)))
def d__law_kindbent (K : PySem.W.Frag) (sp__law_kindbent : DSp) : DTS :=
  dSeq (dIf (dB (dUn (bIsi2 .list .tuple) (dVar 1)))
  (dSeq (dSetO 3 (dUn bList (dVar 1)))
  (dSeq (dIf (dAnd (dB (dBin bGt (dVar 2) (dK (.int 0)))) (dAnd (dB (dBin bGt (dUn bLen (dVar 1)) (dK (.int 0)))) (dB (dBin bGt (dCall 2 spTake (dCons (dVar 0) (dCons (dK (.int 4)) (dNil)))) (dK (.int 0))))))
  (dSeq (dSet 4 (dCall 2 spTake (dCons (dVar 0) (dCons (dUn bLen (dVar 1)) (dNil)))))
  (dSeq (dStore 3 (dVar 4) (dCall 3 sp__law_kindbent (dCons (dVar 0) (dCons (dBin bIx (dVar 3) (dVar 4)) (dCons (dBin bSub (dVar 2) (dK (.int 1))) (dNil))))))
  (dSeq (dIf (dB (dUn (bIsi .tuple) (dVar 1)))
  (dRet (dUn bTuple (dVar 3)))
  (dSkip))
  (dRetO 3))))
  (dSkip))
  (dSeq (dIf (dB (dUn (bIsi .tuple) (dVar 1)))
  (dRetO 3)
  (dSkip))
  (dRet (dUn bTuple (dVar 3))))))
  (dSkip))
  (dSeq (dIf (dAnd (dB (dUn (bIsi .int) (dVar 1))) (dNot (dB (dUn (bIsi .bool) (dVar 1)))))
  (dRet (dCall 2 (sp__law_pick K) (dCons (dVar 0) (dCons (dLst (dCons (dUn bBool (dBin bNe (dVar 1) (dK (.int 0)))) (dCons (dUn bBool (dBin bNe (dVar 1) (dK (.int 0)))) (dCons (dK .none) (dCons (dK (.str "1")) (dCons (dLst (dCons (dVar 1) (dNil))) (dCons (dTup (dCons (dVar 1) (dNil))) (dNil)))))))) (dNil)))))
  (dSkip))
  (dRet (dK (.int 5))))
def d__law_ringpaper (K : PySem.W.Frag) : DTS :=
  dSeq (dSetO 2 (dLst (dNil)))
  (dSeq (dFor (sLst (dCall 1 (sp__law_factors K) (dCons (dVar 1) (dNil)))) (.tp [3, 4])
  (dSeq (dSet 5 (dCall 2 (sp__law_power K) (dCons (dVar 3) (dCons (dCall 2 (sp__law_capped K) (dCons (dVar 3) (dCons (dVar 4) (dNil)))) (dNil)))))
  (dSeq (dSet 6 (dCall 4 (sp__law_rowof K) (dCons (dVar 0) (dCons (dVar 5) (dCons (dK (.int 0)) (dCons (dBin bAdd (dBin (bI2 fun i j => if j > i then j else i) (dVar 3) (dBin bDiv (dVar 5) (dVar 3))) (dK (.int 1))) (dNil)))))))
  (dApp 2 (dTup (dCons (dVar 3) (dCons (dVar 5) (dCons (dSl (dVar 6) (dNoP) (dPart (dUn bNeg (dK (.int 1))))) (dCons (dBin bIx (dVar 6) (dBin bSub (dUn bLen (dVar 6)) (dK (.int 1)))) (dNil))))))))))
  (dRetO 2))
def d__law_cycle (K : PySem.W.Frag) : DTS :=
  dSeq (dSetO 2 (dLr1 (dVar 1)))
  (dSeq (dFor (sRng1 (dBin bSub (dVar 1) (dK (.int 1)))) (.nm 3)
  (dSeq (dSet 4 (dCall 2 spTake (dCons (dVar 0) (dCons (dBin bSub (dBin bSub (dVar 1) (dK (.int 1))) (dVar 3)) (dNil)))))
  (dSeq (dSet 5 (dBin bIx (dVar 2) (dBin bSub (dBin bSub (dVar 1) (dK (.int 1))) (dVar 3))))
  (dSeq (dStore 2 (dBin bSub (dBin bSub (dVar 1) (dK (.int 1))) (dVar 3)) (dBin bIx (dVar 2) (dVar 4)))
  (dStore 2 (dVar 4) (dVar 5))))))
  (dRetO 2))
def d__law_localkind (K : PySem.W.Frag) : DTS :=
  dSeq (dSet 4 (dCall 2 (sp__law_power K) (dCons (dVar 1) (dCons (dVar 2) (dNil)))))
  (dSeq (dIf (dB (dBin bEq (dVar 3) (dK (.int 0))))
  (dRet (dCall 3 (sp__law_linear K) (dCons (dVar 0) (dCons (dVar 1) (dCons (dVar 2) (dNil))))))
  (dSkip))
  (dSeq (dIf (dAnd (dB (dBin bEq (dVar 3) (dK (.int 1)))) (dAnd (dB (dBin bEq (dVar 2) (dK (.int 3)))) (dB (dCall 2 (sp__law_seldom K) (dCons (dVar 0) (dCons (dK (.int 2)) (dNil)))))))
  (dRet (dBin bIx (dLst (dCons (dLst (dCons (dK (.int 1)) (dCons (dK (.int 1)) (dCons (dK (.int 2)) (dCons (dK (.int 2)) (dNil)))))) (dCons (dLst (dCons (dK (.int 1)) (dCons (dK (.int 1)) (dCons (dK (.int 0)) (dCons (dK (.int 1)) (dCons (dK (.int 0)) (dCons (dK (.int 26)) (dNil)))))))) (dNil)))) (dBin bSub (dVar 1) (dK (.int 2)))))
  (dSkip))
  (dSeq (dIf (dAnd (dB (dBin bEq (dVar 3) (dK (.int 1)))) (dB (dBin bGt (dVar 2) (dK (.int 1)))))
  (dSeq (dSetO 6 (dBin bAdd (dLst (dCons (dBin bAdd (dK (.int 1)) (dCall 2 spTake (dCons (dVar 0) (dCons (dBin bSub (dVar 1) (dK (.int 1))) (dNil))))) (dCons (dK (.int 1)) (dNil)))) (dBin bMul (dLst (dCons (dK (.int 0)) (dNil))) (dBin bSub (dVar 1) (dK (.int 2))))))
  (dSeq (dStore 6 (dBin bSub (dVar 1) (dK (.int 1))) (dBin bAdd (dBin bIx (dVar 6) (dBin bSub (dVar 1) (dK (.int 1)))) (dBin bMul (dVar 1) (dBin bIx (dVar 6) (dK (.int 0))))))
  (dRetO 6)))
  (dSkip))
  (dSeq (dSetO 5 (dCall 2 (sp__law_cycle K) (dCons (dVar 0) (dCons (dVar 1) (dNil)))))
  (dCut (dIf (dB (dBin bEq (dVar 3) (dK (.int 3))))
  (dStore 5 (dCall 2 spTake (dCons (dVar 0) (dCons (dVar 1) (dNil)))) (dCall 2 spTake (dCons (dVar 0) (dCons (dVar 1) (dNil)))))
  (dSkip))
  (dCut (dIf (dB (dBin bEq (dVar 3) (dK (.int 4))))
  (dStore 5 (dIndex (dVar 5) (dK (.int 0))) (dBin bAdd (dK (.int 1)) (dCall 2 spTake (dCons (dVar 0) (dCons (dBin bSub (dVar 1) (dK (.int 1))) (dNil))))))
  (dSkip))
  (dSeq (dFrz 5 (dSetO 6 (dBin bAdd (dCall 2 (sp__law_through K) (dCons (dVar 1) (dCons (dVar 5) (dNil)))) (dBin bMul (dLst (dCons (dK (.int 0)) (dNil))) (dK (.int 3))))))
  (dSeq (dFor (sRng1 (dBin bMul (dK (.int 3)) (dUn bInt (dBin bGt (dVar 2) (dK (.int 1)))))) (.nm 7)
  (dSeq (dSet 8 (dCall 2 spTake (dCons (dVar 0) (dCons (dBin (bI2 fun i j => if j < i then j else i) (dVar 1) (dK (.int 3))) (dNil)))))
  (dSeq (dSet 9 (dCall 2 spTake (dCons (dVar 0) (dCons (dVar 4) (dNil)))))
  (dSeq (dStore 6 (dBin bAdd (dVar 8) (dK (.int 1))) (dBin bSub (dBin bIx (dVar 6) (dBin bAdd (dVar 8) (dK (.int 1)))) (dVar 9)))
  (dSeq (dStore 6 (dBin bAdd (dVar 8) (dVar 1)) (dBin bAdd (dBin bIx (dVar 6) (dBin bAdd (dVar 8) (dVar 1))) (dVar 9)))
  (dStore 6 (dVar 8) (dBin bAdd (dBin bIx (dVar 6) (dVar 8)) (dBin bMul (dVar 1) (dCall 2 spTake (dCons (dVar 0) (dCons (dBin bDiv (dVar 4) (dVar 1)) (dNil))))))))))))
  (dRet (dLc (sV 6) (.nm 10) [10] (dYes) (dBin bMod (dUn bInt (dVar 10)) (dVar 4))))))))))))
def d__law_maker (K : PySem.W.Frag) : DTS :=
  dSeq (dSet 3 (dCall 1 (sp__law_factors K) (dCons (dVar 1) (dNil))))
  (dSeq (dSet 4 (dCall 2 spTake (dCons (dVar 0) (dCons (dUn bLen (dVar 3)) (dNil)))))
  (dSeq (dSetO 5 (dLst (dNil)))
  (dSeq (dFor (sRng1 (dUn bLen (dVar 3))) (.nm 6)
  (dSeq (dSet 7 (dBin bIx (dBin bIx (dVar 3) (dVar 6)) (dK (.int 0))))
  (dSeq (dSet 8 (dCall 2 (sp__law_capped K) (dCons (dVar 7) (dCons (dBin bIx (dBin bIx (dVar 3) (dVar 6)) (dK (.int 1))) (dNil)))))
  (dSeq (dSet 9 (dCall 2 (sp__law_power K) (dCons (dVar 7) (dCons (dVar 8) (dNil)))))
  (dSeq (dSet 10 (dCall 4 (sp__law_localkind K) (dCons (dVar 0) (dCons (dVar 7) (dCons (dVar 8) (dCons (dBin bMul (dK (.int 2)) (dCall 2 spTake (dCons (dVar 0) (dCons (dK (.int 2)) (dNil))))) (dNil)))))))
  (dCut (dIf (dAnd (dB (dBin bEq (dVar 6) (dVar 4))) (dNot (dB (dVar 2))))
  (dSet 10 (dCall 4 (sp__law_localkind K) (dCons (dVar 0) (dCons (dVar 7) (dCons (dVar 8) (dCons (dBin bAdd (dK (.int 1)) (dCall 2 spTake (dCons (dVar 0) (dCons (dK (.int 4)) (dNil))))) (dNil)))))))
  (dIf (dNot (dB (dCall 2 (sp__law_goesround K) (dCons (dVar 10) (dCons (dVar 9) (dNil))))))
  (dSet 10 (dCall 3 (sp__law_linear K) (dCons (dVar 0) (dCons (dVar 7) (dCons (dVar 8) (dNil))))))
  (dSkip)))
  (dApp 5 (dTup (dCons (dVar 10) (dCons (dVar 9) (dNil)))))))))))
  (dFrz 5 (dRet (dCall 1 (sp__law_patched K) (dCons (dVar 5) (dNil))))))))
def d__law_vast (K : PySem.W.Frag) : DTS :=
  dSeq (dSetO 3 (dBin bAdd (dVar 1) (dBin bMul (dLst (dCons (dK (.int 0)) (dNil))) (dBin bSub (dK (.int 40)) (dUn bLen (dVar 1))))))
  (dSeq (dFor (sRng1 (dK (.int 3))) (.nm 4)
  (dSeq (dSet 5 (dCall 2 spTake (dCons (dVar 0) (dCons (dK (.int 40)) (dNil)))))
  (dSeq (dSet 6 (dBin bSub (dK (.int 1)) (dBin bMul (dK (.int 2)) (dCall 2 spTake (dCons (dVar 0) (dCons (dK (.int 2)) (dNil)))))))
  (dStore 3 (dVar 5) (dBin bAdd (dBin bIx (dVar 3) (dVar 5)) (dBin bMul (dBin bMul (dVar 6) (dVar 2)) (dBin bDiv (dBin bSub (dBin bPow (dK (.int 10)) (dK (.int 60))) (dBin bMul (dVar 6) (dBin bIx (dVar 3) (dVar 5)))) (dVar 2))))))))
  (dCut (dIf (dB (dBin bEq (dBin bIx (dVar 3) (dK (.int 39))) (dK (.int 0))))
  (dStore 3 (dK (.int 39)) (dVar 2))
  (dSkip))
  (dRetO 3)))
def d__law_allround (K : PySem.W.Frag) : DTS :=
  dSeq (dFor (sLst (dCall 1 (sp__law_factors K) (dCons (dVar 1) (dNil)))) (.tp [2, 3])
  (dIf (dNot (dB (dCall 2 (sp__law_goesround K) (dCons (dVar 0) (dCons (dCall 2 (sp__law_power K) (dCons (dVar 2) (dCons (dCall 2 (sp__law_capped K) (dCons (dVar 2) (dCons (dVar 3) (dNil)))) (dNil)))) (dNil))))))
  (dRet (dK (.bool false)))
  (dSkip)))
  (dRet (dK (.bool true)))
def d__law_twist (K : PySem.W.Frag) : DTS :=
  dSeq (dSet 3 (dCall 2 spTake (dCons (dVar 0) (dCons (dK (.int 10)) (dNil)))))
  (dSeq (dIf (dB (dBin bEq (dVar 3) (dK (.int 0))))
  (dRet (dCall 3 (sp__law_kindbent 30) (dCons (dVar 0) (dCons (dVar 1) (dCons (dK (.int 3)) (dNil))))))
  (dSkip))
  (dSeq (dIf (dB (dBin bEq (dVar 3) (dK (.int 1))))
  (dSeq (dSet 6 (dTup (dNil)))
  (dSeq (dFor (sRng1 (dK (.int 19))) (.nm 7)
  (dSet 6 (dLst (dCons (dVar 6) (dNil)))))
  (dRet (dCall 2 (sp__law_pick K) (dCons (dVar 0) (dCons (dLst (dCons (dK .none) (dCons (dK (.bool true)) (dCons (dK (.int 0)) (dCons (dK (.str "")) (dCons (dK (.str "ring")) (dCons (dLst (dNil)) (dCons (dTup (dNil)) (dCons (dVar 6) (dCons (dLst (dCons (dTup (dNil)) (dNil))) (dCons (dLst (dCons (dLst (dNil)) (dNil))) (dCons (dTup (dCons (dK (.str "ring")) (dCons (dVar 1) (dNil)))) (dCons (dLst (dCons (dVar 1) (dNil))) (dNil)))))))))))))) (dNil)))))))
  (dSkip))
  (dSeq (dSet 4 (dCall 2 spTake (dCons (dVar 0) (dCons (dUn bLen (dVar 1)) (dNil)))))
  (dSeq (dIf (dB (dBin bEq (dVar 3) (dK (.int 2))))
  (dSeq (dSet 8 (dLst (dCons (dBin bAdd (dSl (dVar 1) (dPart (dBin bAdd (dVar 4) (dK (.int 1)))) (dNoP)) (dSl (dVar 1) (dNoP) (dPart (dBin bAdd (dVar 4) (dK (.int 1)))))) (dCons (dBin bAdd (dSl (dVar 1) (dNoP) (dPart (dVar 4))) (dSl (dVar 1) (dPart (dBin bAdd (dVar 4) (dK (.int 1)))) (dNoP))) (dCons (dUn bRev (dVar 1)) (dCons (dBin bAdd (dVar 1) (dLst (dCons (dBin bIx (dVar 1) (dVar 4)) (dNil)))) (dNil)))))))
  (dRet (dCall 2 (sp__law_pick K) (dCons (dVar 0) (dCons (dBin bAdd (dVar 8) (dLst (dCons (dBin bAdd (dBin bAdd (dSl (dVar 1) (dNoP) (dPart (dVar 4))) (dLst (dCons (dBin bIx (dVar 1) (dVar 4)) (dNil)))) (dSl (dVar 1) (dPart (dVar 4)) (dNoP))) (dCons (dBin bAdd (dVar 1) (dLst (dCons (dTup (dNil)) (dNil)))) (dCons (dBin bAdd (dVar 1) (dLst (dCons (dK .none) (dNil)))) (dNil)))))) (dNil))))))
  (dSkip))
  (dSeq (dSetT [9, 10, 11, 12] (dBin bIx (dVar 1) (dVar 4)))
  (dSeq (dSet 5 (dCall 2 spTake (dCons (dVar 0) (dCons (dUn bLen (dVar 11)) (dNil)))))
  (dCut (dIf (dB (dBin bEq (dVar 3) (dK (.int 3))))
  (dSet 11 (dBin bAdd (dBin bAdd (dSl (dVar 11) (dNoP) (dPart (dVar 5))) (dLst (dCons (dBin bAdd (dBin bIx (dVar 11) (dVar 5)) (dCall 2 (sp__law_pick K) (dCons (dVar 0) (dCons (dLst (dCons (dVar 10) (dCons (dBin bSub (dK (.int 0)) (dVar 10)) (dNil)))) (dNil))))) (dNil)))) (dSl (dVar 11) (dPart (dBin bAdd (dVar 5) (dK (.int 1)))) (dNoP))))
  (dIf (dB (dBin bEq (dVar 3) (dK (.int 4))))
  (dSet 11 (dBin bAdd (dBin bAdd (dSl (dVar 11) (dNoP) (dPart (dVar 5))) (dLst (dCons (dBin bMod (dUn bInt (dBin bAdd (dBin bAdd (dBin bIx (dVar 11) (dVar 5)) (dK (.int 1))) (dCall 2 spTake (dCons (dVar 0) (dCons (dBin bSub (dVar 10) (dK (.int 1))) (dNil)))))) (dVar 10)) (dNil)))) (dSl (dVar 11) (dPart (dBin bAdd (dVar 5) (dK (.int 1)))) (dNoP))))
  (dIf (dB (dBin bEq (dVar 3) (dK (.int 5))))
  (dSet 12 (dCall 2 (sp__law_pick K) (dCons (dVar 0) (dCons (dLst (dCons (dBin bAdd (dVar 12) (dVar 10)) (dCons (dBin bSub (dVar 12) (dVar 10)) (dCons (dBin bMod (dUn bInt (dBin bAdd (dVar 12) (dVar 9))) (dVar 10)) (dCons (dBin bMod (dUn bInt (dBin bAdd (dVar 12) (dK (.int 1)))) (dVar 10)) (dCons (dK (.int 0)) (dCons (dBin bIx (dVar 11) (dK (.int 0))) (dCons (dK .none) (dNil))))))))) (dNil)))))
  (dIf (dB (dBin bEq (dVar 3) (dK (.int 6))))
  (dSeq (dSet 13 (dCall 4 (sp__law_rowof K) (dCons (dVar 2) (dCons (dVar 10) (dCons (dCall 2 (sp__law_pick K) (dCons (dVar 0) (dCons (dLst (dCons (dK (.int 0)) (dCons (dBin bIx (dVar 11) (dVar 5)) (dNil)))) (dNil)))) (dCons (dBin bAdd (dUn bLen (dVar 11)) (dCall 2 spTake (dCons (dVar 0) (dCons (dK (.int 3)) (dNil))))) (dNil)))))))
  (dSeq (dSet 11 (dSl (dVar 13) (dNoP) (dPart (dUn bNeg (dK (.int 1))))))
  (dSet 12 (dBin bIx (dVar 13) (dUn bNeg (dK (.int 1)))))))
  (dIf (dB (dBin bEq (dVar 3) (dK (.int 7))))
  (dSeq (dSet 10 (dCall 2 (sp__law_pick K) (dCons (dVar 0) (dCons (dLst (dCons (dVar 9) (dCons (dBin bMul (dVar 10) (dVar 9)) (dCons (dBin bMul (dVar 9) (dVar 9)) (dNil))))) (dNil)))))
  (dSeq (dSet 13 (dCall 4 (sp__law_rowof K) (dCons (dVar 2) (dCons (dVar 10) (dCons (dK (.int 0)) (dCons (dBin bAdd (dBin (bI2 fun i j => if j > i then j else i) (dVar 9) (dBin bDiv (dVar 10) (dVar 9))) (dK (.int 1))) (dNil)))))))
  (dSeq (dSet 11 (dSl (dVar 13) (dNoP) (dPart (dUn bNeg (dK (.int 1))))))
  (dSet 12 (dBin bIx (dVar 13) (dUn bNeg (dK (.int 1))))))))
  (dIf (dB (dBin bEq (dVar 3) (dK (.int 8))))
  (dSet 9 (dCall 2 (sp__law_pick K) (dCons (dVar 0) (dCons (dLst (dCons (dVar 10) (dCons (dBin bAdd (dVar 9) (dK (.int 1))) (dCons (dBin bSub (dK (.int 0)) (dVar 9)) (dCons (dK (.int 2)) (dCons (dK (.int 3)) (dCons (dK (.int 1)) (dCons (dK (.bool true)) (dNil))))))))) (dNil)))))
  (dSet 11 (dCall 2 (sp__law_pick K) (dCons (dVar 0) (dCons (dLst (dCons (dBin bAdd (dVar 11) (dLst (dCons (dVar 12) (dNil)))) (dCons (dSl (dVar 11) (dNoP) (dPart (dUn bNeg (dK (.int 1))))) (dCons (dBin bAdd (dSl (dVar 11) (dPart (dK (.int 1))) (dNoP)) (dSl (dVar 11) (dNoP) (dPart (dK (.int 1))))) (dCons (dUn bRev (dVar 11)) (dCons (dLst (dNil)) (dCons (dBin bMul (dLst (dCons (dK (.int 0)) (dNil))) (dUn bLen (dVar 11))) (dNil)))))))) (dNil)))))))))))
  (dRet (dBin bAdd (dBin bAdd (dSl (dVar 1) (dNoP) (dPart (dVar 4))) (dLst (dCons (dTup (dCons (dVar 9) (dCons (dVar 10) (dCons (dVar 11) (dCons (dVar 12) (dNil)))))) (dNil)))) (dSl (dVar 1) (dPart (dBin bAdd (dVar 4) (dK (.int 1)))) (dNoP)))))))))))
def d__law_judged (K : PySem.W.Frag) : DTS :=
  dSeq (dSet 4 (dUn bList (dVar 0)))
  (dSeq (dSet 5 (dCall 2 (sp__law_copy 30) (dCons (dVar 2) (dCons (dK (.int 20)) (dNil)))))
  (dSeq (dSet 6 (dCall 3 (sp_shows_ring K) (dCons (dVar 4) (dCons (dVar 1) (dCons (dVar 5) (dNil))))))
  (dRet (dAndV (dCall 2 (sp__law_same 30) (dCons (dVar 6) (dCons (dVar 3) (dNil)))) (dAndV (dCall 2 (sp__law_same 30) (dCons (dVar 4) (dCons (dVar 0) (dNil)))) (dCall 2 (sp__law_same 30) (dCons (dVar 5) (dCons (dVar 2) (dNil)))))))))
def d__law_refusal (K : PySem.W.Frag) : DTS :=
  dSeq (dTry K (dDrop (dCall 3 (sp_shows_ring K) (dCons (dVar 0) (dCons (dVar 1) (dCons (dVar 2) (dNil))))))
  [(.ref (He.ga K "BadPoly"), some 3, fun a C => dRet (dBin bIx (dLst (dCons (dK (.str "poly")) (dCons (dK (.str "mixed")) (dNil)))) (dUn bInt (dOrV (dNotV (dIsE K 3 a C [He.ga K "RingError"])) (dIsE K 3 a C [He.ga K "BadModulus", He.ga K "BadRow", He.ga K "BadNumber"]))))),
  (.ref (He.ga K "BadModulus"), some 3, fun a C => dRet (dBin bIx (dLst (dCons (dK (.str "modulus")) (dCons (dK (.str "mixed")) (dNil)))) (dUn bInt (dOrV (dNotV (dIsE K 3 a C [He.ga K "RingError"])) (dIsE K 3 a C [He.ga K "BadRow", He.ga K "BadNumber", He.ga K "NotRing"]))))),
  (.ref (He.ga K "RingError"), none, fun a C => dRet (dK (.str "other")))])
  (dRet (dK (.str "none")))
def d_law (K : PySem.W.Frag) : DTS :=
  dSeq (dSet 2 (dCall 2 (sp__law_modulus K) (dCons (dVar 1) (dCons (dCall 2 (sp__law_pick K) (dCons (dVar 1) (dCons (dLst (dCons (dK (.int 60)) (dCons (dK (.int 60)) (dCons (dK (.int 60)) (dCons (dK (.int 60)) (dCons (dK (.int 60)) (dCons (dK (.int 60)) (dCons (dK (.int 60)) (dCons (dK (.int 60)) (dCons (dK (.int 60)) (dCons (dK (.int 400)) (dCons (dK (.int 400)) (dCons (dBin bPow (dK (.int 10)) (dK (.int 10))) (dNil)))))))))))))) (dNil)))) (dNil)))))
  (dSeq (dSet 3 (dCall 3 (sp__law_maker K) (dCons (dVar 1) (dCons (dVar 2) (dCons (dK (.bool true)) (dNil))))))
  (dSeq (dSet 4 (dCall 3 (sp__law_maker K) (dCons (dVar 1) (dCons (dVar 2) (dCons (dK (.bool false)) (dNil))))))
  (dCut (dIf (dB (dCall 2 (sp__law_seldom K) (dCons (dVar 1) (dCons (dK (.int 6)) (dNil)))))
  (dSet 3 (dCall 3 (sp__law_vast K) (dCons (dVar 1) (dCons (dVar 3) (dCons (dVar 2) (dNil))))))
  (dSkip))
  (dCut (dIf (dB (dCall 2 (sp__law_seldom K) (dCons (dVar 1) (dCons (dK (.int 6)) (dNil)))))
  (dSet 4 (dCall 3 (sp__law_vast K) (dCons (dVar 1) (dCons (dVar 4) (dCons (dVar 2) (dNil))))))
  (dSkip))
  (dSeq (dSet 5 (dCall 2 (sp__law_ringpaper K) (dCons (dVar 3) (dCons (dVar 2) (dNil)))))
  (dSeq (dSet 6 (dCall 2 (sp__law_ringpaper K) (dCons (dVar 4) (dCons (dVar 2) (dNil)))))
  (dSeq (dSet 7 (dCall 2 (sp__law_allround K) (dCons (dVar 4) (dCons (dVar 2) (dNil)))))
  (dSeq (dIf (dOr (dNot (dB (dCall 4 (sp__law_judged K) (dCons (dVar 3) (dCons (dVar 2) (dCons (dVar 5) (dCons (dK (.bool true)) (dNil)))))))) (dNot (dB (dCall 4 (sp__law_judged K) (dCons (dVar 4) (dCons (dVar 2) (dCons (dVar 6) (dCons (dVar 7) (dNil)))))))))
  (dRet (dK (.bool false)))
  (dSkip))
  (dSeq (dSet 8 (dCall 2 (sp__law_same 30) (dCons (dVar 5) (dCons (dVar 6) (dNil)))))
  (dSeq (dIf (dOr (dNot (dB (dCall 4 (sp__law_judged K) (dCons (dVar 3) (dCons (dVar 2) (dCons (dVar 6) (dCons (dVar 8) (dNil)))))))) (dNot (dB (dCall 4 (sp__law_judged K) (dCons (dVar 4) (dCons (dVar 2) (dCons (dVar 5) (dCons (dAndV (dVar 8) (dVar 7)) (dNil)))))))))
  (dRet (dK (.bool false)))
  (dSkip))
  (dSeq (dFor (sRng1 (dK (.int 4))) (.nm 9)
  (dSeq (dSet 10 (dCall 3 (sp__law_twist K) (dCons (dVar 1) (dCons (dVar 5) (dCons (dVar 3) (dNil))))))
  (dIf (dNot (dB (dCall 4 (sp__law_judged K) (dCons (dVar 3) (dCons (dVar 2) (dCons (dVar 10) (dCons (dCall 2 (sp__law_same 30) (dCons (dVar 10) (dCons (dVar 5) (dNil)))) (dNil))))))))
  (dRet (dK (.bool false)))
  (dSkip))))
  (dSeq (dSet 10 (dCall 3 (sp__law_twist K) (dCons (dVar 1) (dCons (dVar 6) (dCons (dVar 4) (dNil))))))
  (dSeq (dIf (dNot (dB (dCall 4 (sp__law_judged K) (dCons (dVar 4) (dCons (dVar 2) (dCons (dVar 10) (dCons (dAndV (dVar 7) (dCall 2 (sp__law_same 30) (dCons (dVar 10) (dCons (dVar 6) (dNil))))) (dNil))))))))
  (dRet (dK (.bool false)))
  (dSkip))
  (dSeq (dSet 11 (dCall 2 (sp__law_pick K) (dCons (dVar 1) (dCons (dLst (dCons (dUn bTuple (dVar 3)) (dCons (dBin bAdd (dVar 3) (dLst (dCons (dK (.int 0)) (dNil)))) (dCons (dK .none) (dCons (dBin bAdd (dVar 3) (dLst (dCons (dBin bAdd (dBin bPow (dK (.int 10)) (dK (.int 60))) (dK (.int 1))) (dNil)))) (dCons (dBin bAdd (dVar 3) (dLst (dCons (dK (.bool true)) (dNil)))) (dCons (dBin bMul (dLst (dCons (dK (.int 1)) (dNil))) (dK (.int 41))) (dCons (dK (.str "x")) (dCons (dLst (dCons (dK (.int 0)) (dNil))) (dCons (dTup (dNil)) (dNil))))))))))) (dNil)))))
  (dSeq (dSet 12 (dCall 2 (sp__law_pick K) (dCons (dVar 1) (dCons (dLst (dCons (dK (.int 1)) (dCons (dK (.int 0)) (dCons (dBin bSub (dK (.int 0)) (dVar 2)) (dCons (dK (.int 41)) (dCons (dBin bMul (dK (.int 41)) (dVar 2)) (dCons (dK (.bool true)) (dCons (dK .none) (dCons (dK (.str "6")) (dCons (dBin bAdd (dBin bPow (dK (.int 10)) (dK (.int 10))) (dK (.int 1))) (dCons (dK (.int 529)) (dCons (dLst (dCons (dVar 2) (dNil))) (dNil))))))))))))) (dNil)))))
  (dSeq (dSet 13 (dCall 2 (sp__law_pick K) (dCons (dVar 1) (dCons (dLst (dCons (dVar 5) (dCons (dVar 10) (dCons (dK .none) (dNil))))) (dNil)))))
  (dSeq (dFor (sLst (dLst (dCons (dTup (dCons (dVar 11) (dCons (dVar 2) (dCons (dK (.str "poly")) (dNil))))) (dCons (dTup (dCons (dUn bList (dVar 3)) (dCons (dVar 12) (dCons (dK (.str "modulus")) (dNil))))) (dCons (dTup (dCons (dVar 11) (dCons (dVar 12) (dCons (dK (.str "poly")) (dNil))))) (dNil)))))) (.tp [14, 15, 16])
  (dIf (dB (dBin bNe (dCall 3 (sp__law_refusal K) (dCons (dVar 14) (dCons (dVar 15) (dCons (dVar 13) (dNil))))) (dVar 16)))
  (dRet (dK (.bool false)))
  (dSkip)))
  (dRet (dCall 4 (sp__law_judged K) (dCons (dVar 3) (dCons (dVar 2) (dCons (dVar 5) (dCons (dK (.bool true)) (dNil))))))))))))))))))))))))
/-- what the try statements ask of the classes -/
structure TF (K : PySem.W.Frag) : Prop where
  cx_BadModulus : ExcC K (He.ga K "BadModulus")
  ex_BadModulus_BadPoly : PySem.W.exmOne K (.ref (He.ga K "BadModulus")) (.ref (He.ga K "BadPoly")) = some false
  ki_BadModulus_BadModulus : PySem.W.kitOne K (.ref (He.ga K "BadModulus")) (.ref (He.ga K "BadModulus")) = some true
  ki_BadModulus_BadRow : PySem.W.kitOne K (.ref (He.ga K "BadModulus")) (.ref (He.ga K "BadRow")) = some false
  ki_BadModulus_BadNumber : PySem.W.kitOne K (.ref (He.ga K "BadModulus")) (.ref (He.ga K "BadNumber")) = some false
  ki_BadModulus_RingError : PySem.W.kitOne K (.ref (He.ga K "BadModulus")) (.ref (He.ga K "RingError")) = some true
  ex_BadModulus_BadModulus : PySem.W.exmOne K (.ref (He.ga K "BadModulus")) (.ref (He.ga K "BadModulus")) = some true
  ki_BadModulus_NotRing : PySem.W.kitOne K (.ref (He.ga K "BadModulus")) (.ref (He.ga K "NotRing")) = some false
  cx_BadPoly : ExcC K (He.ga K "BadPoly")
  ex_BadPoly_BadPoly : PySem.W.exmOne K (.ref (He.ga K "BadPoly")) (.ref (He.ga K "BadPoly")) = some true
  ki_BadPoly_BadModulus : PySem.W.kitOne K (.ref (He.ga K "BadPoly")) (.ref (He.ga K "BadModulus")) = some false
  ki_BadPoly_BadRow : PySem.W.kitOne K (.ref (He.ga K "BadPoly")) (.ref (He.ga K "BadRow")) = some false
  ki_BadPoly_BadNumber : PySem.W.kitOne K (.ref (He.ga K "BadPoly")) (.ref (He.ga K "BadNumber")) = some false
  ki_BadPoly_RingError : PySem.W.kitOne K (.ref (He.ga K "BadPoly")) (.ref (He.ga K "RingError")) = some true
end RB

set_option Elab.async false
set_option linter.all false
set_option maxRecDepth 100000
set_option maxHeartbeats 8000000
/-! the walks, printed by gen.py -/
namespace RB
open PySem PySem.Spec PyProof.Rows L2
section
variable {P : Program} {w : World} {K : PySem.W.Frag} {mg : Str → Option Value} {base : Heap}
theorem g_0 (X : K.In base) (G : base.Ns mainGlobals mg) (c : SaysR fa fn K) : mg "int" = none := He.free_ok X G (show (He.Fa.free "int").ok K = true from c.at 0 (f := .f (.free "int")))
theorem g_1 (X : K.In base) (G : base.Ns mainGlobals mg) (c : SaysR fa fn K) : mg "isinstance" = none := He.free_ok X G (show (He.Fa.free "isinstance").ok K = true from c.at 1 (f := .f (.free "isinstance")))
theorem g_2 (X : K.In base) (G : base.Ns mainGlobals mg) (c : SaysR fa fn K) : mg "bool" = none := He.free_ok X G (show (He.Fa.free "bool").ok K = true from c.at 2 (f := .f (.free "bool")))
theorem f_3 (c : SaysR fa fn K) : (He.Fa.glo "BadModulus").ok K = true := c.at 3 (f := .f (.glo "BadModulus"))
theorem g_3 (X : K.In base) (G : base.Ns mainGlobals mg) (c : SaysR fa fn K) : mg "BadModulus" = some (.ref (He.ga K "BadModulus")) := He.glo_ok X G (f_3 c)
theorem f_4 (c : SaysR fa fn K) : (He.Fa.exc "BadModulus").ok K = true := c.at 4 (f := .f (.exc "BadModulus"))
theorem g_5 (X : K.In base) (G : base.Ns mainGlobals mg) (c : SaysR fa fn K) : GlD K mg "PRIMES" (.tuple [(.tuple [(.int 2), (.int 38)]), (.tuple [(.int 3), (.int 18)]), (.tuple [(.int 5), (.int 9)]), (.tuple [(.int 7), (.int 5)]), (.tuple [(.int 11), (.int 3)]), (.tuple [(.int 13), (.int 3)]), (.tuple [(.int 17), (.int 2)]), (.tuple [(.int 19), (.int 2)]), (.tuple [(.int 23), (.int 1)]), (.tuple [(.int 29), (.int 1)]), (.tuple [(.int 31), (.int 1)]), (.tuple [(.int 37), (.int 1)])]) := dat_ok X G (c.at 5 (f := .dat "PRIMES" (.tuple [(.tuple [(.int 2), (.int 38)]), (.tuple [(.int 3), (.int 18)]), (.tuple [(.int 5), (.int 9)]), (.tuple [(.int 7), (.int 5)]), (.tuple [(.int 11), (.int 3)]), (.tuple [(.int 13), (.int 3)]), (.tuple [(.int 17), (.int 2)]), (.tuple [(.int 19), (.int 2)]), (.tuple [(.int 23), (.int 1)]), (.tuple [(.int 29), (.int 1)]), (.tuple [(.int 31), (.int 1)]), (.tuple [(.int 37), (.int 1)])])))
theorem g_6 (X : K.In base) (G : base.Ns mainGlobals mg) (c : SaysR fa fn K) : GlD K mg "GREATEST" (.int 10000000000) := dat_ok X G (c.at 6 (f := .dat "GREATEST" (.int 10000000000)))
theorem g_7 (X : K.In base) (G : base.Ns mainGlobals mg) (c : SaysR fa fn K) : mg "list" = none := He.free_ok X G (show (He.Fa.free "list").ok K = true from c.at 7 (f := .f (.free "list")))
theorem g_8 (X : K.In base) (G : base.Ns mainGlobals mg) (c : SaysR fa fn K) : mg "len" = none := He.free_ok X G (show (He.Fa.free "len").ok K = true from c.at 8 (f := .f (.free "len")))
theorem f_9 (c : SaysR fa fn K) : (He.Fa.glo "BadPoly").ok K = true := c.at 9 (f := .f (.glo "BadPoly"))
theorem g_9 (X : K.In base) (G : base.Ns mainGlobals mg) (c : SaysR fa fn K) : mg "BadPoly" = some (.ref (He.ga K "BadPoly")) := He.glo_ok X G (f_9 c)
theorem f_10 (c : SaysR fa fn K) : (He.Fa.exc "BadPoly").ok K = true := c.at 10 (f := .f (.exc "BadPoly"))
theorem g_11 (X : K.In base) (G : base.Ns mainGlobals mg) (c : SaysR fa fn K) : GlD K mg "MOST_ENTRY" (.int 1000000000000000000000000000000000000000000000000000000000000) := dat_ok X G (c.at 11 (f := .dat "MOST_ENTRY" (.int 1000000000000000000000000000000000000000000000000000000000000)))
theorem g_12 (X : K.In base) (G : base.Ns mainGlobals mg) (c : SaysR fa fn K) : GlD K mg "MOST_ENTRIES" (.int 40) := dat_ok X G (c.at 12 (f := .dat "MOST_ENTRIES" (.int 40)))
theorem g_13 (X : K.In base) (G : base.Ns mainGlobals mg) (c : SaysR fa fn K) : mg "range" = none := He.free_ok X G (show (He.Fa.free "range").ok K = true from c.at 13 (f := .f (.free "range")))
theorem g_14 (X : K.In base) (G : base.Ns mainGlobals mg) (c : SaysR fa fn K) : mg "min" = none := He.free_ok X G (show (He.Fa.free "min").ok K = true from c.at 14 (f := .f (.free "min")))
theorem g_15 (X : K.In base) (G : base.Ns mainGlobals mg) (c : SaysR fa fn K) : mg "max" = none := He.free_ok X G (show (He.Fa.free "max").ok K = true from c.at 15 (f := .f (.free "max")))
theorem g_16 (X : K.In base) (G : base.Ns mainGlobals mg) (c : SaysR fa fn K) : mg "zip" = none := He.free_ok X G (show (He.Fa.free "zip").ok K = true from c.at 16 (f := .f (.free "zip")))
theorem g_17 (X : K.In base) (G : base.Ns mainGlobals mg) (c : SaysR fa fn K) : mg "all" = none := He.free_ok X G (show (He.Fa.free "all").ok K = true from c.at 17 (f := .f (.free "all")))
theorem g_18 (X : K.In base) (G : base.Ns mainGlobals mg) (c : SaysR fa fn K) : mg "tuple" = none := He.free_ok X G (show (He.Fa.free "tuple").ok K = true from c.at 18 (f := .f (.free "tuple")))
theorem g_19 (X : K.In base) (G : base.Ns mainGlobals mg) (c : SaysR fa fn K) : mg "dict" = none := He.free_ok X G (show (He.Fa.free "dict").ok K = true from c.at 19 (f := .f (.free "dict")))
theorem g_20 (X : K.In base) (G : base.Ns mainGlobals mg) (c : SaysR fa fn K) : mg "str" = none := He.free_ok X G (show (He.Fa.free "str").ok K = true from c.at 20 (f := .f (.free "str")))
theorem f_21 (c : SaysR fa fn K) : ExcC K (He.ga K "BadModulus") := cx_ok (c.at 21 (f := .cx "BadModulus"))
theorem f_22 (c : SaysR fa fn K) : PySem.W.exmOne K (.ref (He.ga K "BadModulus")) (.ref (He.ga K "BadPoly")) = some false := He.exm_ok (show (He.Fa.exm "BadModulus" "BadPoly" false).ok K = true from c.at 22 (f := .f (.exm "BadModulus" "BadPoly" false)))
theorem f_23 (c : SaysR fa fn K) : PySem.W.kitOne K (.ref (He.ga K "BadModulus")) (.ref (He.ga K "BadModulus")) = some true := kit_ok (c.at 23 (f := .kit "BadModulus" "BadModulus" true))
theorem f_24 (c : SaysR fa fn K) : (He.Fa.glo "BadRow").ok K = true := c.at 24 (f := .f (.glo "BadRow"))
theorem g_24 (X : K.In base) (G : base.Ns mainGlobals mg) (c : SaysR fa fn K) : mg "BadRow" = some (.ref (He.ga K "BadRow")) := He.glo_ok X G (f_24 c)
theorem f_25 (c : SaysR fa fn K) : PySem.W.kitOne K (.ref (He.ga K "BadModulus")) (.ref (He.ga K "BadRow")) = some false := kit_ok (c.at 25 (f := .kit "BadModulus" "BadRow" false))
theorem f_26 (c : SaysR fa fn K) : (He.Fa.glo "BadNumber").ok K = true := c.at 26 (f := .f (.glo "BadNumber"))
theorem g_26 (X : K.In base) (G : base.Ns mainGlobals mg) (c : SaysR fa fn K) : mg "BadNumber" = some (.ref (He.ga K "BadNumber")) := He.glo_ok X G (f_26 c)
theorem f_27 (c : SaysR fa fn K) : PySem.W.kitOne K (.ref (He.ga K "BadModulus")) (.ref (He.ga K "BadNumber")) = some false := kit_ok (c.at 27 (f := .kit "BadModulus" "BadNumber" false))
theorem f_28 (c : SaysR fa fn K) : (He.Fa.glo "RingError").ok K = true := c.at 28 (f := .f (.glo "RingError"))
theorem g_28 (X : K.In base) (G : base.Ns mainGlobals mg) (c : SaysR fa fn K) : mg "RingError" = some (.ref (He.ga K "RingError")) := He.glo_ok X G (f_28 c)
theorem f_29 (c : SaysR fa fn K) : PySem.W.kitOne K (.ref (He.ga K "BadModulus")) (.ref (He.ga K "RingError")) = some true := kit_ok (c.at 29 (f := .kit "BadModulus" "RingError" true))
theorem f_30 (c : SaysR fa fn K) : PySem.W.exmOne K (.ref (He.ga K "BadModulus")) (.ref (He.ga K "BadModulus")) = some true := He.exm_ok (show (He.Fa.exm "BadModulus" "BadModulus" true).ok K = true from c.at 30 (f := .f (.exm "BadModulus" "BadModulus" true)))
theorem f_31 (c : SaysR fa fn K) : (He.Fa.glo "NotRing").ok K = true := c.at 31 (f := .f (.glo "NotRing"))
theorem g_31 (X : K.In base) (G : base.Ns mainGlobals mg) (c : SaysR fa fn K) : mg "NotRing" = some (.ref (He.ga K "NotRing")) := He.glo_ok X G (f_31 c)
theorem f_32 (c : SaysR fa fn K) : PySem.W.kitOne K (.ref (He.ga K "BadModulus")) (.ref (He.ga K "NotRing")) = some false := kit_ok (c.at 32 (f := .kit "BadModulus" "NotRing" false))
theorem f_33 (c : SaysR fa fn K) : ExcC K (He.ga K "BadPoly") := cx_ok (c.at 33 (f := .cx "BadPoly"))
theorem f_34 (c : SaysR fa fn K) : PySem.W.exmOne K (.ref (He.ga K "BadPoly")) (.ref (He.ga K "BadPoly")) = some true := He.exm_ok (show (He.Fa.exm "BadPoly" "BadPoly" true).ok K = true from c.at 34 (f := .f (.exm "BadPoly" "BadPoly" true)))
theorem f_35 (c : SaysR fa fn K) : PySem.W.kitOne K (.ref (He.ga K "BadPoly")) (.ref (He.ga K "BadModulus")) = some false := kit_ok (c.at 35 (f := .kit "BadPoly" "BadModulus" false))
theorem f_36 (c : SaysR fa fn K) : PySem.W.kitOne K (.ref (He.ga K "BadPoly")) (.ref (He.ga K "BadRow")) = some false := kit_ok (c.at 36 (f := .kit "BadPoly" "BadRow" false))
theorem f_37 (c : SaysR fa fn K) : PySem.W.kitOne K (.ref (He.ga K "BadPoly")) (.ref (He.ga K "BadNumber")) = some false := kit_ok (c.at 37 (f := .kit "BadPoly" "BadNumber" false))
theorem f_38 (c : SaysR fa fn K) : PySem.W.kitOne K (.ref (He.ga K "BadPoly")) (.ref (He.ga K "RingError")) = some true := kit_ok (c.at 38 (f := .kit "BadPoly" "RingError" true))
theorem f_39 (c : SaysR fa fn K) : (He.Fa.glo "within").ok K = true := c.at 39 (f := .f (.glo "within"))
theorem g_39 (X : K.In base) (G : base.Ns mainGlobals mg) (c : SaysR fa fn K) : mg "within" = some (.ref (He.ga K "within")) := He.glo_ok X G (f_39 c)
theorem f_40 (c : SaysR fa fn K) : (He.Fa.glo "factors").ok K = true := c.at 40 (f := .f (.glo "factors"))
theorem g_40 (X : K.In base) (G : base.Ns mainGlobals mg) (c : SaysR fa fn K) : mg "factors" = some (.ref (He.ga K "factors")) := He.glo_ok X G (f_40 c)
theorem f_41 (c : SaysR fa fn K) : (He.Fa.glo "check_modulus").ok K = true := c.at 41 (f := .f (.glo "check_modulus"))
theorem g_41 (X : K.In base) (G : base.Ns mainGlobals mg) (c : SaysR fa fn K) : mg "check_modulus" = some (.ref (He.ga K "check_modulus")) := He.glo_ok X G (f_41 c)
theorem f_42 (c : SaysR fa fn K) : (He.Fa.glo "is_bounded").ok K = true := c.at 42 (f := .f (.glo "is_bounded"))
theorem g_42 (X : K.In base) (G : base.Ns mainGlobals mg) (c : SaysR fa fn K) : mg "is_bounded" = some (.ref (He.ga K "is_bounded")) := He.glo_ok X G (f_42 c)
theorem f_43 (c : SaysR fa fn K) : (He.Fa.glo "are_bounded").ok K = true := c.at 43 (f := .f (.glo "are_bounded"))
theorem g_43 (X : K.In base) (G : base.Ns mainGlobals mg) (c : SaysR fa fn K) : mg "are_bounded" = some (.ref (He.ga K "are_bounded")) := He.glo_ok X G (f_43 c)
theorem f_44 (c : SaysR fa fn K) : (He.Fa.glo "check_poly").ok K = true := c.at 44 (f := .f (.glo "check_poly"))
theorem g_44 (X : K.In base) (G : base.Ns mainGlobals mg) (c : SaysR fa fn K) : mg "check_poly" = some (.ref (He.ga K "check_poly")) := He.glo_ok X G (f_44 c)
theorem f_45 (c : SaysR fa fn K) : (He.Fa.glo "is_plain").ok K = true := c.at 45 (f := .f (.glo "is_plain"))
theorem g_45 (X : K.In base) (G : base.Ns mainGlobals mg) (c : SaysR fa fn K) : mg "is_plain" = some (.ref (He.ga K "is_plain")) := He.glo_ok X G (f_45 c)
theorem f_46 (c : SaysR fa fn K) : (He.Fa.glo "reduced").ok K = true := c.at 46 (f := .f (.glo "reduced"))
theorem g_46 (X : K.In base) (G : base.Ns mainGlobals mg) (c : SaysR fa fn K) : mg "reduced" = some (.ref (He.ga K "reduced")) := He.glo_ok X G (f_46 c)
theorem f_47 (c : SaysR fa fn K) : (He.Fa.glo "step_by").ok K = true := c.at 47 (f := .f (.glo "step_by"))
theorem g_47 (X : K.In base) (G : base.Ns mainGlobals mg) (c : SaysR fa fn K) : mg "step_by" = some (.ref (He.ga K "step_by")) := He.glo_ok X G (f_47 c)
theorem f_48 (c : SaysR fa fn K) : (He.Fa.glo "path_from").ok K = true := c.at 48 (f := .f (.glo "path_from"))
theorem g_48 (X : K.In base) (G : base.Ns mainGlobals mg) (c : SaysR fa fn K) : mg "path_from" = some (.ref (He.ga K "path_from")) := He.glo_ok X G (f_48 c)
theorem f_49 (c : SaysR fa fn K) : (He.Fa.glo "slope_by").ok K = true := c.at 49 (f := .f (.glo "slope_by"))
theorem g_49 (X : K.In base) (G : base.Ns mainGlobals mg) (c : SaysR fa fn K) : mg "slope_by" = some (.ref (He.ga K "slope_by")) := He.glo_ok X G (f_49 c)
theorem f_50 (c : SaysR fa fn K) : (He.Fa.glo "product_over").ok K = true := c.at 50 (f := .f (.glo "product_over"))
theorem g_50 (X : K.In base) (G : base.Ns mainGlobals mg) (c : SaysR fa fn K) : mg "product_over" = some (.ref (He.ga K "product_over")) := He.glo_ok X G (f_50 c)
theorem f_51 (c : SaysR fa fn K) : (He.Fa.glo "power_of").ok K = true := c.at 51 (f := .f (.glo "power_of"))
theorem g_51 (X : K.In base) (G : base.Ns mainGlobals mg) (c : SaysR fa fn K) : mg "power_of" = some (.ref (He.ga K "power_of")) := He.glo_ok X G (f_51 c)
theorem f_52 (c : SaysR fa fn K) : (He.Fa.glo "small_power").ok K = true := c.at 52 (f := .f (.glo "small_power"))
theorem g_52 (X : K.In base) (G : base.Ns mainGlobals mg) (c : SaysR fa fn K) : mg "small_power" = some (.ref (He.ga K "small_power")) := He.glo_ok X G (f_52 c)
theorem f_53 (c : SaysR fa fn K) : (He.Fa.glo "ring_entry").ok K = true := c.at 53 (f := .f (.glo "ring_entry"))
theorem g_53 (X : K.In base) (G : base.Ns mainGlobals mg) (c : SaysR fa fn K) : mg "ring_entry" = some (.ref (He.ga K "ring_entry")) := He.glo_ok X G (f_53 c)
theorem f_54 (c : SaysR fa fn K) : (He.Fa.glo "broken_at").ok K = true := c.at 54 (f := .f (.glo "broken_at"))
theorem g_54 (X : K.In base) (G : base.Ns mainGlobals mg) (c : SaysR fa fn K) : mg "broken_at" = some (.ref (He.ga K "broken_at")) := He.glo_ok X G (f_54 c)
theorem f_55 (c : SaysR fa fn K) : (He.Fa.glo "equal_plain").ok K = true := c.at 55 (f := .f (.glo "equal_plain"))
theorem g_55 (X : K.In base) (G : base.Ns mainGlobals mg) (c : SaysR fa fn K) : mg "equal_plain" = some (.ref (He.ga K "equal_plain")) := He.glo_ok X G (f_55 c)
theorem f_56 (c : SaysR fa fn K) : (He.Fa.glo "equal_entry").ok K = true := c.at 56 (f := .f (.glo "equal_entry"))
theorem g_56 (X : K.In base) (G : base.Ns mainGlobals mg) (c : SaysR fa fn K) : mg "equal_entry" = some (.ref (He.ga K "equal_entry")) := He.glo_ok X G (f_56 c)
theorem f_57 (c : SaysR fa fn K) : (He.Fa.glo "shows_ring").ok K = true := c.at 57 (f := .f (.glo "shows_ring"))
theorem g_57 (X : K.In base) (G : base.Ns mainGlobals mg) (c : SaysR fa fn K) : mg "shows_ring" = some (.ref (He.ga K "shows_ring")) := He.glo_ok X G (f_57 c)
theorem f_58 (c : SaysR fa fn K) : (He.Fa.glo "_law_mixed").ok K = true := c.at 58 (f := .f (.glo "_law_mixed"))
theorem g_58 (X : K.In base) (G : base.Ns mainGlobals mg) (c : SaysR fa fn K) : mg "_law_mixed" = some (.ref (He.ga K "_law_mixed")) := He.glo_ok X G (f_58 c)
theorem f_59 (c : SaysR fa fn K) : (He.Fa.glo "_law_take").ok K = true := c.at 59 (f := .f (.glo "_law_take"))
theorem g_59 (X : K.In base) (G : base.Ns mainGlobals mg) (c : SaysR fa fn K) : mg "_law_take" = some (.ref (He.ga K "_law_take")) := He.glo_ok X G (f_59 c)
theorem f_60 (c : SaysR fa fn K) : (He.Fa.glo "_law_seldom").ok K = true := c.at 60 (f := .f (.glo "_law_seldom"))
theorem g_60 (X : K.In base) (G : base.Ns mainGlobals mg) (c : SaysR fa fn K) : mg "_law_seldom" = some (.ref (He.ga K "_law_seldom")) := He.glo_ok X G (f_60 c)
theorem f_61 (c : SaysR fa fn K) : (He.Fa.glo "_law_pick").ok K = true := c.at 61 (f := .f (.glo "_law_pick"))
theorem g_61 (X : K.In base) (G : base.Ns mainGlobals mg) (c : SaysR fa fn K) : mg "_law_pick" = some (.ref (He.ga K "_law_pick")) := He.glo_ok X G (f_61 c)
theorem f_62 (c : SaysR fa fn K) : (He.Fa.glo "_law_power").ok K = true := c.at 62 (f := .f (.glo "_law_power"))
theorem g_62 (X : K.In base) (G : base.Ns mainGlobals mg) (c : SaysR fa fn K) : mg "_law_power" = some (.ref (He.ga K "_law_power")) := He.glo_ok X G (f_62 c)
theorem f_63 (c : SaysR fa fn K) : (He.Fa.glo "_law_undone").ok K = true := c.at 63 (f := .f (.glo "_law_undone"))
theorem g_63 (X : K.In base) (G : base.Ns mainGlobals mg) (c : SaysR fa fn K) : mg "_law_undone" = some (.ref (He.ga K "_law_undone")) := He.glo_ok X G (f_63 c)
theorem f_64 (c : SaysR fa fn K) : (He.Fa.glo "_law_chinese").ok K = true := c.at 64 (f := .f (.glo "_law_chinese"))
theorem g_64 (X : K.In base) (G : base.Ns mainGlobals mg) (c : SaysR fa fn K) : mg "_law_chinese" = some (.ref (He.ga K "_law_chinese")) := He.glo_ok X G (f_64 c)
theorem f_65 (c : SaysR fa fn K) : (He.Fa.glo "_law_factors").ok K = true := c.at 65 (f := .f (.glo "_law_factors"))
theorem g_65 (X : K.In base) (G : base.Ns mainGlobals mg) (c : SaysR fa fn K) : mg "_law_factors" = some (.ref (He.ga K "_law_factors")) := He.glo_ok X G (f_65 c)
theorem f_66 (c : SaysR fa fn K) : (He.Fa.glo "_law_capped").ok K = true := c.at 66 (f := .f (.glo "_law_capped"))
theorem g_66 (X : K.In base) (G : base.Ns mainGlobals mg) (c : SaysR fa fn K) : mg "_law_capped" = some (.ref (He.ga K "_law_capped")) := He.glo_ok X G (f_66 c)
theorem f_67 (c : SaysR fa fn K) : (He.Fa.glo "_law_modulus").ok K = true := c.at 67 (f := .f (.glo "_law_modulus"))
theorem g_67 (X : K.In base) (G : base.Ns mainGlobals mg) (c : SaysR fa fn K) : mg "_law_modulus" = some (.ref (He.ga K "_law_modulus")) := He.glo_ok X G (f_67 c)
theorem f_68 (c : SaysR fa fn K) : (He.Fa.glo "_law_cut").ok K = true := c.at 68 (f := .f (.glo "_law_cut"))
theorem g_68 (X : K.In base) (G : base.Ns mainGlobals mg) (c : SaysR fa fn K) : mg "_law_cut" = some (.ref (He.ga K "_law_cut")) := He.glo_ok X G (f_68 c)
theorem f_69 (c : SaysR fa fn K) : (He.Fa.glo "_law_at").ok K = true := c.at 69 (f := .f (.glo "_law_at"))
theorem g_69 (X : K.In base) (G : base.Ns mainGlobals mg) (c : SaysR fa fn K) : mg "_law_at" = some (.ref (He.ga K "_law_at")) := He.glo_ok X G (f_69 c)
theorem f_70 (c : SaysR fa fn K) : (He.Fa.glo "_law_through").ok K = true := c.at 70 (f := .f (.glo "_law_through"))
theorem g_70 (X : K.In base) (G : base.Ns mainGlobals mg) (c : SaysR fa fn K) : mg "_law_through" = some (.ref (He.ga K "_law_through")) := He.glo_ok X G (f_70 c)
theorem f_71 (c : SaysR fa fn K) : (He.Fa.glo "_law_goesround").ok K = true := c.at 71 (f := .f (.glo "_law_goesround"))
theorem g_71 (X : K.In base) (G : base.Ns mainGlobals mg) (c : SaysR fa fn K) : mg "_law_goesround" = some (.ref (He.ga K "_law_goesround")) := He.glo_ok X G (f_71 c)
theorem f_72 (c : SaysR fa fn K) : (He.Fa.glo "_law_linear").ok K = true := c.at 72 (f := .f (.glo "_law_linear"))
theorem g_72 (X : K.In base) (G : base.Ns mainGlobals mg) (c : SaysR fa fn K) : mg "_law_linear" = some (.ref (He.ga K "_law_linear")) := He.glo_ok X G (f_72 c)
theorem f_73 (c : SaysR fa fn K) : (He.Fa.glo "_law_patched").ok K = true := c.at 73 (f := .f (.glo "_law_patched"))
theorem g_73 (X : K.In base) (G : base.Ns mainGlobals mg) (c : SaysR fa fn K) : mg "_law_patched" = some (.ref (He.ga K "_law_patched")) := He.glo_ok X G (f_73 c)
theorem f_74 (c : SaysR fa fn K) : (He.Fa.glo "_law_rowof").ok K = true := c.at 74 (f := .f (.glo "_law_rowof"))
theorem g_74 (X : K.In base) (G : base.Ns mainGlobals mg) (c : SaysR fa fn K) : mg "_law_rowof" = some (.ref (He.ga K "_law_rowof")) := He.glo_ok X G (f_74 c)
theorem f_75 (c : SaysR fa fn K) : (He.Fa.glo "_law_same").ok K = true := c.at 75 (f := .f (.glo "_law_same"))
theorem g_75 (X : K.In base) (G : base.Ns mainGlobals mg) (c : SaysR fa fn K) : mg "_law_same" = some (.ref (He.ga K "_law_same")) := He.glo_ok X G (f_75 c)
theorem f_76 (c : SaysR fa fn K) : (He.Fa.glo "_law_copy").ok K = true := c.at 76 (f := .f (.glo "_law_copy"))
theorem g_76 (X : K.In base) (G : base.Ns mainGlobals mg) (c : SaysR fa fn K) : mg "_law_copy" = some (.ref (He.ga K "_law_copy")) := He.glo_ok X G (f_76 c)
theorem f_77 (c : SaysR fa fn K) : (He.Fa.glo "_law_kindbent").ok K = true := c.at 77 (f := .f (.glo "_law_kindbent"))
theorem g_77 (X : K.In base) (G : base.Ns mainGlobals mg) (c : SaysR fa fn K) : mg "_law_kindbent" = some (.ref (He.ga K "_law_kindbent")) := He.glo_ok X G (f_77 c)
theorem f_78 (c : SaysR fa fn K) : (He.Fa.glo "_law_ringpaper").ok K = true := c.at 78 (f := .f (.glo "_law_ringpaper"))
theorem g_78 (X : K.In base) (G : base.Ns mainGlobals mg) (c : SaysR fa fn K) : mg "_law_ringpaper" = some (.ref (He.ga K "_law_ringpaper")) := He.glo_ok X G (f_78 c)
theorem f_79 (c : SaysR fa fn K) : (He.Fa.glo "_law_cycle").ok K = true := c.at 79 (f := .f (.glo "_law_cycle"))
theorem g_79 (X : K.In base) (G : base.Ns mainGlobals mg) (c : SaysR fa fn K) : mg "_law_cycle" = some (.ref (He.ga K "_law_cycle")) := He.glo_ok X G (f_79 c)
theorem f_80 (c : SaysR fa fn K) : (He.Fa.glo "_law_localkind").ok K = true := c.at 80 (f := .f (.glo "_law_localkind"))
theorem g_80 (X : K.In base) (G : base.Ns mainGlobals mg) (c : SaysR fa fn K) : mg "_law_localkind" = some (.ref (He.ga K "_law_localkind")) := He.glo_ok X G (f_80 c)
theorem f_81 (c : SaysR fa fn K) : (He.Fa.glo "_law_maker").ok K = true := c.at 81 (f := .f (.glo "_law_maker"))
theorem g_81 (X : K.In base) (G : base.Ns mainGlobals mg) (c : SaysR fa fn K) : mg "_law_maker" = some (.ref (He.ga K "_law_maker")) := He.glo_ok X G (f_81 c)
theorem f_82 (c : SaysR fa fn K) : (He.Fa.glo "_law_vast").ok K = true := c.at 82 (f := .f (.glo "_law_vast"))
theorem g_82 (X : K.In base) (G : base.Ns mainGlobals mg) (c : SaysR fa fn K) : mg "_law_vast" = some (.ref (He.ga K "_law_vast")) := He.glo_ok X G (f_82 c)
theorem f_83 (c : SaysR fa fn K) : (He.Fa.glo "_law_allround").ok K = true := c.at 83 (f := .f (.glo "_law_allround"))
theorem g_83 (X : K.In base) (G : base.Ns mainGlobals mg) (c : SaysR fa fn K) : mg "_law_allround" = some (.ref (He.ga K "_law_allround")) := He.glo_ok X G (f_83 c)
theorem f_84 (c : SaysR fa fn K) : (He.Fa.glo "_law_twist").ok K = true := c.at 84 (f := .f (.glo "_law_twist"))
theorem g_84 (X : K.In base) (G : base.Ns mainGlobals mg) (c : SaysR fa fn K) : mg "_law_twist" = some (.ref (He.ga K "_law_twist")) := He.glo_ok X G (f_84 c)
theorem f_85 (c : SaysR fa fn K) : (He.Fa.glo "_law_judged").ok K = true := c.at 85 (f := .f (.glo "_law_judged"))
theorem g_85 (X : K.In base) (G : base.Ns mainGlobals mg) (c : SaysR fa fn K) : mg "_law_judged" = some (.ref (He.ga K "_law_judged")) := He.glo_ok X G (f_85 c)
theorem f_86 (c : SaysR fa fn K) : (He.Fa.glo "_law_refusal").ok K = true := c.at 86 (f := .f (.glo "_law_refusal"))
theorem g_86 (X : K.In base) (G : base.Ns mainGlobals mg) (c : SaysR fa fn K) : mg "_law_refusal" = some (.ref (He.ga K "_law_refusal")) := He.glo_ok X G (f_86 c)
theorem f_87 (c : SaysR fa fn K) : (He.Fa.glo "law").ok K = true := c.at 87 (f := .f (.glo "law"))
theorem g_87 (X : K.In base) (G : base.Ns mainGlobals mg) (c : SaysR fa fn K) : mg "law" = some (.ref (He.ga K "law")) := He.glo_ok X G (f_87 c)
theorem f_88 (c : SaysR fa fn K) : (He.Fa.glo "_law_open").ok K = true := c.at 88 (f := .f (.glo "_law_open"))
theorem g_88 (X : K.In base) (G : base.Ns mainGlobals mg) (c : SaysR fa fn K) : mg "_law_open" = some (.ref (He.ga K "_law_open")) := He.glo_ok X G (f_88 c)
theorem sc_within : FnScope ["x", "low", "high"] ["x", "low", "high"] (defScope (top 8)) := ⟨rfl, rfl, rfl, by decide +kernel, rfl, by decide +kernel, by decide +kernel⟩
theorem w_within (X0 : K.In base) (G0 : base.Ns mainGlobals mg) (c : SaysR fa fn K) : BodyOk P w K mg base ["x", "low", "high"] "within" (top 8) 0 (d_within K) := by
  intro f cdv A outer s H E hr tk po
  unfold d_within
  exact (dss_one (ds_ret (de_and (de_isi .int (by decide +kernel) (g_0 X0 G0 c) (g_1 X0 G0 c) (de_var 0)) (de_and (de_not (de_isi .bool (by decide +kernel) (g_2 X0 G0 c) (g_1 X0 G0 c) (de_var 0))) (de_one (de_lele (de_var 1) (de_var 0) (de_var 2)))))))
theorem sc_factors : FnScope ["m", "pairs", "rest", "p", "most", "e"] ["m"] (defScope (top 12)) := ⟨rfl, rfl, rfl, by decide +kernel, rfl, by decide +kernel, by decide +kernel⟩
theorem w_factors (X0 : K.In base) (G0 : base.Ns mainGlobals mg) (c : SaysR fa fn K) (o_within : Ok P w K mg base 1 "within" 3 (sp_within K)) : BodyOk P w K mg base ["m", "pairs", "rest", "p", "most", "e"] "factors" (top 12) 1 (d_factors K) := by
  intro f cdv A outer s H E hr tk po
  unfold d_factors
  exact (dss_cons (ds_if (dt_not (dt_val (de_fn o_within hr tk (da_cons (de_var 0) (da_cons de_int (da_cons (de_globD (g_6 X0 G0 c)) da_nil))))))
  (dss_one (ds_raise rfl tk (exk_ok X0 G0 (f_3 c) (f_4 c))))
  dss_nil)
  (dss_cons (ds_setO (i := 1) sc_factors.nd (de_lst da_nil))
  (dss_cons (ds_set (i := 2) sc_factors.nd (de_var 0))
  (dss_cons (ds_for (tg0 := (.tp [3, 4])) po rfl (di_tup (de_globD (g_5 X0 G0 c))) (pg_tup rfl (pgs_cons (pg_name (i := 3) sc_factors.nd rfl (by first | exact Or.inl rfl | exact Or.inr rfl)) (pgs_cons (pg_name (i := 4) sc_factors.nd rfl (by first | exact Or.inl rfl | exact Or.inr rfl)) pgs_nil)))
  (dss_cons (ds_set (i := 5) sc_factors.nd de_int)
  (dss_cons (ds_while po (dt_eq (huOf hr) (de_mod (de_var 2) (de_var 3)) de_int)
  (dss_cons (ds_set (i := 2) sc_factors.nd (de_div (de_var 2) (de_var 3)))
  (dss_one (ds_aug (i := 5) sc_factors.nd de_int ip_add))))
  (dss_cons (ds_if (dt_gt (de_var 5) (de_var 4))
  (dss_one (ds_raise rfl tk (exk_ok X0 G0 (f_3 c) (f_4 c))))
  dss_nil)
  (dss_one (ds_if (dt_gt (de_var 5) de_int)
  (dss_one (ds_app (i := 1) (de_tup (da_cons (de_var 3) (da_cons (de_var 5) da_nil))) (hcall := pe_bm PySem.F.plainAttrs_list PySem.F.slot_list_append PySem.F.type_list_append mt_append)))
  dss_nil))))))
  (dss_cons (ds_if (dt_ne (huOf hr) (de_var 2) de_int)
  (dss_one (ds_raise rfl tk (exk_ok X0 G0 (f_3 c) (f_4 c))))
  dss_nil)
  (dss_one (ds_retO 1)))))))
theorem sc_check_modulus : FnScope ["m"] ["m"] (defScope (top 13)) := ⟨rfl, rfl, rfl, by decide +kernel, rfl, by decide +kernel, by decide +kernel⟩
theorem w_check_modulus (X0 : K.In base) (G0 : base.Ns mainGlobals mg) (c : SaysR fa fn K) (o_factors : Ok P w K mg base 2 "factors" 1 (sp_factors K)) : BodyOk P w K mg base ["m"] "check_modulus" (top 13) 2 (d_check_modulus K) := by
  intro f cdv A outer s H E hr tk po
  unfold d_check_modulus
  exact (dss_one (ds_drop (de_fn o_factors hr tk (da_cons (de_var 0) da_nil))))
theorem sc_is_bounded : FnScope ["number", "most"] ["number", "most"] (defScope (top 17)) := ⟨rfl, rfl, rfl, by decide +kernel, rfl, by decide +kernel, by decide +kernel⟩
theorem w_is_bounded (X0 : K.In base) (G0 : base.Ns mainGlobals mg) (c : SaysR fa fn K) : BodyOk P w K mg base ["number", "most"] "is_bounded" (top 17) 0 (d_is_bounded K) := by
  intro f cdv A outer s H E hr tk po
  unfold d_is_bounded
  exact (dss_cons (ds_if (PW.pt (dw_or (dt_val (de_isi .bool (by decide +kernel) (g_2 X0 G0 c) (g_1 X0 G0 c) (de_var 0))) (dw_or1 (dt_not (dt_val (de_isi .int (by decide +kernel) (g_0 X0 G0 c) (g_1 X0 G0 c) (de_var 0)))))))
  (dss_one (ds_ret de_bl))
  dss_nil)
  (dss_one (ds_ret (de_lele (de_neg (de_var 1)) (de_var 0) (de_var 1)))))
theorem sc_are_bounded : FnScope ["row", "count", "most", "entry"] ["row", "count", "most"] (defScope (top 18)) := ⟨rfl, rfl, rfl, by decide +kernel, rfl, by decide +kernel, by decide +kernel⟩
theorem w_are_bounded (X0 : K.In base) (G0 : base.Ns mainGlobals mg) (c : SaysR fa fn K) (o_is_bounded : Ok P w K mg base 1 "is_bounded" 2 (sp_is_bounded K)) : BodyOk P w K mg base ["row", "count", "most", "entry"] "are_bounded" (top 18) 1 (d_are_bounded K) := by
  intro f cdv A outer s H E hr tk po
  unfold d_are_bounded
  exact (dss_cons (ds_if (PW.pt (dw_or (dt_not (dt_val (de_isi .list (by decide +kernel) (g_7 X0 G0 c) (g_1 X0 G0 c) (de_var 0)))) (dw_or1 (dt_gt (de_b1 call_len (by decide +kernel) o1_len (g_8 X0 G0 c) (de_var 0)) (de_var 1)))))
  (dss_one (ds_ret de_bl))
  dss_nil)
  (dss_cons (ds_for (tg0 := (.nm 3)) po rfl (di_lst (de_var 0)) (pg_name (i := 3) sc_are_bounded.nd rfl (by first | exact Or.inl rfl | exact Or.inr rfl))
  (dss_one (ds_if (dt_not (dt_val (de_fn o_is_bounded hr tk (da_cons (de_var 3) (da_cons (de_var 2) da_nil)))))
  (dss_one (ds_ret de_bl))
  dss_nil)))
  (dss_one (ds_ret de_bl))))
theorem sc_check_poly : FnScope ["f"] ["f"] (defScope (top 19)) := ⟨rfl, rfl, rfl, by decide +kernel, rfl, by decide +kernel, by decide +kernel⟩
theorem w_check_poly (X0 : K.In base) (G0 : base.Ns mainGlobals mg) (c : SaysR fa fn K) (o_are_bounded : Ok P w K mg base 2 "are_bounded" 3 (sp_are_bounded K)) : BodyOk P w K mg base ["f"] "check_poly" (top 19) 2 (d_check_poly K) := by
  intro f cdv A outer s H E hr tk po
  unfold d_check_poly
  exact (dss_cons (ds_if (dt_not (dt_val (de_fn o_are_bounded hr tk (da_cons (de_var 0) (da_cons (de_globD (g_12 X0 G0 c)) (da_cons (de_globD (g_11 X0 G0 c)) da_nil))))))
  (dss_one (ds_raise rfl tk (exk_ok X0 G0 (f_9 c) (f_10 c))))
  dss_nil)
  (dss_one (ds_if (PW.pt (dw_and (dt_gt (de_b1 call_len (by decide +kernel) o1_len (g_8 X0 G0 c) (de_var 0)) de_int) (dw_and1 (dt_eq (huOf hr) (de_ix (de_var 0) (de_neg de_int) (fun _ _ => rfl)) de_int))))
  (dss_one (ds_raise rfl tk (exk_ok X0 G0 (f_9 c) (f_10 c))))
  dss_nil)))
theorem sc_is_plain : FnScope ["x"] ["x"] (defScope (top 21)) := ⟨rfl, rfl, rfl, by decide +kernel, rfl, by decide +kernel, by decide +kernel⟩
theorem w_is_plain (X0 : K.In base) (G0 : base.Ns mainGlobals mg) (c : SaysR fa fn K) : BodyOk P w K mg base ["x"] "is_plain" (top 21) 0 (d_is_plain K) := by
  intro f cdv A outer s H E hr tk po
  unfold d_is_plain
  exact (dss_one (ds_ret (de_and (de_isi .int (by decide +kernel) (g_0 X0 G0 c) (g_1 X0 G0 c) (de_var 0)) (de_one (de_not (de_isi .bool (by decide +kernel) (g_2 X0 G0 c) (g_1 X0 G0 c) (de_var 0)))))))
theorem sc_reduced : FnScope ["f", "m", "c"] ["f", "m"] (defScope (top 22)) := ⟨rfl, rfl, rfl, by decide +kernel, rfl, by decide +kernel, by decide +kernel⟩
theorem w_reduced (X0 : K.In base) (G0 : base.Ns mainGlobals mg) (c : SaysR fa fn K) : BodyOk P w K mg base ["f", "m", "c"] "reduced" (top 22) 0 (d_reduced K) := by
  intro f cdv A outer s H E hr tk po
  unfold d_reduced
  exact (dss_one (ds_ret (de_lc (tg0 := (.nm 2)) (own := [("c", 2)]) (by decide) rfl sc_reduced.nd (lIV_of (di_lst (de_var 0))) (show BlkOk ["f", "m", "c"] (defScope (top 22)) _ _ from ⟨rfl, by decide +kernel, by decide +kernel, by decide +kernel, by decide +kernel⟩) (fun _ _ _ _ _ => (pg_name (i := 2) sc_reduced.nd rfl (by first | exact Or.inl rfl | exact Or.inr rfl))) (fun _ _ _ _ _ => dts_nil) (fun _ _ _ _ _ => (de_mod (de_var 2) (de_var 1))))))
theorem sc_step_by : FnScope ["entries", "m", "x", "total", "c"] ["entries", "m", "x"] (defScope (top 23)) := ⟨rfl, rfl, rfl, by decide +kernel, rfl, by decide +kernel, by decide +kernel⟩
theorem w_step_by (X0 : K.In base) (G0 : base.Ns mainGlobals mg) (c : SaysR fa fn K) : BodyOk P w K mg base ["entries", "m", "x", "total", "c"] "step_by" (top 23) 0 (d_step_by K) := by
  intro f cdv A outer s H E hr tk po
  unfold d_step_by
  exact (dss_cons (ds_set (i := 3) sc_step_by.nd de_int)
  (dss_cons (ds_for (tg0 := (.nm 4)) po rfl (di_lst (de_rev (de_var 0))) (pg_name (i := 4) sc_step_by.nd rfl (by first | exact Or.inl rfl | exact Or.inr rfl))
  (dss_one (ds_set (i := 3) sc_step_by.nd (de_mod (de_add (de_mul (de_var 3) (de_var 2)) (de_var 4)) (de_var 1)))))
  (dss_one (ds_ret (de_var 3)))))
theorem sc_path_from : FnScope ["entries", "m", "start", "many", "path"] ["entries", "m", "start", "many"] (defScope (top 24)) := ⟨rfl, rfl, rfl, by decide +kernel, rfl, by decide +kernel, by decide +kernel⟩
theorem w_path_from (X0 : K.In base) (G0 : base.Ns mainGlobals mg) (c : SaysR fa fn K) (o_step_by : Ok P w K mg base 1 "step_by" 3 (sp_step_by K)) : BodyOk P w K mg base ["entries", "m", "start", "many", "path"] "path_from" (top 24) 1 (d_path_from K) := by
  intro f cdv A outer s H E hr tk po
  unfold d_path_from
  exact (dss_cons (ds_setO (i := 4) sc_path_from.nd (de_lst (da_cons (de_var 2) da_nil)))
  (dss_cons (ds_while po (dt_lt (de_b1 call_len (by decide +kernel) o1_len (g_8 X0 G0 c) (de_var 4)) (de_var 3))
  (dss_one (ds_app (i := 4) (de_fn o_step_by hr tk (da_cons (de_var 0) (da_cons (de_var 1) (da_cons (de_ix (de_var 4) (de_neg de_int) (fun _ _ => rfl)) da_nil)))) (hcall := pe_bm PySem.F.plainAttrs_list PySem.F.slot_list_append PySem.F.type_list_append mt_append))))
  (dss_one (ds_retO 4))))
theorem sc_slope_by : FnScope ["f", "p", "k"] ["f", "p"] (defScope (top 26)) := ⟨rfl, rfl, rfl, by decide +kernel, rfl, by decide +kernel, by decide +kernel⟩
theorem w_slope_by (X0 : K.In base) (G0 : base.Ns mainGlobals mg) (c : SaysR fa fn K) : BodyOk P w K mg base ["f", "p", "k"] "slope_by" (top 26) 0 (d_slope_by K) := by
  intro f cdv A outer s H E hr tk po
  unfold d_slope_by
  exact (dss_one (ds_ret (de_lc (tg0 := (.nm 2)) (own := [("k", 2)]) (by decide) rfl sc_slope_by.nd (lIV_of (di_rng2 (g_13 X0 G0 c) de_int (de_b1 call_len (by decide +kernel) o1_len (g_8 X0 G0 c) (de_var 0)))) (show BlkOk ["f", "p", "k"] (defScope (top 26)) _ _ from ⟨rfl, by decide +kernel, by decide +kernel, by decide +kernel, by decide +kernel⟩) (fun _ _ _ _ _ => (pg_name (i := 2) sc_slope_by.nd rfl (by first | exact Or.inl rfl | exact Or.inr rfl))) (fun _ _ _ _ _ => dts_nil) (fun _ _ _ _ _ => (de_mod (de_mul (de_var 2) (de_ix (de_var 0) (de_var 2) (fun _ _ => rfl))) (de_var 1))))))
theorem sc_product_over : FnScope ["slopes", "p", "residues", "product", "x"] ["slopes", "p", "residues"] (defScope (top 27)) := ⟨rfl, rfl, rfl, by decide +kernel, rfl, by decide +kernel, by decide +kernel⟩
theorem w_product_over (X0 : K.In base) (G0 : base.Ns mainGlobals mg) (c : SaysR fa fn K) (o_step_by : Ok P w K mg base 1 "step_by" 3 (sp_step_by K)) : BodyOk P w K mg base ["slopes", "p", "residues", "product", "x"] "product_over" (top 27) 1 (d_product_over K) := by
  intro f cdv A outer s H E hr tk po
  unfold d_product_over
  exact (dss_cons (ds_set (i := 3) sc_product_over.nd de_int)
  (dss_cons (ds_for (tg0 := (.nm 4)) po rfl (di_lst (de_var 2)) (pg_name (i := 4) sc_product_over.nd rfl (by first | exact Or.inl rfl | exact Or.inr rfl))
  (dss_one (ds_set (i := 3) sc_product_over.nd (de_mod (de_mul (de_var 3) (de_fn o_step_by hr tk (da_cons (de_var 0) (da_cons (de_var 1) (da_cons (de_var 4) da_nil))))) (de_var 1)))))
  (dss_one (ds_ret (de_var 3)))))
theorem sc_power_of : FnScope ["p", "k", "q", "spare"] ["p", "k"] (defScope (top 28)) := ⟨rfl, rfl, rfl, by decide +kernel, rfl, by decide +kernel, by decide +kernel⟩
theorem w_power_of (X0 : K.In base) (G0 : base.Ns mainGlobals mg) (c : SaysR fa fn K) : BodyOk P w K mg base ["p", "k", "q", "spare"] "power_of" (top 28) 0 (d_power_of K) := by
  intro f cdv A outer s H E hr tk po
  unfold d_power_of
  exact (dss_cons (ds_set (i := 2) sc_power_of.nd (de_var 0))
  (dss_cons (ds_for (tg0 := (.nm 3)) po rfl (di_rng2 (g_13 X0 G0 c) de_int (de_var 1)) (pg_name (i := 3) sc_power_of.nd rfl (by first | exact Or.inl rfl | exact Or.inr rfl))
  (dss_one (ds_set (i := 2) sc_power_of.nd (de_mul (de_var 2) (de_var 0)))))
  (dss_one (ds_ret (de_var 2)))))
theorem sc_small_power : FnScope ["p", "e", "cap"] ["p", "e"] (defScope (top 29)) := ⟨rfl, rfl, rfl, by decide +kernel, rfl, by decide +kernel, by decide +kernel⟩
theorem w_small_power (X0 : K.In base) (G0 : base.Ns mainGlobals mg) (c : SaysR fa fn K) (o_power_of : Ok P w K mg base 1 "power_of" 2 (sp_power_of K)) : BodyOk P w K mg base ["p", "e", "cap"] "small_power" (top 29) 1 (d_small_power K) := by
  intro f cdv A outer s H E hr tk po
  unfold d_small_power
  exact (dss_cons (ds_set (i := 2) sc_small_power.nd (de_if (dt_le (de_var 0) de_int) de_int de_int))
  (dss_one (ds_ret (de_fn o_power_of hr tk (da_cons (de_var 0) (da_cons (de_b2 (call_min2 rfl) (by decide +kernel) o2_min (g_14 X0 G0 c) (de_var 1) (de_var 2)) da_nil))))))
theorem sc_ring_entry : FnScope ["f", "p", "q", "path"] ["f", "p", "q"] (defScope (top 30)) := ⟨rfl, rfl, rfl, by decide +kernel, rfl, by decide +kernel, by decide +kernel⟩
theorem w_ring_entry (X0 : K.In base) (G0 : base.Ns mainGlobals mg) (c : SaysR fa fn K) (o_path_from : Ok P w K mg base 2 "path_from" 4 (sp_path_from K)) (o_reduced : Ok P w K mg base 1 "reduced" 2 (sp_reduced K)) : BodyOk P w K mg base ["f", "p", "q", "path"] "ring_entry" (top 30) 2 (d_ring_entry K) := by
  intro f cdv A outer s H E hr tk po
  unfold d_ring_entry
  exact (dss_cons (ds_set (i := 3) sc_ring_entry.nd (de_fn o_path_from hr tk (da_cons (de_fn o_reduced hr tk (da_cons (de_var 0) (da_cons (de_var 2) da_nil))) (da_cons (de_var 2) (da_cons de_int (da_cons (de_add (de_b2 (call_max2 rfl) (by decide +kernel) o2_max (g_15 X0 G0 c) (de_var 1) (de_div (de_var 2) (de_var 1))) de_int) da_nil))))))
  (dss_one (ds_ret (de_tup (da_cons (de_var 1) (da_cons (de_var 2) (da_cons (de_sl (de_var 3) do_none (do_some (de_neg de_int))) (da_cons (de_ix (de_var 3) (de_neg de_int) (fun _ _ => rfl)) da_nil))))))))
theorem sc_broken_at : FnScope ["f", "entry", "path", "p", "q", "cells", "last", "x"] ["f", "entry"] (defScope (top 31)) := ⟨rfl, rfl, rfl, by decide +kernel, rfl, by decide +kernel, by decide +kernel⟩
theorem w_broken_at (X0 : K.In base) (G0 : base.Ns mainGlobals mg) (c : SaysR fa fn K) (o_product_over : Ok P w K mg base 2 "product_over" 3 (sp_product_over K)) (o_slope_by : Ok P w K mg base 1 "slope_by" 2 (sp_slope_by K)) : BodyOk P w K mg base ["f", "entry", "path", "p", "q", "cells", "last", "x"] "broken_at" (top 31) 2 (d_broken_at K) := by
  intro f cdv A outer s H E hr tk po
  unfold d_broken_at
  exact (dss_cons (ds_setT (is := [3, 4, 5, 6]) rfl (de_var 1) (pgs_cons (pg_name (i := 3) sc_broken_at.nd rfl (by first | exact Or.inl rfl | exact Or.inr rfl)) (pgs_cons (pg_name (i := 4) sc_broken_at.nd rfl (by first | exact Or.inl rfl | exact Or.inr rfl)) (pgs_cons (pg_name (i := 5) sc_broken_at.nd rfl (by first | exact Or.inl rfl | exact Or.inr rfl)) (pgs_cons (pg_name (i := 6) sc_broken_at.nd rfl (by first | exact Or.inl rfl | exact Or.inr rfl)) pgs_nil)))))
  (dss_cons (ds_set (i := 2) sc_broken_at.nd (de_add (de_var 5) (de_lst (da_cons (de_var 6) da_nil))))
  (dss_cons (ds_if (PW.pt (dw_or (dt_ne (huOf hr) (de_scLen (tg0 := (.nm 7)) (own := [("x", 7)]) (by decide) (g_8 X0 G0 c) rfl sc_broken_at.nd (lIV_of (di_lst (de_sl (de_var 5) do_none (do_some (de_var 3))))) (show BlkOk ["f", "entry", "path", "p", "q", "cells", "last", "x"] (defScope (top 31)) _ _ from ⟨rfl, by decide +kernel, by decide +kernel, by decide +kernel, by decide +kernel⟩) (fun _ _ _ _ _ => (pg_name (i := 7) sc_broken_at.nd rfl (by first | exact Or.inl rfl | exact Or.inr rfl))) (fun _ _ _ _ _ => (de_mod (de_var 7) (de_var 3)))) (de_var 3)) (dw_or1 (dt_ne (huOf hr) (de_mod (de_ix (de_var 2) (de_var 3) (fun _ _ => rfl)) (de_var 3)) de_int))))
  (dss_one (ds_ret de_int))
  dss_nil)
  (dss_cons (ds_if (dt_eq (huOf hr) (de_var 4) (de_var 3))
  (dss_one (ds_ret de_int))
  dss_nil)
  (dss_cons (ds_if (PW.pt (dw_or (dt_ne (huOf hr) (de_fn o_product_over hr tk (da_cons (de_fn o_slope_by hr tk (da_cons (de_var 0) (da_cons (de_var 3) da_nil))) (da_cons (de_var 3) (da_cons (de_sl (de_var 5) do_none (do_some (de_var 3))) da_nil)))) de_int) (dw_or1 (dt_eq (huOf hr) (de_mod (de_ix (de_var 2) (de_var 3) (fun _ _ => rfl)) (de_mul (de_var 3) (de_var 3))) de_int))))
  (dss_one (ds_ret de_int))
  dss_nil)
  (dss_cons (ds_if (PW.pt (dw_and (dt_gt (de_var 4) (de_mul (de_var 3) (de_var 3))) (dw_and1 (dt_eq (huOf hr) (de_var 6) de_int))))
  (dss_one (ds_ret de_int))
  dss_nil)
  (dss_one (ds_ret de_int))))))))
theorem sc_equal_plain : FnScope ["told", "due", "x", "y"] ["told", "due"] (defScope (top 32)) := ⟨rfl, rfl, rfl, by decide +kernel, rfl, by decide +kernel, by decide +kernel⟩
theorem w_equal_plain (X0 : K.In base) (G0 : base.Ns mainGlobals mg) (c : SaysR fa fn K) (o_is_plain : Ok P w K mg base 1 "is_plain" 1 (sp_is_plain K)) : BodyOk P w K mg base ["told", "due", "x", "y"] "equal_plain" (top 32) 1 (d_equal_plain K) := by
  intro f cdv A outer s H E hr tk po
  unfold d_equal_plain
  exact (dss_cons (ds_if (dt_ne (huOf hr) (de_b1 call_len (by decide +kernel) o1_len (g_8 X0 G0 c) (de_var 0)) (de_b1 call_len (by decide +kernel) o1_len (g_8 X0 G0 c) (de_var 1)))
  (dss_one (ds_ret de_bl))
  dss_nil)
  (dss_one (ds_ret (de_b1 (cr_all rfl) (by decide +kernel) o1_all (g_17 X0 G0 c) (de_lc (tg0 := (.tp [2, 3])) (own := [("x", 2), ("y", 3)]) (by decide) rfl sc_equal_plain.nd (lIV_of (di_zip (g_16 X0 G0 c) (de_var 0) (de_var 1))) (show BlkOk ["told", "due", "x", "y"] (defScope (top 32)) _ _ from ⟨rfl, by decide +kernel, by decide +kernel, by decide +kernel, by decide +kernel⟩) (fun _ _ _ _ _ => (pg_tup rfl (pgs_cons (pg_name (i := 2) sc_equal_plain.nd rfl (by first | exact Or.inl rfl | exact Or.inr rfl)) (pgs_cons (pg_name (i := 3) sc_equal_plain.nd rfl (by first | exact Or.inl rfl | exact Or.inr rfl)) pgs_nil)))) (fun _ _ _ _ _ => dts_nil) (fun _ _ _ _ _ => (de_and (de_fn o_is_plain hr takes0 (da_cons (de_var 2) da_nil)) (de_one (de_eq (huOf hr) (de_var 2) (de_var 3))))))))))
theorem sc_equal_entry : FnScope ["told", "entry"] ["told", "entry"] (defScope (top 33)) := ⟨rfl, rfl, rfl, by decide +kernel, rfl, by decide +kernel, by decide +kernel⟩
theorem w_equal_entry (X0 : K.In base) (G0 : base.Ns mainGlobals mg) (c : SaysR fa fn K) (o_equal_plain : Ok P w K mg base 2 "equal_plain" 2 (sp_equal_plain K)) : BodyOk P w K mg base ["told", "entry"] "equal_entry" (top 33) 2 (d_equal_entry K) := by
  intro f cdv A outer s H E hr tk po
  unfold d_equal_entry
  exact (dss_cons (ds_if (PW.pt (dw_or (dt_not (dt_val (de_isi .tuple (by decide +kernel) (g_18 X0 G0 c) (g_1 X0 G0 c) (de_var 0)))) (dw_or1 (dt_ne (huOf hr) (de_b1 call_len (by decide +kernel) o1_len (g_8 X0 G0 c) (de_var 0)) de_int))))
  (dss_one (ds_ret de_bl))
  dss_nil)
  (dss_cons (ds_if (PW.pt (dw_or (dt_not (dt_val (de_isi .list (by decide +kernel) (g_7 X0 G0 c) (g_1 X0 G0 c) (de_ix (de_var 0) de_int (fun _ _ => rfl))))) (dw_or1 (dt_not (dt_val (de_fn o_equal_plain hr tk (da_cons (de_ix (de_var 0) de_int (fun _ _ => rfl)) (da_cons (de_ix (de_var 1) de_int (fun _ _ => rfl)) da_nil))))))))
  (dss_one (ds_ret de_bl))
  dss_nil)
  (dss_one (ds_ret (de_fn o_equal_plain hr tk (da_cons (de_lst (da_cons (de_ix (de_var 0) de_int (fun _ _ => rfl)) (da_cons (de_ix (de_var 0) de_int (fun _ _ => rfl)) (da_cons (de_ix (de_var 0) de_int (fun _ _ => rfl)) da_nil)))) (da_cons (de_lst (da_cons (de_ix (de_var 1) de_int (fun _ _ => rfl)) (da_cons (de_ix (de_var 1) de_int (fun _ _ => rfl)) (da_cons (de_ix (de_var 1) de_int (fun _ _ => rfl)) da_nil)))) da_nil)))))))
theorem sc_shows_ring : FnScope ["f", "m", "paper", "pairs", "told", "entry", "p", "e"] ["f", "m", "paper"] (defScope (top 34)) := ⟨rfl, rfl, rfl, by decide +kernel, rfl, by decide +kernel, by decide +kernel⟩
theorem w_shows_ring (X0 : K.In base) (G0 : base.Ns mainGlobals mg) (c : SaysR fa fn K) (o_equal_entry : Ok P w K mg base 3 "equal_entry" 2 (sp_equal_entry K)) (o_broken_at : Ok P w K mg base 3 "broken_at" 2 (sp_broken_at K)) (o_ring_entry : Ok P w K mg base 3 "ring_entry" 3 (sp_ring_entry K)) (o_small_power : Ok P w K mg base 2 "small_power" 2 (sp_small_power K)) (o_factors : Ok P w K mg base 2 "factors" 1 (sp_factors K)) (o_check_modulus : Ok P w K mg base 3 "check_modulus" 1 (sp_check_modulus K)) (o_check_poly : Ok P w K mg base 3 "check_poly" 1 (sp_check_poly K)) : BodyOk P w K mg base ["f", "m", "paper", "pairs", "told", "entry", "p", "e"] "shows_ring" (top 34) 3 (d_shows_ring K) := by
  intro f cdv A outer s H E hr tk po
  unfold d_shows_ring
  exact (dss_cons (ds_drop (de_fn o_check_poly hr tk (da_cons (de_var 0) da_nil)))
  (dss_cons (ds_drop (de_fn o_check_modulus hr tk (da_cons (de_var 1) da_nil)))
  (dss_cons (ds_set (i := 3) sc_shows_ring.nd (de_fn o_factors hr tk (da_cons (de_var 1) da_nil)))
  (dss_cons (ds_if (PW.pt (dw_or (dt_not (dt_val (de_isi .list (by decide +kernel) (g_7 X0 G0 c) (g_1 X0 G0 c) (de_var 2)))) (dw_or1 (dt_ne (huOf hr) (de_b1 call_len (by decide +kernel) o1_len (g_8 X0 G0 c) (de_var 2)) (de_b1 call_len (by decide +kernel) o1_len (g_8 X0 G0 c) (de_var 3))))))
  (dss_one (ds_ret de_bl))
  dss_nil)
  (dss_cons (ds_for (tg0 := (.tq 4 [6, 7])) po rfl (di_zip (g_16 X0 G0 c) (de_var 2) (de_var 3)) (pg_tup rfl (pgs_cons (pg_name (i := 4) sc_shows_ring.nd rfl (by first | exact Or.inl rfl | exact Or.inr rfl)) (pgs_cons (pg_tup rfl (pgs_cons (pg_name (i := 6) sc_shows_ring.nd rfl (by first | exact Or.inl rfl | exact Or.inr rfl)) (pgs_cons (pg_name (i := 7) sc_shows_ring.nd rfl (by first | exact Or.inl rfl | exact Or.inr rfl)) pgs_nil))) pgs_nil)))
  (dss_cons (ds_set (i := 5) sc_shows_ring.nd (de_fn o_ring_entry hr tk (da_cons (de_var 0) (da_cons (de_var 6) (da_cons (de_fn o_small_power hr tk (da_cons (de_var 6) (da_cons (de_var 7) da_nil))) da_nil)))))
  (dss_one (ds_if (PW.pt (dw_or (dt_not (dt_val (de_fn o_equal_entry hr tk (da_cons (de_var 4) (da_cons (de_var 5) da_nil))))) (dw_or1 (dt_gt (de_fn o_broken_at hr tk (da_cons (de_var 0) (da_cons (de_var 5) da_nil))) de_int))))
  (dss_one (ds_ret de_bl))
  dss_nil))))
  (dss_one (ds_ret de_bl)))))))
theorem sc__law_mixed : FnScope ["number", "turn", "prime", "first", "second", "third"] ["number", "turn"] (defScope (top 36)) := ⟨rfl, rfl, rfl, by decide +kernel, rfl, by decide +kernel, by decide +kernel⟩
theorem w__law_mixed (X0 : K.In base) (G0 : base.Ns mainGlobals mg) (c : SaysR fa fn K) : BodyOk P w K mg base ["number", "turn", "prime", "first", "second", "third"] "_law_mixed" (top 36) 0 (d__law_mixed K) := by
  intro f cdv A outer s H E hr tk po
  unfold d__law_mixed
  exact (dss_cons (ds_set (i := 2) sc__law_mixed.nd de_int)
  (dss_cons (ds_set (i := 3) sc__law_mixed.nd (de_mod (de_t1 call_int1 (by decide +kernel) o1_int (g_0 X0 G0 c) (de_add (de_add (de_mul (de_add (de_var 0) de_int) de_int) (de_mul (de_var 1) de_int)) de_int)) (de_var 2)))
  (dss_cons (ds_set (i := 4) sc__law_mixed.nd (de_mod (de_t1 call_int1 (by decide +kernel) o1_int (g_0 X0 G0 c) (de_add (de_mul (de_xor (de_var 3) (de_shr (de_var 3) de_int)) de_int) (de_mul (de_var 1) de_int))) (de_var 2)))
  (dss_cons (ds_set (i := 5) sc__law_mixed.nd (de_mod (de_t1 call_int1 (by decide +kernel) o1_int (g_0 X0 G0 c) (de_add (de_mul (de_xor (de_var 4) (de_shr (de_var 4) de_int)) (de_or_ (de_var 4) de_int)) (de_var 3))) (de_var 2)))
  (dss_one (ds_ret (de_xor (de_var 5) (de_shr (de_var 5) de_int))))))))
theorem sc__law_take : FnScope ["store", "many", "rest", "cell"] ["store", "many"] (defScope (top 38)) := ⟨rfl, rfl, rfl, by decide +kernel, rfl, by decide +kernel, by decide +kernel⟩
theorem w__law_take (X0 : K.In base) (G0 : base.Ns mainGlobals mg) (c : SaysR fa fn K) (o__law_mixed : Ok P w K mg base 1 "_law_mixed" 2 (sp__law_mixed K)) : BodyOk P w K mg base ["store", "many", "rest", "cell"] "_law_take" (top 38) 1 (d__law_take K) := by
  intro f cdv A outer s H E hr tk po
  unfold d__law_take
  exact (dss_cons (ds_set (i := 1) sc__law_take.nd (de_b2 (call_max2 rfl) (by decide +kernel) o2_max (g_15 X0 G0 c) de_int (de_var 1)))
  (dss_cons (ds_stoS 0 (de_add (de_stoI 0) de_int))
  (dss_cut (ds_if (PW.pt (dw_and (dt_lt (de_stoI 0) de_int) (dw_and1 (dt_eq (huOf hr) (de_stoI 0) de_int))))
  (dss_cons (ds_stoS 0 (de_stoI 0))
  (dss_cons (ds_stoS 0 de_int)
  (dss_one (ds_stoC 0 (ic := 3) (g_8 X0 G0 c) (g_0 X0 G0 c) (dss_cons (ds_stoS 0 (de_add (de_stoI 0) de_int))
  (dss_cons (ds_stoS 0 (de_mod (de_var 3) de_int))
  (dss_cons (ds_stoS 0 de_int)
  (dss_one (ds_if (dt_ge (de_var 3) (de_pow de_int de_int))
  (dss_cons (ds_stoS 0 (de_var 3))
  (dss_one (ds_stoS 0 de_int)))
  dss_nil))))) sc__law_take.nd))))
  dss_nil)
  (dss_cons (ds_if (dt_gt (de_stoI 0) de_int)
  (dss_cons (ds_set (i := 2) sc__law_take.nd (de_t1 call_int1 (by decide +kernel) o1_int (g_0 X0 G0 c) (de_stoI 0)))
  (dss_cons (ds_stoS 0 (de_div (de_var 2) (de_var 1)))
  (dss_one (ds_ret (de_mod (de_var 2) (de_var 1))))))
  dss_nil)
  (dss_cons (ds_stoS 0 (de_sub (de_stoI 0) de_int))
  (dss_one (ds_ret (de_mod (de_t1 call_int1 (by decide +kernel) o1_int (g_0 X0 G0 c) (de_fn o__law_mixed hr tk (da_cons (de_stoI 0) (da_cons (de_stoI 0) da_nil)))) (de_var 1)))))))))
theorem sc__law_seldom : FnScope ["store", "many"] ["store", "many"] (defScope (top 39)) := ⟨rfl, rfl, rfl, by decide +kernel, rfl, by decide +kernel, by decide +kernel⟩
theorem w__law_seldom (X0 : K.In base) (G0 : base.Ns mainGlobals mg) (c : SaysR fa fn K) (o__law_take : Ok P w K mg base 2 "_law_take" 2 spTake) : BodyOk P w K mg base ["store", "many"] "_law_seldom" (top 39) 2 (d__law_seldom K) := by
  intro f cdv A outer s H E hr tk po
  unfold d__law_seldom
  exact (dss_one (ds_ret (de_eq (huOf hr) (de_fn o__law_take hr tk (da_cons (de_var 0) (da_cons (de_var 1) da_nil))) de_int)))
theorem sc__law_pick : FnScope ["store", "items"] ["store", "items"] (defScope (top 40)) := ⟨rfl, rfl, rfl, by decide +kernel, rfl, by decide +kernel, by decide +kernel⟩
theorem w__law_pick (X0 : K.In base) (G0 : base.Ns mainGlobals mg) (c : SaysR fa fn K) (o__law_take : Ok P w K mg base 2 "_law_take" 2 spTake) : BodyOk P w K mg base ["store", "items"] "_law_pick" (top 40) 2 (d__law_pick K) := by
  intro f cdv A outer s H E hr tk po
  unfold d__law_pick
  exact (dss_one (ds_ret (de_ix (de_var 1) (de_fn o__law_take hr tk (da_cons (de_var 0) (da_cons (de_b1 call_len (by decide +kernel) o1_len (g_8 X0 G0 c) (de_var 1)) da_nil))) (fun _ _ => rfl))))
theorem sc__law_power : FnScope ["base", "e", "number", "k"] ["base", "e"] (defScope (top 41)) := ⟨rfl, rfl, rfl, by decide +kernel, rfl, by decide +kernel, by decide +kernel⟩
theorem w__law_power (X0 : K.In base) (G0 : base.Ns mainGlobals mg) (c : SaysR fa fn K) : BodyOk P w K mg base ["base", "e", "number", "k"] "_law_power" (top 41) 0 (d__law_power K) := by
  intro f cdv A outer s H E hr tk po
  unfold d__law_power
  exact (dss_cons (ds_set (i := 2) sc__law_power.nd de_int)
  (dss_cons (ds_for (tg0 := (.nm 3)) po rfl (di_rng1 (g_13 X0 G0 c) (de_var 1)) (pg_name (i := 3) sc__law_power.nd rfl (by first | exact Or.inl rfl | exact Or.inr rfl))
  (dss_one (ds_set (i := 2) sc__law_power.nd (de_mul (de_var 2) (de_var 0)))))
  (dss_one (ds_ret (de_var 2)))))
theorem sc__law_undone : FnScope ["a", "w", "big", "low", "one", "two", "part", "rest"] ["a", "w"] (defScope (top 42)) := ⟨rfl, rfl, rfl, by decide +kernel, rfl, by decide +kernel, by decide +kernel⟩
theorem w__law_undone (X0 : K.In base) (G0 : base.Ns mainGlobals mg) (c : SaysR fa fn K) : BodyOk P w K mg base ["a", "w", "big", "low", "one", "two", "part", "rest"] "_law_undone" (top 42) 0 (d__law_undone K) := by
  intro f cdv A outer s H E hr tk po
  unfold d__law_undone
  exact (dss_cons (ds_set (i := 2) sc__law_undone.nd (de_mod (de_t1 call_int1 (by decide +kernel) o1_int (g_0 X0 G0 c) (de_var 0)) (de_var 1)))
  (dss_cons (ds_set (i := 3) sc__law_undone.nd (de_var 1))
  (dss_cons (ds_set (i := 4) sc__law_undone.nd de_int)
  (dss_cons (ds_set (i := 5) sc__law_undone.nd de_int)
  (dss_cons (ds_while po (dt_gt (de_var 3) de_int)
  (dss_cons (ds_set (i := 6) sc__law_undone.nd (de_div (de_var 2) (de_var 3)))
  (dss_cons (ds_set (i := 7) sc__law_undone.nd (de_sub (de_var 2) (de_mul (de_var 6) (de_var 3))))
  (dss_cons (ds_set (i := 2) sc__law_undone.nd (de_var 3))
  (dss_cons (ds_set (i := 3) sc__law_undone.nd (de_var 7))
  (dss_cons (ds_set (i := 7) sc__law_undone.nd (de_sub (de_var 4) (de_mul (de_var 6) (de_var 5))))
  (dss_cons (ds_set (i := 4) sc__law_undone.nd (de_var 5))
  (dss_one (ds_set (i := 5) sc__law_undone.nd (de_var 7))))))))))
  (dss_one (ds_ret (de_mod (de_t1 call_int1 (by decide +kernel) o1_int (g_0 X0 G0 c) (de_var 4)) (de_var 1)))))))))
theorem sc__law_chinese : FnScope ["pairs", "number", "size", "a", "s"] ["pairs"] (defScope (top 43)) := ⟨rfl, rfl, rfl, by decide +kernel, rfl, by decide +kernel, by decide +kernel⟩
theorem w__law_chinese (X0 : K.In base) (G0 : base.Ns mainGlobals mg) (c : SaysR fa fn K) (o__law_undone : Ok P w K mg base 1 "_law_undone" 2 (sp__law_undone K)) : BodyOk P w K mg base ["pairs", "number", "size", "a", "s"] "_law_chinese" (top 43) 1 (d__law_chinese K) := by
  intro f cdv A outer s H E hr tk po
  unfold d__law_chinese
  exact (dss_cons (ds_set (i := 1) sc__law_chinese.nd de_int)
  (dss_cons (ds_set (i := 2) sc__law_chinese.nd de_int)
  (dss_cons (ds_for (tg0 := (.tp [3, 4])) po rfl (di_lst (de_var 0)) (pg_tup rfl (pgs_cons (pg_name (i := 3) sc__law_chinese.nd rfl (by first | exact Or.inl rfl | exact Or.inr rfl)) (pgs_cons (pg_name (i := 4) sc__law_chinese.nd rfl (by first | exact Or.inl rfl | exact Or.inr rfl)) pgs_nil)))
  (dss_cons (ds_set (i := 1) sc__law_chinese.nd (de_add (de_var 1) (de_mul (de_var 2) (de_mod (de_t1 call_int1 (by decide +kernel) o1_int (g_0 X0 G0 c) (de_mul (de_sub (de_var 3) (de_var 1)) (de_fn o__law_undone hr tk (da_cons (de_var 2) (da_cons (de_var 4) da_nil))))) (de_var 4)))))
  (dss_one (ds_set (i := 2) sc__law_chinese.nd (de_mul (de_var 2) (de_var 4))))))
  (dss_one (ds_ret (de_var 1))))))
theorem sc__law_factors : FnScope ["m", "pairs", "rest", "p", "e"] ["m"] (defScope (top 44)) := ⟨rfl, rfl, rfl, by decide +kernel, rfl, by decide +kernel, by decide +kernel⟩
theorem w__law_factors (X0 : K.In base) (G0 : base.Ns mainGlobals mg) (c : SaysR fa fn K) : BodyOk P w K mg base ["m", "pairs", "rest", "p", "e"] "_law_factors" (top 44) 0 (d__law_factors K) := by
  intro f cdv A outer s H E hr tk po
  unfold d__law_factors
  exact (dss_cons (ds_setO (i := 1) sc__law_factors.nd (de_lst da_nil))
  (dss_cons (ds_set (i := 2) sc__law_factors.nd (de_var 0))
  (dss_cons (ds_for (tg0 := (.nm 3)) po rfl (di_lst (de_lst (da_cons de_int (da_cons de_int (da_cons de_int (da_cons de_int (da_cons de_int (da_cons de_int (da_cons de_int (da_cons de_int (da_cons de_int (da_cons de_int (da_cons de_int (da_cons de_int da_nil)))))))))))))) (pg_name (i := 3) sc__law_factors.nd rfl (by first | exact Or.inl rfl | exact Or.inr rfl))
  (dss_cons (ds_set (i := 4) sc__law_factors.nd de_int)
  (dss_cons (ds_while po (PW.pt (dw_and (dt_gt (de_var 2) de_int) (dw_and1 (dt_eq (huOf hr) (de_mod (de_t1 call_int1 (by decide +kernel) o1_int (g_0 X0 G0 c) (de_var 2)) (de_var 3)) de_int))))
  (dss_cons (ds_set (i := 2) sc__law_factors.nd (de_div (de_var 2) (de_var 3)))
  (dss_one (ds_set (i := 4) sc__law_factors.nd (de_add (de_var 4) de_int)))))
  (dss_one (ds_if (dt_gt (de_var 4) de_int)
  (dss_one (ds_app (i := 1) (de_tup (da_cons (de_var 3) (da_cons (de_var 4) da_nil))) (hcall := pe_bm PySem.F.plainAttrs_list PySem.F.slot_list_append PySem.F.type_list_append mt_append)))
  dss_nil)))))
  (dss_one (ds_retO 1)))))
theorem sc__law_capped : FnScope ["p", "e"] ["p", "e"] (defScope (top 45)) := ⟨rfl, rfl, rfl, by decide +kernel, rfl, by decide +kernel, by decide +kernel⟩
theorem w__law_capped (X0 : K.In base) (G0 : base.Ns mainGlobals mg) (c : SaysR fa fn K) : BodyOk P w K mg base ["p", "e"] "_law_capped" (top 45) 0 (d__law_capped K) := by
  intro f cdv A outer s H E hr tk po
  unfold d__law_capped
  exact (dss_cons (ds_if (dt_lt (de_var 0) de_int)
  (dss_one (ds_ret (de_b2 (call_min2 rfl) (by decide +kernel) o2_min (g_14 X0 G0 c) (de_var 1) de_int)))
  dss_nil)
  (dss_one (ds_ret (de_b2 (call_min2 rfl) (by decide +kernel) o2_min (g_14 X0 G0 c) (de_var 1) de_int))))
theorem sc__law_modulus : FnScope ["store", "high", "primes", "left", "number", "k", "sharp", "near", "i"] ["store", "high"] (defScope (top 46)) := ⟨rfl, rfl, rfl, by decide +kernel, rfl, by decide +kernel, by decide +kernel⟩
theorem w__law_modulus (X0 : K.In base) (G0 : base.Ns mainGlobals mg) (c : SaysR fa fn K) (o__law_take : Ok P w K mg base 2 "_law_take" 2 spTake) (o__law_seldom : Ok P w K mg base 3 "_law_seldom" 2 (sp__law_seldom K)) (o__law_pick : Ok P w K mg base 3 "_law_pick" 2 (sp__law_pick K)) : BodyOk P w K mg base ["store", "high", "primes", "left", "number", "k", "sharp", "near", "i"] "_law_modulus" (top 46) 3 (d__law_modulus K) := by
  intro f cdv A outer s H E hr tk po
  unfold d__law_modulus
  exact (dss_cons (ds_if (dt_val (de_fn o__law_seldom hr tk (da_cons (de_var 0) (da_cons de_int da_nil))))
  (dss_cons (ds_set (i := 6) sc__law_modulus.nd (de_lst (da_cons de_int (da_cons de_int (da_cons de_int (da_cons de_int (da_cons de_int (da_cons de_int (da_cons de_int (da_cons de_int (da_cons de_int (da_cons de_int (da_cons de_int (da_cons de_int (da_cons de_int (da_cons de_int (da_cons de_int (da_cons de_int (da_cons de_int (da_cons de_int (da_cons de_int (da_cons de_int (da_cons de_int (da_cons de_int (da_cons de_int (da_cons de_int (da_cons de_int (da_cons de_int (da_cons de_int da_nil)))))))))))))))))))))))))))))
  (dss_cons (ds_set (i := 6) sc__law_modulus.nd (de_add (de_var 6) (de_lst (da_cons de_int (da_cons de_int (da_cons de_int (da_cons de_int (da_cons de_int (da_cons de_int (da_cons de_int (da_cons de_int (da_cons de_int (da_cons de_int (da_cons de_int (da_cons de_int (da_cons de_int (da_cons de_int (da_cons de_int (da_cons de_int (da_cons de_int (da_cons de_int (da_cons de_int da_nil))))))))))))))))))))))
  (dss_cons (ds_set (i := 6) sc__law_modulus.nd (de_add (de_var 6) (de_lst (da_cons de_int (da_cons de_int (da_cons de_int (da_cons de_int (da_cons de_int (da_cons de_int (da_cons de_int (da_cons de_int (da_cons de_int (da_cons de_int (da_cons de_int (da_cons de_int da_nil)))))))))))))))
  (dss_cons (ds_set (i := 6) sc__law_modulus.nd (de_add (de_var 6) (de_lst (da_cons de_int (da_cons de_int (da_cons de_int da_nil))))))
  (dss_cons (ds_setLc (i := 7) (tg0 := (.nm 4)) (own := [("number", 4)]) (by decide) rfl sc__law_modulus.nd rfl (lIV_of (di_lst (de_var 6))) (show BlkOk ["store", "high", "primes", "left", "number", "k", "sharp", "near", "i"] (defScope (top 46)) _ _ from ⟨rfl, by decide +kernel, by decide +kernel, by decide +kernel, by decide +kernel⟩) (fun _ _ _ _ _ => (pg_name (i := 4) sc__law_modulus.nd rfl (by first | exact Or.inl rfl | exact Or.inr rfl))) (fun _ _ _ _ _ => (dts_one (dt_le (de_var 4) (de_var 1)))) (fun _ _ _ _ _ => (de_var 4)))
  (dss_one (ds_ret (de_fn o__law_pick hr tk (da_cons (de_var 0) (da_cons (de_var 7) da_nil))))))))))
  dss_nil)
  (dss_cons (ds_set (i := 2) sc__law_modulus.nd (de_lst (da_cons de_int (da_cons de_int (da_cons de_int (da_cons de_int (da_cons de_int (da_cons de_int (da_cons de_int (da_cons de_int (da_cons de_int (da_cons de_int (da_cons de_int (da_cons de_int da_nil))))))))))))))
  (dss_cons (ds_setO (i := 3) sc__law_modulus.nd (de_lst (da_cons de_int (da_cons de_int (da_cons de_int (da_cons de_int (da_cons de_int (da_cons de_int (da_cons de_int (da_cons de_int (da_cons de_int (da_cons de_int (da_cons de_int (da_cons de_int da_nil))))))))))))))
  (dss_cons (ds_set (i := 4) sc__law_modulus.nd de_int)
  (dss_cons (ds_for (tg0 := (.nm 5)) po rfl (di_rng1 (g_13 X0 G0 c) (de_add de_int (de_fn o__law_take hr tk (da_cons (de_var 0) (da_cons (de_add de_int (de_mul de_int (de_t1 call_int1 (by decide +kernel) o1_int (g_0 X0 G0 c) (de_gt (de_var 1) de_int)))) da_nil))))) (pg_name (i := 5) sc__law_modulus.nd rfl (by first | exact Or.inl rfl | exact Or.inr rfl))
  (dss_cons (ds_set (i := 8) sc__law_modulus.nd (de_fn o__law_take hr tk (da_cons (de_var 0) (da_cons (de_add de_int (de_fn o__law_take hr tk (da_cons (de_var 0) (da_cons de_int da_nil)))) da_nil))))
  (dss_one (ds_if (PW.pt (dw_and (dt_gt (de_ix (de_var 3) (de_var 8) (fun _ _ => rfl)) de_int) (dw_and1 (dt_le (de_mul (de_var 4) (de_ix (de_var 2) (de_var 8) (fun _ _ => rfl))) (de_var 1)))))
  (dss_cons (ds_set (i := 4) sc__law_modulus.nd (de_mul (de_var 4) (de_ix (de_var 2) (de_var 8) (fun _ _ => rfl))))
  (dss_one (ds_store (i := 3) (de_sub (de_ix (de_var 3) (de_var 8) (fun _ _ => rfl)) de_int) (de_var 8))))
  dss_nil))))
  (dss_one (ds_ret (de_b2 (call_max2 rfl) (by decide +kernel) o2_max (g_15 X0 G0 c) de_int (de_var 4)))))))))
theorem sc__law_cut : FnScope ["line", "size"] ["line"] (defScope (top 47)) := ⟨rfl, rfl, rfl, by decide +kernel, rfl, by decide +kernel, by decide +kernel⟩
theorem w__law_cut (X0 : K.In base) (G0 : base.Ns mainGlobals mg) (c : SaysR fa fn K) : BodyOk P w K mg base ["line", "size"] "_law_cut" (top 47) 0 (d__law_cut K) := by
  intro f cdv A outer s H E hr tk po
  unfold d__law_cut
  exact (dss_cons (ds_set (i := 1) sc__law_cut.nd (de_b1 call_len (by decide +kernel) o1_len (g_8 X0 G0 c) (de_var 0)))
  (dss_cons (ds_while po (PW.pt (dw_and (dt_gt (de_var 1) de_int) (dw_and1 (dt_eq (huOf hr) (de_ix (de_var 0) (de_sub (de_var 1) de_int) (fun _ _ => rfl)) de_int))))
  (dss_one (ds_set (i := 1) sc__law_cut.nd (de_sub (de_var 1) de_int))))
  (dss_one (ds_ret (de_sl (de_var 0) do_none (do_some (de_var 1)))))))
theorem sc__law_at : FnScope ["f", "m", "x", "least", "number", "k"] ["f", "m", "x"] (defScope (top 48)) := ⟨rfl, rfl, rfl, by decide +kernel, rfl, by decide +kernel, by decide +kernel⟩
theorem w__law_at (X0 : K.In base) (G0 : base.Ns mainGlobals mg) (c : SaysR fa fn K) : BodyOk P w K mg base ["f", "m", "x", "least", "number", "k"] "_law_at" (top 48) 0 (d__law_at K) := by
  intro f cdv A outer s H E hr tk po
  unfold d__law_at
  exact (dss_cons (ds_set (i := 3) sc__law_at.nd (de_mod (de_t1 call_int1 (by decide +kernel) o1_int (g_0 X0 G0 c) (de_var 2)) (de_var 1)))
  (dss_cons (ds_set (i := 4) sc__law_at.nd de_int)
  (dss_cons (ds_for (tg0 := (.nm 5)) po rfl (di_rng1 (g_13 X0 G0 c) (de_b1 call_len (by decide +kernel) o1_len (g_8 X0 G0 c) (de_var 0))) (pg_name (i := 5) sc__law_at.nd rfl (by first | exact Or.inl rfl | exact Or.inr rfl))
  (dss_one (ds_set (i := 4) sc__law_at.nd (de_mod (de_t1 call_int1 (by decide +kernel) o1_int (g_0 X0 G0 c) (de_add (de_mul (de_var 4) (de_var 3)) (de_ix (de_var 0) (de_sub (de_sub (de_b1 call_len (by decide +kernel) o1_len (g_8 X0 G0 c) (de_var 0)) de_int) (de_var 5)) (fun _ _ => rfl)))) (de_var 1)))))
  (dss_one (ds_ret (de_var 4))))))
theorem sc__law_through : FnScope ["p", "values", "entries", "powers", "k", "number", "a"] ["p", "values"] (defScope (top 49)) := ⟨rfl, rfl, rfl, by decide +kernel, rfl, by decide +kernel, by decide +kernel⟩
theorem w__law_through (X0 : K.In base) (G0 : base.Ns mainGlobals mg) (c : SaysR fa fn K) : BodyOk P w K mg base ["p", "values", "entries", "powers", "k", "number", "a"] "_law_through" (top 49) 0 (d__law_through K) := by
  intro f cdv A outer s H E hr tk po
  unfold d__law_through
  exact (dss_cons (ds_setO (i := 2) sc__law_through.nd (de_mul (de_lst (da_cons de_int da_nil)) (de_var 0)))
  (dss_cons (ds_setO (i := 3) sc__law_through.nd (de_mul (de_lst (da_cons de_int da_nil)) (de_var 0)))
  (dss_cons (ds_for (tg0 := (.nm 4)) po rfl (di_rng1 (g_13 X0 G0 c) (de_sub (de_var 0) de_int)) (pg_name (i := 4) sc__law_through.nd rfl (by first | exact Or.inl rfl | exact Or.inr rfl))
  (dss_cons (ds_set (i := 5) sc__law_through.nd de_int)
  (dss_cons (ds_for (tg0 := (.nm 6)) po rfl (di_rng1 (g_13 X0 G0 c) (de_var 0)) (pg_name (i := 6) sc__law_through.nd rfl (by first | exact Or.inl rfl | exact Or.inr rfl))
  (dss_cons (ds_set (i := 5) sc__law_through.nd (de_add (de_var 5) (de_mul (de_ix (de_var 1) (de_var 6) (fun _ _ => rfl)) (de_ix (de_var 3) (de_var 6) (fun _ _ => rfl)))))
  (dss_one (ds_store (i := 3) (de_mod (de_t1 call_int1 (by decide +kernel) o1_int (g_0 X0 G0 c) (de_mul (de_ix (de_var 3) (de_var 6) (fun _ _ => rfl)) (de_var 6))) (de_var 0)) (de_var 6)))))
  (dss_one (ds_store (i := 2) (de_mod (de_t1 call_int1 (by decide +kernel) o1_int (g_0 X0 G0 c) (de_sub de_int (de_var 5))) (de_var 0)) (de_sub (de_sub (de_var 0) de_int) (de_var 4)))))))
  (dss_cons (ds_store (i := 2) (de_mod (de_t1 call_int1 (by decide +kernel) o1_int (g_0 X0 G0 c) (de_ix (de_var 1) de_int (fun _ _ => rfl))) (de_var 0)) de_int)
  (dss_one (ds_retO 2))))))
theorem sc__law_goesround : FnScope ["f", "m", "x", "k"] ["f", "m"] (defScope (top 50)) := ⟨rfl, rfl, rfl, by decide +kernel, rfl, by decide +kernel, by decide +kernel⟩
theorem w__law_goesround (X0 : K.In base) (G0 : base.Ns mainGlobals mg) (c : SaysR fa fn K) (o__law_at : Ok P w K mg base 1 "_law_at" 3 (sp__law_at K)) : BodyOk P w K mg base ["f", "m", "x", "k"] "_law_goesround" (top 50) 1 (d__law_goesround K) := by
  intro f cdv A outer s H E hr tk po
  unfold d__law_goesround
  exact (dss_cons (ds_set (i := 2) sc__law_goesround.nd de_int)
  (dss_cons (ds_for (tg0 := (.nm 3)) po rfl (di_rng1 (g_13 X0 G0 c) (de_sub (de_var 1) de_int)) (pg_name (i := 3) sc__law_goesround.nd rfl (by first | exact Or.inl rfl | exact Or.inr rfl))
  (dss_cons (ds_set (i := 2) sc__law_goesround.nd (de_fn o__law_at hr tk (da_cons (de_var 0) (da_cons (de_var 1) (da_cons (de_var 2) da_nil)))))
  (dss_one (ds_if (dt_eq (huOf hr) (de_var 2) de_int)
  (dss_one (ds_ret de_bl))
  dss_nil))))
  (dss_one (ds_ret (de_eq (huOf hr) (de_fn o__law_at hr tk (da_cons (de_var 0) (da_cons (de_var 1) (da_cons (de_var 2) da_nil)))) de_int)))))
theorem sc__law_linear : FnScope ["store", "p", "k", "q", "step", "c"] ["store", "p", "k"] (defScope (top 51)) := ⟨rfl, rfl, rfl, by decide +kernel, rfl, by decide +kernel, by decide +kernel⟩
theorem w__law_linear (X0 : K.In base) (G0 : base.Ns mainGlobals mg) (c : SaysR fa fn K) (o__law_take : Ok P w K mg base 2 "_law_take" 2 spTake) (o__law_power : Ok P w K mg base 1 "_law_power" 2 (sp__law_power K)) : BodyOk P w K mg base ["store", "p", "k", "q", "step", "c"] "_law_linear" (top 51) 2 (d__law_linear K) := by
  intro f cdv A outer s H E hr tk po
  unfold d__law_linear
  exact (dss_cons (ds_set (i := 3) sc__law_linear.nd (de_fn o__law_power hr tk (da_cons (de_var 1) (da_cons (de_var 2) da_nil))))
  (dss_cons (ds_set (i := 4) sc__law_linear.nd (de_var 1))
  (dss_cut (ds_if (PW.pt (dw_and (dt_eq (huOf hr) (de_var 1) de_int) (dw_and1 (dt_gt (de_var 2) de_int))))
  (dss_one (ds_set (i := 4) sc__law_linear.nd de_int))
  dss_nil)
  (dss_cons (ds_set (i := 5) sc__law_linear.nd (de_add (de_add de_int (de_fn o__law_take hr tk (da_cons (de_var 0) (da_cons (de_sub (de_var 1) de_int) da_nil)))) (de_mul (de_var 1) (de_fn o__law_take hr tk (da_cons (de_var 0) (da_cons (de_div (de_var 3) (de_var 1)) da_nil))))))
  (dss_one (ds_ret (de_lst (da_cons (de_var 5) (da_cons (de_mod (de_t1 call_int1 (by decide +kernel) o1_int (g_0 X0 G0 c) (de_add de_int (de_mul (de_var 4) (de_fn o__law_take hr tk (da_cons (de_var 0) (da_cons (de_var 3) da_nil)))))) (de_var 3)) da_nil)))))))))
theorem sc__law_patched : FnScope ["parts", "size", "entries", "i", "f", "q", "conditions"] ["parts"] (defScope (top 52)) := ⟨rfl, rfl, rfl, by decide +kernel, rfl, by decide +kernel, by decide +kernel⟩
theorem w__law_patched (X0 : K.In base) (G0 : base.Ns mainGlobals mg) (c : SaysR fa fn K) (o__law_cut : Ok P w K mg base 1 "_law_cut" 1 (sp__law_cut K)) (o__law_chinese : Ok P w K mg base 2 "_law_chinese" 1 (sp__law_chinese K)) : BodyOk P w K mg base ["parts", "size", "entries", "i", "f", "q", "conditions"] "_law_patched" (top 52) 2 (d__law_patched K) := by
  intro f cdv A outer s H E hr tk po
  unfold d__law_patched
  exact (dss_cons (ds_set (i := 1) sc__law_patched.nd de_int)
  (dss_cons (ds_for (tg0 := (.tp [4, 5])) po rfl (di_lst (de_var 0)) (pg_tup rfl (pgs_cons (pg_name (i := 4) sc__law_patched.nd rfl (by first | exact Or.inl rfl | exact Or.inr rfl)) (pgs_cons (pg_name (i := 5) sc__law_patched.nd rfl (by first | exact Or.inl rfl | exact Or.inr rfl)) pgs_nil)))
  (dss_one (ds_set (i := 1) sc__law_patched.nd (de_b2 (call_max2 rfl) (by decide +kernel) o2_max (g_15 X0 G0 c) (de_var 1) (de_b1 call_len (by decide +kernel) o1_len (g_8 X0 G0 c) (de_var 4))))))
  (dss_cons (ds_setO (i := 2) sc__law_patched.nd (de_lst da_nil))
  (dss_cons (ds_for (tg0 := (.nm 3)) po rfl (di_rng1 (g_13 X0 G0 c) (de_var 1)) (pg_name (i := 3) sc__law_patched.nd rfl (by first | exact Or.inl rfl | exact Or.inr rfl))
  (dss_cons (ds_setO (i := 6) sc__law_patched.nd (de_lst da_nil))
  (dss_cons (ds_for (tg0 := (.tp [4, 5])) po rfl (di_lst (de_var 0)) (pg_tup rfl (pgs_cons (pg_name (i := 4) sc__law_patched.nd rfl (by first | exact Or.inl rfl | exact Or.inr rfl)) (pgs_cons (pg_name (i := 5) sc__law_patched.nd rfl (by first | exact Or.inl rfl | exact Or.inr rfl)) pgs_nil)))
  (dss_one (ds_if (dt_lt (de_var 3) (de_b1 call_len (by decide +kernel) o1_len (g_8 X0 G0 c) (de_var 4)))
  (dss_one (ds_app (i := 6) (de_tup (da_cons (de_ix (de_var 4) (de_var 3) (fun _ _ => rfl)) (da_cons (de_var 5) da_nil))) (hcall := pe_bm PySem.F.plainAttrs_list PySem.F.slot_list_append PySem.F.type_list_append mt_append)))
  (dss_one (ds_app (i := 6) (de_tup (da_cons de_int (da_cons (de_var 5) da_nil))) (hcall := pe_bm PySem.F.plainAttrs_list PySem.F.slot_list_append PySem.F.type_list_append mt_append))))))
  (dss_one (ds_frz (i := 6) (ds_app (i := 2) (de_fn o__law_chinese hr tk (da_cons (de_var 6) da_nil)) (hcall := pe_bm PySem.F.plainAttrs_list PySem.F.slot_list_append PySem.F.type_list_append mt_append)))))))
  (dss_one (ds_frz (i := 2) (ds_ret (de_fn o__law_cut hr tk (da_cons (de_var 2) da_nil)))))))))
theorem sc__law_rowof : FnScope ["f", "m", "start", "many", "line", "x", "k"] ["f", "m", "start", "many"] (defScope (top 53)) := ⟨rfl, rfl, rfl, by decide +kernel, rfl, by decide +kernel, by decide +kernel⟩
theorem w__law_rowof (X0 : K.In base) (G0 : base.Ns mainGlobals mg) (c : SaysR fa fn K) (o__law_at : Ok P w K mg base 1 "_law_at" 3 (sp__law_at K)) : BodyOk P w K mg base ["f", "m", "start", "many", "line", "x", "k"] "_law_rowof" (top 53) 1 (d__law_rowof K) := by
  intro f cdv A outer s H E hr tk po
  unfold d__law_rowof
  exact (dss_cons (ds_setO (i := 4) sc__law_rowof.nd (de_lst da_nil))
  (dss_cons (ds_set (i := 5) sc__law_rowof.nd (de_var 2))
  (dss_cons (ds_for (tg0 := (.nm 6)) po rfl (di_rng1 (g_13 X0 G0 c) (de_var 3)) (pg_name (i := 6) sc__law_rowof.nd rfl (by first | exact Or.inl rfl | exact Or.inr rfl))
  (dss_cons (ds_app (i := 4) (de_var 5) (hcall := pe_bm PySem.F.plainAttrs_list PySem.F.slot_list_append PySem.F.type_list_append mt_append))
  (dss_one (ds_set (i := 5) sc__law_rowof.nd (de_fn o__law_at hr tk (da_cons (de_var 0) (da_cons (de_var 1) (da_cons (de_var 5) da_nil))))))))
  (dss_one (ds_retO 4)))))
theorem sc__law_same : FnScope ["actual", "due", "i", "key"] ["actual", "due"] (defScope (top 54)) := ⟨rfl, rfl, rfl, by decide +kernel, rfl, by decide +kernel, by decide +kernel⟩
theorem w__law_same {k : Nat} {sp__law_same : DSp} (X0 : K.In base) (G0 : base.Ns mainGlobals mg) (c : SaysR fa fn K) (o__law_same : Ok P w K mg base (0 + k) "_law_same" 2 sp__law_same) : BodyOk P w K mg base ["actual", "due", "i", "key"] "_law_same" (top 54) (0 + k) (d__law_same K sp__law_same) := by
  intro f cdv A outer s H E hr tk po
  unfold d__law_same
  exact (dss_cons (ds_if (dt_val (de_isi .bool (by decide +kernel) (g_2 X0 G0 c) (g_1 X0 G0 c) (de_var 1)))
  (dss_one (ds_ret (de_and (de_isi .bool (by decide +kernel) (g_2 X0 G0 c) (g_1 X0 G0 c) (de_var 0)) (de_one (de_eq (huOf hr) (de_var 0) (de_var 1))))))
  dss_nil)
  (dss_cons (ds_if (dt_val (de_isi .int (by decide +kernel) (g_0 X0 G0 c) (g_1 X0 G0 c) (de_var 1)))
  (dss_one (ds_ret (de_and (de_isi .int (by decide +kernel) (g_0 X0 G0 c) (g_1 X0 G0 c) (de_var 0)) (de_and (de_not (de_isi .bool (by decide +kernel) (g_2 X0 G0 c) (g_1 X0 G0 c) (de_var 0))) (de_one (de_eq (huOf hr) (de_var 0) (de_var 1)))))))
  dss_nil)
  (dss_cons (ds_if (dt_val (de_isi .str (by decide +kernel) (g_20 X0 G0 c) (g_1 X0 G0 c) (de_var 1)))
  (dss_one (ds_ret (de_and (de_isi .str (by decide +kernel) (g_20 X0 G0 c) (g_1 X0 G0 c) (de_var 0)) (de_one (de_eq (huOf hr) (de_var 0) (de_var 1))))))
  dss_nil)
  (dss_cons (ds_if (dt_val (de_isi .dict (by decide +kernel) (g_19 X0 G0 c) (g_1 X0 G0 c) (de_var 1)))
  pss_false
  dss_nil)
  (dss_cut (ds_if (dt_val (de_isi .list (by decide +kernel) (g_7 X0 G0 c) (g_1 X0 G0 c) (de_var 1)))
  (dss_one (ds_if (dt_not (dt_val (de_isi .list (by decide +kernel) (g_7 X0 G0 c) (g_1 X0 G0 c) (de_var 0))))
  (dss_one (ds_ret de_bl))
  dss_nil))
  (dss_one (ds_if (dt_val (de_isi .tuple (by decide +kernel) (g_18 X0 G0 c) (g_1 X0 G0 c) (de_var 1)))
  (dss_one (ds_if (dt_not (dt_val (de_isi .tuple (by decide +kernel) (g_18 X0 G0 c) (g_1 X0 G0 c) (de_var 0))))
  (dss_one (ds_ret de_bl))
  dss_nil))
  (dss_one (ds_ret (de_and (de_isN (de_var 1) de_non) (de_one (de_isN (de_var 0) de_non))))))))
  (dss_cons (ds_if (dt_ne (huOf hr) (de_b1 call_len (by decide +kernel) o1_len (g_8 X0 G0 c) (de_var 0)) (de_b1 call_len (by decide +kernel) o1_len (g_8 X0 G0 c) (de_var 1)))
  (dss_one (ds_ret de_bl))
  dss_nil)
  (dss_cons (ds_for (tg0 := (.nm 2)) po rfl (di_rng1 (g_13 X0 G0 c) (de_b1 call_len (by decide +kernel) o1_len (g_8 X0 G0 c) (de_var 1))) (pg_name (i := 2) sc__law_same.nd rfl (by first | exact Or.inl rfl | exact Or.inr rfl))
  (dss_one (ds_if (dt_not (dt_val (de_fn o__law_same hr tk (da_cons (de_ix (de_var 0) (de_var 2) (fun _ _ => rfl)) (da_cons (de_ix (de_var 1) (de_var 2) (fun _ _ => rfl)) da_nil)) (Nat.le_refl _))))
  (dss_one (ds_ret de_bl))
  dss_nil)))
  (dss_one (ds_ret de_bl)))))))))
theorem sc__law_copy : FnScope ["thing", "deep", "one"] ["thing", "deep"] (defScope (top 55)) := ⟨rfl, rfl, rfl, by decide +kernel, rfl, by decide +kernel, by decide +kernel⟩
theorem w__law_copy {k : Nat} {sp__law_copy : DSp} (X0 : K.In base) (G0 : base.Ns mainGlobals mg) (c : SaysR fa fn K) (o__law_copy : Ok P w K mg base (0 + k) "_law_copy" 2 sp__law_copy) : BodyOk P w K mg base ["thing", "deep", "one"] "_law_copy" (top 55) (0 + k) (d__law_copy K sp__law_copy) := by
  intro f cdv A outer s H E hr tk po
  unfold d__law_copy
  exact (dss_cons (ds_if (PW.pt (dw_and (dt_val (de_isi .list (by decide +kernel) (g_7 X0 G0 c) (g_1 X0 G0 c) (de_var 0))) (dw_and1 (dt_gt (de_var 1) de_int))))
  (dss_one (ds_ret (de_lc (tg0 := (.nm 2)) (own := [("one", 2)]) (by decide) rfl sc__law_copy.nd (lIV_of (di_lst (de_var 0))) (show BlkOk ["thing", "deep", "one"] (defScope (top 55)) _ _ from ⟨rfl, by decide +kernel, by decide +kernel, by decide +kernel, by decide +kernel⟩) (fun _ _ _ _ _ => (pg_name (i := 2) sc__law_copy.nd rfl (by first | exact Or.inl rfl | exact Or.inr rfl))) (fun _ _ _ _ _ => dts_nil) (fun _ _ _ _ _ => (de_fn o__law_copy hr takes0 (da_cons (de_var 2) (da_cons (de_sub (de_var 1) de_int) da_nil)) (Nat.le_refl _))))))
  dss_nil)
  (dss_cons (ds_if (PW.pt (dw_and (dt_val (de_isi .tuple (by decide +kernel) (g_18 X0 G0 c) (g_1 X0 G0 c) (de_var 0))) (dw_and1 (dt_gt (de_var 1) de_int))))
  (dss_one (ds_ret (de_t1 call_tuple_of (by decide +kernel) o1_tuple (g_18 X0 G0 c) (de_lc (tg0 := (.nm 2)) (own := [("one", 2)]) (by decide) rfl sc__law_copy.nd (lIV_of (di_tup (de_var 0))) (show BlkOk ["thing", "deep", "one"] (defScope (top 55)) _ _ from ⟨rfl, by decide +kernel, by decide +kernel, by decide +kernel, by decide +kernel⟩) (fun _ _ _ _ _ => (pg_name (i := 2) sc__law_copy.nd rfl (by first | exact Or.inl rfl | exact Or.inr rfl))) (fun _ _ _ _ _ => dts_nil) (fun _ _ _ _ _ => (de_fn o__law_copy hr takes0 (da_cons (de_var 2) (da_cons (de_sub (de_var 1) de_int) da_nil)) (Nat.le_refl _)))))))
  dss_nil)
  (dss_one (ds_ret (de_var 0)))))
theorem sc__law_kindbent : FnScope ["store", "paper", "deep", "entries", "at"] ["store", "paper", "deep"] (defScope (top 56)) := ⟨rfl, rfl, rfl, by decide +kernel, rfl, by decide +kernel, by decide +kernel⟩
theorem w__law_kindbent {k : Nat} {sp__law_kindbent : DSp} (X0 : K.In base) (G0 : base.Ns mainGlobals mg) (c : SaysR fa fn K) (o__law_pick : Ok P w K mg base 3 "_law_pick" 2 (sp__law_pick K)) (o__law_take : Ok P w K mg base 2 "_law_take" 2 spTake) (o__law_kindbent : Ok P w K mg base (3 + k) "_law_kindbent" 3 sp__law_kindbent) : BodyOk P w K mg base ["store", "paper", "deep", "entries", "at"] "_law_kindbent" (top 56) (3 + k) (d__law_kindbent K sp__law_kindbent) := by
  intro f cdv A outer s H E hr tk po
  unfold d__law_kindbent
  exact (dss_cons (ds_if (dt_val (de_isi2 .list .tuple (by decide +kernel) (by decide +kernel) (g_7 X0 G0 c) (g_18 X0 G0 c) (g_1 X0 G0 c) (de_var 1)))
  (dss_cons (ds_setO (i := 3) sc__law_kindbent.nd (de_t1 call_list_of (by decide +kernel) o1_list (g_7 X0 G0 c) (de_var 1)))
  (dss_cons (ds_if (PW.pt (dw_and (dt_gt (de_var 2) de_int) (dw_and (dt_gt (de_b1 call_len (by decide +kernel) o1_len (g_8 X0 G0 c) (de_var 1)) de_int) (dw_and1 (dt_gt (de_fn o__law_take hr tk (da_cons (de_var 0) (da_cons de_int da_nil)) (by omega)) de_int)))))
  (dss_cons (ds_set (i := 4) sc__law_kindbent.nd (de_fn o__law_take hr tk (da_cons (de_var 0) (da_cons (de_b1 call_len (by decide +kernel) o1_len (g_8 X0 G0 c) (de_var 1)) da_nil)) (by omega)))
  (dss_cons (ds_store (i := 3) (de_fn o__law_kindbent hr tk (da_cons (de_var 0) (da_cons (de_ix (de_var 3) (de_var 4) (fun _ _ => rfl)) (da_cons (de_sub (de_var 2) de_int) da_nil))) (Nat.le_refl _)) (de_var 4))
  (dss_cons (ds_if (dt_val (de_isi .tuple (by decide +kernel) (g_18 X0 G0 c) (g_1 X0 G0 c) (de_var 1)))
  (dss_one (ds_ret (de_t1 call_tuple_of (by decide +kernel) o1_tuple (g_18 X0 G0 c) (de_var 3))))
  dss_nil)
  (dss_one (ds_retO 3)))))
  dss_nil)
  (dss_cons (ds_if (dt_val (de_isi .tuple (by decide +kernel) (g_18 X0 G0 c) (g_1 X0 G0 c) (de_var 1)))
  (dss_one (ds_retO 3))
  dss_nil)
  (dss_one (ds_ret (de_t1 call_tuple_of (by decide +kernel) o1_tuple (g_18 X0 G0 c) (de_var 3)))))))
  dss_nil)
  (dss_cons (ds_if (PW.pt (dw_and (dt_val (de_isi .int (by decide +kernel) (g_0 X0 G0 c) (g_1 X0 G0 c) (de_var 1))) (dw_and1 (dt_not (dt_val (de_isi .bool (by decide +kernel) (g_2 X0 G0 c) (g_1 X0 G0 c) (de_var 1)))))))
  (dss_one (ds_ret (de_fn o__law_pick hr tk (da_cons (de_var 0) (da_cons (de_lst (da_cons (de_t1 call_bool1 (by decide +kernel) o1_bool (g_2 X0 G0 c) (de_ne (huOf hr) (de_var 1) de_int)) (da_cons (de_t1 call_bool1 (by decide +kernel) o1_bool (g_2 X0 G0 c) (de_ne (huOf hr) (de_var 1) de_int)) (da_cons de_non (da_cons de_str (da_cons (de_lst (da_cons (de_var 1) da_nil)) (da_cons (de_tup (da_cons (de_var 1) da_nil)) da_nil))))))) da_nil)) (by omega))))
  dss_nil)
  (dss_one (ds_ret de_int))))
theorem sc__law_ringpaper : FnScope ["f", "m", "paper", "p", "e", "q", "line"] ["f", "m"] (defScope (top 57)) := ⟨rfl, rfl, rfl, by decide +kernel, rfl, by decide +kernel, by decide +kernel⟩
theorem w__law_ringpaper (X0 : K.In base) (G0 : base.Ns mainGlobals mg) (c : SaysR fa fn K) (o__law_factors : Ok P w K mg base 1 "_law_factors" 1 (sp__law_factors K)) (o__law_rowof : Ok P w K mg base 2 "_law_rowof" 4 (sp__law_rowof K)) (o__law_power : Ok P w K mg base 1 "_law_power" 2 (sp__law_power K)) (o__law_capped : Ok P w K mg base 1 "_law_capped" 2 (sp__law_capped K)) : BodyOk P w K mg base ["f", "m", "paper", "p", "e", "q", "line"] "_law_ringpaper" (top 57) 2 (d__law_ringpaper K) := by
  intro f cdv A outer s H E hr tk po
  unfold d__law_ringpaper
  exact (dss_cons (ds_setO (i := 2) sc__law_ringpaper.nd (de_lst da_nil))
  (dss_cons (ds_for (tg0 := (.tp [3, 4])) po rfl (di_lst (de_fn o__law_factors hr tk (da_cons (de_var 1) da_nil))) (pg_tup rfl (pgs_cons (pg_name (i := 3) sc__law_ringpaper.nd rfl (by first | exact Or.inl rfl | exact Or.inr rfl)) (pgs_cons (pg_name (i := 4) sc__law_ringpaper.nd rfl (by first | exact Or.inl rfl | exact Or.inr rfl)) pgs_nil)))
  (dss_cons (ds_set (i := 5) sc__law_ringpaper.nd (de_fn o__law_power hr tk (da_cons (de_var 3) (da_cons (de_fn o__law_capped hr tk (da_cons (de_var 3) (da_cons (de_var 4) da_nil))) da_nil))))
  (dss_cons (ds_set (i := 6) sc__law_ringpaper.nd (de_fn o__law_rowof hr tk (da_cons (de_var 0) (da_cons (de_var 5) (da_cons de_int (da_cons (de_add (de_b2 (call_max2 rfl) (by decide +kernel) o2_max (g_15 X0 G0 c) (de_var 3) (de_div (de_var 5) (de_var 3))) de_int) da_nil))))))
  (dss_one (ds_app (i := 2) (de_tup (da_cons (de_var 3) (da_cons (de_var 5) (da_cons (de_sl (de_var 6) do_none (do_some (de_neg de_int))) (da_cons (de_ix (de_var 6) (de_sub (de_b1 call_len (by decide +kernel) o1_len (g_8 X0 G0 c) (de_var 6)) de_int) (fun _ _ => rfl)) da_nil))))) (hcall := pe_bm PySem.F.plainAttrs_list PySem.F.slot_list_append PySem.F.type_list_append mt_append))))))
  (dss_one (ds_retO 2))))
theorem sc__law_cycle : FnScope ["store", "p", "values", "k", "other", "kept"] ["store", "p"] (defScope (top 58)) := ⟨rfl, rfl, rfl, by decide +kernel, rfl, by decide +kernel, by decide +kernel⟩
theorem w__law_cycle (X0 : K.In base) (G0 : base.Ns mainGlobals mg) (c : SaysR fa fn K) (o__law_take : Ok P w K mg base 2 "_law_take" 2 spTake) : BodyOk P w K mg base ["store", "p", "values", "k", "other", "kept"] "_law_cycle" (top 58) 2 (d__law_cycle K) := by
  intro f cdv A outer s H E hr tk po
  unfold d__law_cycle
  exact (dss_cons (ds_setO (i := 2) sc__law_cycle.nd (de_listrng1 rfl (g_7 X0 G0 c) (g_13 X0 G0 c) (de_var 1)))
  (dss_cons (ds_for (tg0 := (.nm 3)) po rfl (di_rng1 (g_13 X0 G0 c) (de_sub (de_var 1) de_int)) (pg_name (i := 3) sc__law_cycle.nd rfl (by first | exact Or.inl rfl | exact Or.inr rfl))
  (dss_cons (ds_set (i := 4) sc__law_cycle.nd (de_fn o__law_take hr tk (da_cons (de_var 0) (da_cons (de_sub (de_sub (de_var 1) de_int) (de_var 3)) da_nil))))
  (dss_cons (ds_set (i := 5) sc__law_cycle.nd (de_ix (de_var 2) (de_sub (de_sub (de_var 1) de_int) (de_var 3)) (fun _ _ => rfl)))
  (dss_cons (ds_store (i := 2) (de_ix (de_var 2) (de_var 4) (fun _ _ => rfl)) (de_sub (de_sub (de_var 1) de_int) (de_var 3)))
  (dss_one (ds_store (i := 2) (de_var 5) (de_var 4)))))))
  (dss_one (ds_retO 2))))
theorem sc__law_localkind : FnScope ["store", "p", "k", "kind", "q", "values", "f", "turn", "i", "bend", "entry"] ["store", "p", "k", "kind"] (defScope (top 59)) := ⟨rfl, rfl, rfl, by decide +kernel, rfl, by decide +kernel, by decide +kernel⟩
theorem w__law_localkind (X0 : K.In base) (G0 : base.Ns mainGlobals mg) (c : SaysR fa fn K) (o__law_take : Ok P w K mg base 2 "_law_take" 2 spTake) (o__law_through : Ok P w K mg base 1 "_law_through" 2 (sp__law_through K)) (o__law_cycle : Ok P w K mg base 3 "_law_cycle" 2 (sp__law_cycle K)) (o__law_seldom : Ok P w K mg base 3 "_law_seldom" 2 (sp__law_seldom K)) (o__law_linear : Ok P w K mg base 3 "_law_linear" 3 (sp__law_linear K)) (o__law_power : Ok P w K mg base 1 "_law_power" 2 (sp__law_power K)) : BodyOk P w K mg base ["store", "p", "k", "kind", "q", "values", "f", "turn", "i", "bend", "entry"] "_law_localkind" (top 59) 3 (d__law_localkind K) := by
  intro f cdv A outer s H E hr tk po
  unfold d__law_localkind
  exact (dss_cons (ds_set (i := 4) sc__law_localkind.nd (de_fn o__law_power hr tk (da_cons (de_var 1) (da_cons (de_var 2) da_nil))))
  (dss_cons (ds_if (dt_eq (huOf hr) (de_var 3) de_int)
  (dss_one (ds_ret (de_fn o__law_linear hr tk (da_cons (de_var 0) (da_cons (de_var 1) (da_cons (de_var 2) da_nil))))))
  dss_nil)
  (dss_cons (ds_if (PW.pt (dw_and (dt_eq (huOf hr) (de_var 3) de_int) (dw_and (dt_eq (huOf hr) (de_var 2) de_int) (dw_and1 (dt_val (de_fn o__law_seldom hr tk (da_cons (de_var 0) (da_cons de_int da_nil))))))))
  (dss_one (ds_ret (de_ix (de_lst (da_cons (de_lst (da_cons de_int (da_cons de_int (da_cons de_int (da_cons de_int da_nil))))) (da_cons (de_lst (da_cons de_int (da_cons de_int (da_cons de_int (da_cons de_int (da_cons de_int (da_cons de_int da_nil))))))) da_nil))) (de_sub (de_var 1) de_int) (fun _ _ => rfl))))
  dss_nil)
  (dss_cons (ds_if (PW.pt (dw_and (dt_eq (huOf hr) (de_var 3) de_int) (dw_and1 (dt_gt (de_var 2) de_int))))
  (dss_cons (ds_setO (i := 6) sc__law_localkind.nd (de_add (de_lst (da_cons (de_add de_int (de_fn o__law_take hr tk (da_cons (de_var 0) (da_cons (de_sub (de_var 1) de_int) da_nil)))) (da_cons de_int da_nil))) (de_mul (de_lst (da_cons de_int da_nil)) (de_sub (de_var 1) de_int))))
  (dss_cons (ds_store (i := 6) (de_add (de_ix (de_var 6) (de_sub (de_var 1) de_int) (fun _ _ => rfl)) (de_mul (de_var 1) (de_ix (de_var 6) de_int (fun _ _ => rfl)))) (de_sub (de_var 1) de_int))
  (dss_one (ds_retO 6))))
  dss_nil)
  (dss_cons (ds_setO (i := 5) sc__law_localkind.nd (de_fn o__law_cycle hr tk (da_cons (de_var 0) (da_cons (de_var 1) da_nil))))
  (dss_cut (ds_if (dt_eq (huOf hr) (de_var 3) de_int)
  (dss_one (ds_store (i := 5) (de_fn o__law_take hr tk (da_cons (de_var 0) (da_cons (de_var 1) da_nil))) (de_fn o__law_take hr tk (da_cons (de_var 0) (da_cons (de_var 1) da_nil)))))
  dss_nil)
  (dss_cut (ds_if (dt_eq (huOf hr) (de_var 3) de_int)
  (dss_one (ds_store (i := 5) (de_add de_int (de_fn o__law_take hr tk (da_cons (de_var 0) (da_cons (de_sub (de_var 1) de_int) da_nil)))) (de_index (de_var 5) de_int (hcall := pe_bm PySem.F.plainAttrs_list PySem.F.slot_list_index PySem.F.type_list_index mt_index))))
  dss_nil)
  (dss_cons (ds_frz (i := 5) (ds_setO (i := 6) sc__law_localkind.nd (de_add (de_fn o__law_through hr tk (da_cons (de_var 1) (da_cons (de_var 5) da_nil))) (de_mul (de_lst (da_cons de_int da_nil)) de_int))))
  (dss_cons (ds_for (tg0 := (.nm 7)) po rfl (di_rng1 (g_13 X0 G0 c) (de_mul de_int (de_t1 call_int1 (by decide +kernel) o1_int (g_0 X0 G0 c) (de_gt (de_var 2) de_int)))) (pg_name (i := 7) sc__law_localkind.nd rfl (by first | exact Or.inl rfl | exact Or.inr rfl))
  (dss_cons (ds_set (i := 8) sc__law_localkind.nd (de_fn o__law_take hr tk (da_cons (de_var 0) (da_cons (de_b2 (call_min2 rfl) (by decide +kernel) o2_min (g_14 X0 G0 c) (de_var 1) de_int) da_nil))))
  (dss_cons (ds_set (i := 9) sc__law_localkind.nd (de_fn o__law_take hr tk (da_cons (de_var 0) (da_cons (de_var 4) da_nil))))
  (dss_cons (ds_store (i := 6) (de_sub (de_ix (de_var 6) (de_add (de_var 8) de_int) (fun _ _ => rfl)) (de_var 9)) (de_add (de_var 8) de_int))
  (dss_cons (ds_store (i := 6) (de_add (de_ix (de_var 6) (de_add (de_var 8) (de_var 1)) (fun _ _ => rfl)) (de_var 9)) (de_add (de_var 8) (de_var 1)))
  (dss_one (ds_store (i := 6) (de_add (de_ix (de_var 6) (de_var 8) (fun _ _ => rfl)) (de_mul (de_var 1) (de_fn o__law_take hr tk (da_cons (de_var 0) (da_cons (de_div (de_var 4) (de_var 1)) da_nil))))) (de_var 8))))))))
  (dss_one (ds_ret (de_lc (tg0 := (.nm 10)) (own := [("entry", 10)]) (by decide) rfl sc__law_localkind.nd (di_view 6) (show BlkOk ["store", "p", "k", "kind", "q", "values", "f", "turn", "i", "bend", "entry"] (defScope (top 59)) _ _ from ⟨rfl, by decide +kernel, by decide +kernel, by decide +kernel, by decide +kernel⟩) (fun _ _ _ _ _ => (pg_name (i := 10) sc__law_localkind.nd rfl (by first | exact Or.inl rfl | exact Or.inr rfl))) (fun _ _ _ _ _ => dts_nil) (fun _ _ _ _ _ => (de_mod (de_t1 call_int1 (by decide +kernel) o1_int (g_0 X0 G0 c) (de_var 10)) (de_var 4)))))))))))))))
theorem sc__law_maker : FnScope ["store", "m", "good", "pairs", "spoilt", "parts", "i", "p", "k", "q", "f"] ["store", "m", "good"] (defScope (top 60)) := ⟨rfl, rfl, rfl, by decide +kernel, rfl, by decide +kernel, by decide +kernel⟩
theorem w__law_maker (X0 : K.In base) (G0 : base.Ns mainGlobals mg) (c : SaysR fa fn K) (o__law_patched : Ok P w K mg base 3 "_law_patched" 1 (sp__law_patched K)) (o__law_localkind : Ok P w K mg base 4 "_law_localkind" 4 (sp__law_localkind K)) (o__law_take : Ok P w K mg base 2 "_law_take" 2 spTake) (o__law_goesround : Ok P w K mg base 2 "_law_goesround" 2 (sp__law_goesround K)) (o__law_linear : Ok P w K mg base 3 "_law_linear" 3 (sp__law_linear K)) (o__law_power : Ok P w K mg base 1 "_law_power" 2 (sp__law_power K)) (o__law_capped : Ok P w K mg base 1 "_law_capped" 2 (sp__law_capped K)) (o__law_factors : Ok P w K mg base 1 "_law_factors" 1 (sp__law_factors K)) : BodyOk P w K mg base ["store", "m", "good", "pairs", "spoilt", "parts", "i", "p", "k", "q", "f"] "_law_maker" (top 60) 4 (d__law_maker K) := by
  intro f cdv A outer s H E hr tk po
  unfold d__law_maker
  exact (dss_cons (ds_set (i := 3) sc__law_maker.nd (de_fn o__law_factors hr tk (da_cons (de_var 1) da_nil)))
  (dss_cons (ds_set (i := 4) sc__law_maker.nd (de_fn o__law_take hr tk (da_cons (de_var 0) (da_cons (de_b1 call_len (by decide +kernel) o1_len (g_8 X0 G0 c) (de_var 3)) da_nil))))
  (dss_cons (ds_setO (i := 5) sc__law_maker.nd (de_lst da_nil))
  (dss_cons (ds_for (tg0 := (.nm 6)) po rfl (di_rng1 (g_13 X0 G0 c) (de_b1 call_len (by decide +kernel) o1_len (g_8 X0 G0 c) (de_var 3))) (pg_name (i := 6) sc__law_maker.nd rfl (by first | exact Or.inl rfl | exact Or.inr rfl))
  (dss_cons (ds_set (i := 7) sc__law_maker.nd (de_ix (de_ix (de_var 3) (de_var 6) (fun _ _ => rfl)) de_int (fun _ _ => rfl)))
  (dss_cons (ds_set (i := 8) sc__law_maker.nd (de_fn o__law_capped hr tk (da_cons (de_var 7) (da_cons (de_ix (de_ix (de_var 3) (de_var 6) (fun _ _ => rfl)) de_int (fun _ _ => rfl)) da_nil))))
  (dss_cons (ds_set (i := 9) sc__law_maker.nd (de_fn o__law_power hr tk (da_cons (de_var 7) (da_cons (de_var 8) da_nil))))
  (dss_cons (ds_set (i := 10) sc__law_maker.nd (de_fn o__law_localkind hr tk (da_cons (de_var 0) (da_cons (de_var 7) (da_cons (de_var 8) (da_cons (de_mul de_int (de_fn o__law_take hr tk (da_cons (de_var 0) (da_cons de_int da_nil)))) da_nil))))))
  (dss_cut (ds_if (PW.pt (dw_and (dt_eq (huOf hr) (de_var 6) (de_var 4)) (dw_and1 (dt_not (dt_val (de_var 2))))))
  (dss_one (ds_set (i := 10) sc__law_maker.nd (de_fn o__law_localkind hr tk (da_cons (de_var 0) (da_cons (de_var 7) (da_cons (de_var 8) (da_cons (de_add de_int (de_fn o__law_take hr tk (da_cons (de_var 0) (da_cons de_int da_nil)))) da_nil)))))))
  (dss_one (ds_if (dt_not (dt_val (de_fn o__law_goesround hr tk (da_cons (de_var 10) (da_cons (de_var 9) da_nil)))))
  (dss_one (ds_set (i := 10) sc__law_maker.nd (de_fn o__law_linear hr tk (da_cons (de_var 0) (da_cons (de_var 7) (da_cons (de_var 8) da_nil))))))
  dss_nil)))
  (dss_one (ds_app (i := 5) (de_tup (da_cons (de_var 10) (da_cons (de_var 9) da_nil))) (hcall := pe_bm PySem.F.plainAttrs_list PySem.F.slot_list_append PySem.F.type_list_append mt_append)))))))))
  (dss_one (ds_frz (i := 5) (ds_ret (de_fn o__law_patched hr tk (da_cons (de_var 5) da_nil)))))))))
theorem sc__law_vast : FnScope ["store", "f", "s", "g", "turn", "i", "sign"] ["store", "f", "s"] (defScope (top 61)) := ⟨rfl, rfl, rfl, by decide +kernel, rfl, by decide +kernel, by decide +kernel⟩
theorem w__law_vast (X0 : K.In base) (G0 : base.Ns mainGlobals mg) (c : SaysR fa fn K) (o__law_take : Ok P w K mg base 2 "_law_take" 2 spTake) : BodyOk P w K mg base ["store", "f", "s", "g", "turn", "i", "sign"] "_law_vast" (top 61) 2 (d__law_vast K) := by
  intro f cdv A outer s H E hr tk po
  unfold d__law_vast
  exact (dss_cons (ds_setO (i := 3) sc__law_vast.nd (de_add (de_var 1) (de_mul (de_lst (da_cons de_int da_nil)) (de_sub de_int (de_b1 call_len (by decide +kernel) o1_len (g_8 X0 G0 c) (de_var 1))))))
  (dss_cons (ds_for (tg0 := (.nm 4)) po rfl (di_rng1 (g_13 X0 G0 c) de_int) (pg_name (i := 4) sc__law_vast.nd rfl (by first | exact Or.inl rfl | exact Or.inr rfl))
  (dss_cons (ds_set (i := 5) sc__law_vast.nd (de_fn o__law_take hr tk (da_cons (de_var 0) (da_cons de_int da_nil))))
  (dss_cons (ds_set (i := 6) sc__law_vast.nd (de_sub de_int (de_mul de_int (de_fn o__law_take hr tk (da_cons (de_var 0) (da_cons de_int da_nil))))))
  (dss_one (ds_store (i := 3) (de_add (de_ix (de_var 3) (de_var 5) (fun _ _ => rfl)) (de_mul (de_mul (de_var 6) (de_var 2)) (de_div (de_sub (de_pow de_int de_int) (de_mul (de_var 6) (de_ix (de_var 3) (de_var 5) (fun _ _ => rfl)))) (de_var 2)))) (de_var 5))))))
  (dss_cut (ds_if (dt_eq (huOf hr) (de_ix (de_var 3) de_int (fun _ _ => rfl)) de_int)
  (dss_one (ds_store (i := 3) (de_var 2) de_int))
  dss_nil)
  (dss_one (ds_retO 3)))))
theorem sc__law_allround : FnScope ["f", "m", "p", "e"] ["f", "m"] (defScope (top 62)) := ⟨rfl, rfl, rfl, by decide +kernel, rfl, by decide +kernel, by decide +kernel⟩
theorem w__law_allround (X0 : K.In base) (G0 : base.Ns mainGlobals mg) (c : SaysR fa fn K) (o__law_factors : Ok P w K mg base 1 "_law_factors" 1 (sp__law_factors K)) (o__law_goesround : Ok P w K mg base 2 "_law_goesround" 2 (sp__law_goesround K)) (o__law_power : Ok P w K mg base 1 "_law_power" 2 (sp__law_power K)) (o__law_capped : Ok P w K mg base 1 "_law_capped" 2 (sp__law_capped K)) : BodyOk P w K mg base ["f", "m", "p", "e"] "_law_allround" (top 62) 2 (d__law_allround K) := by
  intro f cdv A outer s H E hr tk po
  unfold d__law_allround
  exact (dss_cons (ds_for (tg0 := (.tp [2, 3])) po rfl (di_lst (de_fn o__law_factors hr tk (da_cons (de_var 1) da_nil))) (pg_tup rfl (pgs_cons (pg_name (i := 2) sc__law_allround.nd rfl (by first | exact Or.inl rfl | exact Or.inr rfl)) (pgs_cons (pg_name (i := 3) sc__law_allround.nd rfl (by first | exact Or.inl rfl | exact Or.inr rfl)) pgs_nil)))
  (dss_one (ds_if (dt_not (dt_val (de_fn o__law_goesround hr tk (da_cons (de_var 0) (da_cons (de_fn o__law_power hr tk (da_cons (de_var 2) (da_cons (de_fn o__law_capped hr tk (da_cons (de_var 2) (da_cons (de_var 3) da_nil))) da_nil))) da_nil)))))
  (dss_one (ds_ret de_bl))
  dss_nil)))
  (dss_one (ds_ret de_bl)))
theorem sc__law_twist : FnScope ["store", "paper", "f", "kind", "at", "place", "deep", "k", "turned", "p", "q", "line", "last", "full"] ["store", "paper", "f"] (defScope (top 63)) := ⟨rfl, rfl, rfl, by decide +kernel, rfl, by decide +kernel, by decide +kernel⟩
theorem w__law_twist (X0 : K.In base) (G0 : base.Ns mainGlobals mg) (c : SaysR fa fn K) (o__law_pick : Ok P w K mg base 3 "_law_pick" 2 (sp__law_pick K)) (o__law_take : Ok P w K mg base 2 "_law_take" 2 spTake) (o__law_rowof : Ok P w K mg base 2 "_law_rowof" 4 (sp__law_rowof K)) (o__law_kindbent : Ok P w K mg base 33 "_law_kindbent" 3 (sp__law_kindbent 30)) : BodyOk P w K mg base ["store", "paper", "f", "kind", "at", "place", "deep", "k", "turned", "p", "q", "line", "last", "full"] "_law_twist" (top 63) 33 (d__law_twist K) := by
  intro f cdv A outer s H E hr tk po
  unfold d__law_twist
  exact (dss_cons (ds_set (i := 3) sc__law_twist.nd (de_fn o__law_take hr tk (da_cons (de_var 0) (da_cons de_int da_nil))))
  (dss_cons (ds_if (dt_eq (huOf hr) (de_var 3) de_int)
  (dss_one (ds_ret (de_fn o__law_kindbent hr tk (da_cons (de_var 0) (da_cons (de_var 1) (da_cons de_int da_nil))))))
  dss_nil)
  (dss_cons (ds_if (dt_eq (huOf hr) (de_var 3) de_int)
  (dss_cons (ds_set (i := 6) sc__law_twist.nd (de_tup da_nil))
  (dss_cons (ds_for (tg0 := (.nm 7)) po rfl (di_rng1 (g_13 X0 G0 c) de_int) (pg_name (i := 7) sc__law_twist.nd rfl (by first | exact Or.inl rfl | exact Or.inr rfl))
  (dss_one (ds_set (i := 6) sc__law_twist.nd (de_lst (da_cons (de_var 6) da_nil)))))
  (dss_one (ds_ret (de_fn o__law_pick hr tk (da_cons (de_var 0) (da_cons (de_lst (da_cons de_non (da_cons de_bl (da_cons de_int (da_cons de_str (da_cons de_str (da_cons (de_lst da_nil) (da_cons (de_tup da_nil) (da_cons (de_var 6) (da_cons (de_lst (da_cons (de_tup da_nil) da_nil)) (da_cons (de_lst (da_cons (de_lst da_nil) da_nil)) (da_cons (de_tup (da_cons de_str (da_cons (de_var 1) da_nil))) (da_cons (de_lst (da_cons (de_var 1) da_nil)) da_nil))))))))))))) da_nil)))))))
  dss_nil)
  (dss_cons (ds_set (i := 4) sc__law_twist.nd (de_fn o__law_take hr tk (da_cons (de_var 0) (da_cons (de_b1 call_len (by decide +kernel) o1_len (g_8 X0 G0 c) (de_var 1)) da_nil))))
  (dss_cons (ds_if (dt_eq (huOf hr) (de_var 3) de_int)
  (dss_cons (ds_set (i := 8) sc__law_twist.nd (de_lst (da_cons (de_add (de_sl (de_var 1) (do_some (de_add (de_var 4) de_int)) do_none) (de_sl (de_var 1) do_none (do_some (de_add (de_var 4) de_int)))) (da_cons (de_add (de_sl (de_var 1) do_none (do_some (de_var 4))) (de_sl (de_var 1) (do_some (de_add (de_var 4) de_int)) do_none)) (da_cons (de_rev (de_var 1)) (da_cons (de_add (de_var 1) (de_lst (da_cons (de_ix (de_var 1) (de_var 4) (fun _ _ => rfl)) da_nil))) da_nil))))))
  (dss_one (ds_ret (de_fn o__law_pick hr tk (da_cons (de_var 0) (da_cons (de_add (de_var 8) (de_lst (da_cons (de_add (de_add (de_sl (de_var 1) do_none (do_some (de_var 4))) (de_lst (da_cons (de_ix (de_var 1) (de_var 4) (fun _ _ => rfl)) da_nil))) (de_sl (de_var 1) (do_some (de_var 4)) do_none)) (da_cons (de_add (de_var 1) (de_lst (da_cons (de_tup da_nil) da_nil))) (da_cons (de_add (de_var 1) (de_lst (da_cons de_non da_nil))) da_nil))))) da_nil))))))
  dss_nil)
  (dss_cons (ds_setT (is := [9, 10, 11, 12]) rfl (de_ix (de_var 1) (de_var 4) (fun _ _ => rfl)) (pgs_cons (pg_name (i := 9) sc__law_twist.nd rfl (by first | exact Or.inl rfl | exact Or.inr rfl)) (pgs_cons (pg_name (i := 10) sc__law_twist.nd rfl (by first | exact Or.inl rfl | exact Or.inr rfl)) (pgs_cons (pg_name (i := 11) sc__law_twist.nd rfl (by first | exact Or.inl rfl | exact Or.inr rfl)) (pgs_cons (pg_name (i := 12) sc__law_twist.nd rfl (by first | exact Or.inl rfl | exact Or.inr rfl)) pgs_nil)))))
  (dss_cons (ds_set (i := 5) sc__law_twist.nd (de_fn o__law_take hr tk (da_cons (de_var 0) (da_cons (de_b1 call_len (by decide +kernel) o1_len (g_8 X0 G0 c) (de_var 11)) da_nil))))
  (dss_cut (ds_if (dt_eq (huOf hr) (de_var 3) de_int)
  (dss_one (ds_set (i := 11) sc__law_twist.nd (de_add (de_add (de_sl (de_var 11) do_none (do_some (de_var 5))) (de_lst (da_cons (de_add (de_ix (de_var 11) (de_var 5) (fun _ _ => rfl)) (de_fn o__law_pick hr tk (da_cons (de_var 0) (da_cons (de_lst (da_cons (de_var 10) (da_cons (de_sub de_int (de_var 10)) da_nil))) da_nil)))) da_nil))) (de_sl (de_var 11) (do_some (de_add (de_var 5) de_int)) do_none))))
  (dss_one (ds_if (dt_eq (huOf hr) (de_var 3) de_int)
  (dss_one (ds_set (i := 11) sc__law_twist.nd (de_add (de_add (de_sl (de_var 11) do_none (do_some (de_var 5))) (de_lst (da_cons (de_mod (de_t1 call_int1 (by decide +kernel) o1_int (g_0 X0 G0 c) (de_add (de_add (de_ix (de_var 11) (de_var 5) (fun _ _ => rfl)) de_int) (de_fn o__law_take hr tk (da_cons (de_var 0) (da_cons (de_sub (de_var 10) de_int) da_nil))))) (de_var 10)) da_nil))) (de_sl (de_var 11) (do_some (de_add (de_var 5) de_int)) do_none))))
  (dss_one (ds_if (dt_eq (huOf hr) (de_var 3) de_int)
  (dss_one (ds_set (i := 12) sc__law_twist.nd (de_fn o__law_pick hr tk (da_cons (de_var 0) (da_cons (de_lst (da_cons (de_add (de_var 12) (de_var 10)) (da_cons (de_sub (de_var 12) (de_var 10)) (da_cons (de_mod (de_t1 call_int1 (by decide +kernel) o1_int (g_0 X0 G0 c) (de_add (de_var 12) (de_var 9))) (de_var 10)) (da_cons (de_mod (de_t1 call_int1 (by decide +kernel) o1_int (g_0 X0 G0 c) (de_add (de_var 12) de_int)) (de_var 10)) (da_cons de_int (da_cons (de_ix (de_var 11) de_int (fun _ _ => rfl)) (da_cons de_non da_nil)))))))) da_nil)))))
  (dss_one (ds_if (dt_eq (huOf hr) (de_var 3) de_int)
  (dss_cons (ds_set (i := 13) sc__law_twist.nd (de_fn o__law_rowof hr tk (da_cons (de_var 2) (da_cons (de_var 10) (da_cons (de_fn o__law_pick hr tk (da_cons (de_var 0) (da_cons (de_lst (da_cons de_int (da_cons (de_ix (de_var 11) (de_var 5) (fun _ _ => rfl)) da_nil))) da_nil))) (da_cons (de_add (de_b1 call_len (by decide +kernel) o1_len (g_8 X0 G0 c) (de_var 11)) (de_fn o__law_take hr tk (da_cons (de_var 0) (da_cons de_int da_nil)))) da_nil))))))
  (dss_cons (ds_set (i := 11) sc__law_twist.nd (de_sl (de_var 13) do_none (do_some (de_neg de_int))))
  (dss_one (ds_set (i := 12) sc__law_twist.nd (de_ix (de_var 13) (de_neg de_int) (fun _ _ => rfl))))))
  (dss_one (ds_if (dt_eq (huOf hr) (de_var 3) de_int)
  (dss_cons (ds_set (i := 10) sc__law_twist.nd (de_fn o__law_pick hr tk (da_cons (de_var 0) (da_cons (de_lst (da_cons (de_var 9) (da_cons (de_mul (de_var 10) (de_var 9)) (da_cons (de_mul (de_var 9) (de_var 9)) da_nil)))) da_nil))))
  (dss_cons (ds_set (i := 13) sc__law_twist.nd (de_fn o__law_rowof hr tk (da_cons (de_var 2) (da_cons (de_var 10) (da_cons de_int (da_cons (de_add (de_b2 (call_max2 rfl) (by decide +kernel) o2_max (g_15 X0 G0 c) (de_var 9) (de_div (de_var 10) (de_var 9))) de_int) da_nil))))))
  (dss_cons (ds_set (i := 11) sc__law_twist.nd (de_sl (de_var 13) do_none (do_some (de_neg de_int))))
  (dss_one (ds_set (i := 12) sc__law_twist.nd (de_ix (de_var 13) (de_neg de_int) (fun _ _ => rfl)))))))
  (dss_one (ds_if (dt_eq (huOf hr) (de_var 3) de_int)
  (dss_one (ds_set (i := 9) sc__law_twist.nd (de_fn o__law_pick hr tk (da_cons (de_var 0) (da_cons (de_lst (da_cons (de_var 10) (da_cons (de_add (de_var 9) de_int) (da_cons (de_sub de_int (de_var 9)) (da_cons de_int (da_cons de_int (da_cons de_int (da_cons de_bl da_nil)))))))) da_nil)))))
  (dss_one (ds_set (i := 11) sc__law_twist.nd (de_fn o__law_pick hr tk (da_cons (de_var 0) (da_cons (de_lst (da_cons (de_add (de_var 11) (de_lst (da_cons (de_var 12) da_nil))) (da_cons (de_sl (de_var 11) do_none (do_some (de_neg de_int))) (da_cons (de_add (de_sl (de_var 11) (do_some de_int) do_none) (de_sl (de_var 11) do_none (do_some de_int))) (da_cons (de_rev (de_var 11)) (da_cons (de_lst da_nil) (da_cons (de_mul (de_lst (da_cons de_int da_nil)) (de_b1 call_len (by decide +kernel) o1_len (g_8 X0 G0 c) (de_var 11))) da_nil))))))) da_nil))))))))))))))))
  (dss_one (ds_ret (de_add (de_add (de_sl (de_var 1) do_none (do_some (de_var 4))) (de_lst (da_cons (de_tup (da_cons (de_var 9) (da_cons (de_var 10) (da_cons (de_var 11) (da_cons (de_var 12) da_nil))))) da_nil))) (de_sl (de_var 1) (do_some (de_add (de_var 4) de_int)) do_none))))))))))))
theorem sc__law_judged : FnScope ["f", "m", "paper", "due", "given", "shown", "answer"] ["f", "m", "paper", "due"] (defScope (top 64)) := ⟨rfl, rfl, rfl, by decide +kernel, rfl, by decide +kernel, by decide +kernel⟩
theorem w__law_judged (X0 : K.In base) (G0 : base.Ns mainGlobals mg) (c : SaysR fa fn K) (o__law_same : Ok P w K mg base 30 "_law_same" 2 (sp__law_same 30)) (o_shows_ring : Ok P w K mg base 4 "shows_ring" 3 (sp_shows_ring K)) (o__law_copy : Ok P w K mg base 30 "_law_copy" 2 (sp__law_copy 30)) : BodyOk P w K mg base ["f", "m", "paper", "due", "given", "shown", "answer"] "_law_judged" (top 64) 30 (d__law_judged K) := by
  intro f cdv A outer s H E hr tk po
  unfold d__law_judged
  exact (dss_cons (ds_set (i := 4) sc__law_judged.nd (de_t1 call_list_of (by decide +kernel) o1_list (g_7 X0 G0 c) (de_var 0)))
  (dss_cons (ds_set (i := 5) sc__law_judged.nd (de_fn o__law_copy hr tk (da_cons (de_var 2) (da_cons de_int da_nil))))
  (dss_cons (ds_set (i := 6) sc__law_judged.nd (de_fn o_shows_ring hr tk (da_cons (de_var 4) (da_cons (de_var 1) (da_cons (de_var 5) da_nil)))))
  (dss_one (ds_ret (de_and (de_fn o__law_same hr tk (da_cons (de_var 6) (da_cons (de_var 3) da_nil))) (de_and (de_fn o__law_same hr tk (da_cons (de_var 4) (da_cons (de_var 0) da_nil))) (de_one (de_fn o__law_same hr tk (da_cons (de_var 5) (da_cons (de_var 2) da_nil)))))))))))
theorem sc__law_refusal : FnScope ["f", "m", "paper", "e"] ["f", "m", "paper"] (defScope (top 65)) := ⟨rfl, rfl, rfl, by decide +kernel, rfl, by decide +kernel, by decide +kernel⟩
theorem w__law_refusal (X0 : K.In base) (G0 : base.Ns mainGlobals mg) (c : SaysR fa fn K) (o_shows_ring : Ok P w K mg base 4 "shows_ring" 3 (sp_shows_ring K)) : BodyOk P w K mg base ["f", "m", "paper", "e"] "_law_refusal" (top 65) 4 (d__law_refusal K) := by
  intro f cdv A outer s H E hr tk po
  unfold d__law_refusal
  exact (dss_cons (ds_try tk (fun W1 pn xe tk1 po1 => (dss_one (ds_drop (de_fn o_shows_ring hr tk1 (da_cons (de_var 0) (da_cons (de_var 1) (da_cons (de_var 2) da_nil)))))))
  (cl_named (i := 3) sc__law_refusal.nd ⟨rfl, by decide, .inl (g_9 X0 G0 c)⟩ (fun a oe C pn hz hf => (dss_one (ds_ret (de_ix (de_lst (da_cons de_str (da_cons de_str da_nil))) (de_t1 call_int1 (by decide +kernel) o1_int (g_0 X0 G0 c) (de_or (de_not (de_isE 3 hz hf (g_1 X0 G0 c) (g_28 X0 G0 c))) (de_one (de_isET 3 hz hf (g_1 X0 G0 c) (prs_cons (g_3 X0 G0 c) (prs_cons (g_24 X0 G0 c) (prs_cons (g_26 X0 G0 c) prs_nil))) (hl := (show 3 ≤ sizeLine by decide)))))) (fun _ _ => rfl)))))
  (cl_named (i := 3) sc__law_refusal.nd ⟨rfl, by decide, .inl (g_3 X0 G0 c)⟩ (fun a oe C pn hz hf => (dss_one (ds_ret (de_ix (de_lst (da_cons de_str (da_cons de_str da_nil))) (de_t1 call_int1 (by decide +kernel) o1_int (g_0 X0 G0 c) (de_or (de_not (de_isE 3 hz hf (g_1 X0 G0 c) (g_28 X0 G0 c))) (de_one (de_isET 3 hz hf (g_1 X0 G0 c) (prs_cons (g_24 X0 G0 c) (prs_cons (g_26 X0 G0 c) (prs_cons (g_31 X0 G0 c) prs_nil))) (hl := (show 3 ≤ sizeLine by decide)))))) (fun _ _ => rfl)))))
  (cl_plain ⟨rfl, by decide, .inl (g_28 X0 G0 c)⟩ (fun a oe pn => (dss_one (ds_ret de_str)))
  cl_nil))))
  (dss_one (ds_ret de_str)))
theorem sc_law : FnScope ["script", "store", "m", "f", "g", "paper", "other", "good", "meet", "turn", "bent", "badpoly", "badmodulus", "shown", "one", "two", "word"] ["script"] (defScope (top 66)) := ⟨rfl, rfl, rfl, by decide +kernel, rfl, by decide +kernel, by decide +kernel⟩
theorem w_law (X0 : K.In base) (G0 : base.Ns mainGlobals mg) (c : SaysR fa fn K) (o__law_judged : Ok P w K mg base 31 "_law_judged" 4 (sp__law_judged K)) (o__law_refusal : Ok P w K mg base 5 "_law_refusal" 3 (sp__law_refusal K)) (o__law_pick : Ok P w K mg base 3 "_law_pick" 2 (sp__law_pick K)) (o__law_same : Ok P w K mg base 30 "_law_same" 2 (sp__law_same 30)) (o__law_twist : Ok P w K mg base 34 "_law_twist" 3 (sp__law_twist K)) (o__law_allround : Ok P w K mg base 3 "_law_allround" 2 (sp__law_allround K)) (o__law_ringpaper : Ok P w K mg base 3 "_law_ringpaper" 2 (sp__law_ringpaper K)) (o__law_seldom : Ok P w K mg base 3 "_law_seldom" 2 (sp__law_seldom K)) (o__law_vast : Ok P w K mg base 3 "_law_vast" 3 (sp__law_vast K)) (o__law_maker : Ok P w K mg base 5 "_law_maker" 3 (sp__law_maker K)) (o__law_modulus : Ok P w K mg base 4 "_law_modulus" 2 (sp__law_modulus K)) (f : Addr) (cdv : Value) (A : Around) (outer : List Env) (s : Shared) (H : Hp) (E : XK) (hr : Room 34 (A.deeper (envOfC "law" (defScope (top 66)) s.heap.objs.size f cdv))) (tk : L2N.Takes (cxD P w K mg base ["script", "store", "m", "f", "g", "paper", "other", "good", "meet", "turn", "bent", "badpoly", "badmodulus", "shown", "one", "two", "word"] "law" (top 66) f cdv A outer s H E) (WE0 E)) (po : PassesOwn (model P w) (cxD P w K mg base ["script", "store", "m", "f", "g", "paper", "other", "good", "meet", "turn", "bent", "badpoly", "badmodulus", "shown", "one", "two", "word"] "law" (top 66) f cdv A outer s H E).A (cxD P w K mg base ["script", "store", "m", "f", "g", "paper", "other", "good", "meet", "turn", "bent", "badpoly", "badmodulus", "shown", "one", "two", "word"] "law" (top 66) f cdv A outer s H E).env (cxD P w K mg base ["script", "store", "m", "f", "g", "paper", "other", "good", "meet", "turn", "bent", "badpoly", "badmodulus", "shown", "one", "two", "word"] "law" (top 66) f cdv A outer s H E).xe) :
    PSs (cxD P w K mg base ["script", "store", "m", "f", "g", "paper", "other", "good", "meet", "turn", "bent", "badpoly", "badmodulus", "shown", "one", "two", "word"] "law" (top 66) f cdv A outer s H E) (defBody (top 66)).tail (lS K (WE0 E) (d_law K)) := by
  unfold d_law
  exact (dss_cons (ds_set (i := 2) sc_law.nd (de_fn o__law_modulus hr tk (da_cons (de_var 1) (da_cons (de_fn o__law_pick hr tk (da_cons (de_var 1) (da_cons (de_lst (da_cons de_int (da_cons de_int (da_cons de_int (da_cons de_int (da_cons de_int (da_cons de_int (da_cons de_int (da_cons de_int (da_cons de_int (da_cons de_int (da_cons de_int (da_cons (de_pow de_int de_int) da_nil))))))))))))) da_nil))) da_nil))))
  (dss_cons (ds_set (i := 3) sc_law.nd (de_fn o__law_maker hr tk (da_cons (de_var 1) (da_cons (de_var 2) (da_cons de_bl da_nil)))))
  (dss_cons (ds_set (i := 4) sc_law.nd (de_fn o__law_maker hr tk (da_cons (de_var 1) (da_cons (de_var 2) (da_cons de_bl da_nil)))))
  (dss_cut (ds_if (dt_val (de_fn o__law_seldom hr tk (da_cons (de_var 1) (da_cons de_int da_nil))))
  (dss_one (ds_set (i := 3) sc_law.nd (de_fn o__law_vast hr tk (da_cons (de_var 1) (da_cons (de_var 3) (da_cons (de_var 2) da_nil))))))
  dss_nil)
  (dss_cut (ds_if (dt_val (de_fn o__law_seldom hr tk (da_cons (de_var 1) (da_cons de_int da_nil))))
  (dss_one (ds_set (i := 4) sc_law.nd (de_fn o__law_vast hr tk (da_cons (de_var 1) (da_cons (de_var 4) (da_cons (de_var 2) da_nil))))))
  dss_nil)
  (dss_cons (ds_set (i := 5) sc_law.nd (de_fn o__law_ringpaper hr tk (da_cons (de_var 3) (da_cons (de_var 2) da_nil))))
  (dss_cons (ds_set (i := 6) sc_law.nd (de_fn o__law_ringpaper hr tk (da_cons (de_var 4) (da_cons (de_var 2) da_nil))))
  (dss_cons (ds_set (i := 7) sc_law.nd (de_fn o__law_allround hr tk (da_cons (de_var 4) (da_cons (de_var 2) da_nil))))
  (dss_cons (ds_if (PW.pt (dw_or (dt_not (dt_val (de_fn o__law_judged hr tk (da_cons (de_var 3) (da_cons (de_var 2) (da_cons (de_var 5) (da_cons de_bl da_nil))))))) (dw_or1 (dt_not (dt_val (de_fn o__law_judged hr tk (da_cons (de_var 4) (da_cons (de_var 2) (da_cons (de_var 6) (da_cons (de_var 7) da_nil))))))))))
  (dss_one (ds_ret de_bl))
  dss_nil)
  (dss_cons (ds_set (i := 8) sc_law.nd (de_fn o__law_same hr tk (da_cons (de_var 5) (da_cons (de_var 6) da_nil))))
  (dss_cons (ds_if (PW.pt (dw_or (dt_not (dt_val (de_fn o__law_judged hr tk (da_cons (de_var 3) (da_cons (de_var 2) (da_cons (de_var 6) (da_cons (de_var 8) da_nil))))))) (dw_or1 (dt_not (dt_val (de_fn o__law_judged hr tk (da_cons (de_var 4) (da_cons (de_var 2) (da_cons (de_var 5) (da_cons (de_and (de_var 8) (de_one (de_var 7))) da_nil))))))))))
  (dss_one (ds_ret de_bl))
  dss_nil)
  (dss_cons (ds_for (tg0 := (.nm 9)) po rfl (di_rng1 (g_13 X0 G0 c) de_int) (pg_name (i := 9) sc_law.nd rfl (by first | exact Or.inl rfl | exact Or.inr rfl))
  (dss_cons (ds_set (i := 10) sc_law.nd (de_fn o__law_twist hr tk (da_cons (de_var 1) (da_cons (de_var 5) (da_cons (de_var 3) da_nil)))))
  (dss_one (ds_if (dt_not (dt_val (de_fn o__law_judged hr tk (da_cons (de_var 3) (da_cons (de_var 2) (da_cons (de_var 10) (da_cons (de_fn o__law_same hr tk (da_cons (de_var 10) (da_cons (de_var 5) da_nil))) da_nil)))))))
  (dss_one (ds_ret de_bl))
  dss_nil))))
  (dss_cons (ds_set (i := 10) sc_law.nd (de_fn o__law_twist hr tk (da_cons (de_var 1) (da_cons (de_var 6) (da_cons (de_var 4) da_nil)))))
  (dss_cons (ds_if (dt_not (dt_val (de_fn o__law_judged hr tk (da_cons (de_var 4) (da_cons (de_var 2) (da_cons (de_var 10) (da_cons (de_and (de_var 7) (de_one (de_fn o__law_same hr tk (da_cons (de_var 10) (da_cons (de_var 6) da_nil))))) da_nil)))))))
  (dss_one (ds_ret de_bl))
  dss_nil)
  (dss_cons (ds_set (i := 11) sc_law.nd (de_fn o__law_pick hr tk (da_cons (de_var 1) (da_cons (de_lst (da_cons (de_t1 call_tuple_of (by decide +kernel) o1_tuple (g_18 X0 G0 c) (de_var 3)) (da_cons (de_add (de_var 3) (de_lst (da_cons de_int da_nil))) (da_cons de_non (da_cons (de_add (de_var 3) (de_lst (da_cons (de_add (de_pow de_int de_int) de_int) da_nil))) (da_cons (de_add (de_var 3) (de_lst (da_cons de_bl da_nil))) (da_cons (de_mul (de_lst (da_cons de_int da_nil)) de_int) (da_cons de_str (da_cons (de_lst (da_cons de_int da_nil)) (da_cons (de_tup da_nil) da_nil)))))))))) da_nil))))
  (dss_cons (ds_set (i := 12) sc_law.nd (de_fn o__law_pick hr tk (da_cons (de_var 1) (da_cons (de_lst (da_cons de_int (da_cons de_int (da_cons (de_sub de_int (de_var 2)) (da_cons de_int (da_cons (de_mul de_int (de_var 2)) (da_cons de_bl (da_cons de_non (da_cons de_str (da_cons (de_add (de_pow de_int de_int) de_int) (da_cons de_int (da_cons (de_lst (da_cons (de_var 2) da_nil)) da_nil)))))))))))) da_nil))))
  (dss_cons (ds_set (i := 13) sc_law.nd (de_fn o__law_pick hr tk (da_cons (de_var 1) (da_cons (de_lst (da_cons (de_var 5) (da_cons (de_var 10) (da_cons de_non da_nil)))) da_nil))))
  (dss_cons (ds_for (tg0 := (.tp [14, 15, 16])) po rfl (di_lst (de_lst (da_cons (de_tup (da_cons (de_var 11) (da_cons (de_var 2) (da_cons de_str da_nil)))) (da_cons (de_tup (da_cons (de_t1 call_list_of (by decide +kernel) o1_list (g_7 X0 G0 c) (de_var 3)) (da_cons (de_var 12) (da_cons de_str da_nil)))) (da_cons (de_tup (da_cons (de_var 11) (da_cons (de_var 12) (da_cons de_str da_nil)))) da_nil))))) (pg_tup rfl (pgs_cons (pg_name (i := 14) sc_law.nd rfl (by first | exact Or.inl rfl | exact Or.inr rfl)) (pgs_cons (pg_name (i := 15) sc_law.nd rfl (by first | exact Or.inl rfl | exact Or.inr rfl)) (pgs_cons (pg_name (i := 16) sc_law.nd rfl (by first | exact Or.inl rfl | exact Or.inr rfl)) pgs_nil))))
  (dss_one (ds_if (dt_ne (huOf hr) (de_fn o__law_refusal hr tk (da_cons (de_var 14) (da_cons (de_var 15) (da_cons (de_var 13) da_nil)))) (de_var 16))
  (dss_one (ds_ret de_bl))
  dss_nil)))
  (dss_one (ds_ret (de_fn o__law_judged hr tk (da_cons (de_var 3) (da_cons (de_var 2) (da_cons (de_var 5) (da_cons de_bl da_nil)))))))))))))))))))))))))
end
end RB

set_option Elab.async false
set_option linter.all false
set_option maxRecDepth 100000
set_option maxHeartbeats 8000000
set_option exponentiation.threshold 100000
/-! LAA: taken over from other claims by lib.py -/
namespace RB
open PySem PySem.Spec PyProof.Rows L2
local macro_rules | `(tactic| walk_at "ST") => `(tactic| ((conv => whnf); repeat (first | (refine Br.t ?_; conv => whnf) | (refine Br.f ?_; conv => whnf))))
local macro_rules | `(tactic| walk_at "SZ") => `(tactic| first | decide | omega | (simp only [List.length_append, List.length_map, List.length_cons, List.length_nil]; done) | (simp only [List.length_append, List.length_map, List.length_cons, List.length_nil]; omega))
local macro_rules | `(tactic| walk_at "G1") => `(tactic| first | refine And.intro (szLine (by walk_at "SZ")) ?_ | refine And.intro (mulR (by decide) (by decide)) ?_ | refine And.intro (mulL (by decide) (by decide)) ?_ | refine And.intro (divOk (by decide) (by decide)) ?_ | refine And.intro (show PowOk _ _ from ⟨by decide, by decide⟩) ?_ | refine And.intro (by decide) ?_ | refine And.intro rfl ?_ | refine Exists.intro _ (And.intro rfl ?_))
local macro_rules | `(tactic| walk_at "DP") => `(tactic| repeat (first | assumption | exact Dep.non | exact Dep.bl _ | exact Dep.int _ | exact Dep.str _ | exact dL_nil | refine dL_cons ?_ ?_ | refine Dep.lst (by walk_at "SZ") ?_ | refine Dep.tup (by walk_at "SZ") ?_))
local macro_rules | `(tactic| walk_at "GO") => `(tactic| ((walk_at "ST"); repeat ((walk_at "G1"); (walk_at "ST"))))
theorem xor_b {a b : Int} (ha : 0 ≤ a) (hb : 0 ≤ b) : 0 ≤ Builtin.bitXor a b ∧ Builtin.bitXor a b ≤ a + b := by
  rw [bitXor_and, bitAnd_pp ha hb]
  have h1 : a.toNat &&& b.toNat ≤ a.toNat := Nat.and_le_left
  have h2 : a.toNat &&& b.toNat ≤ b.toNat := Nat.and_le_right
  omega
section
variable {K : Fr} {Q : RV → Prop} {X : Addr → Prop}
theorem c_take {n : Int} (hn : n < 2 ^ 64) (q : ∀ r, 0 ≤ r → r < max 1 n → Q (.dat (.int r))) : Cal spTake 2 [.sto, .dat (.int n)] Q X := ⟨rfl, hn, q⟩
theorem c_mixed {a b : Int} (q : ∀ r, Q (.dat (.int r))) : Cal (sp__law_mixed K) 2 [.dat (.int a), .dat (.int b)] Q X := ⟨rfl, a, b, rfl, q⟩
theorem c_seldom {n : Int} (hn : n < 2 ^ 64) (q : ∀ b, Q (.dat (.bool b))) : Cal (sp__law_seldom K) 2 [.sto, .dat (.int n)] Q X := ⟨rfl, n, rfl, hn, q⟩
theorem c_pick {ds : List D} (h : ds ≠ []) (hl : ds.length < 2 ^ 62) (q : ∀ d ∈ ds, Q (.dat d)) : Cal (sp__law_pick K) 2 [.sto, .dat (.list ds)] Q X := ⟨rfl, ds, rfl, ⟨h, hl⟩, q⟩
end
section
variable {K : Fr} {Q : RV → Prop} {X : Addr → Prop} {rs : List RV}
theorem l__law_mixed (h : sp__law_mixed K rs Q X) : d__law_mixed K (endD Q X) (startD ["number", "turn", "prime", "first", "second", "third"] rs) := by
  obtain ⟨a, b, rfl, h⟩ := h
  conv => whnf
  refine ⟨mulR (by decide) (by decide), ?_⟩
  conv => whnf
  refine ⟨mulR (by decide) (by decide), ?_⟩
  conv => whnf
  refine ⟨by decide, ?_⟩
  conv => whnf
  refine ⟨by decide, ?_⟩
  conv => whnf
  refine ⟨mulR (by decide) (by decide), ?_⟩
  conv => whnf
  refine ⟨mulR (by decide) (by decide), ?_⟩
  conv => whnf
  refine ⟨by decide, ?_⟩
  conv => whnf
  refine ⟨by decide, ?_⟩
  conv => whnf
  generalize e : _ % (2305843009213693951 : Int) = sec
  have e0 : 0 ≤ sec ∧ sec < 2305843009213693951 := by
    rw [← e]
    exact ⟨Int.emod_nonneg _ (by decide), Int.emod_lt_of_pos _ (by decide)⟩
  refine ⟨mulL ?_ ?_, ?_⟩
  · have := xor_b e0.1 (b := sec / 2 ^ Int.toNat 27) (Int.ediv_nonneg e0.1 (by decide))
    omega
  · have := xor_b e0.1 (b := sec / 2 ^ Int.toNat 27) (Int.ediv_nonneg e0.1 (by decide))
    have h2 : sec / 2 ^ Int.toNat 27 ≤ sec := Int.ediv_le_self _ e0.1
    omega
  conv => whnf
  refine ⟨by decide, ?_⟩
  conv => whnf
  refine ⟨by decide, ?_⟩
  conv => whnf
  exact h _
theorem l__law_take (h : spTake rs Q X) : d__law_take K (endD Q X) (startD ["store", "many", "cell", "rest"] rs) := by
  unfold spTake at h
  split at h
  · rename_i n
    obtain ⟨hn, h⟩ := h
    conv => whnf
    have e1 : (if n > 1 then n else 1) = max 1 n := by omega
    -- store[5] = store[5] + 1
    refine ⟨rfl, rfl, ⟨by decide, by decide⟩, fun n5 _ => ?_⟩
    conv => whnf
    refine ⟨⟨⟨by decide, by decide⟩, fun z => by omega⟩, ?_⟩
    conv => whnf
    refine ⟨fun δ' => ∃ c r, δ' = [.sto, .dat (.int (if n > 1 then n else 1)), c, r], ?_, ?_⟩
    · conv => whnf
      refine ⟨rfl, ⟨by decide, by decide⟩, fun n2 _ => ?_⟩
      conv => whnf
      refine Br.dec (fun _ => ?_) (fun _ => Br.f ⟨_, _, rfl⟩)
      conv => whnf
      refine ⟨rfl, ⟨by decide, by decide⟩, fun n4 _ => ?_⟩
      conv => whnf
      refine Br.dec (fun _ => ?_) (fun _ => ⟨_, _, rfl⟩)
      conv => whnf
      refine ⟨rfl, ?_⟩
      conv => whnf
      refine ⟨rfl, ⟨by decide, by decide⟩, fun n6 _ => ?_⟩
      conv => whnf
      refine ⟨⟨⟨by decide, by decide⟩, fun z => by omega⟩, ?_⟩
      conv => whnf
      refine ⟨rfl, ?_⟩
      conv => whnf
      refine ⟨⟨⟨by decide, by decide⟩, fun z => by omega⟩, ?_⟩
      conv => whnf
      refine ⟨rfl, fun cl => ?_, ⟨_, _, rfl⟩⟩
      conv => whnf
      refine ⟨rfl, ?_⟩
      conv => whnf
      refine ⟨rfl, ⟨by decide, by decide⟩, fun n1 h1 => ?_⟩
      conv => whnf
      refine ⟨⟨⟨by decide, by decide⟩, fun z => ?_⟩, ?_⟩
      · have := h1 rfl
        show (0 : Int) ≤ n1 + 1
        omega
      conv => whnf
      refine ⟨rfl, ?_⟩
      conv => whnf
      refine ⟨by decide, ?_⟩
      conv => whnf
      refine ⟨⟨⟨by decide, by decide⟩, fun z => by omega⟩, ?_⟩
      conv => whnf
      refine ⟨rfl, ?_⟩
      conv => whnf
      refine ⟨⟨⟨by decide, by decide⟩, fun z => by omega⟩, ?_⟩
      conv => whnf
      refine ⟨⟨by decide, by decide⟩, ?_⟩
      conv => whnf
      refine Br.dec (fun _ => ?_) (fun _ => ⟨_, _, rfl⟩)
      conv => whnf
      refine ⟨rfl, ?_⟩
      conv => whnf
      refine ⟨⟨⟨by decide, by decide⟩, fun z => by omega⟩, ?_⟩
      conv => whnf
      refine ⟨rfl, ?_⟩
      conv => whnf
      refine ⟨⟨⟨by decide, by decide⟩, fun z => by omega⟩, ?_⟩
      exact ⟨_, _, rfl⟩
    · rintro δ' ⟨c, r, rfl⟩
      have hM : 0 < (if n > 1 then n else 1 : Int) := by omega
      have hlt : ∀ x : Int, x % (if n > 1 then n else 1) < max 1 n := fun x => by
        have := Int.emod_lt_of_pos x hM
        omega
      conv => whnf
      refine ⟨rfl, ⟨by decide, by decide⟩, fun n2 _ => ?_⟩
      conv => whnf
      refine Br.dec (fun _ => ?_) (fun _ => ?_)
      · conv => whnf
        refine ⟨rfl, ⟨by decide, by decide⟩, fun n2 _ => ?_⟩
        conv => whnf
        refine ⟨rfl, ?_⟩
        conv => whnf
        refine ⟨⟨hM, ?_⟩, ?_⟩
        · exact (divOk hM (by omega)).2
        conv => whnf
        refine ⟨⟨⟨by decide, by decide⟩, fun z => by omega⟩, ?_⟩
        conv => whnf
        refine ⟨hM, ?_⟩
        exact h _ (Int.emod_nonneg _ (by omega)) (hlt _)
      · conv => whnf
        refine ⟨rfl, ?_⟩
        conv => whnf
        refine ⟨rfl, ⟨by decide, by decide⟩, fun n4 _ => ?_⟩
        conv => whnf
        refine ⟨⟨⟨by decide, by decide⟩, fun z => by omega⟩, ?_⟩
        conv => whnf
        refine ⟨rfl, ⟨by decide, by decide⟩, fun n3 _ => ?_⟩
        conv => whnf
        refine ⟨rfl, ⟨by decide, by decide⟩, fun n5' _ => ?_⟩
        conv => whnf
        refine c_mixed fun r => ?_
        conv => whnf
        refine ⟨hM, ?_⟩
        exact h _ (Int.emod_nonneg _ (by omega)) (hlt _)
  · exact h.elim
theorem l__law_seldom (h : sp__law_seldom K rs Q X) : d__law_seldom K (endD Q X) (startD ["store", "many"] rs) := by
  obtain ⟨n, rfl, hn, h⟩ := h
  conv => whnf
  refine c_take hn fun r _ _ => ?_
  conv => whnf
  exact h _
theorem l__law_pick (h : sp__law_pick K rs Q X) : d__law_pick K (endD Q X) (startD ["store", "items"] rs) := by
  obtain ⟨ds, rfl, ⟨hne, hl⟩, h⟩ := h
  have hp : 0 < ds.length := List.length_pos_iff.mpr hne
  conv => whnf
  refine c_take (by omega) fun r h1 h2 => ?_
  conv => whnf
  have h3 : r < ds.length := by omega
  refine ⟨_, atI_nat h1 h3, ?_⟩
  conv => whnf
  exact h _ (List.getElem_mem _)
end
theorem vpF_fuel {p : Nat} (hp : 2 ≤ p) : ∀ (f x : Nat), 0 < x → x < 2 ^ f → vpF p f x = vpF p (f + 1) x
  | 0, x, h0, h => by omega
  | f + 1, x, h0, h => by
    show (if x % p = 0 then vpF p f (x / p) + 1 else 0) = (if x % p = 0 then vpF p (f + 1) (x / p) + 1 else 0)
    by_cases hx : x % p = 0
    · rw [if_pos hx, if_pos hx]
      have hd : x / p < 2 ^ f := (Nat.div_lt_iff_lt_mul (by omega)).mpr (Nat.lt_of_lt_of_le h (by rw [Nat.pow_succ]; exact Nat.mul_le_mul_left _ hp))
      rw [vpF_fuel hp f (x / p) (Nat.div_pos (Nat.le_of_dvd h0 (Nat.dvd_of_mod_eq_zero hx)) (by omega)) hd]
    · rw [if_neg hx, if_neg hx]
theorem vp_step {p r : Nat} (hp : 2 ≤ p) (h0 : 0 < r) (h : r < 2 ^ 64) (hm : r % p = 0) : vp p r = vp p (r / p) + 1 := by
  have e : vp p r = vpF p 63 (r / p) + 1 := by
    show (if r % p = 0 then vpF p 63 (r / p) + 1 else 0) = _
    rw [if_pos hm]
  have hd : r / p < 2 ^ 63 := (Nat.div_lt_iff_lt_mul (by omega)).mpr (Nat.lt_of_lt_of_le h (by
    have : 2 ^ 64 = 2 ^ 63 * 2 := by decide
    rw [this]; exact Nat.mul_le_mul_left _ hp))
  rw [e, vpF_fuel hp 63 _ (Nat.div_pos (Nat.le_of_dvd h0 (Nat.dvd_of_mod_eq_zero hm)) (by omega)) hd]
  rfl
theorem vp_zero {p r : Nat} (hm : r % p ≠ 0) : vp p r = 0 := if_neg hm
theorem div_lt {p r : Nat} (hp : 2 ≤ p) (h0 : 0 < r) : r / p < r := Nat.div_lt_self h0 (by omega)
/-- between the turns of the division by p -/
structure Vp (p r r' e : Nat) : Prop where
  pos : 0 < r'
  le : r' ≤ r
  v : vp p r = vp p r' + e
  q : r / p ^ vp p r = r' / p ^ vp p r'
theorem Vp.go {p r r' e : Nat} (h : Vp p r r' e) (hp : 2 ≤ p) (hr : r < 2 ^ 64) (hm : r' % p = 0) : Vp p r (r' / p) (e + 1) := by
  have hs := vp_step hp h.pos (Nat.lt_of_le_of_lt h.le hr) hm
  refine ⟨Nat.div_pos (Nat.le_of_dvd h.pos (Nat.dvd_of_mod_eq_zero hm)) (by omega), Nat.le_trans (Nat.div_le_self _ _) h.le, by rw [h.v, hs]; omega, ?_⟩
  rw [h.q, hs, Nat.pow_succ, Nat.mul_comm, Nat.div_div_eq_div_mul]
theorem Vp.fin {p r r' e : Nat} (h : Vp p r r' e) (hm : r' % p ≠ 0) : e = vp p r ∧ r' = r / p ^ vp p r := by
  have hz := vp_zero hm
  refine ⟨by rw [h.v, hz, Nat.zero_add], ?_⟩
  rw [h.q, hz, Nat.pow_zero, Nat.div_one]
theorem Vp.start {p r : Nat} (h : 0 < r) : Vp p r r 0 := ⟨h, Nat.le_refl _, rfl, rfl⟩
theorem szLine' : 2 ^ 20 ≤ sizeLine := by decide
section
variable {K : Fr} {Q : RV → Prop} {X : Addr → Prop} {rs : List RV}
theorem l_within (h : sp_within K rs Q X) : d_within K (endD Q X) (startD ["x", "low", "high"] rs) := by
  obtain ⟨d, lo, hi, rfl, h⟩ := h
  conv => whnf
  cases d
  case int x =>
    refine Br.t ?_
    conv => whnf
    refine Br.t ?_
    conv => whnf
    refine Br.dec (fun h1 => ?_) (fun h1 => ?_)
    · conv => whnf
      have e : withinD (.int x) lo hi = decide (x ≤ hi) := by show (decide (lo ≤ x) && decide (x ≤ hi)) = _; rw [decide_eq_true h1, Bool.true_and]
      rw [e] at h
      exact h
    · conv => whnf
      have e : withinD (.int x) lo hi = false := by show (decide (lo ≤ x) && decide (x ≤ hi)) = _; rw [decide_eq_false h1, Bool.false_and]
      rw [e] at h
      exact h
  case bool b =>
    refine Br.t ?_
    conv => whnf
    refine Br.f ?_
    conv => whnf
    exact h
  all_goals
    refine Br.f ?_
    conv => whnf
    exact h
theorem c_within {d : D} {lo hi : Int} (q : Q (.dat (.bool (withinD d lo hi)))) : Cal (sp_within K) 3 [.dat d, .dat (.int lo), .dat (.int hi)] Q X := ⟨rfl, d, lo, hi, rfl, q⟩
theorem facD_out {d : D} (h : withinD d 2 10000000000 = false) : facD d = none := by
  cases d
  case int m =>
    refine if_neg fun z => ?_
    have h' : (decide (2 ≤ m) && decide (m ≤ 10000000000)) = false := h
    rw [decide_eq_true z.1, decide_eq_true z.2] at h'
    cases h'
  all_goals rfl
theorem facD_in {d : D} (h : withinD d 2 10000000000 = true) : ∃ m : Nat, d = .int m ∧ 2 ≤ m ∧ m ≤ 10000000000 ∧ facD d = facRun PR m := by
  cases d
  case int m =>
    have h' : (decide (2 ≤ m) && decide (m ≤ 10000000000)) = true := h
    obtain ⟨h1, h2⟩ := Bool.and_eq_true_iff.mp h'
    have h1 := of_decide_eq_true h1
    have h2 := of_decide_eq_true h2
    exact ⟨m.toNat, by rw [Int.toNat_of_nonneg (by omega)], by omega, by omega, if_pos ⟨h1, h2⟩⟩
  all_goals cases h
theorem pr_at {i : Nat} {d : D} (h : (PR.map prD)[i]? = some d) : ∃ p most : Nat, d = .tuple [.int p, .int most] ∧ 2 ≤ p ∧ p < 2 ^ 20 ∧ PR.drop i = (p, most) :: PR.drop (i + 1) := by
  rw [List.getElem?_map] at h
  cases e : PR[i]? with
  | none => rw [e] at h; cases h
  | some q =>
    rw [e] at h
    obtain ⟨hi, e2⟩ := List.getElem?_eq_some_iff.mp e
    refine ⟨q.1, q.2, (Option.some.inj h).symm, ?_, ?_, by rw [List.drop_eq_getElem_cons hi, e2]⟩
    · have : ∀ q ∈ PR, 2 ≤ q.1 := by decide
      exact this q (List.mem_of_getElem? e)
    · have : ∀ q ∈ PR, q.1 < 2 ^ 20 := by decide
      exact this q (List.mem_of_getElem? e)
theorem l_factors (h : sp_factors K rs Q X) : d_factors K (endD Q X) (startD ["m", "pairs", "rest", "p", "most", "e"] rs) := by
  obtain ⟨d, rfl, hy, hn⟩ := h
  conv => whnf
  refine c_within ?_
  conv => whnf
  cases hw : withinD d 2 10000000000
  · refine Br.t ?_
    conv => whnf
    exact hn (facD_out hw)
  · refine Br.f ?_
    obtain ⟨m, rfl, hm2, hm, hf⟩ := facD_in hw
    rw [hf] at hy hn
    conv => whnf
    refine ⟨by decide, ?_⟩
    conv => whnf
    refine ⟨fun i δ => ∃ (r : Nat) (acc : List (Nat × Nat)) (a b c : Sl), δ = [.dat (.int m), .own (acc.map prD), .dat (.int r), a, b, c] ∧ (0 < r ∧ r ≤ m) ∧ acc.length ≤ i ∧ facRun PR m = (facRun (PR.drop i) r).map (acc ++ ·), ⟨m, [], _, _, _, rfl, ⟨by omega, Nat.le_refl _⟩, by simp, ?_⟩, ?_, ?_⟩
    · show facRun PR m = (facRun PR m).map ([] ++ ·)
      cases facRun PR m <;> rfl
    · rintro i d δ hd ⟨r, acc, a, b, c, rfl, ⟨hr0, hr⟩, hl, hrun⟩
      obtain ⟨p, most, rfl, hp, hp2, hdr⟩ := pr_at hd
      have hi : i < 12 := (List.getElem?_eq_some_iff.mp hd).1
      rw [hdr] at hrun
      conv => whnf
      refine ⟨rfl, ?_⟩
      conv => whnf
      refine ⟨fun k δ => ∃ r' e : Nat, δ = [.dat (.int m), .own (acc.map prD), .dat (.int r'), .dat (.int p), .dat (.int most), .dat (.int e)] ∧ Vp p r r' e ∧ r' = k, ⟨r, r, 0, rfl, .start hr0, rfl⟩, ?_⟩
      rintro k δ ⟨r', e, rfl, hv, rfl⟩
      conv => whnf
      refine ⟨by omega, ?_⟩
      conv => whnf
      refine Br.dec (fun hm => ?_) (fun hm => ?_)
      · have hm : r' % p = 0 := Int.ofNat_eq_zero.mp (show ((r' % p : Nat) : Int) = 0 from hm)
        conv => whnf
        refine ⟨divOk (by omega) (by omega), ?_⟩
        conv => whnf
        exact ⟨_, div_lt hp hv.pos, _, e + 1, rfl, hv.go hp (by omega) hm, rfl⟩
      · have hm : r' % p ≠ 0 := fun z => hm (show ((r' % p : Nat) : Int) = 0 by rw [z]; rfl)
        obtain ⟨rfl, rfl⟩ := hv.fin hm
        have h0 := hv.pos
        have h1 := hv.le
        have hrun' : facRun PR m = ((if most < vp p r then none else (facRun (PR.drop (i + 1)) (r / p ^ vp p r)).map fun l => if 0 < vp p r then (p, vp p r) :: l else l) : Option (List (Nat × Nat))).map (acc ++ ·) := hrun
        conv => whnf
        refine Br.dec (fun hc => ?_) (fun hc => ?_)
        · conv => whnf
          refine hn ?_
          rw [hrun', if_pos (by omega)]
          rfl
        · conv => whnf
          rw [if_neg (by omega)] at hrun'
          refine Br.dec (fun hz => ?_) (fun hz => ?_)
          · have hz : 0 < vp p r := by omega
            conv => whnf
            refine ⟨szLine (show 2 < 2 ^ 20 by decide), ?_⟩
            conv => whnf
            refine ⟨by rw [List.length_map]; exact Nat.lt_of_le_of_lt hl (Nat.lt_of_lt_of_le (show i < 2 ^ 20 by omega) (szLine' )), ?_⟩
            conv => whnf
            refine ⟨_, acc ++ [(p, vp p r)], _, _, _, by rw [List.map_append]; rfl, ⟨h0, by omega⟩, by rw [List.length_append]; show acc.length + 1 ≤ i + 1; omega, ?_⟩
            rw [hrun']
            cases facRun (PR.drop (i + 1)) (r / p ^ vp p r) with
            | none => rfl
            | some l => simp [hz]
          · have hz : ¬ 0 < vp p r := by omega
            conv => whnf
            refine ⟨_, acc, _, _, _, rfl, ⟨h0, by omega⟩, by omega, ?_⟩
            rw [hrun']
            cases facRun (PR.drop (i + 1)) (r / p ^ vp p r) with
            | none => rfl
            | some l => simp [hz]
    · rintro δ ⟨r, acc, a, b, c, rfl, ⟨hr0, hr⟩, hl, hrun⟩
      have hrun' : facRun PR m = ((if r = 1 then some [] else none) : Option (List (Nat × Nat))).map (acc ++ ·) := hrun
      conv => whnf
      refine Br.ndec (fun hc => ?_) (fun hc => ?_)
      · conv => whnf
        refine hn ?_
        rw [hrun', if_neg (by omega)]
        rfl
      · conv => whnf
        have e1 : r = 1 := by omega
        rw [if_pos e1] at hrun'
        have := hy acc (by rw [hrun']; simp)
        exact this
theorem c_factors {d : D} (hy : ∀ l, facD d = some l → Q (.own (l.map prD))) (hn : facD d = none → X (cM K)) : Cal (sp_factors K) 1 [.dat d] Q X := ⟨rfl, d, rfl, hy, hn⟩
theorem c_check_modulus {d : D} (hy : ∀ l, facD d = some l → Q (.dat .none)) (hn : facD d = none → X (cM K)) : Cal (sp_check_modulus K) 1 [.dat d] Q X := ⟨rfl, d, rfl, hy, hn⟩
theorem l_check_modulus (h : sp_check_modulus K rs Q X) : d_check_modulus K (endD Q X) (startD ["m"] rs) := by
  obtain ⟨d, rfl, hy, hn⟩ := h
  conv => whnf
  exact c_factors hy hn
end
theorem iL_of_fit : ∀ {ds : List D}, ds.all fitD = true → ∃ ns, ds = iL ns ∧ ∀ x ∈ ns, Fit x
  | [], _ => ⟨[], rfl, by simp⟩
  | d :: ds, h => by
    rw [List.all_cons] at h
    obtain ⟨h1, h2⟩ := Bool.and_eq_true_iff.mp h
    obtain ⟨ns, rfl, hn⟩ := iL_of_fit h2
    cases d
    case int x =>
      obtain ⟨a, b⟩ := Bool.and_eq_true_iff.mp (show (decide (-(10 ^ 60) ≤ x) && decide (x ≤ 10 ^ 60)) = true from h1)
      exact ⟨x :: ns, rfl, fun y hy => (List.mem_cons.mp hy).elim (fun e => e ▸ ⟨of_decide_eq_true a, of_decide_eq_true b⟩) (hn y)⟩
    all_goals cases h1
section
variable {K : Fr} {Q : RV → Prop} {X : Addr → Prop} {rs : List RV}
theorem c_power {b : Int} {e : Nat} (hb : -(2 ^ 64) < b ∧ b < 2 ^ 64) (he : e < 1000) (q : Q (.dat (.int (b ^ e)))) : Cal (sp__law_power K) 2 [.dat (.int b), .dat (.int e)] Q X := ⟨rfl, b, e, rfl, hb, he, q⟩
theorem c_lfactors {m : Nat} (h : 0 < m ∧ m < 2 ^ 40) (q : Q (.own ((lawFac P12 m).map prD))) : Cal (sp__law_factors K) 1 [.dat (.int m)] Q X := ⟨rfl, m, rfl, h, q⟩
theorem l__law_power (h : sp__law_power K rs Q X) : d__law_power K (endD Q X) (startD ["base", "e", "number", "k"] rs) := by
  obtain ⟨b, e, rfl, hb, he, h⟩ := h
  ((conv => whnf); repeat (first | (refine Br.t ?_; conv => whnf) | (refine Br.f ?_; conv => whnf)))
  refine ⟨⟨by omega, by omega⟩, ?_⟩
  ((conv => whnf); repeat (first | (refine Br.t ?_; conv => whnf) | (refine Br.f ?_; conv => whnf)))
  refine ⟨fun i δ => ∃ a, δ = [.dat (.int b), .dat (.int e), .dat (.int (b ^ i)), a], ⟨.no, by rw [Int.pow_zero]; rfl⟩, ?_, ?_⟩
  · rintro i d δ hd ⟨a, rfl⟩
    ((conv => whnf); repeat (first | (refine Br.t ?_; conv => whnf) | (refine Br.f ?_; conv => whnf)))
    refine ⟨mulR hb.1 hb.2, ?_⟩
    ((conv => whnf); repeat (first | (refine Br.t ?_; conv => whnf) | (refine Br.f ?_; conv => whnf)))
    rw [Int.pow_succ]
    exact ⟨_, rfl⟩
  · rintro δ ⟨a, rfl⟩
    rw [rngD_length]
    ((conv => whnf); repeat (first | (refine Br.t ?_; conv => whnf) | (refine Br.f ?_; conv => whnf)))
    rw [Int.toNat_natCast]
    exact h
theorem p12_at {i : Nat} {d : D} (h : (P12.map fun p => PyData.int ((p : Nat) : Int))[i]? = some d) : ∃ p : Nat, d = .int p ∧ 2 ≤ p ∧ p < 2 ^ 20 ∧ i < 12 ∧ P12.drop i = p :: P12.drop (i + 1) := by
  rw [List.getElem?_map] at h
  cases e : P12[i]? with
  | none => rw [e] at h; cases h
  | some q =>
    rw [e] at h
    obtain ⟨hi, e2⟩ := List.getElem?_eq_some_iff.mp e
    refine ⟨q, (Option.some.inj h).symm, ?_, ?_, hi, by rw [List.drop_eq_getElem_cons hi, e2]⟩
    · have : ∀ q ∈ P12, 2 ≤ q := by decide
      exact this q (List.mem_of_getElem? e)
    · have : ∀ q ∈ P12, q < 2 ^ 20 := by decide
      exact this q (List.mem_of_getElem? e)
theorem l__law_factors (h : sp__law_factors K rs Q X) : d__law_factors K (endD Q X) (startD ["m", "pairs", "rest", "p", "e"] rs) := by
  obtain ⟨m, rfl, ⟨hm0, hm⟩, h⟩ := h
  ((conv => whnf); repeat (first | (refine Br.t ?_; conv => whnf) | (refine Br.f ?_; conv => whnf)))
  refine ⟨szLine (show 0 < 2 ^ 20 by decide), ?_⟩
  ((conv => whnf); repeat (first | (refine Br.t ?_; conv => whnf) | (refine Br.f ?_; conv => whnf)))
  refine ⟨szLine (show 12 < 2 ^ 20 by decide), ?_⟩
  ((conv => whnf); repeat (first | (refine Br.t ?_; conv => whnf) | (refine Br.f ?_; conv => whnf)))
  refine ⟨fun i δ => ∃ (r : Nat) (acc : List (Nat × Nat)) (a b : Sl), δ = [.dat (.int m), .own (acc.map prD), .dat (.int r), a, b] ∧ (0 < r ∧ r ≤ m) ∧ acc.length ≤ i ∧ lawFac P12 m = acc ++ lawFac (P12.drop i) r, ⟨m, [], _, _, rfl, ⟨hm0, Nat.le_refl _⟩, Nat.le_refl _, rfl⟩, ?_, ?_⟩
  · rintro i d δ hd ⟨r, acc, a, b, rfl, ⟨hr0, hr⟩, hl, hrun⟩
    obtain ⟨p, rfl, hp, hp2, hi, hdr⟩ := p12_at hd
    rw [hdr] at hrun
    ((conv => whnf); repeat (first | (refine Br.t ?_; conv => whnf) | (refine Br.f ?_; conv => whnf)))
    refine ⟨fun k δ => ∃ r' e : Nat, δ = [.dat (.int m), .own (acc.map prD), .dat (.int r'), .dat (.int p), .dat (.int e)] ∧ Vp p r r' e ∧ r' = k, ⟨r, r, 0, rfl, .start hr0, rfl⟩, ?_⟩
    rintro k δ ⟨r', e, rfl, hv, rfl⟩
    ((conv => whnf); repeat (first | (refine Br.t ?_; conv => whnf) | (refine Br.f ?_; conv => whnf)))
    refine Br.dec (fun hz => ?_) (fun hz => absurd (show (0 : Int) < (r' : Int) from by have := hv.pos; omega) hz)
    ((conv => whnf); repeat (first | (refine Br.t ?_; conv => whnf) | (refine Br.f ?_; conv => whnf)))
    refine ⟨by omega, ?_⟩
    ((conv => whnf); repeat (first | (refine Br.t ?_; conv => whnf) | (refine Br.f ?_; conv => whnf)))
    refine Br.dec (fun hm => ?_) (fun hm => ?_)
    · have hm : r' % p = 0 := Int.ofNat_eq_zero.mp (show ((r' % p : Nat) : Int) = 0 from hm)
      ((conv => whnf); repeat (first | (refine Br.t ?_; conv => whnf) | (refine Br.f ?_; conv => whnf)))
      refine ⟨divOk (by omega) (by omega), ?_⟩
      ((conv => whnf); repeat (first | (refine Br.t ?_; conv => whnf) | (refine Br.f ?_; conv => whnf)))
      exact ⟨_, div_lt hp hv.pos, _, e + 1, rfl, hv.go hp (by omega) hm, rfl⟩
    · have hm : r' % p ≠ 0 := fun z => hm (show ((r' % p : Nat) : Int) = 0 by rw [z]; rfl)
      obtain ⟨rfl, rfl⟩ := hv.fin hm
      have h0 := hv.pos
      have h1 := hv.le
      have hrun' : lawFac P12 m = acc ++ (if 0 < vp p r then (p, vp p r) :: lawFac (P12.drop (i + 1)) (r / p ^ vp p r) else lawFac (P12.drop (i + 1)) (r / p ^ vp p r)) := hrun
      ((conv => whnf); repeat (first | (refine Br.t ?_; conv => whnf) | (refine Br.f ?_; conv => whnf)))
      refine Br.dec (fun hz => ?_) (fun hz => ?_)
      · have hz : 0 < vp p r := by omega
        rw [if_pos hz] at hrun'
        ((conv => whnf); repeat (first | (refine Br.t ?_; conv => whnf) | (refine Br.f ?_; conv => whnf)))
        refine ⟨szLine (show 2 < 2 ^ 20 by decide), ?_⟩
        ((conv => whnf); repeat (first | (refine Br.t ?_; conv => whnf) | (refine Br.f ?_; conv => whnf)))
        refine ⟨by rw [List.length_map]; exact Nat.lt_of_le_of_lt hl (Nat.lt_of_lt_of_le (show i < 2 ^ 20 by omega) szLine'), ?_⟩
        ((conv => whnf); repeat (first | (refine Br.t ?_; conv => whnf) | (refine Br.f ?_; conv => whnf)))
        refine ⟨_, acc ++ [(p, vp p r)], _, _, by rw [List.map_append]; rfl, ⟨h0, by omega⟩, by rw [List.length_append]; show acc.length + 1 ≤ i + 1; omega, ?_⟩
        rw [hrun', List.append_assoc]
        rfl
      · have hz : ¬ 0 < vp p r := by omega
        rw [if_neg hz] at hrun'
        ((conv => whnf); repeat (first | (refine Br.t ?_; conv => whnf) | (refine Br.f ?_; conv => whnf)))
        exact ⟨_, acc, _, _, rfl, ⟨h0, by omega⟩, by omega, hrun'⟩
  · rintro δ ⟨r, acc, a, b, rfl, ⟨hr0, hr⟩, hl, hrun⟩
    ((conv => whnf); repeat (first | (refine Br.t ?_; conv => whnf) | (refine Br.f ?_; conv => whnf)))
    have e : lawFac P12 m = acc := by rw [hrun]; exact List.append_nil acc
    rw [e] at h
    exact h
end
theorem ixN_nat {n : Nat} {i : Int} (h0 : 0 ≤ i) (h1 : i < n) : L2.ixN n i = some i.toNat := by
  unfold L2.ixN
  rw [if_pos h0, if_pos h1]
theorem iL_append (a b : List Int) : iL a ++ iL b = iL (a ++ b) := List.map_append.symm
theorem iL_set (ns : List Int) (k : Nat) (v : Int) : (iL ns).set k (.int v) = iL (ns.set k v) := List.map_set.symm
theorem iL_len (ns : List Int) : (iL ns).length = ns.length := List.length_map ..
theorem cutD_iL (ns : List Int) (lo hi : Option Int) : cutD (iL ns) lo hi = iL ((ns.drop (HT.sIx ns.length 0 lo)).take (HT.sIx ns.length ns.length hi - HT.sIx ns.length 0 lo)) := by
  unfold cutD
  rw [iL_len]
  show _ = List.map _ _
  rw [List.map_take, List.map_drop]
theorem getD_mem {ns : List Int} {k : Nat} (h : k < ns.length) : ns.getD k 0 ∈ ns := by
  rw [List.getD_eq_getElem?_getD, List.getElem?_eq_getElem h]
  exact List.getElem_mem h
def Prm (p : Nat) : Prop := 2 ≤ p ∧ ∀ a b : Nat, p ∣ a * b → p ∣ a ∨ p ∣ b
theorem prm_of {p : Nat} (h2 : 2 ≤ p) (h : ∀ d < p, 2 ≤ d → p % d ≠ 0) : Prm p := ⟨h2, fun a b hab => by
  have hg : Nat.gcd p a ∣ p := Nat.gcd_dvd_left p a
  have hg0 : 0 < Nat.gcd p a := Nat.gcd_pos_of_pos_left _ (by omega)
  have hgl : Nat.gcd p a ≤ p := Nat.le_of_dvd (by omega) hg
  by_cases e : Nat.gcd p a = p
  · left; rw [← e]; exact Nat.gcd_dvd_right p a
  · have h1 : Nat.gcd p a = 1 := by
      by_cases h3 : 2 ≤ Nat.gcd p a
      · exact absurd (Nat.mod_eq_zero_of_dvd hg) (h _ (by omega) h3)
      · omega
    right
    exact Nat.Coprime.dvd_of_dvd_mul_left h1 hab⟩
theorem prm12 : ∀ p ∈ P12, Prm p := by
  have h : ∀ p ∈ P12, 2 ≤ p ∧ ∀ d < p, 2 ≤ d → p % d ≠ 0 := by decide
  exact fun p hp => prm_of (h p hp).1 (h p hp).2
theorem Prm.pow {p : Nat} (h : Prm p) {a : Nat} : ∀ {e : Nat}, p ∣ a ^ e → p ∣ a
  | 0, hd => by
    rw [Nat.pow_zero] at hd
    have := Nat.le_of_dvd (by decide) hd
    have := h.1
    omega
  | e + 1, hd => by
    rw [Nat.pow_succ] at hd
    rcases h.2 _ _ hd with h1 | h1
    · exact h.pow h1
    · exact h1
theorem Prm.eq {p q : Nat} (hp : Prm p) (hq : Prm q) (h : p ∣ q) : p = q := by
  obtain ⟨c, hc⟩ := h
  rcases hq.2 p c ⟨1, by omega⟩ with h1 | h1
  · exact Nat.dvd_antisymm ⟨c, hc⟩ h1
  · obtain ⟨d, rfl⟩ := h1
    have h2 := hp.1
    have h3 := hq.1
    have e : q * (p * d) = q * 1 := by rw [Nat.mul_one]; conv => rhs; rw [hc]
                                       rw [Nat.mul_left_comm]
    have e2 := Nat.eq_of_mul_eq_mul_left (by omega) e
    have := Nat.eq_one_of_mul_eq_one_right e2
    omega
theorem Prm.cop {p n : Nat} (h : Prm p) (hn : ¬ p ∣ n) : Nat.Coprime p n := by
  obtain ⟨c, hc⟩ := Nat.gcd_dvd_left p n
  rcases h.2 (Nat.gcd p n) c ⟨1, by omega⟩ with h1 | h1
  · exact absurd (Nat.dvd_trans h1 (Nat.gcd_dvd_right p n)) hn
  · obtain ⟨d, rfl⟩ := h1
    have h2 := h.1
    have e : p * (Nat.gcd p n * d) = p * 1 := by rw [Nat.mul_one, Nat.mul_left_comm]; exact hc.symm
    exact Nat.eq_one_of_mul_eq_one_right (Nat.eq_of_mul_eq_mul_left (by omega) e)
theorem vp_pow {p n : Nat} (hp : 2 ≤ p) (hn : n % p ≠ 0) : ∀ e : Nat, p ^ e * n < 2 ^ 64 → vp p (p ^ e * n) = e ∧ (p ^ e * n) / p ^ vp p (p ^ e * n) = n
  | 0, _ => by rw [Nat.pow_zero, Nat.one_mul, vp_zero hn, Nat.pow_zero, Nat.div_one]; exact ⟨rfl, rfl⟩
  | e + 1, h => by
    have hn0 : 0 < n := Nat.pos_of_ne_zero fun z => hn (by rw [z, Nat.zero_mod])
    have e1 : p ^ (e + 1) * n = p * (p ^ e * n) := by rw [Nat.pow_succ, Nat.mul_comm (p ^ e) p, Nat.mul_assoc]
    have hpos : 0 < p ^ e * n := Nat.mul_pos (Nat.pow_pos (by omega)) hn0
    have hlt : p ^ e * n < 2 ^ 64 := Nat.lt_of_le_of_lt (Nat.le_mul_of_pos_left _ (by omega)) (e1 ▸ h)
    obtain ⟨h1, h2⟩ := vp_pow hp hn e hlt
    have e2 : (p ^ (e + 1) * n) / p = p ^ e * n := by rw [e1, Nat.mul_div_cancel_left _ (by omega)]
    have hv : vp p (p ^ (e + 1) * n) = e + 1 := by
      rw [vp_step hp (by rw [e1]; exact Nat.mul_pos (by omega) hpos) h (by rw [e1]; exact Nat.mul_mod_right _ _), e2, h1]
    exact ⟨hv, by rw [hv, Nat.mul_div_cancel_left _ (Nat.pow_pos (by omega))]⟩
def prodE : List (Nat × Nat) → List Nat → Nat
  | (p, _) :: ps, e :: es => p ^ e * prodE ps es
  | _, _ => 1
def capE : List (Nat × Nat) → List Nat → Prop
  | (_, most) :: ps, e :: es => e ≤ most ∧ capE ps es
  | [], [] => True
  | _, _ => False
structure PrmL (ps : List (Nat × Nat)) : Prop where
  p : ∀ q ∈ ps, Prm q.1
  n : (ps.map (·.1)).Nodup
theorem PrmL.tl {q : Nat × Nat} {ps : List (Nat × Nat)} (h : PrmL (q :: ps)) : PrmL ps := ⟨fun r hr => h.p r (List.mem_cons_of_mem _ hr), (List.nodup_cons.mp h.n).2⟩
theorem prml : PrmL PR := ⟨fun q hq => prm12 q.1 (by
  have : ∀ q ∈ PR, q.1 ∈ P12 := by decide
  exact this q hq), by decide⟩
theorem prodE_nd {p : Nat} (hp : Prm p) : ∀ (ps : List (Nat × Nat)) (es : List Nat), (∀ q ∈ ps, Prm q.1) → p ∉ ps.map (·.1) → ¬ p ∣ prodE ps es
  | [], es, _, _, h => by
    have := Nat.le_of_dvd (by decide) (show p ∣ 1 by cases es <;> exact h)
    have := hp.1
    omega
  | (q, m) :: ps, [], _, _, h => by
    have := Nat.le_of_dvd (by decide) (show p ∣ 1 from h)
    have := hp.1
    omega
  | (q, m) :: ps, e :: es, h1, h2, h => by
    rcases hp.2 _ _ (show p ∣ q ^ e * prodE ps es from h) with h3 | h3
    · exact h2 (by rw [hp.eq (h1 (q, m) List.mem_cons_self) (hp.pow h3)]; exact List.mem_cons_self)
    · exact prodE_nd hp ps es (fun r hr => h1 r (List.mem_cons_of_mem _ hr)) (fun z => h2 (List.mem_cons_of_mem _ z)) h3
theorem facRun_prodE : ∀ (ps : List (Nat × Nat)) (es : List Nat), PrmL ps → capE ps es → prodE ps es < 2 ^ 64 → ∃ l, facRun ps (prodE ps es) = some l
  | [], [], _, _, _ => ⟨[], rfl⟩
  | [], _ :: _, _, h, _ => h.elim
  | _ :: _, [], _, h, _ => h.elim
  | (p, m) :: ps, e :: es, hp, ⟨he, hc⟩, hl => by
    have hl : p ^ e * prodE ps es < 2 ^ 64 := hl
    have P := hp.p (p, m) List.mem_cons_self
    have nd : ¬ p ∣ prodE ps es := prodE_nd P ps es hp.tl.p (List.nodup_cons.mp hp.n).1
    obtain ⟨h1, h2⟩ := vp_pow P.1 (fun z => nd (Nat.dvd_of_mod_eq_zero z)) e hl
    dsimp only at h1 h2
    have hp0 : 0 < p ^ e := Nat.pow_pos (Nat.lt_of_lt_of_le (by decide) P.1)
    obtain ⟨l, hr⟩ := facRun_prodE ps es hp.tl hc (Nat.lt_of_le_of_lt (Nat.le_mul_of_pos_left _ hp0) hl)
    refine ⟨if 0 < vp p (p ^ e * prodE ps es) then (p, vp p (p ^ e * prodE ps es)) :: l else l, ?_⟩
    show (if m < vp p (p ^ e * prodE ps es) then none else (facRun ps ((p ^ e * prodE ps es) / p ^ vp p (p ^ e * prodE ps es))).map fun l => if 0 < vp p (p ^ e * prodE ps es) then (p, vp p (p ^ e * prodE ps es)) :: l else l) = _
    rw [h2, hr, if_neg (by omega)]
    rfl
theorem facM_run {n : Nat} {l : List (Nat × Nat)} (h : facM n = some l) : 2 ≤ n ∧ n ≤ 10000000000 ∧ facRun PR n = some l := by
  unfold facM at h
  by_cases e : (2 : Int) ≤ n ∧ (n : Int) ≤ 10000000000
  · rw [if_pos e] at h
    exact ⟨by omega, by omega, h⟩
  · rw [if_neg e] at h; cases h
theorem facM_mk {n : Nat} {es : List Nat} (hc : capE PR es) (e : n = prodE PR es) (h2 : 2 ≤ n) (h : n ≤ 10000000000) : ∃ l, facM n = some l := by
  subst e
  obtain ⟨l, hl⟩ := facRun_prodE PR es prml hc (by omega)
  refine ⟨l, ?_⟩
  unfold facM
  rw [if_pos ⟨by omega, by omega⟩]
  exact hl
theorem prodE_set : ∀ (ps : List (Nat × Nat)) (es : List Nat) (i : Nat), i < ps.length → i < es.length → prodE ps (es.set i (es.getD i 0 + 1)) = prodE ps es * (ps.getD i (0, 0)).1
  | [], _, _, h, _ => by simp at h
  | _ :: _, [], _, _, h => by simp at h
  | (p, m) :: ps, e :: es, 0, _, _ => by
    show p ^ (e + 1) * prodE ps es = p ^ e * prodE ps es * p
    rw [Nat.pow_succ, Nat.mul_assoc, Nat.mul_assoc, Nat.mul_comm p]
  | (p, m) :: ps, e :: es, i + 1, h1, h2 => by
    have := prodE_set ps es i (by simpa using h1) (by simpa using h2)
    show p ^ e * prodE ps (es.set i (es.getD i 0 + 1)) = p ^ e * prodE ps es * (ps.getD i (0, 0)).1
    rw [this, Nat.mul_assoc]
theorem capE_set : ∀ (ps : List (Nat × Nat)) (es : List Nat) (i : Nat), capE ps es → es.getD i 0 < (ps.getD i (0, 0)).2 → capE ps (es.set i (es.getD i 0 + 1))
  | [], [], _, _, _ => trivial
  | [], _ :: _, _, h, _ => h.elim
  | _ :: _, [], _, h, _ => h.elim
  | (p, m) :: ps, e :: es, 0, ⟨h1, h2⟩, h3 => ⟨h3, h2⟩
  | (p, m) :: ps, e :: es, i + 1, ⟨h1, h2⟩, h3 => ⟨h1, capE_set ps es i h2 h3⟩
theorem capE_len : ∀ (ps : List (Nat × Nat)) (es : List Nat), capE ps es → es.length = ps.length
  | [], [], _ => rfl
  | [], _ :: _, h => h.elim
  | _ :: _, [], h => h.elim
  | (p, m) :: ps, e :: es, ⟨h1, h2⟩ => by rw [List.length_cons, List.length_cons, capE_len ps es h2]
instance capE_dec : ∀ (ps : List (Nat × Nat)) (es : List Nat), Decidable (capE ps es)
  | [], [] => .isTrue trivial
  | [], _ :: _ => .isFalse fun h => h
  | _ :: _, [] => .isFalse fun h => h
  | (_, m) :: ps, e :: es => @instDecidableAnd (e ≤ m) (capE ps es) _ (capE_dec ps es)
def sharp : List Int := [2, 3, 4, 5, 6, 7, 8, 9, 12, 16, 18, 24, 25, 27, 30, 32, 35, 36, 37, 40, 49, 54, 64, 72, 81, 100, 108] ++ [121, 125, 128, 135, 175, 180, 200, 210, 216, 243, 256, 289, 343, 361, 400, 512, 625, 667, 1147] ++ [1331, 2000, 2197, 2310, 4096, 16807, 59049, 765049, 1953125, 387420489, 4294967296, 5410805400] ++ [6469693230, 8589934592, 9966796875]
theorem sharp_ok : sharp.all (fun x => decide (2 ≤ x) && (facM x.toNat).isSome) = true := by decide +kernel
def leD (h : Int) (d : D) : Option D := match d with
  | .int x => if x ≤ h then some (.int x) else none
  | _ => none
theorem leD_y {h x : Int} (hx : x ≤ h) : leD h (.int x) = some (.int x) := if_pos hx
theorem leD_n {h x : Int} (hx : ¬ x ≤ h) : leD h (.int x) = none := if_neg hx
def pI : List Int := [2, 3, 5, 7, 11, 13, 17, 19, 23, 29, 31, 37]
theorem atI_iL {ns : List Int} {i : Int} (h0 : 0 ≤ i) (h1 : i < ns.length) : L2.atI (iL ns) i = some (.int (ns.getD i.toNat 0)) := by
  have h2 : i.toNat < ns.length := by omega
  rw [atI_nat h0 (by rw [List.length_map]; exact h1), List.getElem_map, List.getD_eq_getElem?_getD, List.getElem?_eq_getElem h2]
  rfl
section
variable {K : Fr} {Q : RV → Prop} {X : Addr → Prop} {rs : List RV}
theorem l__law_modulus (h : sp__law_modulus K rs Q X) : d__law_modulus K (endD Q X) (startD ["store", "high", "primes", "left", "number", "k", "sharp", "near", "i"] rs) := by
  obtain ⟨hh, rfl, hle, h⟩ := h
  walk_at "ST"
  refine ⟨rfl, _, rfl, by decide, fun b => ?_⟩
  walk_at "ST"
  refine ⟨fun _ => ?_, fun _ => ?_⟩
  · walk_at "ST"
    refine ⟨szLine (show 27 < 2 ^ 20 by decide), ?_⟩
    walk_at "ST"
    refine ⟨szLine (show 19 < 2 ^ 20 by decide), ?_⟩
    walk_at "ST"
    refine ⟨szLine (show 46 < 2 ^ 20 by decide), ?_⟩
    walk_at "ST"
    refine ⟨szLine (show 12 < 2 ^ 20 by decide), ?_⟩
    walk_at "ST"
    refine ⟨szLine (show 58 < 2 ^ 20 by decide), ?_⟩
    walk_at "ST"
    refine ⟨szLine (show 3 < 2 ^ 20 by decide), ?_⟩
    walk_at "ST"
    refine ⟨szLine (show 61 < 2 ^ 20 by decide), ?_⟩
    walk_at "ST"
    refine LcS.det (leD hh) (szLine (show 61 < 2 ^ 20 by decide)) (fun d hd C hC => ?_) ?_
    · obtain ⟨x, _, rfl⟩ := List.mem_map.mp (show d ∈ sharp.map PyData.int from hd)
      walk_at "ST"
      refine Br.dec (fun hx => ?_) (fun hx => ?_)
      · walk_at "ST"
        rw [leD_y hx] at hC
        exact hC
      · rw [leD_n hx] at hC
        exact hC
    · walk_at "ST"
      have hm : ∀ d ∈ List.filterMap (leD hh) (sharp.map PyData.int), ∃ n : Nat, d = .int n ∧ 2 ≤ n ∧ n ≤ hh ∧ ∃ l, facM n = some l := fun d hd => by
        obtain ⟨e, he, hge⟩ := List.mem_filterMap.mp hd
        obtain ⟨x, hx, rfl⟩ := List.mem_map.mp he
        have hge : (if x ≤ (hh : Int) then some (PyData.int x) else none) = some d := hge
        by_cases hxl : x ≤ (hh : Int)
        · rw [if_pos hxl] at hge
          cases hge
          obtain ⟨a, b⟩ := Bool.and_eq_true_iff.mp (show (decide (2 ≤ x) && (facM x.toNat).isSome) = true from List.all_eq_true.mp sharp_ok x hx)
          have a := of_decide_eq_true a
          exact ⟨x.toNat, by rw [Int.toNat_of_nonneg (by omega)], by omega, by omega, Option.isSome_iff_exists.mp b⟩
        · rw [if_neg hxl] at hge
          cases hge
      have hl : (List.filterMap (leD hh) (sharp.map PyData.int)).length ≤ 61 := List.length_filterMap_le _ _
      have hne : List.filterMap (leD hh) (sharp.map PyData.int) ≠ [] := List.ne_nil_of_mem (List.mem_filterMap.mpr ⟨.int 2, List.mem_map.mpr ⟨2, by decide, rfl⟩, if_pos (by omega)⟩)
      refine c_pick hne (Nat.lt_of_le_of_lt hl (by decide)) fun d hd => ?_
      obtain ⟨n, rfl, h1, h2, h3⟩ := hm d hd
      exact h n h1 h2 h3
  · walk_at "ST"
    refine ⟨szLine (show 12 < 2 ^ 20 by decide), ?_⟩
    walk_at "ST"
    refine ⟨szLine (show 12 < 2 ^ 20 by decide), ?_⟩
    walk_at "ST"
    refine ⟨mulL (by decide) (by decide), ?_⟩
    have eif : ∃ z : Int, (if (fun i j : Int => decide (j < i)) (hh : Int) 1000000 = true then (1 : Int) else 0) = z ∧ 0 ≤ z ∧ z ≤ 1 := by
      split
      · exact ⟨1, rfl, by decide, by decide⟩
      · exact ⟨0, rfl, by decide, by decide⟩
    obtain ⟨z, eif, z0, z1⟩ := eif
    walk_at "ST"
    rw [eif]
    refine c_take (by omega) fun r h1 h2 => ?_
    have h2 : r < 13 := by omega
    walk_at "ST"
    refine ⟨⟨by omega, by omega⟩, ?_⟩
    walk_at "ST"
    refine ⟨fun i δ => ∃ (ls : List Int) (n : Nat) (a b : Sl), δ = [.sto, .dat (.int hh), .dat (.list (iL pI)), .own (iL ls), .dat (.int n), a, .no, .no, b] ∧ ls.length = 12 ∧ (∃ es, capE PR es ∧ n = prodE PR es ∧ ∀ j < 12, ls.getD j 0 = ((PR.getD j (0, 0)).2 : Int) - (es.getD j 0 : Nat)) ∧ 1 ≤ n ∧ n ≤ hh,
      ⟨[38, 18, 9, 5, 3, 3, 2, 2, 1, 1, 1, 1], 1, _, _, rfl, rfl, ⟨[0, 0, 0, 0, 0, 0, 0, 0, 0, 0, 0, 0], by decide, by decide, by decide⟩, by decide, by omega⟩, ?_, ?_⟩
    · rintro i d δ hd ⟨ls, n, a, b, rfl, hls, hn, hn1, hn2⟩
      walk_at "ST"
      refine c_take (by decide) fun r1 h3 h4 => ?_
      have h4 : r1 < 12 := h4
      walk_at "ST"
      refine c_take (by omega) fun r2 h5 h6 => ?_
      have h6 : r2 < 12 := by omega
      obtain ⟨j, rfl⟩ := Int.eq_ofNat_of_zero_le h5
      have hj : j < 12 := by omega
      obtain ⟨p, hp, hpm, hpp⟩ : ∃ p : Nat, pI.getD j 0 = p ∧ p ∈ P12 ∧ (PR.getD j (0, 0)).1 = p := by
        have : ∀ j < 12, pI.getD j 0 = ((PR.getD j (0, 0)).1 : Nat) ∧ (PR.getD j (0, 0)).1 ∈ P12 := by decide
        exact ⟨_, (this j hj).1, (this j hj).2, rfl⟩
      have hp2 : 2 ≤ p ∧ p < 100 := by
        have : ∀ p ∈ P12, 2 ≤ p ∧ p < 100 := by decide
        exact this p hpm
      have ix1 : L2.atI (iL ls) (j : Int) = some (.int (ls.getD j 0)) := atI_iL (by omega) (by omega)
      have ix2 : L2.atI (iL pI) (j : Int) = some (.int (p : Int)) := by rw [← hp]; exact atI_iL (by omega) (show (j : Int) < (12 : Nat) by omega)
      walk_at "ST"
      refine ⟨_, ix1, ?_⟩
      walk_at "ST"
      refine Br.dec (fun hl => ?_) (fun hl => ?_)
      · walk_at "ST"
        refine ⟨_, ix2, ?_⟩
        walk_at "ST"
        refine ⟨mulL (by omega) (by omega), ?_⟩
        walk_at "ST"
        refine Br.dec (fun hnp => ?_) (fun hnp => ?_)
        · walk_at "ST"
          refine ⟨_, ix2, ?_⟩
          walk_at "ST"
          refine ⟨mulL (by omega) (by omega), ?_⟩
          walk_at "ST"
          refine ⟨_, ix1, ?_⟩
          walk_at "ST"
          refine ⟨_, ixN_nat (by omega) (by rw [iL_len]; omega), ?_⟩
          walk_at "ST"
          rw [iL_set]
          have hnp : n * p ≤ hh := by
            have : ((n * p : Nat) : Int) ≤ (hh : Int) := by rw [Int.natCast_mul]; exact hnp
            omega
          have hge : 2 ≤ n * p := Nat.le_trans hp2.1 (Nat.le_mul_of_pos_left _ (by omega))
          obtain ⟨es, hc, he, hg⟩ := hn
          have hgj := hg j hj
          have hcl := capE_len PR es hc
          refine ⟨_, n * p, _, _, rfl, by rw [List.length_set]; exact hls, ⟨es.set j (es.getD j 0 + 1), capE_set PR es j hc (by omega), by rw [prodE_set PR es j hj (by rw [hcl]; exact hj), ← he, hpp], fun i hi => ?_⟩, by omega, hnp⟩
          have hcl : es.length = 12 := hcl
          by_cases hij : j = i
          · subst hij
            have e1 : (ls.set j (ls.getD j 0 - 1)).getD j 0 = ls.getD j 0 - 1 := by rw [List.getD_eq_getElem?_getD, List.getElem?_set_self (by omega)]; rfl
            have e2 : (es.set j (es.getD j 0 + 1)).getD j 0 = es.getD j 0 + 1 := by rw [List.getD_eq_getElem?_getD, List.getElem?_set_self (by omega)]; rfl
            show (ls.set j (ls.getD j 0 - 1)).getD j 0 = _
            rw [e1, e2, hgj]
            omega
          · have e1 : (ls.set j (ls.getD j 0 - 1)).getD i 0 = ls.getD i 0 := by rw [List.getD_eq_getElem?_getD, List.getElem?_set_ne hij, ← List.getD_eq_getElem?_getD]
            have e2 : (es.set j (es.getD j 0 + 1)).getD i 0 = es.getD i 0 := by rw [List.getD_eq_getElem?_getD, List.getElem?_set_ne hij, ← List.getD_eq_getElem?_getD]
            show (ls.set j (ls.getD j 0 - 1)).getD i 0 = _
            rw [e1, e2]
            exact hg i hi
        · walk_at "ST"
          exact ⟨ls, n, _, _, rfl, hls, hn, hn1, hn2⟩
      · walk_at "ST"
        exact ⟨ls, n, _, _, rfl, hls, hn, hn1, hn2⟩
    · rintro δ ⟨ls, n, a, b, rfl, hls, hn, hn1, hn2⟩
      walk_at "ST"
      obtain ⟨es, hc, he, _⟩ := hn
      by_cases hn : n = 1
      · subst hn
        exact h 2 (by decide) (by omega) (facM_mk (es := [1, 0, 0, 0, 0, 0, 0, 0, 0, 0, 0, 0]) (by decide) (by decide) (by decide) (by decide))
      · have e : (if (n : Int) > 2 then (n : Int) else 2) = n := by omega
        have := h n (by omega) hn2 (facM_mk hc he (by omega) (by omega))
        rw [← e] at this
        exact this
end
end RB

set_option Elab.async false
set_option linter.all false
set_option maxRecDepth 100000
set_option maxHeartbeats 8000000
set_option exponentiation.threshold 100000
/-! LAB: taken over from other claims by lib.py -/
namespace RB
open PySem PySem.Spec PyProof.Rows L2
local macro_rules | `(tactic| walk_at "ST") => `(tactic| ((conv => whnf); repeat (first | (refine Br.t ?_; conv => whnf) | (refine Br.f ?_; conv => whnf))))
local macro_rules | `(tactic| walk_at "SZ") => `(tactic| first | decide | omega | (simp only [List.length_append, List.length_map, List.length_cons, List.length_nil]; done) | (simp only [List.length_append, List.length_map, List.length_cons, List.length_nil]; omega))
local macro_rules | `(tactic| walk_at "G1") => `(tactic| first | refine And.intro (szLine (by walk_at "SZ")) ?_ | refine And.intro (mulR (by decide) (by decide)) ?_ | refine And.intro (mulL (by decide) (by decide)) ?_ | refine And.intro (divOk (by decide) (by decide)) ?_ | refine And.intro (show PowOk _ _ from ⟨by decide, by decide⟩) ?_ | refine And.intro (by decide) ?_ | refine And.intro rfl ?_ | refine Exists.intro _ (And.intro rfl ?_))
local macro_rules | `(tactic| walk_at "DP") => `(tactic| repeat (first | assumption | exact Dep.non | exact Dep.bl _ | exact Dep.int _ | exact Dep.str _ | exact dL_nil | refine dL_cons ?_ ?_ | refine Dep.lst (by walk_at "SZ") ?_ | refine Dep.tup (by walk_at "SZ") ?_))
local macro_rules | `(tactic| walk_at "GO") => `(tactic| ((walk_at "ST"); repeat ((walk_at "G1"); (walk_at "ST"))))
section
variable {K : Fr} {Q : RV → Prop} {X : Addr → Prop} {rs : List RV}
theorem c_modulus {hh : Nat} (h1 : 2 ≤ hh ∧ hh ≤ 10000000000) (q : ∀ m : Nat, 2 ≤ m → m ≤ hh → (∃ l, facM m = some l) → Q (.dat (.int m))) : Cal (sp__law_modulus K) 2 [.sto, .dat (.int hh)] Q X := ⟨rfl, hh, rfl, h1, q⟩
end
theorem iL_inj : ∀ {a b : List Int}, iL a = iL b → a = b
  | [], [], _ => rfl
  | [], _ :: _, h => nomatch h
  | _ :: _, [], h => nomatch h
  | x :: a, y :: b, h => by
    obtain ⟨h1, h2⟩ := List.cons.inj (show PyData.int x :: iL a = PyData.int y :: iL b from h)
    rw [PyData.int.inj h1, iL_inj h2]
section
variable {K : Fr} {Q : RV → Prop} {X : Addr → Prop} {rs : List RV}
theorem l_is_bounded (h : sp_is_bounded K rs Q X) : d_is_bounded K (endD Q X) (startD ["number", "most"] rs) := by
  obtain ⟨d, m, rfl, h⟩ := h
  conv => whnf
  cases d
  case int x =>
    walk_at "ST"
    refine Br.dec (fun h1 => ?_) (fun h1 => ?_)
    · conv => whnf
      have e : withinD (.int x) (-m) m = decide (x ≤ m) := by show (decide (-m ≤ x) && decide (x ≤ m)) = _; rw [decide_eq_true h1, Bool.true_and]
      rw [e] at h
      exact h
    · conv => whnf
      have e : withinD (.int x) (-m) m = false := by show (decide (-m ≤ x) && decide (x ≤ m)) = _; rw [decide_eq_false h1, Bool.false_and]
      rw [e] at h
      exact h
  all_goals
    walk_at "ST"
    exact h
theorem c_is_bounded {d : D} {h : Int} (q : Q (.dat (.bool (withinD d (-h) h)))) : Cal (sp_is_bounded K) 2 [.dat d, .dat (.int h)] Q X := ⟨rfl, d, h, rfl, q⟩
theorem all_bad {f : D → Bool} {ds : List D} {i : Nat} {d : D} (hd : ds[i]? = some d) (hf : f d = false) : ds.all f = false := by
  rw [List.all_eq_false]
  exact ⟨d, List.mem_of_getElem? hd, by rw [hf]; exact Bool.false_ne_true⟩
theorem all_next {f : D → Bool} {ds : List D} {i : Nat} {d : D} (hd : ds[i]? = some d) (h : (ds.take i).all f = true) (hf : f d = true) : (ds.take (i + 1)).all f = true := by
  have e : ds.take (i + 1) = ds.take i ++ [d] := by rw [List.take_add_one, hd]; rfl
  rw [e, List.all_append, h, Bool.true_and]
  show (f d && true) = true
  rw [hf]
  rfl
theorem l_are_bounded (h : sp_are_bounded K rs Q X) : d_are_bounded K (endD Q X) (startD ["row", "count", "most", "entry"] rs) := by
  obtain ⟨d, n, m, rfl, h⟩ := h
  conv => whnf
  cases d
  case list ds =>
    replace h : Q (.dat (.bool (decide ((ds.length : Int) ≤ n) && ds.all fun d => withinD d (-m) m))) := h
    walk_at "ST"
    refine Br.dec (fun h1 => ?_) (fun h1 => ?_)
    · walk_at "ST"
      have e : decide ((ds.length : Int) ≤ n) = false := decide_eq_false (by omega)
      rw [e] at h
      exact h
    · walk_at "ST"
      have e : decide ((ds.length : Int) ≤ n) = true := decide_eq_true (by omega)
      rw [e] at h
      refine ⟨fun i δ => ∃ a, δ = [.dat (.list ds), .dat (.int n), .dat (.int m), a] ∧ (ds.take i).all (fun d => withinD d (-m) m) = true, ⟨_, rfl, by simp⟩, ?_, ?_⟩
      · rintro i d δ hd ⟨a, rfl, hall⟩
        walk_at "ST"
        refine c_is_bounded ?_
        walk_at "ST"
        cases hI : withinD d (-m) m
        · walk_at "ST"
          have hb := all_bad (f := fun d => withinD d (-m) m) hd hI
          rw [hb] at h
          exact h
        · walk_at "ST"
          exact ⟨_, rfl, all_next (f := fun d => withinD d (-m) m) hd hall hI⟩
      · rintro δ ⟨a, rfl, hall⟩
        walk_at "ST"
        rw [List.take_length] at hall
        rw [hall] at h
        exact h
  all_goals
    walk_at "ST"
    exact h
end
theorem polyB_list {ds : List D} : polyB (.list ds) = (decide (ds.length ≤ 40) && (ds.all fitD && lastOk ds)) := rfl
section
variable {K : Fr} {Q : RV → Prop} {X : Addr → Prop} {rs : List RV}
theorem l_check_poly (h : sp_check_poly K rs Q X) : d_check_poly K (endD Q X) (startD ["f"] rs) := by
  obtain ⟨d, rfl, hy, hn⟩ := h
  walk_at "ST"
  refine ⟨rfl, d, _, _, rfl, ?_⟩
  cases d
  case list ds =>
    have ha : (ds.all fun d => withinD d (-1000000000000000000000000000000000000000000000000000000000000) 1000000000000000000000000000000000000000000000000000000000000) = ds.all fitD := congrArg ds.all (funext fun d => by cases d <;> rfl)
    walk_at "ST"
    refine ⟨fun e => ?_, fun e => ?_⟩
    · have e : (!(decide ((ds.length : Int) ≤ 40) && ds.all fun d => withinD d (-1000000000000000000000000000000000000000000000000000000000000) 1000000000000000000000000000000000000000000000000000000000000)) = true := e
      rw [ha, Bool.not_eq_true', Bool.and_eq_false_iff, decide_eq_false_iff_not] at e
      walk_at "ST"
      refine hn ?_
      rw [polyB_list]
      rcases e with e | e
      · rw [decide_eq_false (by omega), Bool.false_and]
      · rw [e, Bool.false_and, Bool.and_false]
    · have e : (!(decide ((ds.length : Int) ≤ 40) && ds.all fun d => withinD d (-1000000000000000000000000000000000000000000000000000000000000) 1000000000000000000000000000000000000000000000000000000000000)) = false := e
      rw [ha, Bool.not_eq_false', Bool.and_eq_true_iff, decide_eq_true_iff] at e
      obtain ⟨e1, e2⟩ := e
      obtain ⟨ns, rfl, hf⟩ := iL_of_fit e2
      rw [polyB_list, e2, Bool.true_and, decide_eq_true (by omega), Bool.true_and] at hy hn
      rcases List.eq_nil_or_concat ns with rfl | ⟨ns, x, rfl⟩
      · walk_at "ST"
        exact hy rfl
      · rw [List.concat_eq_append] at *
        have el : lastOk (iL (ns ++ [x])) = !decide (x = 0) := by
          unfold lastOk
          rw [← iL_append, show iL [x] = [PyData.int x] from rfl, List.getLast?_concat]
        rw [el] at hy hn
        have hlen : (iL (ns ++ [x])).length = ns.length + 1 := by rw [iL_len, List.length_append]; rfl
        walk_at "ST"
        refine Br.dec (fun h0 => ?_) (fun h0 => ?_)
        · walk_at "ST"
          have ga : L2.atI (iL (ns ++ [x])) (-1) = some (.int x) := by
            unfold L2.atI L2.ixN
            rw [hlen]
            rw [if_neg (by omega), if_pos (by omega)]
            rw [Option.bind_some, ← iL_append]
            have : ((-1 : Int) + ((ns.length + 1 : Nat) : Int)).toNat = (iL ns).length := by rw [iL_len]; omega
            rw [this, List.getElem?_append_right (Nat.le_refl _), Nat.sub_self]
            rfl
          refine ⟨_, ga, ?_⟩
          walk_at "ST"
          refine Br.dec (fun hx => ?_) (fun hx => ?_)
          · walk_at "ST"
            exact hn (by rw [decide_eq_true hx]; rfl)
          · walk_at "ST"
            exact hy (by rw [decide_eq_false hx]; rfl)
        · omega
  all_goals
    walk_at "ST"
    exact hn rfl
end
theorem withinD_int {x lo hi : Int} : withinD (.int x) lo hi = (decide (lo ≤ x) && decide (x ≤ hi)) := rfl
section
variable {K : Fr} {Q : RV → Prop} {X : Addr → Prop} {rs : List RV}
theorem c_check_poly {d : D} (hy : polyB d = true → Q (.dat .none)) (hn : polyB d = false → X (cP K)) : Cal (sp_check_poly K) 1 [.dat d] Q X := ⟨rfl, d, rfl, hy, hn⟩
end
theorem cut_to {ns : List Int} {k : Nat} : cutD (iL ns) none (some ((k : Nat) : Int)) = iL (ns.take k) := by
  rw [cutD_iL, HT.sIx_none, HT.sIx_nat, List.drop_zero, Nat.sub_zero]
  congr 1
  rw [List.take_eq_take_iff]
  omega
theorem cutL_0 (ns : List Int) : cutL (ns ++ [0]) = cutL ns := by
  unfold cutL
  rw [List.reverse_append]
  rfl
theorem cutL_x (ns : List Int) {x : Int} (h : x ≠ 0) : cutL (ns ++ [x]) = ns ++ [x] := by
  unfold cutL
  rw [List.reverse_append, List.reverse_singleton, List.singleton_append, List.dropWhile_cons, if_neg (by rw [decide_eq_false h]; exact Bool.false_ne_true), List.reverse_cons, List.reverse_reverse]
theorem drop_getD {ns : List Int} {k : Nat} (h : k < ns.length) : ns.drop k = ns.getD k 0 :: ns.drop (k + 1) := by
  rw [List.drop_eq_getElem_cons h, List.getD_eq_getElem?_getD, List.getElem?_eq_getElem h]
  rfl
theorem take_snoc {ns : List Int} {k : Nat} (h : k < ns.length) : ns.take (k + 1) = ns.take k ++ [ns.getD k 0] := by
  rw [List.take_add_one, List.getD_eq_getElem?_getD, List.getElem?_eq_getElem h]
  rfl
section
variable {K : Fr} {Q : RV → Prop} {X : Addr → Prop} {rs : List RV}
theorem l__law_cut (h : sp__law_cut K rs Q X) : d__law_cut K (endD Q X) (startD ["line", "size"] rs) := by
  obtain ⟨ns, rfl, hl, h⟩ := h
  walk_at "ST"
  refine ⟨fun m δ => ∃ k : Nat, δ = [.dat (.list (iL ns)), .dat (.int k)] ∧ k = m ∧ k ≤ ns.length ∧ cutL ns = cutL (ns.take k), ⟨_, ns.length, by rw [iL_len]; rfl, rfl, Nat.le_refl _, by rw [List.take_length]⟩, ?_⟩
  rintro m δ ⟨k, rfl, rfl, hk, he⟩
  have fin : cutL (ns.take k) = ns.take k → Q (.own (cutD (iL ns) none (some (k : Int)))) := fun e => by
    rw [cut_to, ← e, ← he]
    exact h
  walk_at "ST"
  refine Br.dec (fun h1 => ?_) (fun h1 => ?_)
  · have ek : (k : Int) - 1 = ((k - 1 : Nat) : Int) := by omega
    have es : ns.take k = ns.take (k - 1) ++ [ns.getD (k - 1) 0] := by
      conv => lhs; rw [show k = (k - 1) + 1 by omega]
      exact take_snoc (by omega)
    walk_at "ST"
    refine ⟨_, atI_iL (by omega) (by omega), ?_⟩
    rw [ek, Int.toNat_natCast]
    walk_at "ST"
    refine Br.dec (fun h2 => ?_) (fun h2 => ?_)
    · walk_at "ST"
      refine ⟨k - 1, by omega, k - 1, ?_, rfl, by omega, ?_⟩
      · rw [ek]; rfl
      · rw [he, es, h2, cutL_0]
    · walk_at "ST"
      exact fin (by rw [es]; exact cutL_x _ h2)
  · have : k = 0 := by omega
    subst this
    walk_at "ST"
    exact fin rfl
end
theorem hor_b {m : Int} (hm : 0 < m) (x : Int) (fs : List Int) : 0 ≤ hor m x fs ∧ hor m x fs < m := by
  cases fs with
  | nil => exact ⟨Int.le_refl _, hm⟩
  | cons c cs => exact ⟨Int.emod_nonneg _ (by omega), Int.emod_lt_of_pos _ hm⟩
section
variable {K : Fr} {Q : RV → Prop} {X : Addr → Prop} {rs : List RV}
theorem l__law_at (h : sp__law_at K rs Q X) : d__law_at K (endD Q X) (startD ["f", "m", "x", "least", "number", "k"] rs) := by
  obtain ⟨fs, m, x, rfl, hm, hl, h⟩ := h
  walk_at "ST"
  refine ⟨hm.1, ?_⟩
  walk_at "ST"
  refine ⟨⟨by omega, by rw [iL_len]; omega⟩, ?_⟩
  walk_at "ST"
  refine ⟨fun i δ => ∃ a, δ = [.dat (.list (iL fs)), .dat (.int m), .dat (.int x), .dat (.int (x % m)), .dat (.int (hor m (x % m) (fs.drop (fs.length - i)))), a], ⟨_, by rw [Nat.sub_zero, List.drop_length]; rfl⟩, ?_, ?_⟩
  · rintro i d δ hd ⟨a, rfl⟩
    obtain ⟨hi, rfl⟩ := rngD_get hd
    rw [iL_len, Int.toNat_natCast] at hi
    have hb := hor_b hm.1 (x % m) (fs.drop (fs.length - i))
    have e2 : fs.drop (fs.length - (i + 1)) = fs.getD (fs.length - (i + 1)) 0 :: fs.drop (fs.length - i) := by
      rw [drop_getD (by omega), show fs.length - (i + 1) + 1 = fs.length - i by omega]
    walk_at "ST"
    refine ⟨mulL (by omega) (by omega), ?_⟩
    walk_at "ST"
    refine ⟨_, atI_iL (by rw [iL_len]; omega) (by rw [iL_len]; omega), ?_⟩
    rw [show (((iL fs).length : Int) - 1 - (0 + (i : Int))).toNat = fs.length - (i + 1) by rw [iL_len]; omega]
    walk_at "ST"
    refine ⟨hm.1, ?_⟩
    walk_at "ST"
    rw [e2]
    exact ⟨_, rfl⟩
  · rintro δ ⟨a, rfl⟩
    rw [rngD_length, iL_len, Int.toNat_natCast, Nat.sub_self, List.drop_zero]
    walk_at "ST"
    exact h
theorem c_lat {fs : List Int} {m x : Int} (h : 0 < m ∧ m < 2 ^ 64) (hl : fs.length ≤ 40) (k : Q (.dat (.int (hor m (x % m) fs)))) : Cal (sp__law_at K) 3 [.dat (.list (iL fs)), .dat (.int m), .dat (.int x)] Q X := ⟨rfl, fs, m, x, rfl, h, hl, k⟩
theorem c_lcut {ns : List Int} (hl : ns.length ≤ 1000) (k : Q (.own (iL (cutL ns)))) : Cal (sp__law_cut K) 1 [.dat (.list (iL ns))] Q X := ⟨rfl, ns, rfl, hl, k⟩
theorem ck_mod {m : Nat} {l : List (Nat × Nat)} (hf : facM m = some l) (q : Q (.dat .none)) : Cal (sp_check_modulus K) 1 [.dat (.int m)] Q X := c_check_modulus (fun _ _ => q) fun z => by rw [show facD (.int (m : Int)) = facM m from rfl, hf] at z; cases z
theorem ck_pol {fs : List Int} (h : Pol fs) (q : Q (.dat .none)) : Cal (sp_check_poly K) 1 [.dat (.list (iL fs))] Q X := c_check_poly (fun _ => q) fun z => by rw [show polyB (.list (iL fs)) = true from h] at z; cases z
theorem c_lcut' {ns : List Int} (hl : ns.length ≤ 1000) (q : Q (.own (iL (cutL ns)))) : Cal (sp__law_cut K) 1 [.dat (.list (iL ns))] Q X := ⟨rfl, ns, rfl, hl, q⟩
end
theorem repl_flat (n : Nat) (x : Int) : (List.replicate (n : Int).toNat ((fun y => PyData.int x :: y) [])).flatten = iL (List.replicate n x) := by
  rw [Int.toNat_natCast]
  show _ = List.map _ _
  rw [List.map_replicate]
  exact List.flatten_replicate_singleton
theorem prodN_pos : ∀ {l : List Nat}, (∀ x ∈ l, 0 < x) → 0 < prodN l
  | [], _ => Nat.one_pos
  | a :: l, h => Nat.mul_pos (h a List.mem_cons_self) (prodN_pos fun x hx => h x (List.mem_cons_of_mem _ hx))
theorem prodN_snoc : ∀ (l : List Nat) (x : Nat), prodN (l ++ [x]) = prodN l * x
  | [], x => by show x * 1 = 1 * x; omega
  | a :: l, x => by show a * prodN (l ++ [x]) = a * prodN l * x; rw [prodN_snoc l x, Nat.mul_assoc]
theorem prodN_take {l : List Nat} {i x : Nat} (h : l[i]? = some x) : prodN (l.take (i + 1)) = prodN (l.take i) * x := by
  rw [List.take_add_one, h]
  exact prodN_snoc _ _
theorem prodN_take_le : ∀ (l : List Nat) (i : Nat), (∀ x ∈ l, 0 < x) → prodN (l.take i) ≤ prodN l
  | [], i, _ => by rw [List.take_nil]; exact Nat.le_refl _
  | a :: l, 0, h => prodN_pos h
  | a :: l, i + 1, h => Nat.mul_le_mul_left _ (prodN_take_le l i fun x hx => h x (List.mem_cons_of_mem _ hx))
theorem prodN_dvd : ∀ {l : List Nat} {x : Nat}, x ∈ l → x ∣ prodN l
  | a :: l, x, h => by
    rcases List.mem_cons.mp h with rfl | h
    · exact Nat.dvd_mul_right _ _
    · exact Nat.dvd_trans (prodN_dvd h) (Nat.dvd_mul_left _ _)
theorem dm8 {a : Int} {m : Nat} : a % m = 0 ↔ (m : Int) ∣ a := ⟨Int.dvd_of_emod_eq_zero, Int.emod_eq_zero_of_dvd⟩
theorem gcd_emw (a : Int) (w : Nat) : Int.gcd (a % w) w = Int.gcd a w := by
  have := Int.emod_add_mul_ediv a w
  have e : a % (w : Int) = a - w * (a / w) := by omega
  rw [e]
  exact Int.gcd_sub_mul_left_left ..
theorem gcd_emy (x : Int) {y : Int} (hy : 0 < y) : Int.gcd (x % y) y = Int.gcd x y := by
  have := Int.emod_add_mul_ediv x y
  have e : x % y = x - y * (x / y) := by omega
  rw [e]
  exact Int.gcd_sub_mul_left_left ..
section
variable {K : Fr} {Q : RV → Prop} {X : Addr → Prop} {rs : List RV}
theorem l__law_undone (h : sp__law_undone K rs Q X) : d__law_undone K (endD Q X) (startD ["a", "w", "big", "low", "one", "two", "part", "rest"] rs) := by
  obtain ⟨a, w, rfl, hw, h⟩ := h
  have hwz : (w : Int) ≠ 0 := by omega
  walk_at "ST"
  refine ⟨by omega, ?_⟩
  walk_at "ST"
  have a0 := Int.emod_nonneg a hwz
  have a1 := Int.emod_lt_of_pos a (show (0 : Int) < w by omega)
  refine ⟨fun m δ => ∃ (x y o t : Int) (c d : Sl), δ = [.dat (.int a), .dat (.int w), .dat (.int x), .dat (.int y), .dat (.int o), .dat (.int t), c, d] ∧ m = y.toNat ∧ 0 ≤ x ∧ x ≤ w ∧ 0 ≤ y ∧ y ≤ w ∧ Int.gcd x y = Int.gcd a w ∧ (a * o - x) % (w : Int) = 0 ∧ (a * t - y) % (w : Int) = 0, ⟨_, _, _, 1, 0, _, _, rfl, rfl, a0, by omega, by omega, Int.le_refl _, gcd_emw a w, ?_, ?_⟩, ?_⟩
  · have := Int.emod_add_mul_ediv a w
    exact dm8.mpr ⟨a / w, by omega⟩
  · exact dm8.mpr ⟨-1, by omega⟩
  rintro m δ ⟨x, y, o, t, c, d, rfl, rfl, h1, h2, h3, h4, hg, i1, i2⟩
  walk_at "ST"
  refine Br.dec (fun h5 => ?_) (fun h5 => ?_)
  · have q0 : 0 ≤ x / y := Int.ediv_nonneg h1 h3
    have q1 : x / y ≤ x := Int.ediv_le_self _ h1
    have e := Int.mul_ediv_add_emod x y
    have r0 := Int.emod_nonneg x (show y ≠ 0 by omega)
    have r1 := Int.emod_lt_of_pos x h5
    walk_at "ST"
    refine ⟨divOk (by omega) (by omega), ?_⟩
    walk_at "ST"
    refine ⟨mulR (by omega) (by omega), ?_⟩
    walk_at "ST"
    refine ⟨mulL (by omega) (by omega), ?_⟩
    walk_at "ST"
    have e2 : x - x / y * y = x % y := by rw [Int.mul_comm (x / y) y]; omega
    rw [e2]
    have hm : (x % y).toNat < y.toNat := by omega
    refine ⟨_, hm, _, _, _, _, _, _, rfl, rfl, h3, h4, r0, by omega, ?_, i2, ?_⟩
    · rw [← hg, Int.gcd_comm y, gcd_emy x h5]
    · obtain ⟨c1, k1⟩ := dm8.mp i1
      obtain ⟨c2, k2⟩ := dm8.mp i2
      refine dm8.mpr ⟨c1 - x / y * c2, ?_⟩
      rw [← e2]
      grind
  · have hy : y = 0 := by omega
    subst hy
    walk_at "ST"
    refine ⟨by omega, ?_⟩
    walk_at "ST"
    refine h (o % (w : Int)) (Int.emod_nonneg _ (by omega)) (Int.emod_lt_of_pos _ (by omega)) fun hc => ?_
    rw [← hg, Int.gcd_zero_right] at hc
    have hx : x = 1 := by omega
    subst hx
    obtain ⟨c1, k1⟩ := dm8.mp i1
    have := Int.emod_add_mul_ediv o w
    exact dm8.mpr ⟨c1 - a * (o / w), by grind⟩
theorem l__law_chinese (h : sp__law_chinese K rs Q X) : d__law_chinese K (endD Q X) (startD ["pairs", "number", "size", "a", "s"] rs) := by
  obtain ⟨cs, rfl, hl, hc, hp, h⟩ := h
  have hpos : ∀ x ∈ cs.map (·.2), 0 < x := fun x hx => by
    obtain ⟨c, hc', rfl⟩ := List.mem_map.mp hx
    exact (hc c hc').1
  walk_at "ST"
  refine ⟨fun i δ => ∃ (n : Int) (a b : Sl), δ = [.dat (.list (cs.map cnD)), .dat (.int n), .dat (.int (prodN ((cs.map (·.2)).take i))), a, b] ∧ (0 ≤ n ∧ n < prodN ((cs.map (·.2)).take i)) ∧ ((∀ i < cs.length, Int.gcd (prodN ((cs.map (·.2)).take i) : Nat) ((cs.map (·.2)).getD i 1 : Nat) = 1) → ∀ c ∈ cs.take i, (n - c.1) % (c.2 : Int) = 0), ⟨_, _, _, rfl, ⟨Int.le_refl _, by rw [List.take_zero]; decide⟩, fun _ c hc => by cases hc⟩, ?_, ?_⟩
  · rintro i d δ hd ⟨n, a, b, rfl, ⟨h1, h2⟩, hcr⟩
    obtain ⟨c, hc1, rfl⟩ : ∃ c, cs[i]? = some c ∧ d = cnD c := by
      rw [List.getElem?_map] at hd
      cases e : cs[i]? with
      | none => rw [e] at hd; cases hd
      | some c => rw [e] at hd; exact ⟨c, rfl, (Option.some.inj hd).symm⟩
    obtain ⟨c0, c9⟩ := hc c (List.mem_of_getElem? hc1)
    have hle := prodN_take_le _ i hpos
    have hs : prodN ((cs.map (·.2)).take (i + 1)) = prodN ((cs.map (·.2)).take i) * c.2 := prodN_take (by rw [List.getElem?_map, hc1]; rfl)
    have hi : i < cs.length := (List.getElem?_eq_some_iff.mp hc1).1
    have gi : (cs.map (·.2)).getD i 1 = c.2 := by rw [List.getD_eq_getElem?_getD, List.getElem?_map, hc1]; rfl
    have sub : ∀ e ∈ cs.take i, ((e.2 : Nat) : Int) ∣ ((prodN ((cs.map (·.2)).take i) : Nat) : Int) := fun e he => Int.natCast_dvd_natCast.mpr (prodN_dvd (by rw [← List.map_take]; exact List.mem_map.mpr ⟨e, he, rfl⟩))
    have cop : (∀ i < cs.length, Int.gcd (prodN ((cs.map (·.2)).take i) : Nat) ((cs.map (·.2)).getD i 1 : Nat) = 1) → Int.gcd (prodN ((cs.map (·.2)).take i) : Nat) (c.2 : Nat) = 1 := fun z => by have := z i hi; rwa [gi] at this
    have tk : cs.take (i + 1) = cs.take i ++ [c] := by rw [List.take_add_one, hc1]; rfl
    dsimp only
    rw [hs]
    generalize prodN ((cs.map (·.2)).take i) = P at h2 hle sub cop
    walk_at "GO"
    refine ⟨rfl, P, c.2, rfl, ⟨c0, by omega⟩, fun r r0 r1 hun => ?_⟩
    walk_at "ST"
    refine ⟨mulR (by omega) (by omega), ?_⟩
    walk_at "ST"
    refine ⟨by omega, ?_⟩
    have m0 := Int.emod_nonneg ((c.1 - n) * r) (show (c.2 : Int) ≠ 0 by omega)
    have m1 := Int.emod_lt_of_pos ((c.1 - n) * r) (show (0 : Int) < c.2 by omega)
    have fit : (∀ i < cs.length, Int.gcd (prodN ((cs.map (·.2)).take i) : Nat) ((cs.map (·.2)).getD i 1 : Nat) = 1) → ∀ e ∈ cs.take (i + 1), (n + P * ((c.1 - n) * r % (c.2 : Int)) - e.1) % (e.2 : Int) = 0 := fun z e he => by
      rw [tk] at he
      rcases List.mem_append.mp he with he | he
      · obtain ⟨v, hv⟩ := sub e he
        obtain ⟨u, hu⟩ := dm8.mp (hcr z e he)
        refine dm8.mpr ⟨u + v * ((c.1 - n) * r % (c.2 : Int)), ?_⟩
        rw [hv]
        grind
      · rw [List.mem_singleton.mp he]
        obtain ⟨v, hv⟩ := dm8.mp (hun (cop z))
        have e3 := Int.emod_add_mul_ediv ((c.1 - n) * r) c.2
        refine dm8.mpr ⟨(c.1 - n) * v - P * ((c.1 - n) * r / c.2), ?_⟩
        have e4 : (c.1 - n) * r % (c.2 : Int) = (c.1 - n) * r - c.2 * ((c.1 - n) * r / c.2) := by omega
        rw [e4]
        grind
    generalize (c.1 - n) * r % (c.2 : Int) = u at m0 m1 fit
    walk_at "ST"
    refine ⟨mulL (by omega) (by omega), ?_⟩
    walk_at "ST"
    refine ⟨mulL (by omega) (by omega), ?_⟩
    walk_at "ST"
    rw [← Int.natCast_mul]
    refine ⟨_, _, _, rfl, ⟨?_, ?_⟩, fit⟩
    · have := Int.mul_nonneg (show (0 : Int) ≤ P by omega) m0
      omega
    · have e1 : (P : Int) * u ≤ (P : Int) * ((c.2 : Int) - 1) := Int.mul_le_mul_of_nonneg_left (by omega) (by omega)
      rw [Int.mul_sub, Int.mul_one] at e1
      rw [Int.natCast_mul]
      omega
  · rintro δ ⟨n, a, b, rfl, ⟨h1, h2⟩, hcr⟩
    rw [List.length_map] at h2 hcr
    rw [List.take_of_length_le (by rw [List.length_map]; omega)] at h2
    walk_at "ST"
    rw [List.take_of_length_le (Nat.le_refl _)] at hcr
    exact h n h1 h2 hcr
theorem l__law_through (h : sp__law_through K rs Q X) : d__law_through K (endD Q X) (startD ["p", "values", "entries", "powers", "k", "number", "a"] rs) := by
  obtain ⟨p, vs, rfl, hp, hvl, hv, h⟩ := h
  walk_at "GO"
  refine ⟨⟨by omega, by omega, szLine (show 1 * (p : Int).toNat < 2 ^ 20 by omega)⟩, ?_⟩
  rw [repl_flat]
  walk_at "GO"
  refine ⟨⟨by omega, by omega, szLine (show 1 * (p : Int).toNat < 2 ^ 20 by omega)⟩, ?_⟩
  rw [repl_flat]
  walk_at "ST"
  refine ⟨⟨by omega, by omega⟩, ?_⟩
  have r0 : Res p (List.replicate p 0) := fun x hx => by rw [List.eq_of_mem_replicate hx]; omega
  have r1 : Res p (List.replicate p 1) := fun x hx => by rw [List.eq_of_mem_replicate hx]; omega
  have rset : ∀ {ns : List Int} {k : Nat} {v : Int}, Res p ns → 0 ≤ v → v < p → Res p (ns.set k v) := fun h1 h2 h3 x hx => by
    rcases List.mem_or_eq_of_mem_set hx with h | rfl
    · exact h1 x h
    · exact ⟨h2, h3⟩
  walk_at "ST"
  refine ⟨fun i δ => ∃ (es ps : List Int) (a b c : Sl), δ = [.dat (.int p), .dat (.list (iL vs)), .own (iL es), .own (iL ps), a, b, c] ∧ es.length = p ∧ Res p es ∧ ps.length = p ∧ Res p ps, ⟨_, _, _, _, _, rfl, List.length_replicate, r0, List.length_replicate, r1⟩, ?_, ?_⟩
  · rintro i d δ hd ⟨es, ps, a, b, c, rfl, h1, h2, h3, h4⟩
    obtain ⟨hi, rfl⟩ := rngD_get hd
    have hi : i + 1 < p := by omega
    walk_at "ST"
    refine ⟨⟨by omega, by omega⟩, ?_⟩
    walk_at "ST"
    refine ⟨fun j δ => ∃ (ps : List Int) (n : Int) (c : Sl), δ = [.dat (.int p), .dat (.list (iL vs)), .own (iL es), .own (iL ps), .dat (.int (0 + (i : Int))), .dat (.int n), c] ∧ ps.length = p ∧ Res p ps, ⟨_, _, _, rfl, h3, h4⟩, ?_, ?_⟩
    · rintro j d δ hd ⟨ps, n, c, rfl, h5, h6⟩
      obtain ⟨hj, rfl⟩ := rngD_get hd
      have hj : j < p := by omega
      rw [Int.zero_add]
      have av : L2.atI (iL vs) (j : Int) = some (.int (vs.getD j 0)) := atI_iL (by omega) (by omega)
      have ap : L2.atI (iL ps) (j : Int) = some (.int (ps.getD j 0)) := atI_iL (by omega) (by omega)
      have bv := hv _ (getD_mem (show j < vs.length by omega))
      have bp := h6 _ (getD_mem (show j < ps.length by omega))
      walk_at "ST"
      refine ⟨_, av, ?_⟩
      walk_at "ST"
      refine ⟨_, ap, ?_⟩
      walk_at "ST"
      refine ⟨mulL (by omega) (by omega), ?_⟩
      walk_at "ST"
      refine ⟨_, ap, ?_⟩
      walk_at "ST"
      refine ⟨mulL (by omega) (by omega), ?_⟩
      walk_at "ST"
      refine ⟨by omega, ?_⟩
      walk_at "ST"
      refine ⟨_, ixN_nat (by omega) (by rw [iL_len]; omega), ?_⟩
      walk_at "ST"
      rw [iL_set, Int.toNat_natCast]
      exact ⟨_, _, _, rfl, by rw [List.length_set]; exact h5, rset h6 (Int.emod_nonneg _ (by omega)) (Int.emod_lt_of_pos _ (by omega))⟩
    rintro δ ⟨ps, n, c, rfl, h5, h6⟩
    walk_at "ST"
    refine ⟨by omega, ?_⟩
    walk_at "ST"
    refine ⟨_, ixN_nat (by omega) (by rw [iL_len]; omega), ?_⟩
    walk_at "ST"
    rw [iL_set]
    exact ⟨_, _, _, _, _, rfl, by rw [List.length_set]; exact h1, rset h2 (Int.emod_nonneg _ (by omega)) (Int.emod_lt_of_pos _ (by omega)), h5, h6⟩
  · rintro δ ⟨es, ps, a, b, c, rfl, h1, h2, h3, h4⟩
    walk_at "ST"
    refine ⟨_, atI_iL (i := 0) (by omega) (by omega), ?_⟩
    walk_at "ST"
    refine ⟨by omega, ?_⟩
    walk_at "ST"
    refine ⟨_, ixN_nat (i := 0) (by omega) (by rw [iL_len]; omega), ?_⟩
    walk_at "ST"
    rw [iL_set]
    exact h _ (by rw [List.length_set]; exact h1) (rset h2 (Int.emod_nonneg _ (by omega)) (Int.emod_lt_of_pos _ (by omega)))
end
theorem nat_int {a : Nat} {z : Int} : (a : Int) ∣ z ↔ a ∣ z.natAbs := by rw [← Int.natAbs_dvd_natAbs, Int.natAbs_natCast]
theorem crt_uniq {m q : Nat} (hq : q ∣ m) (hc : Nat.Coprime (m / q) q) {a x y : Int} (h1 : Crt m q a x) (h2 : Crt m q a y) : x = y := by
  have d1 : ((q : Nat) : Int) ∣ x - y := by
    have := Int.dvd_sub (dm8.mp h1.cq) (dm8.mp h2.cq)
    rwa [show x - a - (y - a) = x - y by omega] at this
  have d2 : ((m / q : Nat) : Int) ∣ x - y := Int.dvd_sub (dm8.mp h1.cr) (dm8.mp h2.cr)
  have d3 := Nat.Coprime.mul_dvd_of_dvd_of_dvd hc (nat_int.mp d2) (nat_int.mp d1)
  rw [Nat.div_mul_cancel hq] at d3
  have := h1.lo; have := h1.hi; have := h2.lo; have := h2.hi
  rcases Nat.eq_zero_or_pos (x - y).natAbs with z | z
  · omega
  · have := Nat.le_of_dvd z d3
    omega
theorem crtF_eq {m q : Nat} (hq : q ∣ m) (hc : Nat.Coprime (m / q) q) {a x : Int} (h : Crt m q a x) : ((crtF m q a : Nat) : Int) = x := by
  unfold crtF
  have h0 := h.lo
  have h1 := h.hi
  cases e : (List.range m).find? fun x => decide (Crt m q a (x : Nat)) with
  | none =>
    have := List.find?_eq_none.mp e x.toNat (List.mem_range.mpr (by omega))
    rw [Int.toNat_of_nonneg h0] at this
    exact absurd (decide_eq_true h) this
  | some y =>
    have w := List.find?_some e
    exact crt_uniq hq hc (of_decide_eq_true w) h
theorem rngD_mem {lo : Int} {n : Nat} {d : D} (h : d ∈ rngD lo n) : ∃ i : Nat, i < n ∧ d = .int (lo + i) := by
  obtain ⟨i, hi⟩ := List.mem_iff_getElem?.mp h
  obtain ⟨h1, h2⟩ := rngD_get hi
  exact ⟨i, h1, h2⟩
section
variable {K : Fr} {Q : RV → Prop} {X : Addr → Prop} {rs : List RV}
theorem c_chin {m q : Nat} (q1 : 1 ≤ q) (hq : q ∣ m) (m0 : 0 < m) (m1 : m ≤ 10000000000) (hc : Nat.Coprime (m / q) q) {a : Int} (k : Q (.dat (.int (crtF m q a : Nat)))) : Cal (sp__law_chinese K) 1 [.dat (.list [.tuple [.int a, .int (q : Nat)], .tuple [.int 0, .int ((m / q : Nat) : Int)]])] Q X := by
  have hqm := Nat.le_of_dvd m0 hq
  have e : q * (m / q * 1) = m := by rw [Nat.mul_one, Nat.mul_div_cancel' hq]
  have hr0 : 0 < m / q := Nat.div_pos hqm q1
  have hr1 : m / q ≤ m := Nat.div_le_self _ _
  refine ⟨rfl, [(a, q), (0, m / q)], rfl, by show 2 ≤ 12; decide, fun c hc => ?_, by show q * (m / q * 1) ≤ _; rw [e]; omega, fun r r0 r1 hr => ?_⟩
  · rcases List.mem_cons.mp hc with rfl | hc
    · exact ⟨q1, by show q ≤ _; omega⟩
    · rw [List.mem_singleton.mp hc]
      exact ⟨hr0, by show m / q ≤ _; omega⟩
  have r1 : r < ((q * (m / q * 1) : Nat) : Int) := r1
  rw [e] at r1
  have hr := hr fun i hi => by
    have hi : i < 2 := hi
    rcases (show i = 0 ∨ i = 1 by omega) with rfl | rfl
    · show Int.gcd (1 : Nat) (q : Nat) = 1
      rw [Int.gcd_natCast_natCast]
      exact Nat.gcd_one_left _
    · show Int.gcd ((q * 1 : Nat) : Int) ((m / q : Nat) : Int) = 1
      rw [Int.gcd_natCast_natCast, Nat.mul_one]
      exact hc.symm
  have c1 := hr (a, q) List.mem_cons_self
  have c2 : (r - 0) % ((m / q : Nat) : Int) = 0 := hr (0, m / q) (List.mem_cons_of_mem _ List.mem_cons_self)
  rw [Int.sub_zero] at c2
  rw [crtF_eq hq hc ⟨r0, r1, c1, c2⟩] at k
  exact k
theorem c_through {p : Nat} {vs : List Int} (hp : 2 ≤ p ∧ p ≤ 400) (hl : vs.length = p) (hv : ∀ x ∈ vs, -400 ≤ x ∧ x ≤ 400) (q : ∀ es : List Int, es.length = p → Res p es → Q (.own (iL es))) : Cal (sp__law_through K) 2 [.dat (.int p), .dat (.list (iL vs))] Q X := ⟨rfl, p, vs, rfl, hp, hl, hv, q⟩
end
theorem iL_rev (a : List Int) : (iL a).reverse = iL a.reverse := List.map_reverse.symm
section
variable {K : Fr} {Q : RV → Prop} {X : Addr → Prop} {rs : List RV}
theorem l_reduced (h : sp_reduced K rs Q X) : d_reduced K (endD Q X) (startD ["f", "m", "c"] rs) := by
  obtain ⟨fs, m, rfl, hm, hl, h⟩ := h
  walk_at "ST"
  refine LcS.map (fun d => match d with
    | .int x => .int (x % m)
    | d => d) (szLine (by rw [iL_len]; omega)) (fun d hd C hC => ?_) ?_
  · obtain ⟨x, _, rfl⟩ := List.mem_map.mp hd
    walk_at "ST"
    exact ⟨hm, hC⟩
  · rw [show (iL fs).map (fun d => match d with
      | .int x => PyData.int (x % m)
      | d => d) = iL (fs.map (· % m)) by unfold iL; rw [List.map_map, List.map_map]; rfl]
    exact h
theorem l_step_by (h : sp_step_by K rs Q X) : d_step_by K (endD Q X) (startD ["entries", "m", "x", "total", "c"] rs) := by
  obtain ⟨fs, m, x, rfl, hm, h⟩ := h
  walk_at "ST"
  refine ⟨fun i δ => ∃ a, δ = [.dat (.list (iL fs)), .dat (.int m), .dat (.int x), .dat (.int (hor m x (fs.drop (fs.length - i)))), a] , ⟨_, by rw [Nat.sub_zero, List.drop_length]; rfl⟩, ?_, ?_⟩
  · rintro i d δ hd ⟨a, rfl⟩
    have hi : i < fs.length := by
      have := (List.getElem?_eq_some_iff.mp hd).1
      rw [List.length_reverse, iL_len] at this
      exact this
    have e : d = .int (fs[fs.length - 1 - i]'(by omega)) := by
      rw [iL_rev] at hd
      rw [List.getElem?_map, List.getElem?_reverse (by omega), List.getElem?_eq_getElem (by omega)] at hd
      exact (Option.some.inj hd).symm
    subst e
    have e2 : fs.drop (fs.length - (i + 1)) = fs[fs.length - 1 - i]'(by omega) :: fs.drop (fs.length - i) := by
      rw [List.drop_eq_getElem_cons (by omega)]
      congr 1
      · congr 1; omega
      · congr 1; omega
    walk_at "ST"
    have hb := hor_b hm.1 x (fs.drop (fs.length - i))
    refine ⟨mulL (by omega) (by omega), ?_⟩
    walk_at "ST"
    refine ⟨hm.1, ?_⟩
    walk_at "ST"
    rw [e2]
    exact ⟨_, rfl⟩
  · rintro δ ⟨a, rfl⟩
    walk_at "ST"
    rw [List.length_reverse, iL_len, Nat.sub_self, List.drop_zero]
    exact h
theorem c_reduced {fs : List Int} {m : Int} (h : 0 < m) (hl : fs.length ≤ 40) (k : Q (.own (iL (fs.map (· % m))))) : Cal (sp_reduced K) 2 [.dat (.list (iL fs)), .dat (.int m)] Q X := ⟨rfl, fs, m, rfl, h, hl, k⟩
theorem c_step_by {fs : List Int} {m x : Int} (h : 0 < m ∧ m < 2 ^ 64) (k : Q (.dat (.int (hor m x fs)))) : Cal (sp_step_by K) 3 [.dat (.list (iL fs)), .dat (.int m), .dat (.int x)] Q X := ⟨rfl, fs, m, x, rfl, h, k⟩
end
theorem cut_m1 {ns : List Int} (h : 0 < ns.length) : cutD (iL ns) none (some (-1)) = iL (ns.take (ns.length - 1)) := by
  rw [cutD_iL, HT.sIx_none, List.drop_zero, Nat.sub_zero]
  congr 2
  show (if (-1 : Int) < 0 then ((-1 : Int) + (ns.length : Int)).toNat else min (-1 : Int).toNat ns.length) = _
  rw [if_pos (by decide)]
  omega
theorem rowF_len (fs : List Int) (m : Int) : ∀ (k : Nat) (x : Int), (rowF fs m x k).length = k
  | 0, _ => rfl
  | k + 1, x => by show (_ :: rowF fs m _ k).length = _; rw [List.length_cons, rowF_len fs m k]
theorem itF_tl (fs : List Int) (m : Int) (x : Int) : ∀ k, itF fs m (hor m (x % m) fs) k = itF fs m x (k + 1)
  | 0 => rfl
  | k + 1 => by show hor m (itF fs m _ k % m) fs = _; rw [itF_tl fs m x k]; rfl
theorem rowF_it (fs : List Int) (m : Int) : ∀ (k : Nat) (x : Int), rowF fs m x k = (List.range k).map (itF fs m x)
  | 0, _ => rfl
  | k + 1, x => by
    show x :: rowF fs m _ k = _
    rw [rowF_it fs m k, List.range_succ_eq_map, List.map_cons, List.map_map]
    congr 1
    exact List.map_congr_left fun j _ => itF_tl fs m x j
section
variable {K : Fr} {Q : RV → Prop} {X : Addr → Prop} {rs : List RV}
theorem l__law_rowof (h : sp__law_rowof K rs Q X) : d__law_rowof K (endD Q X) (startD ["f", "m", "start", "many", "line", "x", "k"] rs) := by
  obtain ⟨fs, m, x, n, rfl, hm, hl, hn, h⟩ := h
  walk_at "GO"
  refine ⟨⟨by omega, by omega⟩, ?_⟩
  walk_at "ST"
  refine ⟨fun i δ => ∃ a, δ = [.dat (.list (iL fs)), .dat (.int m), .dat (.int x), .dat (.int n), .own (iL (rowF fs m x i)), .dat (.int (itF fs m x i)), a], ⟨_, rfl⟩, ?_, ?_⟩
  · rintro i d δ hd ⟨a, rfl⟩
    have hi := (rngD_get hd).1
    walk_at "ST"
    refine ⟨szLine (by rw [iL_len, rowF_len]; omega), ?_⟩
    walk_at "ST"
    refine c_lat hm hl ?_
    walk_at "ST"
    have e : rowF fs m x (i + 1) = rowF fs m x i ++ [itF fs m x i] := by rw [rowF_it fs m (i + 1), List.range_succ, List.map_append, ← rowF_it]; rfl
    rw [e, ← iL_append]
    exact ⟨_, rfl⟩
  · rintro δ ⟨a, rfl⟩
    rw [rngD_length, Int.toNat_natCast]
    walk_at "ST"
    exact h
theorem c_rowof {fs : List Int} {m x : Int} {n : Nat} (h : 0 < m ∧ m < 2 ^ 64) (hl : fs.length ≤ 40) (hn : n ≤ 1000) (k : Q (.own (iL (rowF fs m x n)))) : Cal (sp__law_rowof K) 4 [.dat (.list (iL fs)), .dat (.int m), .dat (.int x), .dat (.int n)] Q X := ⟨rfl, fs, m, x, n, rfl, h, hl, hn, k⟩
theorem hor_red (m x : Int) : ∀ fs : List Int, hor m x (fs.map (· % m)) = hor m x fs
  | [] => rfl
  | c :: cs => by
    show (hor m x (cs.map (· % m)) * x + c % m) % m = (hor m x cs * x + c) % m
    rw [hor_red m x cs, Int.add_emod, Int.emod_emod_of_dvd _ (Int.dvd_refl m), ← Int.add_emod]
theorem iL_at {ns : List Int} {i : Nat} {d : D} (h : (iL ns)[i]? = some d) : i < ns.length ∧ d = .int (ns.getD i 0) := by
  rw [List.getElem?_map] at h
  cases e : ns[i]? with
  | none => rw [e] at h; cases h
  | some x =>
    rw [e] at h
    refine ⟨(List.getElem?_eq_some_iff.mp e).1, ?_⟩
    rw [List.getD_eq_getElem?_getD, e]
    exact (Option.some.inj h).symm
end
theorem ext_getD {a b : List Int} (hl : a.length = b.length) (h : ∀ i < b.length, a.getD i 0 = b.getD i 0) : a = b := by
  apply List.ext_getElem hl
  intro i h1 h2
  have := h i h2
  rw [List.getD_eq_getElem?_getD, List.getD_eq_getElem?_getD, List.getElem?_eq_getElem h1, List.getElem?_eq_getElem h2] at this
  exact this
theorem map_getD {f : Nat → Int} {n i : Nat} (h : i < n) : ((List.range n).map f).getD i 0 = f i := by
  rw [List.getD_eq_getElem?_getD, List.getElem?_map, List.getElem?_range h]
  rfl
structure Ring (fs : List Int) (q : Int) (ring : List Int) : Prop where
  l1 : 0 < ring.length
  l2 : ring.length ≤ 400
  l3 : (ring.length : Int) < q
  r : Res q ring
  n : ring.Nodup
  s : ∀ i < ring.length, hor q ((ring ++ [ring.getD 0 0]).getD i 0) fs = (ring ++ [ring.getD 0 0]).getD (i + 1) 0
theorem Ring.congr {fs gs : List Int} {q : Int} {ring : List Int} (h : Ring fs q ring) (e : ∀ x, hor q x gs = hor q x fs) : Ring gs q ring := ⟨h.l1, h.l2, h.l3, h.r, h.n, fun i hi => by rw [e]; exact h.s i hi⟩
theorem hor_hz {m : Int} (x : Int) : ∀ fs : List Int, hor m x fs = hz fs x % m
  | [] => (Int.zero_emod m).symm
  | c :: cs => by
    show (hor m x cs * x + c) % m = (hz cs x * x + c) % m
    rw [hor_hz x cs, Int.add_emod, Int.mul_emod, Int.emod_emod_of_dvd _ (Int.dvd_refl m), ← Int.mul_emod, ← Int.add_emod]
/-- the slope's entries -/
def dlF : Int → List Int → List Int
  | _, [] => []
  | k, c :: cs => k * c :: dlF (k + 1) cs
theorem dlF_succ (x : Int) : ∀ (k : Int) (cs : List Int), hz (dlF (k + 1) cs) x = hz (dlF k cs) x + hz cs x
  | k, [] => rfl
  | k, c :: cs => by
    show hz (dlF (k + 1 + 1) cs) x * x + (k + 1) * c = hz (dlF (k + 1) cs) x * x + k * c + (hz cs x * x + c)
    rw [dlF_succ x (k + 1) cs, Int.add_mul, Int.add_mul]
    omega
theorem dz_dl (x : Int) : ∀ (c : Int) (cs : List Int), dz (c :: cs) x = hz (dlF 1 cs) x
  | c, [] => by show (0 : Int) * x + 0 = 0; omega
  | c, c1 :: cs => by
    show dz (c1 :: cs) x * x + (hz cs x * x + c1) = hz (dlF 2 cs) x * x + 1 * c1
    rw [dz_dl x c1 cs, show (2 : Int) = 1 + 1 from rfl, dlF_succ x 1 cs, Int.add_mul]
    omega
theorem dlF_get : ∀ (cs : List Int) (k : Int) (i : Nat), (dlF k cs).getD i 0 = (k + (i : Nat)) * cs.getD i 0
  | [], k, i => by show (0 : Int) = _ * 0; omega
  | c :: cs, k, 0 => by show k * c = (k + 0) * c; rw [Int.add_zero]
  | c :: cs, k, i + 1 => by
    show (dlF (k + 1) cs).getD i 0 = (k + ((i + 1 : Nat) : Int)) * cs.getD i 0
    rw [dlF_get cs (k + 1) i]
    congr 1
    omega
theorem dlF_len : ∀ (cs : List Int) (k : Int), (dlF k cs).length = cs.length
  | [], k => rfl
  | c :: cs, k => by show (dlF (k + 1) cs).length + 1 = _; rw [dlF_len cs]; rfl
theorem slope_list (fs : List Int) : (List.range (fs.length - 1)).map (fun i : Nat => (1 + (i : Int)) * fs.getD (1 + i) 0) = dlF 1 (fs.drop 1) := by
  cases fs with
  | nil => rfl
  | cons c cs =>
    refine ext_getD (by rw [List.length_map, List.length_range, dlF_len]; rfl) fun i hi => ?_
    rw [dlF_len] at hi
    rw [map_getD (by exact hi), dlF_get]
    show (1 + (i : Int)) * (c :: cs).getD (1 + i) 0 = _
    rw [Nat.add_comm 1 i]
    rfl
theorem hor_slope {w x : Int} (fs : List Int) : hor w x (dlF 1 (fs.drop 1)) = dz fs x % w := by
  rw [hor_hz]
  cases fs with
  | nil => rfl
  | cons c cs => rw [dz_dl]; rfl
theorem hor_map (w x : Int) (fs : List Int) : hor w x (fs.map (· % w)) = hor w x fs := hor_red w x fs
section
variable {K : Fr} {Q : RV → Prop} {X : Addr → Prop} {rs : List RV}
theorem slopeP_snoc (fs : List Int) (w : Int) (ring : List Int) (x : Int) : slopeP fs w (ring ++ [x]) = slopeP fs w ring * (dz fs x % w) % w := by
  unfold slopeP
  rw [List.foldl_append]
  rfl
theorem slopeP_b (fs : List Int) {w : Int} (hw : 1 < w) (ring : List Int) : 0 ≤ slopeP fs w ring ∧ slopeP fs w ring < w := by
  rcases List.eq_nil_or_concat ring with rfl | ⟨r, x, rfl⟩
  · exact ⟨(by decide : (0 : Int) ≤ 1), hw⟩
  · rw [List.concat_eq_append, slopeP_snoc]
    exact ⟨Int.emod_nonneg _ (by omega), Int.emod_lt_of_pos _ (by omega)⟩
end
theorem sl_hor {fs : List Int} {p : Int} (x : Int) : hor p x (slF fs p) = dz fs x % p := by
  have e : slF fs p = (dlF 1 (fs.drop 1)).map (· % p) := by
    rw [← slope_list]
    unfold slF
    rw [List.map_map]
    rfl
  rw [e, hor_map, hor_slope]
section
variable {K : Fr} {Q : RV → Prop} {X : Addr → Prop} {rs : List RV}
theorem l_slope_by (h : sp_slope_by K rs Q X) : d_slope_by K (endD Q X) (startD ["f", "p", "k"] rs) := by
  obtain ⟨fs, p, rfl, ⟨hp, hl⟩, h⟩ := h
  walk_at "ST"
  rw [iL_len]
  refine ⟨⟨⟨by decide, by decide⟩, by omega, by omega⟩, ?_⟩
  walk_at "ST"
  refine LcS.map (fun d => match d with
    | .int k => .int (k * fs.getD k.toNat 0 % p)
    | d => d) (szLine (by rw [rngD_length]; omega)) (fun d hd C hC => ?_) ?_
  · obtain ⟨k, hk, rfl⟩ := rngD_mem hd
    walk_at "ST"
    refine ⟨_, atI_iL (by omega) (by omega), ?_⟩
    walk_at "ST"
    refine ⟨mulL (by omega) (by omega), ?_⟩
    walk_at "ST"
    exact ⟨hp, hC⟩
  have e : (rngD 1 ((fs.length : Int) - 1).toNat).map (fun d => match d with
    | .int k => PyData.int (k * fs.getD k.toNat 0 % p)
    | d => d) = iL (slF fs p) := by
    unfold slF rngD iL
    rw [List.map_map, List.map_map, show ((fs.length : Int) - 1).toNat = fs.length - 1 by omega]
    refine List.map_congr_left fun k _ => ?_
    show PyData.int ((1 + (k : Int)) * fs.getD (1 + (k : Int)).toNat 0 % p) = PyData.int ((1 + (k : Int)) * fs.getD (1 + k) 0 % p)
    rw [show (1 + (k : Int)).toNat = 1 + k by omega]
  rw [e]
  walk_at "ST"
  exact h
theorem l_product_over (h : sp_product_over K rs Q X) : d_product_over K (endD Q X) (startD ["slopes", "p", "residues", "product", "x"] rs) := by
  obtain ⟨fs, p, line, rfl, hp, hl, h⟩ := h
  walk_at "ST"
  refine ⟨fun i δ => ∃ a, δ = [.dat (.list (iL (slF fs p))), .dat (.int p), .dat (.list (iL line)), .dat (.int (slopeP fs p (line.take i))), a], ⟨_, rfl⟩, ?_, ?_⟩
  · rintro i d δ hd ⟨a, rfl⟩
    obtain ⟨hi, rfl⟩ := iL_at hd
    have hb := slopeP_b fs hp.1 (line.take i)
    walk_at "ST"
    refine ⟨rfl, slF fs p, p, _, rfl, ⟨by omega, hp.2⟩, ?_⟩
    rw [sl_hor]
    walk_at "ST"
    refine ⟨mulL (by omega) (by omega), ?_⟩
    walk_at "ST"
    refine ⟨by omega, ?_⟩
    walk_at "ST"
    rw [take_snoc hi, slopeP_snoc]
    exact ⟨_, rfl⟩
  · rintro δ ⟨a, rfl⟩
    rw [iL_len, List.take_length]
    walk_at "ST"
    exact h
end
end RB

set_option Elab.async false
set_option linter.all false
set_option maxRecDepth 100000
set_option maxHeartbeats 8000000
set_option exponentiation.threshold 100000
/-! LAC: taken over from other claims by lib.py -/
namespace RB
open PySem PySem.Spec PyProof.Rows L2
local macro_rules | `(tactic| walk_at "ST") => `(tactic| ((conv => whnf); repeat (first | (refine Br.t ?_; conv => whnf) | (refine Br.f ?_; conv => whnf))))
local macro_rules | `(tactic| walk_at "SZ") => `(tactic| first | decide | omega | (simp only [List.length_append, List.length_map, List.length_cons, List.length_nil]; done) | (simp only [List.length_append, List.length_map, List.length_cons, List.length_nil]; omega))
local macro_rules | `(tactic| walk_at "G1") => `(tactic| first | refine And.intro (szLine (by walk_at "SZ")) ?_ | refine And.intro (mulR (by decide) (by decide)) ?_ | refine And.intro (mulL (by decide) (by decide)) ?_ | refine And.intro (divOk (by decide) (by decide)) ?_ | refine And.intro (show PowOk _ _ from ⟨by decide, by decide⟩) ?_ | refine And.intro (by decide) ?_ | refine And.intro rfl ?_ | refine Exists.intro _ (And.intro rfl ?_))
local macro_rules | `(tactic| walk_at "DP") => `(tactic| repeat (first | assumption | exact Dep.non | exact Dep.bl _ | exact Dep.int _ | exact Dep.str _ | exact dL_nil | refine dL_cons ?_ ?_ | refine Dep.lst (by walk_at "SZ") ?_ | refine Dep.tup (by walk_at "SZ") ?_))
local macro_rules | `(tactic| walk_at "GO") => `(tactic| ((walk_at "ST"); repeat ((walk_at "G1"); (walk_at "ST"))))
def dzP (fs : List Int) : List Int → Int
  | [] => 1
  | x :: l => dz fs x * dzP fs l
theorem foldP (fs : List Int) (w : Int) : ∀ (l : List Int) (r : Int), (l.foldl (fun r x => r * (dz fs x % w) % w) r) % w = (r * dzP fs l) % w
  | [], r => by show r % w = (r * 1) % w; rw [Int.mul_one]
  | a :: l, r => by
    show (l.foldl (fun r x => r * (dz fs x % w) % w) (r * (dz fs a % w) % w)) % w = (r * (dz fs a * dzP fs l)) % w
    rw [foldP fs w l]
    have e1 : (r * (dz fs a % w) % w * dzP fs l) % w = (r * (dz fs a % w) * dzP fs l) % w := by rw [Int.mul_emod, Int.emod_emod_of_dvd _ (Int.dvd_refl w), ← Int.mul_emod]
    rw [e1, Int.mul_right_comm, Int.mul_emod, Int.emod_emod_of_dvd _ (Int.dvd_refl w), ← Int.mul_emod, Int.mul_assoc, Int.mul_comm (dzP fs l)]
theorem slopeP_dzP (fs : List Int) {w : Int} (hw : 1 < w) (l : List Int) : slopeP fs w l = dzP fs l % w := by
  have hb := slopeP_b fs hw l
  have := foldP fs w l 1
  rw [Int.one_mul] at this
  rw [← this]
  exact (Int.emod_eq_of_lt hb.1 hb.2).symm
theorem dzP_app (fs : List Int) : ∀ a b : List Int, dzP fs (a ++ b) = dzP fs a * dzP fs b
  | [], b => (Int.one_mul _).symm
  | x :: a, b => by
    show dz fs x * dzP fs (a ++ b) = dz fs x * dzP fs a * dzP fs b
    rw [dzP_app fs a b, Int.mul_assoc]
theorem p12_b : ∀ p ∈ P12, 2 ≤ p ∧ p ≤ 37 := by decide
theorem vpF_dvd {p : Nat} : ∀ (f n : Nat), p ^ vpF p f n ∣ n
  | 0, n => by show p ^ 0 ∣ n; rw [Nat.pow_zero]; exact Nat.one_dvd _
  | f + 1, n => by
    show p ^ (if n % p = 0 then vpF p f (n / p) + 1 else 0) ∣ n
    by_cases h : n % p = 0
    · rw [if_pos h, Nat.pow_succ]
      have := Nat.mul_dvd_mul_right (vpF_dvd (p := p) f (n / p)) p
      rwa [Nat.div_mul_cancel (Nat.dvd_of_mod_eq_zero h)] at this
    · rw [if_neg h, Nat.pow_zero]; exact Nat.one_dvd _
theorem vp_dvd {p n : Nat} : p ^ vp p n ∣ n := vpF_dvd 64 n
def prodF : List (Nat × Nat) → Nat
  | [] => 1
  | q :: l => q.1 ^ q.2 * prodF l
theorem prodF_mem : ∀ {l : List (Nat × Nat)} {q : Nat × Nat}, q ∈ l → q.1 ^ q.2 ∣ prodF l
  | a :: l, q, h => by
    rcases List.mem_cons.mp h with rfl | h
    · exact Nat.dvd_mul_right _ _
    · exact Nat.dvd_trans (prodF_mem h) (Nat.dvd_mul_left _ _)
theorem lawFac_mem : ∀ (ps : List Nat) (r : Nat) (q : Nat × Nat), q ∈ lawFac ps r → q.1 ∈ ps ∧ 0 < q.2
  | [], r, q, h => by cases h
  | p :: ps, r, q, h => by
    unfold lawFac at h
    split at h
    · rename_i hv
      rcases List.mem_cons.mp h with rfl | h
      · exact ⟨List.mem_cons_self, hv⟩
      · have := lawFac_mem ps _ q h
        exact ⟨List.mem_cons_of_mem _ this.1, this.2⟩
    · have := lawFac_mem ps _ q h
      exact ⟨List.mem_cons_of_mem _ this.1, this.2⟩
theorem lawFac_run : ∀ (ps : List (Nat × Nat)) (n : Nat) (l : List (Nat × Nat)), facRun ps n = some l → lawFac (ps.map (·.1)) n = l
  | [], n, l, h => by
    have h : (if n = 1 then some [] else none) = some l := h
    by_cases e : n = 1
    · rw [if_pos e] at h; cases h; rfl
    · rw [if_neg e] at h; cases h
  | (p, m) :: ps, n, l, h => by
    have h : (if m < vp p n then none else (facRun ps (n / p ^ vp p n)).map fun l => if 0 < vp p n then (p, vp p n) :: l else l) = some l := h
    by_cases e : m < vp p n
    · rw [if_pos e] at h; cases h
    · rw [if_neg e] at h
      obtain ⟨l', h1, h2⟩ := Option.map_eq_some_iff.mp h
      show (if 0 < vp p n then (p, vp p n) :: lawFac (ps.map (·.1)) (n / p ^ vp p n) else lawFac (ps.map (·.1)) (n / p ^ vp p n)) = l
      rw [lawFac_run ps _ _ h1]
      exact h2
theorem facM_lawFac {n : Nat} {l : List (Nat × Nat)} (h : facM n = some l) : lawFac P12 n = l := lawFac_run PR n l (facM_run h).2.2
theorem unI_iL (ns : List Int) : (iL ns).map unI = ns := by
  rw [List.map_map]
  exact List.map_id ns
theorem resB_t {q : Int} {ns : List Int} (h : ((iL ns).all fun d => withinD d 0 (q - 1)) = true) : resB q (iL ns) = decide ns.Nodup := by
  unfold resB
  rw [h, Bool.true_and, unI_iL]
section
variable {K : Fr} {Q : RV → Prop} {X : Addr → Prop} {rs : List RV}
theorem stepsB_at {fs : List Int} {q : Int} : ∀ {ns : List Int} {b : Int} {i : Nat}, i < ns.length → hor q ((b :: ns).getD i 0) fs ≠ ns.getD i 0 → stepsB fs q b ns = false
  | [], _, _, h, _ => by simp at h
  | x :: xs, b, 0, _, h => by
    show (decide (hor q b fs = x) && _) = false
    rw [decide_eq_false (p := hor q b fs = x) h, Bool.false_and]
  | x :: xs, b, i + 1, h, h2 => by
    show (_ && stepsB fs q x xs) = false
    rw [stepsB_at (i := i) (by simpa using h) h2, Bool.and_false]
theorem stepsB_all {fs : List Int} {q : Int} : ∀ {ns : List Int} {b : Int}, (∀ i < ns.length, hor q ((b :: ns).getD i 0) fs = ns.getD i 0) → stepsB fs q b ns = true
  | [], _, _ => rfl
  | x :: xs, b, h => by
    show (decide (hor q b fs = x) && stepsB fs q x xs) = true
    rw [decide_eq_true (p := hor q b fs = x) (h 0 (by simp)), Bool.true_and]
    exact stepsB_all fun i hi => h (i + 1) (by simpa using hi)
end
theorem itF_b {fs : List Int} {m x : Int} (hm : 0 < m) (h0 : 0 ≤ x) (h1 : x < m) : ∀ k, 0 ≤ itF fs m x k ∧ itF fs m x k < m
  | 0 => ⟨h0, h1⟩
  | k + 1 => hor_b hm _ fs
theorem pigeon : ∀ (m : Nat) (ns : List Nat), ns.Nodup → (∀ x ∈ ns, x < m) → ns.length ≤ m
  | 0, ns, _, h => by
    cases ns with
    | nil => exact Nat.le_refl _
    | cons a t => exact absurd (h a List.mem_cons_self) (Nat.not_lt_zero _)
  | m + 1, ns, hn, h => by
    have ih := pigeon m (ns.erase m) (hn.erase m) fun x hx => by
      obtain ⟨h1, h2⟩ := hn.mem_erase_iff.mp hx
      have := h x h2
      omega
    by_cases hm : m ∈ ns
    · rw [List.length_erase_of_mem hm] at ih
      omega
    · rw [List.erase_of_not_mem hm] at ih
      omega
theorem pigeonI {m : Nat} {ns : List Int} (hn : ns.Nodup) (h : Res m ns) : ns.length ≤ m := by
  have h1 : (ns.map Int.toNat).Nodup := List.pairwise_map.mpr (List.Pairwise.imp_of_mem (fun {a b} ha hb hab e => hab (by
    have := h a ha
    have := h b hb
    omega)) hn)
  have := pigeon m (ns.map Int.toNat) h1 fun x hx => by
    obtain ⟨y, hy, rfl⟩ := List.mem_map.mp hx
    have := h y hy
    omega
  rw [List.length_map] at this
  exact this
theorem app_eq {ns : List Int} {z : Int} : (ns ++ [z]).getD ns.length 0 = z := by
  rw [List.getD_eq_getElem?_getD, List.getElem?_append_right (Nat.le_refl _), Nat.sub_self]
  rfl
theorem res_getD {q : Int} {ns : List Int} (hr : Res q ns) {i : Nat} (h : i < ns.length) : 0 ≤ ns.getD i 0 ∧ ns.getD i 0 < q := hr _ (getD_mem h)
theorem getLast_getD {ns : List Int} (h : 0 < ns.length) : ns.getLastD 0 = ns.getD (ns.length - 1) 0 := by
  rcases List.eq_nil_or_concat ns with rfl | ⟨ns, x, rfl⟩
  · simp at h
  · rw [List.concat_eq_append] at *
    rw [List.getLastD_concat, List.length_append, show ns.length + [x].length - 1 = ns.length from rfl, app_eq]
theorem mod_cong {a b m : Int} (h : (a - b) % m = 0) : a % m = b % m := Int.emod_eq_emod_iff_emod_sub_eq_zero.mpr h
theorem hz_taylor (x h : Int) : ∀ fs : List Int, ∃ R, hz fs (x + h) = hz fs x + h * dz fs x + h * h * R
  | [] => ⟨0, by show (0 : Int) = 0 + h * 0 + h * h * 0; omega⟩
  | c :: cs => by
    obtain ⟨R, e⟩ := hz_taylor x h cs
    refine ⟨dz cs x + R * (x + h), ?_⟩
    show hz cs (x + h) * (x + h) + c = hz cs x * x + c + h * (dz cs x * x + hz cs x) + h * h * (dz cs x + R * (x + h))
    rw [e]
    generalize hz cs x = A
    generalize dz cs x = B
    simp only [Int.add_mul, Int.mul_add, Int.mul_assoc, Int.mul_comm, Int.mul_left_comm]
    omega
theorem hz_mod {m : Int} (x : Int) : ∀ fs : List Int, hz fs (x % m) % m = hz fs x % m
  | [] => rfl
  | c :: cs => by
    show (hz cs (x % m) * (x % m) + c) % m = (hz cs x * x + c) % m
    rw [Int.add_emod, Int.mul_emod, hz_mod x cs, Int.emod_emod_of_dvd _ (Int.dvd_refl m), ← Int.mul_emod, ← Int.add_emod]
theorem dz_mod {m : Int} (x : Int) : ∀ fs : List Int, dz fs (x % m) % m = dz fs x % m
  | [] => rfl
  | c :: cs => by
    show (dz cs (x % m) * (x % m) + hz cs (x % m)) % m = (dz cs x * x + hz cs x) % m
    rw [Int.add_emod, Int.mul_emod, dz_mod x cs, hz_mod x cs, Int.emod_emod_of_dvd _ (Int.dvd_refl m), ← Int.mul_emod, ← Int.add_emod]
theorem hz_cong {m x y : Int} (h : x % m = y % m) (fs : List Int) : hz fs x % m = hz fs y % m := by rw [← hz_mod x, h, hz_mod]
theorem dz_cong {m x y : Int} (h : x % m = y % m) (fs : List Int) : dz fs x % m = dz fs y % m := by rw [← dz_mod x, h, dz_mod]
theorem ringB_list {fs : List Int} {q : Int} {ds : List D} : ringB fs q (.list ds) = ((decide (1 ≤ ds.length) && decide (ds.length ≤ 400)) && (resB q ds && stepsB fs q ((ds.map unI).getLastD 0) (ds.map unI))) := rfl
theorem within_res {q : Int} {ns : List Int} (h : Res q ns) : ((iL ns).all fun d => withinD d 0 (q - 1)) = true := by
  rw [List.all_eq_true]
  intro d hd
  obtain ⟨x, hx, rfl⟩ := List.mem_map.mp hd
  have := h x hx
  rw [withinD_int, decide_eq_true this.1, decide_eq_true (by omega)]
  rfl
theorem steps_cyc {fs : List Int} {q : Int} {ns : List Int} (h0 : 0 < ns.length) : stepsB fs q (ns.getLastD 0) ns = true ↔ ∀ i < ns.length, hor q (ns.getD i 0) fs = ns.getD ((i + 1) % ns.length) 0 := by
  constructor
  · intro h i hi
    apply Classical.byContradiction
    intro hne
    by_cases e : i + 1 = ns.length
    · rw [e, Nat.mod_self] at hne
      rw [stepsB_at (i := 0) h0 (by rw [show (ns.getLastD 0 :: ns).getD 0 0 = ns.getLastD 0 from rfl, getLast_getD h0, show ns.length - 1 = i by omega]; exact hne)] at h
      cases h
    · rw [Nat.mod_eq_of_lt (by omega)] at hne
      rw [stepsB_at (i := i + 1) (by omega) hne] at h
      cases h
  · intro h
    refine stepsB_all fun i hi => ?_
    cases i with
    | zero =>
      have := h (ns.length - 1) (by omega)
      rw [show ns.length - 1 + 1 = ns.length by omega, Nat.mod_self] at this
      rw [show (ns.getLastD 0 :: ns).getD 0 0 = ns.getLastD 0 from rfl, getLast_getD h0]
      exact this
    | succ k =>
      have := h k (by omega)
      rw [Nat.mod_eq_of_lt (by omega)] at this
      exact this
theorem RingC.b {fs : List Int} {q : Int} {ring : List Int} (h : RingC fs q ring) : ringB fs q (.list (iL ring)) = true := by
  have h1 := h.l1
  rw [ringB_list, iL_len, decide_eq_true (p := 1 ≤ ring.length) (by omega), decide_eq_true h.l2, resB_t (within_res h.r), unI_iL, decide_eq_true h.n, (steps_cyc h.l1).mpr h.s]
  rfl
theorem hor_itF {fs : List Int} {m x : Int} (hm : 0 < m) (h0 : 0 ≤ x ∧ x < m) (k : Nat) : hor m (itF fs m x k) fs = itF fs m x (k + 1) := by
  have := itF_b (fs := fs) hm h0.1 h0.2 k
  show _ = hor m (itF fs m x k % m) fs
  rw [Int.emod_eq_of_lt this.1 this.2]
/-- f's product of slopes along the row -/
def slopeR (fs : List Int) (m x : Int) : Nat → Int
  | 0 => 1
  | k + 1 => slopeR fs m x k * dz fs (itF fs m x k)
theorem row_mod {fs : List Int} {q m : Int} {ring : List Int} (h : RingC fs q ring) (hq : 0 < q) (hm : 0 < m) (hd : m % q = 0) : ∀ k, k ≤ ring.length → itF fs m (ring.getD 0 0) k % q = ring.getD (k % ring.length) 0
  | 0, _ => by
    have := res_getD h.r h.l1
    rw [Nat.zero_mod]
    exact Int.emod_eq_of_lt this.1 this.2
  | k + 1, hk => by
    have ih := row_mod h hq hm hd k (by omega)
    rw [Nat.mod_eq_of_lt (show k < ring.length by omega)] at ih
    show hor m (itF fs m (ring.getD 0 0) k % m) fs % q = _
    rw [hor_hz, Int.emod_emod_of_dvd _ (Int.dvd_of_emod_eq_zero hd)]
    have e1 : hz fs (itF fs m (ring.getD 0 0) k % m) % q = hz fs (ring.getD k 0) % q := by
      refine hz_cong ?_ fs
      have := res_getD h.r (show k < ring.length by omega)
      rw [Int.emod_emod_of_dvd _ (Int.dvd_of_emod_eq_zero hd), ih, Int.emod_eq_of_lt this.1 this.2]
    rw [e1, ← hor_hz]
    exact h.s k (by omega)
theorem slopeP_row {fs : List Int} {q m w : Int} {ring : List Int} (h : RingC fs q ring) (hq : 0 < q) (hm : 0 < m) (hd : m % q = 0) (hw : 1 < w) (hwq : q % w = 0) : ∀ k, k ≤ ring.length → slopeP fs w (ring.take k) = slopeR fs m (ring.getD 0 0) k % w
  | 0, _ => (Int.emod_eq_of_lt (by decide) hw).symm
  | k + 1, hk => by
    have ih := slopeP_row h hq hm hd hw hwq k (by omega)
    have hr := row_mod h hq hm hd k (by omega)
    rw [Nat.mod_eq_of_lt (show k < ring.length by omega)] at hr
    rw [take_snoc (by omega), slopeP_snoc, ih]
    show _ = slopeR fs m (ring.getD 0 0) k * dz fs (itF fs m (ring.getD 0 0) k) % w
    have e1 : dz fs (ring.getD k 0) % w = dz fs (itF fs m (ring.getD 0 0) k) % w := by
      refine dz_cong ?_ fs
      rw [← hr, Int.emod_emod_of_dvd _ (Int.dvd_of_emod_eq_zero hwq)]
    rw [e1, ← Int.mul_emod]
/-- a step with x moved by q t -/
theorem shift_step {fs : List Int} {p q x t : Int} (hd : q % p = 0) : (hz fs (x + q * t) - (hz fs x + q * (t * dz fs x))) % (p * q) = 0 := by
  obtain ⟨R, e⟩ := hz_taylor x (q * t) fs
  obtain ⟨c, hc⟩ := Int.dvd_of_emod_eq_zero hd
  rw [e]
  have : hz fs x + q * t * dz fs x + q * t * (q * t) * R - (hz fs x + q * (t * dz fs x)) = p * q * (c * t * t * R) := by
    rw [show q * t * (q * t) * R = p * q * (c * t * t * R) by
      conv => lhs; rw [show q * t * (q * t) * R = q * (q * (t * t * R)) by simp only [Int.mul_assoc, Int.mul_comm, Int.mul_left_comm]]
              arg 2; rw [hc]
      rw [hc]
      simp only [Int.mul_assoc, Int.mul_comm, Int.mul_left_comm], Int.mul_assoc q t]
    omega
  rw [this, Int.mul_emod_right]
section
variable {F : Int → Int} {x y : Int} {n m : Nat}
theorem iter_add (a b : Nat) (x : Int) : iter F (a + b) x = iter F a (iter F b x) := by
  induction a with
  | zero => rw [Nat.zero_add]; rfl
  | succ a ih => rw [Nat.succ_add]; show F _ = F _; rw [ih]
theorem iter_ret (h : iter F n x = x) : ∀ k, iter F (k * n) x = x
  | 0 => by rw [Nat.zero_mul]; rfl
  | k + 1 => by rw [Nat.succ_mul, iter_add, h, iter_ret h k]
theorem iter_mod (h : iter F n x = x) (k : Nat) : iter F k x = iter F (k % n) x := by
  have e : k = k % n + k / n * n := by rw [Nat.mul_comm, Nat.mod_add_div]
  conv => lhs; rw [e, iter_add, iter_ret h]
theorem Per.shift (h : Per F x n) (k : Nat) : Per F (iter F k x) n := by
  refine ⟨h.n0, by rw [← iter_add, Nat.add_comm, iter_add, h.ret], fun j j0 j1 e => ?_⟩
  rw [← iter_add, Nat.add_comm, iter_add] at e
  -- go on until x comes again
  have e2 : iter F (n - k % n) (iter F k (iter F j x)) = iter F (n - k % n) (iter F k x) := by rw [e]
  have hk : k % n < n := Nat.mod_lt _ h.n0
  have back : ∀ z, iter F n z = z → iter F (n - k % n) (iter F k z) = z := fun z hz => by
    rw [iter_mod hz k, ← iter_add, Nat.sub_add_cancel (Nat.le_of_lt hk), hz]
  rw [back x h.ret, back (iter F j x) (by rw [← iter_add, Nat.add_comm, iter_add, h.ret])] at e2
  exact h.no j j0 j1 e2
theorem Per.inj (h : Per F x n) {i j : Nat} (hi : i < n) (hj : j < n) (e : iter F i x = iter F j x) : i = j := by
  have key : ∀ {i j : Nat}, i < j → j < n → iter F i x = iter F j x → False := fun {i j} hij hj e => by
    have e2 : iter F (j - i) (iter F i x) = iter F i x := by rw [← iter_add, Nat.sub_add_cancel (Nat.le_of_lt hij)]; exact e.symm
    exact (h.shift i).no (j - i) (by omega) (by omega) e2
  rcases Nat.lt_trichotomy i j with g | g | g
  · exact (key g hj e).elim
  · exact g
  · exact (key g hi e.symm).elim
theorem orb_len (F : Int → Int) (x : Int) (n : Nat) : (orb F x n).length = n := by unfold orb; rw [List.length_map, List.length_range]
theorem orb_get (F : Int → Int) (x : Int) {n i : Nat} (h : i < n) : (orb F x n).getD i 0 = iter F i x := by
  unfold orb
  rw [List.getD_eq_getElem?_getD, List.getElem?_map, List.getElem?_range h]
  rfl
theorem orb_get? (F : Int → Int) (x : Int) {n i : Nat} (h : i < n) : (orb F x n)[i]? = some (iter F i x) := by
  unfold orb
  rw [List.getElem?_map, List.getElem?_range h]
  rfl
theorem orb_mem {z : Int} : z ∈ orb F x n ↔ ∃ k, k < n ∧ iter F k x = z := by
  unfold orb
  rw [List.mem_map]
  exact ⟨fun ⟨k, h, e⟩ => ⟨k, List.mem_range.mp h, e⟩, fun ⟨k, h, e⟩ => ⟨k, List.mem_range.mpr h, e⟩⟩
theorem orb_nodup (h : Per F x n) : (orb F x n).Nodup := by
  unfold orb
  refine List.Pairwise.map _ (fun _ _ z => z) (R := fun i j => iter F i x ≠ iter F j x) ?_
  refine List.Pairwise.imp_of_mem (R := fun i j => i < j) (fun {a b} ma mb hab e => ?_) List.pairwise_lt_range
  have := h.inj (List.mem_range.mp ma) (List.mem_range.mp mb) e
  omega
theorem orb_succ (F : Int → Int) (x : Int) (n : Nat) : orb F x (n + 1) = orb F x n ++ [iter F n x] := by
  unfold orb
  rw [List.range_succ, List.map_append]
  rfl
end
section
variable {K : Fr} {Q : RV → Prop} {X : Addr → Prop} {rs : List RV}
theorem facRun_prod : ∀ {ps : List (Nat × Nat)} {r : Nat} {l : List (Nat × Nat)}, facRun ps r = some l → prodF l = r
  | [], r, l, h => by
    unfold facRun at h
    split at h
    · cases h; rename_i e; exact e.symm
    · cases h
  | (p, most) :: ps, r, l, h => by
    unfold facRun at h
    split at h
    · cases h
    · obtain ⟨l', hl', rfl⟩ := Option.map_eq_some_iff.mp h
      have ih := facRun_prod hl'
      have e : p ^ vp p r * (r / p ^ vp p r) = r := Nat.mul_div_cancel' vp_dvd
      split
      · show p ^ vp p r * prodF l' = r
        rw [ih, e]
      · rename_i z
        have z0 : vp p r = 0 := by omega
        rw [z0, Nat.pow_zero, Nat.one_mul, Nat.div_one] at e
        rw [z0, Nat.pow_zero, Nat.div_one] at ih
        exact ih
theorem fac_prod {m : Nat} {l : List (Nat × Nat)} (hf : facM m = some l) : prodF l = m := facRun_prod (facM_run hf).2.2
theorem fac_mem {m : Nat} {l : List (Nat × Nat)} (hf : facM m = some l) {q : Nat × Nat} (hq : q ∈ l) : 2 ≤ q.1 ∧ q.1 ≤ 37 ∧ 0 < q.2 ∧ q.1 ^ q.2 ∣ m ∧ q.1 ∣ m ∧ q.2 < 40 := by
  have hlaw := facM_lawFac hf
  obtain ⟨m2, m3, _⟩ := facM_run hf
  obtain ⟨h4, h5⟩ := lawFac_mem P12 m q (by rw [hlaw]; exact hq)
  have h6 : ∀ p ∈ P12, 2 ≤ p ∧ p ≤ 37 := by decide
  obtain ⟨h7, h8⟩ := h6 _ h4
  have h9 : q.1 ^ q.2 ∣ m := by rw [← fac_prod hf]; exact prodF_mem hq
  refine ⟨h7, h8, h5, h9, ?_, ?_⟩
  · refine Nat.dvd_trans ?_ h9
    obtain ⟨k, hk⟩ : ∃ k, q.2 = k + 1 := ⟨q.2 - 1, by omega⟩
    rw [hk, Nat.pow_succ]
    exact Nat.dvd_mul_left _ _
  · have h10 := Nat.le_of_dvd (by omega) h9
    rcases Nat.lt_or_ge q.2 40 with z | z
    · exact z
    · have h11 : 2 ^ 40 ≤ q.1 ^ q.2 := Nat.le_trans (Nat.pow_le_pow_right (by decide) z) (Nat.pow_le_pow_left h7 _)
      omega
end
theorem phi_b {p c d : Int} (hp : 0 < p) (t : Int) : 0 ≤ phi p c d t ∧ phi p c d t < p := ⟨Int.emod_nonneg _ (by omega), Int.emod_lt_of_pos _ hp⟩
theorem iphi_b {p c d t : Int} (hp : 0 < p) (ht : 0 ≤ t ∧ t < p) : ∀ k, 0 ≤ iter (phi p c d) k t ∧ iter (phi p c d) k t < p
  | 0 => ht
  | k + 1 => phi_b hp _
theorem up_itF {fs : List Int} {m x : Int} (hm : 0 < m) (hx : 0 ≤ x ∧ x < m) : ∀ k, iter (upF fs m) k x = itF fs m x k
  | 0 => rfl
  | k + 1 => by
    show upF fs m (iter (upF fs m) k x) = _
    rw [up_itF hm hx k]
    exact hor_itF hm hx k
/-- rows that start q t apart -/
theorem shift_rowT {fs : List Int} {p q x y t : Int} (hm : 0 < p * q) (hd : q % p = 0) (hy : y % (p * q) = (x + q * t) % (p * q)) : ∀ k, (itF fs (p * q) y k - (itF fs (p * q) x k + q * (t * slopeR fs (p * q) x k))) % (p * q) = 0
  | 0 => by
    show (y - (x + q * (t * 1))) % (p * q) = 0
    rw [Int.mul_one]
    exact Int.emod_eq_emod_iff_emod_sub_eq_zero.mp hy
  | k + 1 => by
    have ih := shift_rowT (fs := fs) hm hd hy k
    have e1 : itF fs (p * q) y k % (p * q) = (itF fs (p * q) x k + q * (t * slopeR fs (p * q) x k)) % (p * q) := mod_cong ih
    show (hor (p * q) (itF fs (p * q) y k % (p * q)) fs - (hor (p * q) (itF fs (p * q) x k % (p * q)) fs + q * (t * (slopeR fs (p * q) x k * dz fs (itF fs (p * q) x k))))) % (p * q) = 0
    rw [hor_hz, hor_hz, e1, hz_mod, hz_mod]
    refine Int.emod_eq_emod_iff_emod_sub_eq_zero.mp ?_
    rw [Int.emod_emod_of_dvd _ (Int.dvd_refl _), Int.emod_add_emod]
    have := mod_cong (shift_step (fs := fs) (p := p) (q := q) (x := itF fs (p * q) x k) (t := t * slopeR fs (p * q) x k) hd)
    rw [Int.mul_assoc] at this
    exact this
section
variable {fs : List Int} {p q : Int} {ring : List Int}
theorem RgW.m (h : RgW fs p q ring) : 0 < p * q := Int.mul_pos (by have := h.p1; omega) h.q0
theorem RgW.b0 (h : RgW fs p q ring) : 0 ≤ ring.getD 0 0 ∧ ring.getD 0 0 < q := res_getD h.r.r h.r.l1
theorem RgW.node (h : RgW fs p q ring) {t : Int} (ht : 0 ≤ t ∧ t < p) : NodP p q ring (ring.getD 0 0 + q * t) := by
  have b := h.b0
  have q0 := h.q0
  refine ⟨Int.add_nonneg b.1 (Int.mul_nonneg (by omega) ht.1), ?_, ?_⟩
  · have : q * t ≤ q * (p - 1) := Int.mul_le_mul_of_nonneg_left (by omega) (by omega)
    have e : q * (p - 1) = p * q - q := by rw [Int.mul_sub, Int.mul_one, Int.mul_comm]
    omega
  · rw [Int.add_mul_emod_self_left, Int.emod_eq_of_lt b.1 b.2, List.getD_eq_getElem?_getD, List.getElem?_eq_getElem h.r.l1]
    exact List.getElem_mem _
theorem RgW.c (h : RgW fs p q ring) : itF fs (p * q) (ring.getD 0 0) ring.length = ring.getD 0 0 + q * cF fs p q ring ∧ 0 ≤ cF fs p q ring ∧ cF fs p q ring < p := by
  have q0 := h.q0
  have h1 := row_mod h.r h.q0 h.m (Int.mul_emod_left p q) ring.length (Nat.le_refl _)
  rw [Nat.mod_self] at h1
  have b := h.b0
  have hq : q ≤ p * q := by
    have : 1 * q ≤ p * q := Int.mul_le_mul_of_nonneg_right (by have := h.p1; omega) (by omega)
    omega
  have bi := itF_b (fs := fs) h.m b.1 (show ring.getD 0 0 < p * q by omega) ring.length
  have e := Int.mul_ediv_add_emod (itF fs (p * q) (ring.getD 0 0) ring.length) q
  rw [h1] at e
  have e2 : cF fs p q ring = itF fs (p * q) (ring.getD 0 0) ring.length / q := by
    unfold cF
    have e2 : itF fs (p * q) (ring.getD 0 0) ring.length - ring.getD 0 0 = q * (itF fs (p * q) (ring.getD 0 0) ring.length / q) := by omega
    rw [e2, Int.mul_ediv_cancel_left _ (by omega)]
  rw [e2]
  refine ⟨by omega, Int.ediv_nonneg bi.1 (by omega), Int.ediv_lt_of_lt_mul q0 bi.2⟩
theorem RgW.d2 (h : RgW fs p q ring) : slopeR fs (p * q) (ring.getD 0 0) ring.length % p = slopeP fs p ring := by
  have h2 := slopeP_row h.r h.q0 h.m (Int.mul_emod_left p q) h.p1 h.d ring.length (Nat.le_refl _)
  rw [List.take_length] at h2
  exact h2.symm
/-- once round the ring -/
theorem RgW.once (h : RgW fs p q ring) {t : Int} (ht : 0 ≤ t ∧ t < p) : iter (upF fs (p * q)) ring.length (ring.getD 0 0 + q * t) = ring.getD 0 0 + q * phi p (cF fs p q ring) (slopeP fs p ring) t := by
  have q0 := h.q0
  have hm := h.m
  obtain ⟨n1, n2, _⟩ := h.node ht
  obtain ⟨m1, m2, _⟩ := h.node (phi_b (c := cF fs p q ring) (d := slopeP fs p ring) (by have := h.p1; omega) t)
  obtain ⟨c1, _, _⟩ := h.c
  rw [up_itF hm ⟨n1, n2⟩]
  have hy := shift_rowT (fs := fs) (y := ring.getD 0 0 + q * t) hm h.d rfl ring.length
  have b := itF_b (fs := fs) hm n1 n2 ring.length
  rw [c1] at hy
  have e1 := mod_cong hy
  rw [Int.emod_eq_of_lt b.1 b.2] at e1
  rw [e1, ← Int.emod_eq_of_lt m1 m2]
  refine Int.emod_eq_emod_iff_emod_sub_eq_zero.mpr ?_
  have hs := h.d2
  generalize slopeR fs (p * q) (ring.getD 0 0) ring.length = S at *
  have e3 : (cF fs p q ring + t * S - phi p (cF fs p q ring) (slopeP fs p ring) t) % p = 0 := by
    refine Int.emod_eq_emod_iff_emod_sub_eq_zero.mp ?_
    unfold phi
    rw [Int.emod_emod_of_dvd _ (Int.dvd_refl _), ← hs, Int.add_emod, Int.mul_emod, Int.add_emod (cF fs p q ring), Int.mul_emod (S % p), Int.emod_emod_of_dvd _ (Int.dvd_refl _), Int.mul_comm (t % p)]
  obtain ⟨w, hw⟩ := Int.dvd_of_emod_eq_zero e3
  have e4 : ring.getD 0 0 + q * cF fs p q ring + q * (t * S) - (ring.getD 0 0 + q * phi p (cF fs p q ring) (slopeP fs p ring) t) = p * q * w := by
    rw [show p * q * w = q * (p * w) by rw [Int.mul_comm p q, Int.mul_assoc], ← hw, Int.mul_sub, Int.mul_add]
    omega
  rw [e4, Int.mul_emod_right]
theorem RgW.rounds (h : RgW fs p q ring) {t : Int} (ht : 0 ≤ t ∧ t < p) : ∀ k : Nat, iter (upF fs (p * q)) (k * ring.length) (ring.getD 0 0 + q * t) = ring.getD 0 0 + q * iter (phi p (cF fs p q ring) (slopeP fs p ring)) k t
  | 0 => by rw [Nat.zero_mul]; rfl
  | k + 1 => by
    rw [Nat.succ_mul, Nat.add_comm, iter_add, h.rounds ht k, h.once (iphi_b (by have := h.p1; omega) ht k)]
    rfl
theorem upF_mod {fs : List Int} {m q y : Int} (hd : m % q = 0) : upF fs m y % q = hor q (y % q) fs := by
  unfold upF
  rw [hor_hz, hor_hz, Int.emod_emod_of_dvd _ (Int.dvd_of_emod_eq_zero hd), hz_mod]
theorem NodP.at {y : Int} (h : NodP p q ring y) : ∃ j, j < ring.length ∧ y % q = ring.getD j 0 := by
  obtain ⟨j, hj, e⟩ := List.mem_iff_getElem.mp h.2.2
  exact ⟨j, hj, by rw [List.getD_eq_getElem?_getD, List.getElem?_eq_getElem hj]; exact e.symm⟩
end
section
variable {K : Fr} {Q : RV → Prop} {X : Addr → Prop} {rs : List RV}
theorem first_at {x : Int} : ∀ {ns : List Int}, x ∈ ns → ∃ j : Nat, ns[j]? = some x ∧ ∀ m : Nat, m < j → ns[m]? ≠ some x
  | a :: ns, h => by
    by_cases e : a = x
    · exact ⟨0, by rw [e]; rfl, fun m hm => by omega⟩
    · obtain ⟨j, h1, h2⟩ := first_at ((List.mem_cons.mp h).resolve_left fun z => e z.symm)
      refine ⟨j + 1, h1, fun m hm => ?_⟩
      cases m with
      | zero => exact fun z => e (Option.some.inj z)
      | succ m => exact h2 m (by omega)
end
theorem orb_drop (F : Int → Int) (x : Int) {n j : Nat} (h : j ≤ n) : (orb F x n).drop j = orb F (iter F j x) (n - j) := by
  refine List.ext_getElem? fun l => ?_
  rw [List.getElem?_drop]
  by_cases e : l < n - j
  · rw [orb_get? _ _ e, orb_get? _ _ (by omega), ← iter_add, Nat.add_comm]
  · rw [List.getElem?_eq_none (by rw [orb_len]; omega), List.getElem?_eq_none (by rw [orb_len]; omega)]
theorem bez (a b : Nat) : ∃ x y : Int, ((Nat.gcd a b : Nat) : Int) = a * x + b * y := by
  induction a, b using Nat.gcd.induction with
  | H0 n => exact ⟨0, 1, by rw [Nat.gcd_zero_left]; omega⟩
  | H1 m n hm ih =>
    obtain ⟨x, y, h⟩ := ih
    rw [Nat.gcd_rec, h]
    have e := Nat.div_add_mod n m
    have e2 : ((n % m : Nat) : Int) = n - m * ((n / m : Nat) : Int) := by
      have : ((m * (n / m) + n % m : Nat) : Int) = n := by rw [e]
      rw [Int.natCast_add, Int.natCast_mul] at this
      omega
    refine ⟨y - ((n / m : Nat) : Int) * x, x, ?_⟩
    rw [e2]
    grind
theorem bezI (a : Int) (b : Nat) : ∃ x y : Int, ((Int.gcd a b : Nat) : Int) = a * x + b * y := by
  obtain ⟨x, y, h⟩ := bez a.natAbs b
  rcases Int.natAbs_eq a with e | e
  · exact ⟨x, y, by rw [show Int.gcd a b = Nat.gcd a.natAbs b from rfl, h, ← e]⟩
  · refine ⟨-x, y, ?_⟩
    rw [show Int.gcd a b = Nat.gcd a.natAbs b from rfl, h]
    generalize (a.natAbs : Int) = n at *
    subst e
    grind
section
variable {K : Fr} {Q : RV → Prop} {X : Addr → Prop} {rs : List RV}
theorem facRun_names : ∀ {ps : List (Nat × Nat)} {r : Nat} {l : List (Nat × Nat)}, facRun ps r = some l → (l.map (·.1)).Sublist (ps.map (·.1))
  | [], r, l, h => by
    unfold facRun at h
    split at h
    · cases h; exact .slnil
    · cases h
  | (p, most) :: ps, r, l, h => by
    unfold facRun at h
    split at h
    · cases h
    · obtain ⟨l', hl', rfl⟩ := Option.map_eq_some_iff.mp h
      have ih := facRun_names hl'
      split
      · exact List.Sublist.cons_cons p ih
      · exact List.Sublist.cons p ih
end
theorem fac_len {m : Nat} {l : List (Nat × Nat)} (hf : facM m = some l) : l.length ≤ 12 := by
  have := (facRun_names (facM_run hf).2.2).length_le
  rw [List.length_map, List.length_map] at this
  exact this
section
variable {K : Fr} {Q : RV → Prop} {X : Addr → Prop} {rs : List RV}
theorem l__law_capped (h : sp__law_capped K rs Q X) : d__law_capped K (endD Q X) (startD ["p", "e"] rs) := by
  obtain ⟨p, e, rfl, h⟩ := h
  have key : ∀ c : Nat, (if (c : Int) < (e : Int) then (c : Int) else (e : Int)) = ((min e c : Nat) : Int) := fun c => by
    by_cases hc : (c : Int) < (e : Int)
    · rw [if_pos hc, Nat.min_eq_right (by omega)]
    · rw [if_neg hc, Nat.min_eq_left (by omega)]
  walk_at "ST"
  refine Br.dec (fun hp => ?_) (fun hp => ?_)
  · rw [if_pos (by omega)] at h
    walk_at "ST"
    exact Eq.mpr (congrArg (fun z => Q (RV.dat (PyData.int z))) (key 3)) h
  · rw [if_neg (by omega)] at h
    walk_at "ST"
    exact Eq.mpr (congrArg (fun z => Q (RV.dat (PyData.int z))) (key 2)) h
theorem c_capped {p e : Nat} (k : Q (.dat (.int (min e (if p < 4 then 3 else 2) : Nat)))) : Cal (sp__law_capped K) 2 [.dat (.int p), .dat (.int e)] Q X := ⟨rfl, p, e, rfl, k⟩
end
theorem up_it0 {fs : List Int} {m : Nat} (hm : 0 < m) (k : Nat) : iter (upF fs m) k 0 = itF fs m 0 k := up_itF (by omega) ⟨by omega, by omega⟩ k
theorem goB_iff {fs : List Int} {m : Nat} (hm : 0 < m) : goB fs m = true ↔ Per (upF fs m) 0 m := by
  unfold goB
  rw [Bool.and_eq_true, decide_eq_true_iff, List.all_eq_true, ← up_it0 hm]
  constructor
  · rintro ⟨h1, h2⟩
    refine ⟨hm, h1, fun k k0 k1 e => ?_⟩
    have := of_decide_eq_true (h2 (k - 1) (List.mem_range.mpr (by omega)))
    rw [show k - 1 + 1 = k by omega, ← up_it0 hm] at this
    exact this e
  · intro h
    refine ⟨h.ret, fun k hk => decide_eq_true ?_⟩
    have := List.mem_range.mp hk
    rw [← up_it0 hm]
    exact h.no _ (by omega) (by omega)
theorem goB_no {fs : List Int} {m : Nat} (hm : 0 < m) : goB fs m = false ↔ ¬ Per (upF fs m) 0 m := by
  rw [← goB_iff hm]
  exact Bool.not_eq_true _ ▸ Iff.rfl
theorem iter_down {fs : List Int} {m q : Nat} (hd : q ∣ m) : ∀ k, iter (upF fs m) k 0 % q = iter (upF fs q) k 0
  | 0 => Int.zero_emod _
  | k + 1 => by
    show upF fs m _ % q = upF fs q _
    rw [upF_mod (Int.emod_eq_zero_of_dvd (Int.natCast_dvd_natCast.mpr hd)), iter_down hd k]
    rfl
theorem iter_bd {fs : List Int} {m : Nat} (hm : 0 < m) (k : Nat) : 0 ≤ iter (upF fs m) k 0 ∧ iter (upF fs m) k 0 < m := by
  rw [up_it0 hm]
  exact itF_b (by omega) (by omega) (by omega) k
theorem orb_res {fs : List Int} {m : Nat} (hm : 0 < m) (n : Nat) : Res m (orb (upF fs m) 0 n) := fun x hx => by
  obtain ⟨k, _, rfl⟩ := orb_mem.mp hx
  exact iter_bd hm k
theorem ring_full {fs : List Int} {q : Nat} (hq : q ≤ 400) (h : Per (upF fs q) 0 q) : RingC fs q (orb (upF fs q) 0 q) := by
  have h0 := h.n0
  refine ⟨by rw [orb_len]; exact h0, by rw [orb_len]; exact hq, orb_res h0 q, orb_nodup h, fun i hi => ?_⟩
  rw [orb_len] at hi ⊢
  rw [orb_get _ _ hi, orb_get _ _ (Nat.mod_lt _ h0), ← iter_mod h.ret]
  rfl
theorem rgw_full {fs : List Int} {p q : Nat} (hp : 1 < p) (hd : p ∣ q) (hq : q ≤ 400) (h : Per (upF fs q) 0 q) : RgW fs p q (orb (upF fs q) 0 q) :=
  ⟨ring_full hq h, by omega, by have := h.n0; omega, Int.emod_eq_zero_of_dvd (Int.natCast_dvd_natCast.mpr hd)⟩
theorem nodup_dvd {fs : List Int} {q : Nat} (h : Per (upF fs q) 0 q) {j : Nat} (e : iter (upF fs q) j 0 = 0) : q ∣ j := by
  rw [iter_mod h.ret] at e
  by_cases z : j % q = 0
  · exact Nat.dvd_of_mod_eq_zero z
  · exact absurd e (h.no _ (by omega) (Nat.mod_lt _ h.n0))
theorem cop_p {p : Nat} (hp : p ∈ P12) {a : Int} (h : ¬ (p : Int) ∣ a) : Int.gcd a p = 1 := by
  have h2 : ¬ p ∣ a.natAbs := fun z => h (nat_int.mpr z)
  have := (prm12 p hp).cop h2
  show Nat.gcd a.natAbs (p : Int).natAbs = 1
  rw [Int.natAbs_natCast, Nat.gcd_comm]
  exact this
theorem small_nd {p : Nat} {a : Int} (h : a ≠ 0) (h1 : -(p : Int) < a) (h2 : a < p) : ¬ (p : Int) ∣ a := fun z => by
  have h3 := Nat.le_of_dvd (by omega) (nat_int.mp z)
  omega
theorem phi_fixx {p : Nat} {c d x : Int} (hx : ((1 - d) * x - 1) % (p : Int) = 0) : phi p c d ((c * x) % p) = (c * x) % p := by
  unfold phi
  have h1 : (c + d * (c * x % p)) % (p : Int) = (c + d * (c * x)) % p := by
    rw [Int.add_emod, Int.mul_emod, Int.emod_emod, ← Int.mul_emod, ← Int.add_emod]
  rw [h1]
  refine mod_cong ?_
  have h2 : c + d * (c * x) - c * x = -(c * ((1 - d) * x - 1)) := by grind
  obtain ⟨k, hk⟩ := Int.dvd_of_emod_eq_zero hx
  rw [h2, hk, ← Int.mul_assoc, Int.mul_comm c, Int.mul_assoc, ← Int.mul_neg]
  exact Int.mul_emod_right _ _
theorem inv_ex {p : Nat} (hp : p ∈ P12) {d : Int} (hd : 0 ≤ d ∧ d < p) (h1 : d ≠ 1) : ∃ x : Int, ((1 - d) * x - 1) % (p : Int) = 0 := by
  have hg := cop_p hp (small_nd (p := p) (a := 1 - d) (by omega) (by omega) (by have := (prm12 p hp).1; omega))
  obtain ⟨x, y, e⟩ := bezI (1 - d) p
  rw [hg] at e
  refine ⟨x, ?_⟩
  have e2 : (1 - d) * x - 1 = -((p : Int) * y) := by
    have e : (1 : Int) = (1 - d) * x + p * y := e
    omega
  rw [e2, ← Int.mul_neg]
  exact Int.mul_emod_right _ _
theorem phi_fix {p : Nat} (hp : p ∈ P12) {c d : Int} (hd : 0 ≤ d ∧ d < p) (h1 : d ≠ 1) : ∃ t : Int, 0 ≤ t ∧ t < p ∧ phi p c d t = t := by
  obtain ⟨x, hx⟩ := inv_ex hp hd h1
  have hp2 := (prm12 p hp).1
  exact ⟨(c * x) % p, Int.emod_nonneg _ (by omega), Int.emod_lt_of_pos _ (by omega), phi_fixx hx⟩
theorem phi_one {p : Nat} {c : Int} (hp : 0 < p) : ∀ k : Nat, iter (phi p c 1) k 0 = (k * c) % (p : Int)
  | 0 => by
    show (0 : Int) = _
    rw [Int.natCast_zero, Int.zero_mul, Int.zero_emod]
  | k + 1 => by
    show (c + 1 * iter (phi p c 1) k 0) % (p : Int) = _
    rw [phi_one hp k, Int.one_mul, Int.add_emod, Int.emod_emod, ← Int.add_emod]
    refine mod_cong ?_
    have e : c + k * c - ((k + 1 : Nat) : Int) * c = 0 := by
      rw [Int.natCast_add, Int.add_mul]
      show c + k * c - (k * c + ((1 : Nat) : Int) * c) = 0
      omega
    rw [e]
    exact Int.zero_emod _
theorem phi_full {p : Nat} (hp : p ∈ P12) {c d : Int} (hc : 0 ≤ c ∧ c < p) (hd : 0 ≤ d ∧ d < p) : Per (phi p c d) 0 p ↔ d = 1 ∧ c ≠ 0 := by
  have hp2 := (prm12 p hp).1
  constructor
  · intro h
    have hd1 : d = 1 := by
      by_cases g : d = 1
      · exact g
      exfalso
      obtain ⟨t, t0, t1, ht⟩ := phi_fix hp hd g (c := c)
      by_cases m : t ∈ orb (phi p c d) 0 p
      · obtain ⟨k, hk, rfl⟩ := orb_mem.mp m
        have e : iter (phi p c d) (k + 1) 0 = iter (phi p c d) k 0 := ht
        rw [iter_mod h.ret] at e
        have := h.inj (Nat.mod_lt _ h.n0) hk e
        by_cases q : k + 1 = p
        · rw [q, Nat.mod_self] at this
          omega
        · rw [Nat.mod_eq_of_lt (by omega)] at this
          omega
      · have hn : (t :: orb (phi p c d) 0 p).Nodup := List.nodup_cons.mpr ⟨m, orb_nodup h⟩
        have := pigeonI (m := p) hn (fun x hx => by
          rcases List.mem_cons.mp hx with rfl | hx
          · exact ⟨t0, t1⟩
          · obtain ⟨k, _, rfl⟩ := orb_mem.mp hx
            exact iphi_b (by omega) ⟨by omega, by omega⟩ k)
        rw [List.length_cons, orb_len] at this
        omega
    refine ⟨hd1, fun z => ?_⟩
    subst z hd1
    refine h.no 1 (by omega) (by omega) ?_
    rw [phi_one (by omega), Int.mul_zero, Int.zero_emod]
  · rintro ⟨rfl, h⟩
    refine ⟨by omega, by rw [phi_one (by omega)]; exact Int.mul_emod_right _ _, fun k k0 k1 e => ?_⟩
    rw [phi_one (by omega)] at e
    have e2 : p ∣ k * c.natAbs := by
      have := nat_int.mp (Int.dvd_of_emod_eq_zero e)
      rwa [Int.natAbs_mul, Int.natAbs_natCast] at this
    rcases (prm12 p hp).2 _ _ e2 with z | z
    · have := Nat.le_of_dvd k0 z
      omega
    · have := Nat.le_of_dvd (by omega) z
      omega
theorem full_iff {fs : List Int} {p q : Nat} (hp : p ∈ P12) (hd : p ∣ q) (hq : q ≤ 400) (h : Per (upF fs q) 0 q) :
    Per (upF fs ((p * q : Nat) : Int)) 0 (p * q) ↔ slopeP fs p (orb (upF fs q) 0 q) = 1 ∧ cF fs p q (orb (upF fs q) 0 q) ≠ 0 := by
  have hp2 := (prm12 p hp).1
  have q0 := h.n0
  have w := rgw_full (by omega) hd hq h
  have r0 : (orb (upF fs q) 0 q).getD 0 0 = 0 := orb_get _ _ q0
  have rounds := w.rounds (t := 0) ⟨by omega, by omega⟩
  rw [orb_len, r0, Int.mul_zero, Int.add_zero] at rounds
  have rounds : ∀ k : Nat, iter (upF fs ((p * q : Nat) : Int)) (k * q) 0 = q * iter (phi p (cF fs p q (orb (upF fs q) 0 q)) (slopeP fs p (orb (upF fs q) 0 q))) k 0 := fun k => by
    rw [Int.natCast_mul, rounds k, Int.zero_add]
  obtain ⟨_, c0, c1⟩ := w.c
  rw [← phi_full hp ⟨c0, c1⟩ (slopeP_b fs (by omega) _)]
  constructor
  · intro H
    refine ⟨by omega, ?_, fun k k0 k1 e => ?_⟩
    · have := rounds p
      rw [H.ret] at this
      exact (Int.mul_eq_zero.mp this.symm).resolve_left (by omega)
    · have := rounds k
      rw [e, Int.mul_zero] at this
      exact H.no (k * q) (Nat.mul_pos k0 q0) (Nat.mul_lt_mul_of_pos_right k1 q0) this
  · intro H
    refine ⟨Nat.mul_pos (by omega) q0, by rw [rounds, H.ret, Int.mul_zero], fun k k0 k1 e => ?_⟩
    have e2 : iter (upF fs q) k 0 = 0 := by
      rw [← iter_down (m := p * q) (Nat.dvd_mul_left q p) k, e, Int.zero_emod]
    obtain ⟨j, rfl⟩ := nodup_dvd h e2
    rw [show q * j = j * q from Nat.mul_comm _ _, rounds] at e
    have e3 := (Int.mul_eq_zero.mp e).resolve_left (by omega)
    have j0 : 0 < j := by
      rcases Nat.eq_zero_or_pos j with z | z
      · subst z; omega
      · exact z
    have j1 : j < p := by
      have : q * j < q * p := by rw [Nat.mul_comm q p]; exact k1
      exact Nat.lt_of_mul_lt_mul_left this
    exact H.no j j0 j1 e3
theorem full_c {fs : List Int} {p q : Nat} (hp : p ∈ P12) (hd : p ∣ q) (hq : q ≤ 400) (h : Per (upF fs q) 0 q) : iter (upF fs ((p * q : Nat) : Int)) q 0 = q * cF fs p q (orb (upF fs q) 0 q) := by
  have hp2 := (prm12 p hp).1
  have w := rgw_full (by omega) hd hq h
  have r0 : (orb (upF fs q) 0 q).getD 0 0 = 0 := orb_get _ _ h.n0
  have := w.c.1
  rw [r0, orb_len, Int.zero_add] at this
  rw [up_it0 (Nat.mul_pos (by omega) h.n0), Int.natCast_mul]
  exact this
theorem dzP_per {fs : List Int} {p : Nat} (hp : 1 < p) : ∀ l l' : List Int, l.map (· % (p : Int)) = l'.map (· % (p : Int)) → dzP fs l % p = dzP fs l' % p
  | [], [], _ => rfl
  | [], _ :: _, h => by cases h
  | _ :: _, [], h => by cases h
  | x :: l, y :: l', h => by
    obtain ⟨h1, h2⟩ := List.cons.inj h
    have ih := dzP_per (fs := fs) hp l l' h2
    show (dz fs x * dzP fs l) % p = (dz fs y * dzP fs l') % p
    rw [Int.mul_emod, dz_cong h1, ih, ← Int.mul_emod]
theorem slopeP_per {fs : List Int} {p : Nat} (hp : 1 < p) {l l' : List Int} (h : l.map (· % (p : Int)) = l'.map (· % (p : Int))) : slopeP fs p l = slopeP fs p l' := by
  rw [slopeP_dzP fs (by omega), slopeP_dzP fs (by omega), dzP_per hp l l' h]
theorem orb_mod {fs : List Int} {m q : Nat} (hd : q ∣ m) (n : Nat) : (orb (upF fs m) 0 n).map (· % (q : Int)) = orb (upF fs q) 0 n := by
  unfold orb
  rw [List.map_map]
  refine List.map_congr_left fun k _ => iter_down hd k
theorem orb_modq {fs : List Int} {q : Nat} (hq : 0 < q) (n : Nat) : (orb (upF fs q) 0 n).map (· % (q : Int)) = orb (upF fs q) 0 n := orb_mod (Nat.dvd_refl q) n
theorem slopeP_orb {fs : List Int} {p m : Nat} (hp : 1 < p) (hd : p ∣ m) (n : Nat) : slopeP fs p (orb (upF fs m) 0 n) = slopeP fs p (orb (upF fs p) 0 n) :=
  slopeP_per hp (by rw [orb_mod hd, orb_modq (by omega)])
theorem orb_add (F : Int → Int) (x : Int) (a b : Nat) : orb F x (a + b) = orb F x a ++ orb F (iter F a x) b := by
  have h := orb_drop F x (n := a + b) (j := a) (by omega)
  rw [Nat.add_sub_cancel_left] at h
  have h2 : (orb F x (a + b)).take a = orb F x a := by
    unfold orb
    rw [← List.map_take, List.take_range, Nat.min_eq_left (by omega)]
  rw [← List.take_append_drop a (orb F x (a + b)), h2, h]
theorem dzP_rounds {fs : List Int} {p : Nat} (hp : 1 < p) (h : Per (upF fs p) 0 p) : ∀ k : Nat, dzP fs (orb (upF fs p) 0 (k * p)) = dzP fs (orb (upF fs p) 0 p) ^ k
  | 0 => by
    rw [Nat.zero_mul, Int.pow_zero]
    rfl
  | k + 1 => by
    rw [Nat.succ_mul, orb_add, iter_ret h.ret, dzP_app, dzP_rounds hp h k, Int.pow_succ]
/-- from the square on the product of the slopes is 1 -/
theorem slope_sq {fs : List Int} {p : Nat} (hp : 1 < p) (h : Per (upF fs p) 0 p) (h1 : slopeP fs p (orb (upF fs p) 0 p) = 1) (k : Nat) : slopeP fs p (orb (upF fs p) 0 (k * p)) = 1 := by
  rw [slopeP_dzP fs (by omega)] at h1 ⊢
  rw [dzP_rounds hp h]
  induction k with
  | zero =>
    rw [Int.pow_zero]
    exact Int.emod_eq_of_lt (a := 1) (by omega) (by omega)
  | succ k ih => rw [Int.pow_succ, Int.mul_emod, ih, h1]; exact Int.emod_eq_of_lt (a := 1 * 1) (by omega) (by omega)
end RB

set_option Elab.async false
set_option linter.all false
set_option maxRecDepth 100000
set_option maxHeartbeats 8000000
set_option exponentiation.threshold 100000
/-! LAD: taken over from other claims by lib.py -/
namespace RB
open PySem PySem.Spec PyProof.Rows L2
local macro_rules | `(tactic| walk_at "ST") => `(tactic| ((conv => whnf); repeat (first | (refine Br.t ?_; conv => whnf) | (refine Br.f ?_; conv => whnf))))
local macro_rules | `(tactic| walk_at "SZ") => `(tactic| first | decide | omega | (simp only [List.length_append, List.length_map, List.length_cons, List.length_nil]; done) | (simp only [List.length_append, List.length_map, List.length_cons, List.length_nil]; omega))
local macro_rules | `(tactic| walk_at "G1") => `(tactic| first | refine And.intro (szLine (by walk_at "SZ")) ?_ | refine And.intro (mulR (by decide) (by decide)) ?_ | refine And.intro (mulL (by decide) (by decide)) ?_ | refine And.intro (divOk (by decide) (by decide)) ?_ | refine And.intro (show PowOk _ _ from ⟨by decide, by decide⟩) ?_ | refine And.intro (by decide) ?_ | refine And.intro rfl ?_ | refine Exists.intro _ (And.intro rfl ?_))
local macro_rules | `(tactic| walk_at "DP") => `(tactic| repeat (first | assumption | exact Dep.non | exact Dep.bl _ | exact Dep.int _ | exact Dep.str _ | exact dL_nil | refine dL_cons ?_ ?_ | refine Dep.lst (by walk_at "SZ") ?_ | refine Dep.tup (by walk_at "SZ") ?_))
local macro_rules | `(tactic| walk_at "GO") => `(tactic| ((walk_at "ST"); repeat ((walk_at "G1"); (walk_at "ST"))))
theorem sq_iff {fs : List Int} {p : Nat} (hp : p ∈ P12) (h : Per (upF fs p) 0 p) : goB fs (p ^ 2) = true ↔ slopeP fs p (orb (upF fs p) 0 p) = 1 ∧ iter (upF fs (p ^ 2 : Nat)) p 0 ≠ 0 := by
  have hp2 := (prm12 p hp).1
  have hp37 : ∀ p ∈ P12, p ≤ 400 := by decide
  have e : p ^ 2 = p * p := by rw [Nat.pow_succ, Nat.pow_one]
  rw [e, goB_iff (Nat.mul_pos (by omega) (by omega)), full_iff hp (Nat.dvd_refl p) (hp37 p hp) h, full_c hp (Nat.dvd_refl p) (hp37 p hp) h]
  refine and_congr_right fun _ => not_congr ⟨fun z => by rw [z, Int.mul_zero], fun z => (Int.mul_eq_zero.mp z).resolve_left (by omega)⟩
theorem cube_iff {fs : List Int} {p : Nat} (hp : p ∈ P12) (hq : p ^ 2 ≤ 400) (h : Per (upF fs p) 0 p) (h2 : goB fs (p ^ 2) = true) : goB fs (p ^ 3) = true ↔ iter (upF fs (p ^ 3 : Nat)) (p ^ 2) 0 ≠ 0 := by
  have hp2 := (prm12 p hp).1
  have e2 : p ^ 2 = p * p := by rw [Nat.pow_succ, Nat.pow_one]
  have e : p ^ 3 = p * p ^ 2 := by rw [Nat.pow_succ, Nat.mul_comm]
  have s1 := ((sq_iff hp h).mp h2).1
  have hP := (goB_iff (Nat.pow_pos (by omega))).mp h2
  have d2 : p ∣ p ^ 2 := by rw [e2]; exact Nat.dvd_mul_left _ _
  have s2 : slopeP fs p (orb (upF fs (p ^ 2 : Nat)) 0 (p ^ 2)) = 1 := by
    rw [slopeP_orb (by omega) d2]
    conv => lhs; rw [e2]
    exact slope_sq (by omega) h s1 p
  rw [e, goB_iff (Nat.mul_pos (by omega) (Nat.pow_pos (by omega))), full_iff hp d2 hq hP, full_c hp d2 hq hP]
  have : ((p ^ 2 : Nat) : Int) ≠ 0 := by
    have := Nat.pow_pos (n := 2) (show 0 < p by omega)
    omega
  exact ⟨fun z y => z.2 ((Int.mul_eq_zero.mp y).resolve_left this), fun z => ⟨s2, fun y => z (by rw [y, Int.mul_zero])⟩⟩
def Sg (a : Int) : Nat → Int
  | 0 => 0
  | k + 1 => a * Sg a k + 1
theorem lin_up (c a m z : Int) : upF [c, a] m z = (a * z + c) % m := by
  show (((0 * z + a) % m) * z + c) % m = _
  rw [Int.zero_mul, Int.zero_add, Int.add_emod, Int.mul_emod, Int.emod_emod, ← Int.mul_emod, ← Int.add_emod]
theorem lin_iter (c a m : Int) : ∀ k, iter (upF [c, a] m) k 0 % m = (c * Sg a k) % m
  | 0 => by
    show (0 : Int) % m = (c * 0) % m
    rw [Int.mul_zero]
  | k + 1 => by
    show upF [c, a] m _ % m = _
    rw [lin_up, Int.emod_emod, Int.add_emod, Int.mul_emod, lin_iter c a m k, ← Int.mul_emod, ← Int.add_emod]
    refine congrArg (· % m) ?_
    show a * (c * Sg a k) + c = c * (a * Sg a k + 1)
    grind
theorem Sg_mod (a m : Int) : ∀ k, Sg a k % m = Sg (a % m) k % m
  | 0 => rfl
  | k + 1 => by
    show (a * Sg a k + 1) % m = (a % m * Sg (a % m) k + 1) % m
    have h1 : (a * Sg a k) % m = (a % m * Sg (a % m) k) % m := by rw [Int.mul_emod, Sg_mod a m k, Int.mul_emod (a % m) (Sg (a % m) k), Int.emod_emod]
    rw [Int.add_emod, h1, ← Int.add_emod]
theorem Sg_one : ∀ k : Nat, Sg 1 k = k
  | 0 => rfl
  | k + 1 => by
    show 1 * Sg 1 k + 1 = _
    rw [Sg_one k]
    omega
theorem Sg_two (p b : Int) : ∀ k : Nat, ∃ r, 2 * Sg (1 + p * b) k = 2 * k + p * b * k * (k - 1) + p * p * r
  | 0 => ⟨0, by
    show (2 : Int) * 0 = _
    rw [Int.natCast_zero]
    grind⟩
  | k + 1 => by
    obtain ⟨r, hr⟩ := Sg_two p b k
    refine ⟨r + b * (b * k * (k - 1)) + p * b * r, ?_⟩
    show 2 * ((1 + p * b) * Sg (1 + p * b) k + 1) = _
    have e : 2 * ((1 + p * b) * Sg (1 + p * b) k + 1) = (1 + p * b) * (2 * Sg (1 + p * b) k) + 2 := by grind
    rw [e, hr, Int.natCast_add]
    grind
structure LinU (p k : Nat) (c a : Int) : Prop where
  m : p ∈ P12
  u : ¬ (p : Int) ∣ c
  a1 : a % p = 1
  a4 : p = 2 → 2 ≤ k → a % 4 = 1
theorem lin_one {p k : Nat} {c a : Int} (h : LinU p k c a) : Per (upF [c, a] p) 0 p := by
  have hp2 := (prm12 p h.m).1
  have e : ∀ k : Nat, iter (upF [c, a] p) k 0 = (k * c) % (p : Int) := fun k => by
    have := lin_iter c a p k
    rw [Int.emod_eq_of_lt (iter_bd (by omega) k).1 (iter_bd (by omega) k).2] at this
    rw [this, Int.mul_emod, Sg_mod, h.a1, Sg_one, ← Int.mul_emod, Int.mul_comm]
  refine ⟨by omega, by rw [e]; exact Int.mul_emod_right _ _, fun k k0 k1 z => ?_⟩
  rw [e] at z
  have e2 : p ∣ k * c.natAbs := by
    have := nat_int.mp (Int.dvd_of_emod_eq_zero z)
    rwa [Int.natAbs_mul, Int.natAbs_natCast] at this
  rcases (prm12 p h.m).2 _ _ e2 with z | z
  · have := Nat.le_of_dvd k0 z
    omega
  · exact h.u (nat_int.mpr z)
theorem lin_slope {p k : Nat} {c a : Int} (h : LinU p k c a) : ∀ l : List Int, slopeP [c, a] p l = 1 := by
  have hp2 := (prm12 p h.m).1
  have key : ∀ l : List Int, l.foldl (fun r x => r * (dz [c, a] x % (p : Int)) % p) 1 = 1 := fun l => by
    induction l with
    | nil => rfl
    | cons x l ih =>
      rw [List.foldl_cons]
      have : dz [c, a] x = a := by
        show (0 * x + 0) * x + (0 * x + a) = a
        rw [Int.zero_mul, Int.zero_add, Int.zero_mul, Int.zero_add, Int.zero_add]
      rw [this, h.a1, Int.mul_one, Int.emod_eq_of_lt (by omega) (by omega)]
      exact ih
  exact key
theorem lin_sq {p k : Nat} {c a : Int} (h : LinU p k c a) (hk : 2 ≤ k) : goB [c, a] (p ^ 2) = true := by
  have hp2 := (prm12 p h.m).1
  refine (sq_iff h.m (lin_one h)).mpr ⟨lin_slope h _, fun z => ?_⟩
  have e2 : ((p ^ 2 : Nat) : Int) = p * p := by rw [Nat.pow_succ, Nat.pow_one, Int.natCast_mul]
  have hz := lin_iter c a (p ^ 2 : Nat) p
  rw [z, Int.zero_emod] at hz
  have hz := Int.dvd_of_emod_eq_zero hz.symm
  rw [e2] at hz
  have pd : (p : Int) ∣ c := by
    by_cases g : p = 2
    · subst g
      have ha := h.a4 rfl hk
      have hS : Sg a 2 = a + 1 := by
        show a * (a * 0 + 1) + 1 = _
        rw [Int.mul_zero, Int.zero_add, Int.mul_one]
      obtain ⟨b, hb⟩ : ∃ b, a = 1 + 4 * b := ⟨a / 4, by omega⟩
      rw [hS, hb] at hz
      obtain ⟨r, hr⟩ := hz
      refine ⟨r - c * b, ?_⟩
      have hr : c * (1 + 4 * b + 1) = 2 * 2 * r := hr
      have hr2 : 2 * c + 4 * (c * b) = 4 * r := by grind
      show c = 2 * (r - c * b)
      omega
    · obtain ⟨b, hb⟩ : ∃ b, a = 1 + p * b := ⟨a / p, by have := Int.emod_add_mul_ediv a p; rw [h.a1] at this; omega⟩
      obtain ⟨r, hr⟩ := Sg_two p b p
      rw [← hb] at hr
      obtain ⟨s, hs⟩ := hz
      have e3 : (p : Int) * (2 * c) = p * (p * (2 * s - c * b * (p - 1) - c * r)) := by grind
      have e4 := Int.eq_of_mul_eq_mul_left (show (p : Int) ≠ 0 by omega) e3
      have e5 : p ∣ 2 * c.natAbs := by
        have : (p : Int) ∣ 2 * c := ⟨_, e4⟩
        have := nat_int.mp this
        rwa [Int.natAbs_mul] at this
      rcases (prm12 p h.m).2 _ _ e5 with y | y
      · have := Nat.le_of_dvd (by omega) y
        omega
      · exact nat_int.mpr y
  exact h.u pd
theorem Sg27 : ∀ r : Fin 27, r.val % 3 = 1 → Sg (r.val : Nat) 9 % 27 = 9 := by decide
theorem Sg8 : ∀ r : Fin 8, r.val % 4 = 1 → Sg (r.val : Nat) 4 % 8 = 4 := by decide
theorem lin_cube {p k : Nat} {c a : Int} (h : LinU p k c a) (hk : 3 ≤ k) (hp : p < 4) : goB [c, a] (p ^ 3) = true := by
  have hp2 := (prm12 p h.m).1
  have hp3 : p = 2 ∨ p = 3 := by omega
  have h1 := lin_one h
  have h2 := lin_sq h (by omega)
  rcases hp3 with rfl | rfl
  · refine (cube_iff h.m (by decide) h1 h2).mpr fun z => h.u ?_
    have hz := lin_iter c a (2 ^ 3 : Nat) (2 ^ 2)
    rw [z, Int.zero_emod] at hz
    have ha := h.a4 rfl (by omega)
    have hS := Sg_mod a 8 4
    have := Sg8 ⟨(a % 8).toNat, by omega⟩ (by show (a % 8).toNat % 4 = 1; omega)
    rw [show (((a % 8).toNat : Nat) : Int) = a % 8 by omega] at this
    rw [this] at hS
    have hz : 0 = (c * Sg a 4) % 8 := hz
    rw [Int.mul_emod, hS] at hz
    show (2 : Int) ∣ c
    omega
  · refine (cube_iff h.m (by decide) h1 h2).mpr fun z => h.u ?_
    have hz := lin_iter c a (3 ^ 3 : Nat) (3 ^ 2)
    rw [z, Int.zero_emod] at hz
    have ha : a % 3 = 1 := h.a1
    have hS := Sg_mod a 27 9
    have := Sg27 ⟨(a % 27).toNat, by omega⟩ (by show (a % 27).toNat % 3 = 1; omega)
    rw [show (((a % 27).toNat : Nat) : Int) = a % 27 by omega] at this
    rw [this] at hS
    have hz : 0 = (c * Sg a 9) % 27 := hz
    rw [Int.mul_emod, hS] at hz
    show (3 : Int) ∣ c
    omega
theorem lin_brk {p k : Nat} {c a : Int} (h : LinU p k c a) (hk : k ≤ if p < 4 then 3 else 2) (k0 : 0 < k) : brk [c, a] p k = 0 := by
  have hp2 := (prm12 p h.m).1
  unfold brk
  rw [if_neg (by rw [(goB_iff (by omega)).mpr (lin_one h)]; decide)]
  by_cases k1 : k = 1
  · rw [if_pos k1]
  rw [if_neg k1, if_neg (by rw [lin_sq h (by omega)]; decide)]
  by_cases k2 : k = 2
  · rw [if_pos k2]
  rw [if_neg k2, if_neg]
  have hp : p < 4 := by
    by_cases g : p < 4
    · exact g
    · rw [if_neg g] at hk; omega
  rw [lin_cube h (by omega) hp]
  decide
theorem Rho.one {F : Int → Int} {x : Int} {a n b m : Nat} (h : Rho F x a n) (k : Rho F x b m) : a = b ∧ n = m := by
  have key : ∀ {a n b m : Nat}, Rho F x a n → Rho F x b m → a + n ≤ b + m := fun {a n b m} h k => by
    rcases Nat.lt_or_ge (b + m) (a + n) with z | z
    · have := k.n0
      exact absurd k.r.symm (h.d b (b + m) (by omega) z)
    · exact z
  have e : a + n = b + m := Nat.le_antisymm (key h k) (key k h)
  have ea : a = b := by
    have h1 := h.r
    have k1 := k.r
    have := h.n0
    have := k.n0
    rw [e] at h1
    rw [h1] at k1
    rcases Nat.lt_trichotomy a b with z | z | z
    · exact absurd k1 (h.d a b z (by omega))
    · exact z
    · exact absurd k1.symm (h.d b a z (by omega))
  exact ⟨ea, by omega⟩
section
variable {K : Fr} {Q : RV → Prop} {X : Addr → Prop} {rs : List RV}
theorem l_path_from (h : sp_path_from K rs Q X) : d_path_from K (endD Q X) (startD ["entries", "m", "start", "many", "path"] rs) := by
  obtain ⟨fs, q, x, n, rfl, hq, hx, hn, h⟩ := h
  walk_at "GO"
  refine ⟨fun m δ => ∃ k, δ = [.dat (.list (iL (fs.map (· % (q : Int))))), .dat (.int q), .dat (.int x), .dat (.int n), .own (iL (orb (upF fs q) x k))] ∧ m = n - k ∧ 0 < k ∧ k ≤ n, ⟨_, 1, rfl, rfl, by omega, by omega⟩, ?_⟩
  rintro m δ ⟨k, rfl, rfl, k0, k1⟩
  walk_at "ST"
  rw [iL_len, orb_len]
  refine Br.dec (fun z => ?_) (fun z => ?_)
  · have z : (k : Int) < n := z
    have at1 : L2.atI (iL (orb (upF fs q) x k)) (-1) = some (.int (iter (upF fs q) (k - 1) x)) := by
      unfold L2.atI L2.ixN
      rw [iL_len, orb_len, if_neg (by decide), if_pos (by omega), Option.bind_some]
      rw [show ((-1 : Int) + (k : Nat)).toNat = k - 1 by omega]
      show (List.map _ _)[k - 1]? = _
      rw [List.getElem?_map, orb_get? _ _ (by omega)]
      rfl
    walk_at "GO"
    refine ⟨_, at1, ?_⟩
    walk_at "ST"
    refine c_step_by ⟨by omega, by omega⟩ ?_
    walk_at "ST"
    refine ⟨szLine (by rw [iL_len, orb_len]; omega), ?_⟩
    walk_at "ST"
    have e : iL (orb (upF fs q) x k) ++ [PyData.int (hor q (iter (upF fs q) (k - 1) x) (fs.map (· % (q : Int))))] = iL (orb (upF fs q) x (k + 1)) := by
      rw [hor_map, orb_succ]
      have : hor q (iter (upF fs q) (k - 1) x) fs = iter (upF fs q) k x := by
        obtain ⟨j, rfl⟩ : ∃ j, k = j + 1 := ⟨k - 1, by omega⟩
        rfl
      rw [this]
      exact iL_append _ [_]
    rw [e]
    exact ⟨_, (by omega : n - (k + 1) < n - k), k + 1, rfl, rfl, by omega, by omega⟩
  · have z : ¬ (k : Int) < n := z
    have : k = n := by omega
    subst this
    walk_at "ST"
    exact h
theorem c_path_from {fs : List Int} {q : Nat} {x : Int} {n : Nat} (hq : 0 < q ∧ q ≤ 400) (hx : 0 ≤ x ∧ x < (q : Int)) (hn : 0 < n ∧ n ≤ 1000) (k : Q (.own (iL (orb (upF fs q) x n)))) : Cal (sp_path_from K) 4 [.dat (.list (iL (fs.map (· % (q : Int))))), .dat (.int q), .dat (.int x), .dat (.int n)] Q X := ⟨rfl, fs, q, x, n, rfl, hq, hx, hn, k⟩
theorem l_power_of (h : sp_power_of K rs Q X) : d_power_of K (endD Q X) (startD ["p", "k", "q", "spare"] rs) := by
  obtain ⟨p, k, rfl, hk, hp, h⟩ := h
  walk_at "GO"
  refine ⟨⟨⟨by omega, by omega⟩, ⟨by omega, by omega⟩⟩, ?_⟩
  walk_at "ST"
  refine ⟨fun i δ => ∃ (a : Sl) (j : Nat), δ = [.dat (.int p), .dat (.int k), .dat (.int (p ^ (j + 1) : Nat)), a] ∧ j = i, ⟨_, 0, by rw [Nat.pow_one]; rfl, rfl⟩, ?_, ?_⟩
  · rintro _ d δ hd ⟨a, i, rfl, rfl⟩
    obtain ⟨hi, rfl⟩ := rngD_get hd
    have hi : i + 1 < k := by omega
    have b2 : p ^ (i + 1) ≤ 100 ^ 2 := Nat.le_trans (Nat.pow_le_pow_left hp _) (Nat.pow_le_pow_right (by decide) (by omega))
    walk_at "ST"
    refine ⟨mulL (by omega) (by omega), ?_⟩
    walk_at "ST"
    exact ⟨_, i + 1, by rw [← Int.natCast_mul, ← Nat.pow_succ]; rfl, rfl⟩
  · rintro δ ⟨a, j, rfl, hj⟩
    rw [rngD_length] at hj
    have : j + 1 = k := by omega
    rw [this]
    walk_at "ST"
    exact h
theorem c_power_of {p k : Nat} (hk : 0 < k ∧ k ≤ 3) (hp : p ≤ 100) (q : Q (.dat (.int (p ^ k : Nat)))) : Cal (sp_power_of K) 2 [.dat (.int p), .dat (.int k)] Q X := ⟨rfl, p, k, rfl, hk, hp, q⟩
theorem l_small_power (h : sp_small_power K rs Q X) : d_small_power K (endD Q X) (startD ["p", "e", "cap"] rs) := by
  obtain ⟨p, e, rfl, he, hp, h⟩ := h
  have mn : ∀ c : Nat, (if ((c : Nat) : Int) < ((e : Nat) : Int) then ((c : Nat) : Int) else ((e : Nat) : Int)) = ((min e c : Nat) : Int) := fun c => by
    split <;> omega
  walk_at "ST"
  refine Br.dec (fun z => ?_) (fun z => ?_)
  · have z : (p : Int) ≤ 3 := z
    have hc : capK p e = min e 3 := by unfold capK; rw [if_pos (by omega)]
    walk_at "GO"
    dsimp only
    rw [show (if (3 : Int) < ((e : Nat) : Int) then (3 : Int) else ((e : Nat) : Int)) = ((min e 3 : Nat) : Int) from mn 3]
    refine c_power_of ⟨by omega, by omega⟩ hp ?_
    rw [← hc]
    exact h
  · have z : ¬ (p : Int) ≤ 3 := z
    have hc : capK p e = min e 2 := by unfold capK; rw [if_neg (by omega)]
    walk_at "GO"
    dsimp only
    rw [show (if (2 : Int) < ((e : Nat) : Int) then (2 : Int) else ((e : Nat) : Int)) = ((min e 2 : Nat) : Int) from mn 2]
    refine c_power_of ⟨by omega, by omega⟩ hp ?_
    rw [← hc]
    exact h
theorem c_small_power {p e : Nat} (he : 0 < e) (hp : p ≤ 100) (q : Q (.dat (.int (p ^ capK p e : Nat)))) : Cal (sp_small_power K) 2 [.dat (.int p), .dat (.int e)] Q X := ⟨rfl, p, e, rfl, he, hp, q⟩
end
theorem pk_b {p k : Nat} (h : PK p k) : 2 ≤ p ∧ p ≤ 37 := p12_b p h.m
theorem pk_len {p k : Nat} (h : PK p k) : p ≤ lenE p k ∧ lenE p k ≤ 400 ∧ 0 < p ^ k := by
  have := pk_b h
  have h1 : p ^ k / p ≤ p ^ k := Nat.div_le_self _ _
  have := h.b
  refine ⟨Nat.le_max_left _ _, ?_, Nat.pow_pos (by omega)⟩
  unfold lenE
  omega
theorem pk_dvd {p k : Nat} (h : PK p k) : p ∣ p ^ k := by
  obtain ⟨j, hj⟩ : ∃ j, k = j + 1 := ⟨k - 1, by have := h.k0; omega⟩
  rw [hj, Nat.pow_succ]
  exact Nat.dvd_mul_left _ _
theorem pk_dvd2 {p k : Nat} (h : 2 ≤ k) : p ^ 2 ∣ p ^ k := Nat.pow_dvd_pow p h
theorem orb_take (F : Int → Int) (x : Int) {n m : Nat} (h : m ≤ n) : (orb F x n).take m = orb F x m := by
  unfold orb
  rw [← List.map_take, List.take_range, Nat.min_eq_left h]
theorem orb_at {F : Int → Int} {x : Int} {n i : Nat} (h : i < n) : L2.atI (iL (orb F x n)) (i : Int) = some (.int (iter F i x)) := by
  rw [atI_iL (by omega) (by rw [orb_len]; omega), Int.toNat_natCast, orb_get _ _ h]
theorem orb_last {F : Int → Int} {x : Int} {n : Nat} : L2.atI (iL (orb F x (n + 1))) (-1) = some (.int (iter F n x)) := by
  unfold L2.atI L2.ixN
  rw [iL_len, orb_len, if_neg (by decide), if_pos (by omega), Option.bind_some]
  rw [show ((-1 : Int) + ((n + 1 : Nat) : Int)).toNat = n by omega]
  show (List.map _ _)[n]? = _
  rw [List.getElem?_map, orb_get? _ _ (by omega)]
  rfl
theorem orb_cell (F : Int → Int) (x : Int) (n : Nat) : iL (orb F x n) ++ [PyData.int (iter F n x)] = iL (orb F x (n + 1)) := by
  rw [orb_succ]
  exact iL_append _ [_]
theorem dedup_full {l : List Int} : (dedup l).length = l.length ↔ l.Nodup := by
  have key : ∀ l : List Int, ∀ r : List Int, l = r.reverse → ((dedup l).length = l.length ↔ l.Nodup) := fun l r => by
    induction r generalizing l with
    | nil => rintro rfl; exact ⟨fun _ => List.nodup_nil, fun _ => rfl⟩
    | cons c r ih =>
      rintro rfl
      have ih := ih r.reverse rfl
      have le := dedup_le r.reverse
      rw [List.reverse_cons, dedup_snoc, List.length_append]
      have e1 : ([c] : List Int).length = 1 := rfl
      rw [e1]
      by_cases m : c ∈ dedup r.reverse
      · rw [if_pos m]
        constructor
        · intro z; omega
        · intro z
          rw [List.nodup_append] at z
          exact absurd rfl (z.2.2 c (dedup_mem.mp m) c (List.mem_singleton.mpr rfl))
      · rw [if_neg m, List.length_append, e1]
        have hn : c ∉ r.reverse := fun z => m (dedup_mem.mpr z)
        constructor
        · intro z
          have z2 := ih.mp (by omega)
          refine List.nodup_append.mpr ⟨z2, List.nodup_cons.mpr ⟨fun y => (nomatch y), List.nodup_nil⟩, fun a ha b hb e => ?_⟩
          rw [List.mem_singleton.mp hb] at e
          exact hn (e ▸ ha)
        · intro z
          have := ih.mpr (List.nodup_append.mp z).1
          omega
  exact key l l.reverse (List.reverse_reverse l).symm
theorem goB_parts {fs : List Int} {p : Nat} (hp : 0 < p) : goB fs p = true ↔ (dedup (orb (upF fs p) 0 p)).length = p ∧ iter (upF fs p) p 0 = 0 := by
  rw [goB_iff hp]
  constructor
  · intro h
    refine ⟨?_, h.ret⟩
    have := dedup_full.mpr (orb_nodup h)
    rwa [orb_len] at this
  · rintro ⟨h1, h2⟩
    have h3 : (orb (upF fs p) 0 p).Nodup := dedup_full.mp (by rw [orb_len]; exact h1)
    refine ⟨hp, h2, fun k k0 k1 e => ?_⟩
    have h4 := List.pairwise_iff_getElem.mp h3 0 k (by rw [orb_len]; omega) (by rw [orb_len]; omega) k0
    have e1 := orb_get? (upF fs p) 0 (n := p) (i := 0) (by omega)
    have e2 := orb_get? (upF fs p) 0 (n := p) (i := k) k1
    rw [List.getElem?_eq_getElem (by rw [orb_len]; omega)] at e1 e2
    exact h4 ((Option.some.inj e1).trans (e.symm.trans (Option.some.inj e2).symm))
theorem brk_case (fs : List Int) (p k : Nat) (hk : 0 < k) (h3 : k ≤ 3) : (brk fs p k = 1 ∧ goB fs p = false) ∨ (brk fs p k = 2 ∧ goB fs p = true ∧ goB fs (p ^ 2) = false ∧ 2 ≤ k) ∨
    (brk fs p k = 3 ∧ goB fs p = true ∧ goB fs (p ^ 2) = true ∧ goB fs (p ^ 3) = false ∧ k = 3) ∨ (brk fs p k = 0 ∧ goB fs p = true ∧ (2 ≤ k → goB fs (p ^ 2) = true) ∧ (k = 3 → goB fs (p ^ 3) = true)) := by
  unfold brk
  cases e1 : goB fs p with
  | false => exact .inl ⟨rfl, rfl⟩
  | true =>
    right
    rw [if_neg (by decide)]
    by_cases k1 : k = 1
    · rw [if_pos k1]
      exact .inr (.inr ⟨rfl, rfl, fun _ => by omega, fun _ => by omega⟩)
    rw [if_neg k1]
    cases e2 : goB fs (p ^ 2) with
    | false => exact .inl ⟨rfl, rfl, rfl, by omega⟩
    | true =>
      right
      rw [if_neg (by decide)]
      by_cases k2 : k = 2
      · rw [if_pos k2]
        exact .inr ⟨rfl, rfl, fun _ => rfl, fun _ => by omega⟩
      rw [if_neg k2]
      cases e3 : goB fs (p ^ 3) with
      | false => exact .inl ⟨rfl, rfl, rfl, rfl, by omega⟩
      | true => exact .inr ⟨rfl, rfl, fun _ => rfl, fun _ => rfl⟩
section
variable {K : Fr} {Q : RV → Prop} {X : Addr → Prop} {rs : List RV}
theorem fac_most {m : Nat} {l : List (Nat × Nat)} (hf : facM m = some l) {q : Nat × Nat} (hq : q ∈ l) : ∃ most, (q.1, most) ∈ PR ∧ q.2 ≤ most := by
  have key : ∀ (ps : List (Nat × Nat)) (r : Nat) (l : List (Nat × Nat)), facRun ps r = some l → ∀ q ∈ l, ∃ most, (q.1, most) ∈ ps ∧ q.2 ≤ most := by
    intro ps
    induction ps with
    | nil =>
      intro r l h q hq
      unfold facRun at h
      split at h
      · cases h; cases hq
      · cases h
    | cons a ps ih =>
      intro r l h q hq
      obtain ⟨p, most⟩ := a
      unfold facRun at h
      split at h
      · cases h
      · rename_i hle
        obtain ⟨l', hl', rfl⟩ := Option.map_eq_some_iff.mp h
        have tl : q ∈ l' → ∃ m', (q.1, m') ∈ (p, most) :: ps ∧ q.2 ≤ m' := fun z => by
          obtain ⟨m', h1, h2⟩ := ih _ _ hl' q z
          exact ⟨m', List.mem_cons_of_mem _ h1, h2⟩
        split at hq
        · rcases List.mem_cons.mp hq with rfl | z
          · exact ⟨most, List.mem_cons_self, by show vp p r ≤ most; omega⟩
          · exact tl z
        · exact tl hq
  exact key PR m l (facM_run hf).2.2 q hq
theorem fac_pk {m : Nat} {l : List (Nat × Nat)} (hf : facM m = some l) {q : Nat × Nat} (hq : q ∈ l) : PK q.1 (capK q.1 q.2) ∧ 0 < q.2 := by
  obtain ⟨f1, f2, f3, f4, f5, f6⟩ := fac_mem hf hq
  have hlaw := facM_lawFac hf
  obtain ⟨g1, _⟩ := lawFac_mem P12 m q (by rw [hlaw]; exact hq)
  have m10 := (facM_run hf).2.1
  have hle : ∀ p ∈ P12, ∀ r ∈ PR, r.1 = p → r.2 ≤ 1 ∨ p ≤ 19 := by decide
  have cap0 : 0 < capK q.1 q.2 ∧ capK q.1 q.2 ≤ 3 := by unfold capK; split <;> omega
  have big : q.1 ^ capK q.1 q.2 ≤ 400 := by
    by_cases p4 : q.1 < 4
    · have : q.1 ^ capK q.1 q.2 ≤ 3 ^ 3 := Nat.le_trans (Nat.pow_le_pow_left (by omega) _) (Nat.pow_le_pow_right (by decide) cap0.2)
      omega
    · have c2 : capK q.1 q.2 ≤ 2 := by unfold capK; rw [if_neg p4]; omega
      have ex : ∃ most, (q.1, most) ∈ PR ∧ q.2 ≤ most := fac_most hf hq
      obtain ⟨most, hm, hle2⟩ := ex
      rcases hle q.1 g1 _ hm rfl with z | z
      · have z : most ≤ 1 := z
        have : capK q.1 q.2 ≤ 1 := by unfold capK; omega
        have h1 : q.1 ^ capK q.1 q.2 ≤ q.1 ^ 1 := Nat.pow_le_pow_right (by omega) this
        rw [Nat.pow_one] at h1
        omega
      · have h1 : q.1 ^ capK q.1 q.2 ≤ 19 ^ 2 := Nat.le_trans (Nat.pow_le_pow_left z _) (Nat.pow_le_pow_right (by decide) c2)
        omega
  exact ⟨⟨g1, cap0.1, cap0.2, big⟩, f3⟩
theorem l_broken_at (h : sp_broken_at K rs Q X) : d_broken_at K (endD Q X) (startD ["f", "entry", "path", "p", "q", "cells", "last", "x"] rs) := by
  obtain ⟨fs, p, k, rfl, hk, hl, h⟩ := h
  obtain ⟨p2, p37⟩ := pk_b hk
  obtain ⟨l1, l2, q0⟩ := pk_len hk
  have q4 := hk.b
  have kk := hk.k0
  have kk3 := hk.k3
  have dv := pk_dvd hk
  have cellsP : cutD (iL (orb (upF fs (p ^ k : Nat)) 0 (lenE p k))) none (some ((p : Nat) : Int)) = iL (orb (upF fs (p ^ k : Nat)) 0 p) := by rw [cut_to, orb_take _ _ l1]
  have atp : L2.atI (iL (orb (upF fs (p ^ k : Nat)) 0 (lenE p k + 1))) (p : Int) = some (.int (iter (upF fs (p ^ k : Nat)) p 0)) := orb_at (by omega)
  have dn := iter_down (fs := fs) dv p
  have parts := goB_parts (fs := fs) (p := p) (by omega)
  walk_at "ST"
  refine ⟨rfl, ?_⟩
  walk_at "GO"
  refine ⟨szLine (by rw [iL_len, orb_len]; show _ + 1 < _; omega), ?_⟩
  walk_at "ST"
  rw [show iL (orb (upF fs (p ^ k : Nat)) 0 (lenE p k)) ++ [PyData.int (iter (upF fs (p ^ k : Nat)) (lenE p k) 0)] = iL (orb (upF fs (p ^ k : Nat)) 0 (lenE p k + 1)) from orb_cell _ _ _]
  walk_at "ST"
  rw [cellsP]
  refine ⟨by rw [iL_len, orb_len]; omega, fun i acc => acc = orb (upF fs p) 0 i, rfl, ?_, ?_⟩
  · rintro i acc d hd rfl _
    rw [List.getElem?_map] at hd
    obtain ⟨z, hz, rfl⟩ := Option.map_eq_some_iff.mp hd
    have hi : i < p := by
      have := (List.getElem?_eq_some_iff.mp hz).1
      rwa [orb_len] at this
    rw [orb_get? _ _ hi] at hz
    cases hz
    walk_at "ST"
    refine ⟨by omega, ?_⟩
    rw [iter_down dv]
    exact (orb_succ _ _ _).symm
  rintro acc rfl _
  rw [iL_len, orb_len]
  walk_at "ST"
  have fin1 : goB fs p = false → Q (.dat (.int (1 : Int))) := fun e => by
    rcases brk_case fs p k kk kk3 with ⟨b, _⟩ | ⟨_, g, _⟩ | ⟨_, g, _⟩ | ⟨_, g, _⟩
    · rw [b] at h; exact h
    all_goals rw [e] at g; cases g
  refine Br.ndec (fun z => ?_) (fun z => ?_)
  · have z : ¬ ((dedup (orb (upF fs p) 0 p)).length : Int) = p := z
    walk_at "ST"
    refine fin1 ?_
    cases e : goB fs p with
    | false => rfl
    | true => exact absurd (by rw [(parts.mp e).1]) z
  have z : ((dedup (orb (upF fs p) 0 p)).length : Int) = p := z
  walk_at "ST"
  refine ⟨_, atp, ?_⟩
  walk_at "ST"
  refine ⟨by omega, ?_⟩
  rw [dn]
  walk_at "ST"
  refine Br.ndec (fun y => ?_) (fun y => ?_)
  · have y : ¬ iter (upF fs p) p 0 = 0 := y
    walk_at "ST"
    refine fin1 ?_
    cases e : goB fs p with
    | false => rfl
    | true => exact absurd (parts.mp e).2 y
  have y : iter (upF fs p) p 0 = 0 := y
  have g1 : goB fs p = true := parts.mpr ⟨by omega, y⟩
  have hP := (goB_iff (by omega)).mp g1
  walk_at "ST"
  refine Br.dec (fun x => ?_) (fun x => ?_)
  · have x : ((p ^ k : Nat) : Int) = p := x
    have k1 : k = 1 := by
      rcases Nat.lt_or_ge 1 k with g | g
      · exfalso
        have h1 : p ^ 1 < p ^ k := Nat.pow_lt_pow_right (by omega) g
        rw [Nat.pow_one] at h1
        omega
      · omega
    walk_at "ST"
    rcases brk_case fs p k kk kk3 with ⟨_, g⟩ | ⟨_, _, _, g⟩ | ⟨_, _, _, _, g⟩ | ⟨b, _⟩
    · rw [g] at g1; cases g1
    · omega
    · omega
    · rw [b] at h; exact h
  have x : ¬ ((p ^ k : Nat) : Int) = p := x
  have k2 : 2 ≤ k := by
    rcases Nat.lt_or_ge 1 k with g | g
    · exact g
    · have : k = 1 := by omega
      rw [this, Nat.pow_one] at x
      exact absurd rfl x
  have sqi := sq_iff hk.m hP
  have dn2 : iter (upF fs (p ^ k : Nat)) p 0 % ((p : Int) * p) = iter (upF fs (p ^ 2 : Nat)) p 0 := by
    have := iter_down (fs := fs) (pk_dvd2 (p := p) k2) p
    rwa [Nat.pow_succ, Nat.pow_one, Int.natCast_mul] at this ⊢
  have fin2 : goB fs (p ^ 2) = false → Q (.dat (.int (2 : Int))) := fun e => by
    rcases brk_case fs p k kk kk3 with ⟨_, g⟩ | ⟨b, _⟩ | ⟨_, _, g, _⟩ | ⟨_, _, g, _⟩
    · rw [g] at g1; cases g1
    · rw [b] at h; exact h
    · rw [e] at g; cases g
    · rw [e] at g; cases g k2
  walk_at "ST"
  refine ⟨rfl, fs, p, rfl, ⟨by omega, hl⟩, ?_⟩
  walk_at "ST"
  rw [cellsP]
  refine ⟨rfl, fs, p, orb (upF fs (p ^ k : Nat)) 0 p, rfl, ⟨by omega, by omega⟩, by rw [orb_len]; omega, ?_⟩
  rw [slopeP_orb (by omega) dv]
  walk_at "ST"
  refine Br.ndec (fun w => ?_) (fun w => ?_)
  · have w : ¬ slopeP fs p (orb (upF fs p) 0 p) = 1 := w
    walk_at "ST"
    refine fin2 ?_
    cases e : goB fs (p ^ 2) with
    | false => rfl
    | true => exact absurd (sqi.mp e).1 w
  have w : slopeP fs p (orb (upF fs p) 0 p) = 1 := w
  walk_at "ST"
  refine ⟨_, atp, ?_⟩
  walk_at "ST"
  refine ⟨mulL (by omega) (by omega), ?_⟩
  walk_at "ST"
  refine ⟨Int.mul_pos (by omega) (by omega), ?_⟩
  rw [dn2]
  walk_at "ST"
  refine Br.dec (fun v => ?_) (fun v => ?_)
  · have v : iter (upF fs (p ^ 2 : Nat)) p 0 = 0 := v
    walk_at "ST"
    refine fin2 ?_
    cases e : goB fs (p ^ 2) with
    | false => rfl
    | true => exact absurd v (sqi.mp e).2
  have v : ¬ iter (upF fs (p ^ 2 : Nat)) p 0 = 0 := v
  have g2 : goB fs (p ^ 2) = true := sqi.mpr ⟨w, v⟩
  have ep2 : p ^ 2 = p * p := by rw [Nat.pow_succ, Nat.pow_one]
  have fin0 : (k = 3 → goB fs (p ^ 3) = true) → Q (.dat (.int (0 : Int))) := fun e => by
    rcases brk_case fs p k kk kk3 with ⟨_, g⟩ | ⟨_, _, g, _⟩ | ⟨_, _, _, g, k3⟩ | ⟨b, _⟩
    · rw [g] at g1; cases g1
    · rw [g] at g2; cases g2
    · rw [e k3] at g; cases g
    · rw [b] at h; exact h
  have hp2b : p ^ 2 ≤ 400 := Nat.le_trans (Nat.le_of_dvd q0 (pk_dvd2 k2)) q4
  walk_at "ST"
  refine ⟨mulL (by omega) (by omega), ?_⟩
  walk_at "ST"
  refine Br.dec (fun u => ?_) (fun u => ?_)
  · have u : ((p ^ k : Nat) : Int) > (p : Int) * p := u
    have k3 : k = 3 := by
      rcases Nat.lt_or_ge 2 k with g | g
      · omega
      · have : k = 2 := by omega
        rw [this, ep2, Int.natCast_mul] at u
        omega
    have eL : lenE p k = p ^ 2 := by
      unfold lenE
      rw [k3, Nat.pow_succ, Nat.mul_div_cancel _ (by omega), ep2]
      exact Nat.max_eq_right (Nat.le_mul_of_pos_right p (by omega))
    have cb := cube_iff hk.m hp2b hP g2
    walk_at "ST"
    rw [eL]
    refine Br.dec (fun t => ?_) (fun t => ?_)
    · have t : iter (upF fs (p ^ k : Nat)) (p ^ 2) 0 = 0 := t
      walk_at "ST"
      rcases brk_case fs p k kk kk3 with ⟨_, g⟩ | ⟨_, _, g, _⟩ | ⟨b, _⟩ | ⟨_, _, _, g⟩
      · rw [g] at g1; cases g1
      · rw [g] at g2; cases g2
      · rw [b] at h; exact h
      · rw [k3] at t
        exact absurd t (cb.mp (g k3))
    · have t : ¬ iter (upF fs (p ^ k : Nat)) (p ^ 2) 0 = 0 := t
      walk_at "ST"
      refine fin0 fun _ => ?_
      rw [k3] at t
      exact cb.mpr t
  · have u : ¬ ((p ^ k : Nat) : Int) > (p : Int) * p := u
    walk_at "ST"
    refine fin0 fun k3 => ?_
    exfalso
    apply u
    rw [k3, Nat.pow_succ, ep2, Int.natCast_mul, Int.natCast_mul]
    have : (p : Int) * p * 1 < (p : Int) * p * p := Int.mul_lt_mul_of_pos_left (by omega) (Int.mul_pos (by omega) (by omega))
    omega
theorem c_broken_at {fs : List Int} {p k : Nat} (hk : PK p k) (hl : fs.length ≤ 40) (q : Q (.dat (.int (brk fs p k : Nat)))) : Cal (sp_broken_at K) 2 [.dat (.list (iL fs)), .dat (entD fs p k)] Q X := ⟨rfl, fs, p, k, rfl, hk, hl, q⟩
end
theorem StartS.b {fs : List Int} {p j : Nat} {x : Int} (h : StartS fs p j x) (hp : 0 < p) (hj : 0 < j) : 0 ≤ x ∧ x < ((p ^ j : Nat) : Int) := by
  have h0 : 0 < p ^ j := Nat.pow_pos hp
  by_cases e : j = 2
  · obtain ⟨t, ht, rfl, _⟩ := h.two e
    subst e
    have : p * t < p ^ 2 := by
      rw [Nat.pow_succ, Nat.pow_one]
      exact Nat.mul_lt_mul_of_pos_left ht hp
    exact ⟨Int.mul_nonneg (by omega) (by omega), by rw [← Int.natCast_mul]; omega⟩
  · rw [h.one e]
    omega
section
variable {K : Fr} {Q : RV → Prop} {X : Addr → Prop} {rs : List RV}
theorem polyB_ints {d : D} (h : polyB d = true) : ∃ fs, d = .list (iL fs) ∧ fs.length ≤ 40 := by
  unfold polyB at h
  split at h
  · rename_i ds
    rw [Bool.and_eq_true, Bool.and_eq_true] at h
    obtain ⟨ns, rfl, _⟩ := iL_of_fit h.2.1
    refine ⟨ns, rfl, ?_⟩
    have := of_decide_eq_true h.1
    rwa [iL_len] at this
  · cases h
end
theorem getD_st {ns : List Int} {i j : Nat} {v : Int} (h : i < ns.length) : (ns.set i v).getD j 0 = if i = j then v else ns.getD j 0 := by
  rw [List.getD_eq_getElem?_getD, List.getElem?_set, List.getD_eq_getElem?_getD]
  by_cases e : i = j
  · subst e
    rw [if_pos rfl, if_pos h, if_pos rfl]
    rfl
  · rw [if_neg e, if_neg e]
section
variable {K : Fr} {Q : RV → Prop} {X : Addr → Prop} {rs : List RV}
theorem l__law_goesround (h : sp__law_goesround K rs Q X) : d__law_goesround K (endD Q X) (startD ["f", "m", "x", "k"] rs) := by
  obtain ⟨fs, m, rfl, hm, hl, h⟩ := h
  have up : ∀ k, hor m (iter (upF fs m) k 0 % m) fs = iter (upF fs m) (k + 1) 0 := fun k => by
    rw [Int.emod_eq_of_lt (iter_bd hm.1 k).1 (iter_bd hm.1 k).2]
    rfl
  walk_at "GO"
  refine ⟨⟨by omega, by omega⟩, ?_⟩
  walk_at "ST"
  refine ⟨fun i δ => ∃ (a : Sl) (j : Nat), δ = [.dat (.list (iL fs)), .dat (.int m), .dat (.int (iter (upF fs m) j 0)), a] ∧ j = i ∧ ∀ k, 0 < k → k ≤ j → iter (upF fs m) k 0 ≠ 0, ⟨_, 0, rfl, rfl, fun k k0 k1 => by omega⟩, ?_, ?_⟩
  · rintro _ d δ hd ⟨a, i, rfl, rfl, hz⟩
    obtain ⟨hi, rfl⟩ := rngD_get hd
    have hi : i + 1 < m := by omega
    walk_at "ST"
    refine c_lat ⟨by omega, by omega⟩ hl ?_
    rw [up]
    walk_at "ST"
    refine Br.dec (fun z => ?_) (fun z => ?_)
    · have z : iter (upF fs m) (i + 1) 0 = 0 := z
      walk_at "ST"
      have : goB fs m = false := (goB_no hm.1).mpr fun hp => hp.no (i + 1) (by omega) hi z
      rw [this] at h
      exact h
    · have z : ¬ iter (upF fs m) (i + 1) 0 = 0 := z
      walk_at "ST"
      refine ⟨_, i + 1, rfl, rfl, fun k k0 k1 => ?_⟩
      by_cases e : k = i + 1
      · rw [e]; exact z
      · exact hz k k0 (by omega)
  · rintro δ ⟨a, j, rfl, hj, hz⟩
    rw [rngD_length] at hj
    have hj : j + 1 = m := by omega
    walk_at "ST"
    refine c_lat ⟨by omega, by omega⟩ hl ?_
    rw [up, hj]
    walk_at "ST"
    have : goB fs m = decide (iter (upF fs m) m 0 = 0) := by
      by_cases e : iter (upF fs m) m 0 = 0
      · rw [decide_eq_true e]
        exact (goB_iff hm.1).mpr ⟨hm.1, e, fun k k0 k1 => hz k k0 (by omega)⟩
      · rw [decide_eq_false e]
        exact (goB_no hm.1).mpr fun hp => e hp.ret
    rw [this] at h
    exact h
theorem c_goesround {fs : List Int} {m : Nat} (hm : 0 < m ∧ m ≤ 400) (hl : fs.length ≤ 40) (q : Q (.dat (.bool (goB fs m)))) : Cal (sp__law_goesround K) 2 [.dat (.list (iL fs)), .dat (.int m)] Q X := ⟨rfl, fs, m, rfl, hm, hl, q⟩
theorem rowF_orb {fs : List Int} {q : Nat} (hq : 0 < q) {x : Int} (hx : 0 ≤ x ∧ x < (q : Int)) (n : Nat) : rowF fs q x n = orb (upF fs q) x n := by
  rw [rowF_it]
  unfold orb
  exact List.map_congr_left fun k _ => (up_itF (by omega) hx k).symm
theorem l__law_ringpaper (h : sp__law_ringpaper K rs Q X) : d__law_ringpaper K (endD Q X) (startD ["f", "m", "paper", "p", "e", "q", "line"] rs) := by
  obtain ⟨fs, m, l, rfl, hm, hl, h⟩ := h
  obtain ⟨m2, m3, _⟩ := facM_run hm
  have hlen := fac_len hm
  walk_at "GO"
  refine c_lfactors ⟨by omega, by omega⟩ ?_
  rw [facM_lawFac hm]
  walk_at "ST"
  refine ⟨fun i δ => ∃ a b c d : Sl, δ = [.dat (.list (iL fs)), .dat (.int m), .own (papL fs (l.take i)), a, b, c, d], ⟨_, _, _, _, rfl⟩, ?_, ?_⟩
  · rintro i d δ hd ⟨a, b, c, d', rfl⟩
    rw [List.getElem?_map] at hd
    obtain ⟨q, hq, rfl⟩ := Option.map_eq_some_iff.mp hd
    have hi := (List.getElem?_eq_some_iff.mp hq).1
    obtain ⟨hpk, e0⟩ := fac_pk hm (List.mem_of_getElem? hq)
    obtain ⟨p2, p37⟩ := pk_b hpk
    obtain ⟨l1, l2, q0⟩ := pk_len hpk
    have q4 := hpk.b
    refine ⟨rfl, ?_⟩
    walk_at "ST"
    refine c_capped ?_
    rw [show min q.2 (if q.1 < 4 then 3 else 2) = capK q.1 q.2 from rfl]
    walk_at "ST"
    refine c_power ⟨by omega, by omega⟩ (by have := hpk.k3; omega) ?_
    rw [show ((q.1 : Int) ^ capK q.1 q.2) = ((q.1 ^ capK q.1 q.2 : Nat) : Int) from (Int.natCast_pow ..).symm]
    walk_at "ST"
    refine ⟨divOk (by omega) (by omega), ?_⟩
    walk_at "ST"
    have e2 : (fun i j : Int => if j > i then j else i) (q.1 : Int) (((q.1 ^ capK q.1 q.2 : Nat) : Int) / (q.1 : Int)) + 1 = ((lenE q.1 (capK q.1 q.2) + 1 : Nat) : Int) := by
      have e : (if ((q.1 ^ capK q.1 q.2 / q.1 : Nat) : Int) > (q.1 : Int) then ((q.1 ^ capK q.1 q.2 / q.1 : Nat) : Int) else (q.1 : Int)) + 1 = ((lenE q.1 (capK q.1 q.2) + 1 : Nat) : Int) := by
        unfold lenE
        split <;> omega
      exact e
    rw [e2]
    refine c_rowof ⟨by omega, by omega⟩ hl (by omega) ?_
    rw [rowF_orb q0 ⟨by omega, by omega⟩]
    walk_at "GO"
    rw [cut_m1 (by rw [orb_len]; omega), orb_len, Nat.add_sub_cancel, orb_take _ _ (by omega)]
    have atl : L2.atI (iL (orb (upF fs (q.1 ^ capK q.1 q.2 : Nat)) 0 (lenE q.1 (capK q.1 q.2) + 1))) (((iL (orb (upF fs (q.1 ^ capK q.1 q.2 : Nat)) 0 (lenE q.1 (capK q.1 q.2) + 1))).length : Int) - 1) = some (.int (iter (upF fs (q.1 ^ capK q.1 q.2 : Nat)) (lenE q.1 (capK q.1 q.2)) 0)) := by
      rw [iL_len, orb_len, show ((lenE q.1 (capK q.1 q.2) + 1 : Nat) : Int) - 1 = ((lenE q.1 (capK q.1 q.2) : Nat) : Int) by omega]
      exact orb_at (by omega)
    refine ⟨_, atl, ?_⟩
    walk_at "GO"
    refine ⟨szLine (by unfold papL; rw [List.length_map, List.length_take]; omega), ?_⟩
    walk_at "ST"
    have e : papL fs (l.take (i + 1)) = papL fs (l.take i) ++ [entD fs q.1 (capK q.1 q.2)] := by
      unfold papL
      rw [List.take_add_one, hq, List.map_append]
      rfl
    exact ⟨.dat (.int q.1), .dat (.int q.2), .dat (.int (q.1 ^ capK q.1 q.2 : Nat)), .dat (.list (iL (orb (upF fs (q.1 ^ capK q.1 q.2 : Nat)) 0 (lenE q.1 (capK q.1 q.2) + 1)))), by rw [e]; rfl⟩
  · rintro δ ⟨a, b, c, d, rfl⟩
    rw [List.length_map, List.take_length]
    walk_at "ST"
    exact h
end
end RB

set_option Elab.async false
set_option linter.all false
set_option maxRecDepth 100000
set_option maxHeartbeats 8000000
set_option exponentiation.threshold 100000
/-! LAE: taken over from other claims by lib.py -/
namespace RB
open PySem PySem.Spec PyProof.Rows L2
local macro_rules | `(tactic| walk_at "ST") => `(tactic| ((conv => whnf); repeat (first | (refine Br.t ?_; conv => whnf) | (refine Br.f ?_; conv => whnf))))
local macro_rules | `(tactic| walk_at "SZ") => `(tactic| first | decide | omega | (simp only [List.length_append, List.length_map, List.length_cons, List.length_nil]; done) | (simp only [List.length_append, List.length_map, List.length_cons, List.length_nil]; omega))
local macro_rules | `(tactic| walk_at "G1") => `(tactic| first | refine And.intro (szLine (by walk_at "SZ")) ?_ | refine And.intro (mulR (by decide) (by decide)) ?_ | refine And.intro (mulL (by decide) (by decide)) ?_ | refine And.intro (divOk (by decide) (by decide)) ?_ | refine And.intro (show PowOk _ _ from ⟨by decide, by decide⟩) ?_ | refine And.intro (by decide) ?_ | refine And.intro rfl ?_ | refine Exists.intro _ (And.intro rfl ?_))
local macro_rules | `(tactic| walk_at "DP") => `(tactic| repeat (first | assumption | exact Dep.non | exact Dep.bl _ | exact Dep.int _ | exact Dep.str _ | exact dL_nil | refine dL_cons ?_ ?_ | refine Dep.lst (by walk_at "SZ") ?_ | refine Dep.tup (by walk_at "SZ") ?_))
local macro_rules | `(tactic| walk_at "GO") => `(tactic| ((walk_at "ST"); repeat ((walk_at "G1"); (walk_at "ST"))))
section
variable {K : Fr} {Q : RV → Prop} {X : Addr → Prop} {rs : List RV}
theorem c_ringpaper {fs : List Int} {m : Nat} {l : List (Nat × Nat)} (hm : facM m = some l) (hl : fs.length ≤ 40) (q : Q (.own (papL fs l))) : Cal (sp__law_ringpaper K) 2 [.dat (.list (iL fs)), .dat (.int m)] Q X := ⟨rfl, fs, m, l, rfl, hm, hl, q⟩
theorem at_natE {ds : List D} {i : Nat} (h : i < ds.length) : L2.atI ds ((0 : Int) + (i : Nat)) = some ds[i] := by
  rw [atI_nat (by omega) (by omega)]
  congr 1
  simp
end
theorem capK_le (p e : Nat) : capK p e ≤ e := Nat.min_le_left _ _
theorem prodN_cap : ∀ l : List (Nat × Nat), (∀ q ∈ l, 0 < q.1) → prodN (l.map fun q => q.1 ^ capK q.1 q.2) ≤ prodF l
  | [], _ => Nat.le_refl _
  | q :: l, h => by
    show q.1 ^ capK q.1 q.2 * prodN _ ≤ q.1 ^ q.2 * prodF l
    exact Nat.mul_le_mul (Nat.pow_le_pow_right (h q List.mem_cons_self) (capK_le _ _)) (prodN_cap l fun r hr => h r (List.mem_cons_of_mem _ hr))
theorem VerD.one {fs : List Int} {l : List (Nat × Nat)} {d e : D} (h : VerD fs l d) (k : VerD fs l e) : d = e := by
  unfold VerD at h k
  cases hf : firB fs l with
  | none => rw [hf] at h k; rw [show d = _ from h, show e = _ from k]
  | some q =>
    rw [hf] at h k
    obtain ⟨x, a, n, hx, hr, rfl⟩ := h
    obtain ⟨y, b, m, hy, hs, rfl⟩ := k
    have exy : x = y := by
      by_cases e2 : brk fs q.1 (capK q.1 q.2) = 2
      · obtain ⟨t, ht, rfl, h1, h2⟩ := hx.two e2
        obtain ⟨u, hu, rfl, k1, k2⟩ := hy.two e2
        rcases Nat.lt_trichotomy t u with z | z | z
        · exact absurd h1 (k2 t z)
        · rw [z]
        · exact absurd k1 (h2 u z)
      · rw [hx.one e2, hy.one e2]
    subst exy
    obtain ⟨ea, en⟩ := hr.one hs
    subst ea en
    rfl
section
variable {K : Fr} {Q : RV → Prop} {X : Addr → Prop} {rs : List RV}
theorem pol_fit {fs : List Int} (hp : Pol fs) : ∀ x ∈ fs, Fit x := fun x hx => by
  have hp : polyB (.list (iL fs)) = true := hp
  rw [polyB_list, Bool.and_eq_true, Bool.and_eq_true] at hp
  have := List.all_eq_true.mp hp.2.1 (.int x) (List.mem_map.mpr ⟨x, hx, rfl⟩)
  have this : (decide (-(10 ^ 60) ≤ x) && decide (x ≤ 10 ^ 60)) = true := this
  rw [Bool.and_eq_true] at this
  exact ⟨of_decide_eq_true this.1, of_decide_eq_true this.2⟩
end
theorem ptD_at {ps : List (List Int × Nat)} {i : Nat} {d : D} (h : (ps.map ptD)[i]? = some d) : ∃ q, ps[i]? = some q ∧ d = ptD q := by
  rw [List.getElem?_map] at h
  cases e : ps[i]? with
  | none => rw [e] at h; cases h
  | some q => rw [e] at h; exact ⟨q, rfl, (Option.some.inj h).symm⟩
section
variable {K : Fr} {Q : RV → Prop} {X : Addr → Prop} {rs : List RV}
theorem paired_any : ∀ {ds es : List D}, Paired (fun _ d' => ∃ y : Int, d' = PyData.int y) ds es → ∃ fs : List Int, es = iL fs ∧ fs.length = ds.length
  | [], _, .nil => ⟨[], rfl, rfl⟩
  | _ :: _, _, .cons h t => by
    obtain ⟨y, rfl⟩ := h
    obtain ⟨fs, rfl, hl⟩ := paired_any t
    exact ⟨y :: fs, rfl, by rw [List.length_cons, List.length_cons, hl]⟩
theorem fitD_int {x : Int} : fitD (.int x) = (decide (-(10 ^ 60) ≤ x) && decide (x ≤ 10 ^ 60)) := rfl
end
theorem vpF_dvd' {p : Nat} : ∀ (f n : Nat), p ^ vpF p f n ∣ n
  | 0, n => ⟨n, by rw [show vpF p 0 n = 0 from rfl, Nat.pow_zero, Nat.one_mul]⟩
  | f + 1, n => by
    show p ^ (if n % p = 0 then vpF p f (n / p) + 1 else 0) ∣ n
    by_cases h : n % p = 0
    · rw [if_pos h, Nat.pow_succ]
      have := Nat.mul_dvd_mul (vpF_dvd' (p := p) f (n / p)) (Nat.dvd_refl p)
      rw [Nat.div_mul_cancel (Nat.dvd_of_mod_eq_zero h)] at this
      exact this
    · rw [if_neg h, Nat.pow_zero]; exact Nat.one_dvd _
theorem vp_split {p n : Nat} : n = p ^ vp p n * (n / p ^ vp p n) := (Nat.mul_div_cancel' (vpF_dvd' 64 n)).symm
theorem facRun_es : ∀ (ps : List (Nat × Nat)) (n : Nat) (l : List (Nat × Nat)), facRun ps n = some l → 0 < n → ∃ es, capE ps es ∧ n = prodE ps es
  | [], n, l, h, _ => by
    have h : (if n = 1 then some [] else none) = some l := h
    by_cases e : n = 1
    · exact ⟨[], trivial, e⟩
    · rw [if_neg e] at h; cases h
  | (p, m) :: ps, n, l, h, hn => by
    have h : (if m < vp p n then none else (facRun ps (n / p ^ vp p n)).map fun l => if 0 < vp p n then (p, vp p n) :: l else l) = some l := h
    by_cases e : m < vp p n
    · rw [if_pos e] at h; cases h
    · rw [if_neg e] at h
      obtain ⟨l', h1, _⟩ := Option.map_eq_some_iff.mp h
      have hd := vp_split (p := p) (n := n)
      have h0 : 0 < n / p ^ vp p n := Nat.pos_of_ne_zero fun z => by rw [z, Nat.mul_zero] at hd; omega
      obtain ⟨es, hc, he⟩ := facRun_es ps _ _ h1 h0
      exact ⟨vp p n :: es, ⟨by omega, hc⟩, by show n = p ^ vp p n * prodE ps es; rw [← he]; exact hd⟩
theorem facM_int {m : Int} {l : List (Nat × Nat)} (h : facM m = some l) : ∃ n : Nat, m = n ∧ 2 ≤ n ∧ n ≤ 10000000000 ∧ facM n = some l := by
  have h' := h
  unfold facM at h
  by_cases e : (2 : Int) ≤ m ∧ m ≤ 10000000000
  · have e2 : m = m.toNat := by omega
    rw [e2] at h'
    exact ⟨m.toNat, e2, by omega, by omega, h'⟩
  · rw [if_neg e] at h; cases h
theorem facM_es {n : Nat} {l : List (Nat × Nat)} (h : facM n = some l) : ∃ es, capE PR es ∧ n = prodE PR es := by
  obtain ⟨h2, _, h⟩ := facM_run h
  exact facRun_es PR n l h (by omega)
theorem at_nat {ds : List D} {i : Nat} (h : i < ds.length) : L2.atI ds (0 + (i : Int)) = some ds[i] := by
  rw [Int.zero_add, atI_nat (by omega) (by omega)]
  rfl
section
variable {K : Fr} {Q : RV → Prop} {X : Addr → Prop} {rs : List RV}
theorem c_copy {n : Nat} {d : D} {k : Int} (h : Dep n d) (q : Q (.dat d)) (q2 : ∀ ds, d = .list ds → Q (.own ds)) : Cal (sp__law_copy n) 2 [.dat d, .dat (.int k)] Q X := ⟨rfl, d, k, rfl, h, q, q2⟩
theorem l__law_copy (n : Nat) (h : sp__law_copy (n + 1) rs Q X) : d__law_copy K (sp__law_copy n) (endD Q X) (startD ["thing", "deep", "one"] rs) := by
  obtain ⟨d, k, rfl, hd, hq, hq2⟩ := h
  cases hd with
  | @lst _ ds hl hn =>
    walk_at "ST"
    refine Br.dec (fun _ => ?_) (fun _ => ?_)
    · walk_at "ST"
      refine LcS.map (fun d => d) (szLine (by omega)) (fun d hd C hC => ?_) ?_
      · walk_at "ST"
        refine c_copy (hn d hd) ?_ fun es e => ?_
        · walk_at "ST"
          exact hC
        · walk_at "ST"
          rw [← e]
          exact hC
      · rw [List.map_id']
        exact hq2 ds rfl
    · walk_at "ST"
      exact hq
  | @tup _ ds hl hn =>
    walk_at "ST"
    refine Br.dec (fun _ => ?_) (fun _ => ?_)
    · walk_at "ST"
      refine LcS.map (fun d => d) (szLine (by omega)) (fun d hd C hC => ?_) ?_
      · walk_at "ST"
        refine c_copy (hn d hd) ?_ fun es e => ?_
        · walk_at "ST"
          exact hC
        · walk_at "ST"
          rw [← e]
          exact hC
      · rw [List.map_id']
        walk_at "ST"
        exact hq
    · walk_at "ST"
      exact hq
  | _ =>
    walk_at "ST"
    exact hq
end
theorem paired_ints {lo hi : Int} : ∀ {ds es : List D}, Paired (fun _ d' => ∃ y, d' = PyData.int y ∧ lo ≤ y ∧ y ≤ hi) ds es → ∃ fs : List Int, es = iL fs ∧ fs.length = ds.length ∧ ∀ y ∈ fs, lo ≤ y ∧ y ≤ hi
  | [], _, .nil => ⟨[], rfl, rfl, by simp⟩
  | _ :: _, _, .cons h t => by
    obtain ⟨y, rfl, h1, h2⟩ := h
    obtain ⟨fs, rfl, hl, hf⟩ := paired_ints t
    exact ⟨y :: fs, rfl, by rw [List.length_cons, List.length_cons, hl], fun z hz => (List.mem_cons.mp hz).elim (fun e => e ▸ ⟨h1, h2⟩) (hf z)⟩
theorem dep_iL {n : Nat} {ns : List Int} : ∀ d ∈ iL ns, Dep (n + 1) d := fun d hd => by
  obtain ⟨x, _, rfl⟩ := List.mem_map.mp hd
  exact .int x
theorem dep_app {n : Nat} {a b : List D} (h1 : ∀ d ∈ a, Dep n d) (h2 : ∀ d ∈ b, Dep n d) : ∀ d ∈ a ++ b, Dep n d := fun d hd => (List.mem_append.mp hd).elim (h1 d) (h2 d)
theorem cutD_mem {ds : List D} {lo hi : Option Int} {d : D} (h : d ∈ cutD ds lo hi) : d ∈ ds := List.mem_of_mem_drop (List.mem_of_mem_take h)
theorem cutD_len (ds : List D) (lo hi : Option Int) : (cutD ds lo hi).length ≤ ds.length := by
  unfold cutD
  rw [List.length_take, List.length_drop]
  omega
theorem dep_cut {n : Nat} {ds : List D} {lo hi : Option Int} (h : ∀ d ∈ ds, Dep n d) : ∀ d ∈ cutD ds lo hi, Dep n d := fun d hd => h d (cutD_mem hd)
theorem dep_rev {n : Nat} {ds : List D} (h : ∀ d ∈ ds, Dep n d) : ∀ d ∈ ds.reverse, Dep n d := fun d hd => h d (List.mem_reverse.mp hd)
section
variable {K : Fr} {Q : RV → Prop} {X : Addr → Prop} {rs : List RV}
theorem l_is_plain (h : sp_is_plain K rs Q X) : d_is_plain K (endD Q X) (startD ["x"] rs) := by
  obtain ⟨d, rfl, h⟩ := h
  conv => whnf
  cases d
  case int x =>
    refine Br.t ?_
    conv => whnf
    exact h
  case bool b =>
    refine Br.t ?_
    conv => whnf
    exact h
  all_goals
    refine Br.f ?_
    conv => whnf
    exact h
theorem c_is_plain {d : D} (q : Q (.dat (.bool (isIntD d)))) : Cal (sp_is_plain K) 1 [.dat d] Q X := ⟨rfl, d, rfl, q⟩
end
theorem getD_set {ns : List Int} {i j : Nat} {v : Int} (h : i < ns.length) : (ns.set i v).getD j 0 = if i = j then v else ns.getD j 0 := by
  rw [List.getD_eq_getElem?_getD, List.getD_eq_getElem?_getD]
  by_cases e : i = j
  · rw [if_pos e, ← e, List.getElem?_set_self h]; rfl
  · rw [if_neg e, List.getElem?_set_ne e]
theorem hor_cong {q x : Int} : ∀ {fs gs : List Int}, fs.length = gs.length → (∀ i < gs.length, fs.getD i 0 % q = gs.getD i 0 % q) → hor q x fs = hor q x gs
  | [], [], _, _ => rfl
  | [], _ :: _, h, _ => by simp at h
  | _ :: _, [], h, _ => by simp at h
  | a :: fs, b :: gs, hl, h => by
    show (hor q x fs * x + a) % q = (hor q x gs * x + b) % q
    have ha : a % q = b % q := h 0 (by simp)
    rw [hor_cong (by simpa using hl) fun i hi => h (i + 1) (by simpa using hi), Int.add_emod, ha, ← Int.add_emod]
theorem hor_zero (q x : Int) : ∀ k : Nat, hor q x (List.replicate k 0) = 0
  | 0 => rfl
  | k + 1 => by
    rw [List.replicate_succ]
    show (hor q x (List.replicate k 0) * x + 0) % q = 0
    rw [hor_zero q x k, Int.zero_mul]
    exact Int.zero_emod q
theorem hor_pad {q x : Int} (k : Nat) : ∀ fs : List Int, hor q x (fs ++ List.replicate k 0) = hor q x fs
  | [] => hor_zero q x k
  | a :: fs => by
    show (hor q x (fs ++ List.replicate k 0) * x + a) % q = (hor q x fs * x + a) % q
    rw [hor_pad k fs]
theorem cutL_pad (ns : List Int) : ∃ k, ns = cutL ns ++ List.replicate k 0 := by
  refine ⟨(ns.reverse.takeWhile fun i => decide (i = 0)).length, ?_⟩
  have h := List.takeWhile_append_dropWhile (p := fun i : Int => decide (i = 0)) (l := ns.reverse)
  have h2 : ns = (ns.reverse.dropWhile fun i => decide (i = 0)).reverse ++ (ns.reverse.takeWhile fun i => decide (i = 0)).reverse := by
    rw [← List.reverse_append, h, List.reverse_reverse]
  have h3 : ∀ l : List Int, (∀ x ∈ l, x = 0) → l.reverse = List.replicate l.length 0 := fun l hl => by
    rw [List.eq_replicate_iff]
    exact ⟨List.length_reverse, fun x hx => hl x (List.mem_reverse.mp hx)⟩
  have h4 : ∀ l : List Int, ∀ x ∈ l.takeWhile (fun i => decide (i = 0)), x = 0 := fun l => by
    induction l with
    | nil => intro x hx; cases hx
    | cons a t ih =>
      intro x hx
      rw [List.takeWhile_cons] at hx
      split at hx
      · rename_i ha
        rcases List.mem_cons.mp hx with rfl | hx
        · exact of_decide_eq_true ha
        · exact ih x hx
      · cases hx
  unfold cutL
  rw [← h3 _ (h4 _)]
  exact h2
theorem hor_cut {q x : Int} (ns : List Int) : hor q x (cutL ns) = hor q x ns := by
  obtain ⟨k, e⟩ := cutL_pad ns
  conv => rhs; rw [e]
  exact (hor_pad k (cutL ns)).symm
theorem cutL_len (ns : List Int) : (cutL ns).length ≤ ns.length := by
  obtain ⟨k, e⟩ := cutL_pad ns
  have := congrArg List.length e
  rw [List.length_append] at this
  omega
theorem cutL_mem {ns : List Int} {x : Int} (h : x ∈ cutL ns) : x ∈ ns := by
  obtain ⟨k, e⟩ := cutL_pad ns
  rw [e]
  exact List.mem_append.mpr (.inl h)
theorem lastOk_iL {ns : List Int} : lastOk (iL ns) = true ↔ ns.getLast? ≠ some 0 := by
  rcases List.eq_nil_or_concat ns with rfl | ⟨ns, x, rfl⟩
  · exact ⟨(fun _ z => nomatch z), fun _ => rfl⟩
  · rw [List.concat_eq_append, List.getLast?_concat]
    unfold lastOk
    rw [← iL_append, show iL [x] = [PyData.int x] from rfl, List.getLast?_concat]
    show (!decide (x = 0)) = true ↔ _
    rw [Bool.not_eq_true', decide_eq_false_iff_not]
    exact ⟨fun h z => h (Option.some.inj z), fun h z => h (by rw [z])⟩
theorem cutL_last (ns : List Int) : lastOk (iL (cutL ns)) = true := by
  rw [lastOk_iL]
  unfold cutL
  rw [List.getLast?_reverse]
  intro h
  have h4 : ∀ l : List Int, (l.dropWhile fun i => decide (i = 0)).head? ≠ some 0 := fun l => by
    induction l with
    | nil => exact fun z => nomatch z
    | cons a t ih =>
      rw [List.dropWhile_cons]
      split
      · exact ih
      · rename_i ha
        intro z
        exact ha (decide_eq_true (Option.some.inj z))
  exact h4 _ h
theorem fits_iL {ns : List Int} (h : ∀ x ∈ ns, Fit x) : (iL ns).all fitD = true := by
  rw [List.all_eq_true]
  intro d hd
  obtain ⟨x, hx, rfl⟩ := List.mem_map.mp hd
  rw [fitD_int, decide_eq_true (h x hx).1, decide_eq_true (h x hx).2]
  rfl
theorem polyB_mk {ns : List Int} (hl : ns.length ≤ 40) (hf : ∀ x ∈ ns, Fit x) (h : lastOk (iL ns) = true) : polyB (.list (iL ns)) = true := by
  rw [polyB_list, iL_len, decide_eq_true hl, fits_iL hf, h]
  rfl
theorem polyB_cut {ns : List Int} (hl : ns.length ≤ 40) (hf : ∀ x ∈ ns, Fit x) : polyB (.list (iL (cutL ns))) = true := polyB_mk (Nat.le_trans (cutL_len ns) hl) (fun x hx => hf x (cutL_mem hx)) (cutL_last ns)
theorem fit_get {ns : List Int} (h : ∀ i < ns.length, Fit (ns.getD i 0)) : ∀ x ∈ ns, Fit x := fun x hx => by
  obtain ⟨i, hi, e⟩ := List.mem_iff_getElem.mp hx
  have := h i hi
  rw [List.getD_eq_getElem?_getD, List.getElem?_eq_getElem hi] at this
  rw [← e]
  exact this
theorem last_get {ns : List Int} (hl : 0 < ns.length) (h : ns.getD (ns.length - 1) 0 ≠ 0) : lastOk (iL ns) = true := by
  rw [lastOk_iL, List.getLast?_eq_getElem?]
  intro e
  rw [List.getD_eq_getElem?_getD, e] at h
  exact h rfl
theorem vast_step {g s : Int} (hg : Fit g) (h0 : 0 < s) (h1 : s ≤ 10000000000) : Fit (g + 1 * s * ((10 ^ 60 - 1 * g) / s)) ∧ Fit (g + (-1) * s * ((10 ^ 60 - (-1) * g) / s)) := by
  unfold Fit at hg ⊢
  have e1 := Int.mul_ediv_add_emod (10 ^ 60 - 1 * g) s
  have e2 := Int.emod_nonneg (10 ^ 60 - 1 * g) (show s ≠ 0 by omega)
  have e3 := Int.emod_lt_of_pos (10 ^ 60 - 1 * g) h0
  have f1 := Int.mul_ediv_add_emod (10 ^ 60 - (-1) * g) s
  have f2 := Int.emod_nonneg (10 ^ 60 - (-1) * g) (show s ≠ 0 by omega)
  have f3 := Int.emod_lt_of_pos (10 ^ 60 - (-1) * g) h0
  rw [show (1 : Int) * s = s from Int.one_mul s, show (-1 : Int) * s = -s by omega, Int.neg_mul]
  generalize s * ((10 ^ 60 - 1 * g) / s) = A at e1 ⊢
  generalize s * ((10 ^ 60 - (-1) * g) / s) = B at f1 ⊢
  omega
theorem mod_add_mul (g s k : Int) : (g + s * k) % s = g % s := Int.add_mul_emod_self_left g s k
section
variable {K : Fr} {Q : RV → Prop} {X : Addr → Prop} {rs : List RV}
theorem l__law_vast (h : sp__law_vast K rs Q X) : d__law_vast K (endD Q X) (startD ["store", "f", "s", "g", "turn", "i", "sign"] rs) := by
  obtain ⟨fs, m, rfl, hm, hl, hf, h⟩ := h
  walk_at "GO"
  refine ⟨⟨by rw [iL_len]; omega, by rw [iL_len]; omega, szLine (show 1 * ((40 : Int) - ((iL fs).length : Nat)).toNat < 2 ^ 20 by rw [iL_len]; omega)⟩, ?_⟩
  have e40 : ((40 : Int) - ((iL fs).length : Nat)).toNat = 40 - fs.length := by rw [iL_len]; omega
  rw [show (List.replicate ((40 : Int) - ((iL fs).length : Nat)).toNat ((fun x => PyData.int 0 :: x) [])).flatten = iL (List.replicate (40 - fs.length) 0) from by
    rw [e40]
    show _ = List.map _ _
    rw [List.map_replicate]
    exact List.flatten_replicate_singleton]
  walk_at "ST"
  refine ⟨szLine (by rw [iL_len, iL_len, List.length_replicate]; omega), ?_⟩
  have hbl : (fs ++ List.replicate (40 - fs.length) 0).length = 40 := by rw [List.length_append, List.length_replicate]; omega
  have hb0 : ∀ i, (fs ++ List.replicate (40 - fs.length) 0).getD i 0 = fs.getD i 0 := fun i => by
    rw [List.getD_eq_getElem?_getD, List.getD_eq_getElem?_getD]
    by_cases hi : i < fs.length
    · rw [List.getElem?_append_left hi]
    · rw [List.getElem?_append_right (by omega), List.getElem?_replicate, List.getElem?_eq_none (by omega)]
      split <;> rfl
  have hfit0 : ∀ i, Fit (fs.getD i 0) := fun i => by
    by_cases hi : i < fs.length
    · exact hf _ (getD_mem hi)
    · rw [List.getD_eq_getElem?_getD, List.getElem?_eq_none (by omega)]
      exact ⟨by decide, by decide⟩
  rw [iL_append]
  walk_at "ST"
  refine ⟨⟨by decide, by decide⟩, ?_⟩
  walk_at "ST"
  refine ⟨fun i δ => ∃ (gs : List Int) (a b c : Sl), δ = [.sto, .dat (.list (iL fs)), .dat (.int m), .own (iL gs), a, b, c] ∧ gs.length = 40 ∧ ∀ i < 40, Fit (gs.getD i 0) ∧ gs.getD i 0 % (m : Int) = fs.getD i 0 % (m : Int),
    ⟨_, _, _, _, rfl, hbl, fun i _ => by rw [hb0]; exact ⟨hfit0 i, rfl⟩⟩, ?_, ?_⟩
  · rintro i d δ hd ⟨gs, a, b, c, rfl, hgl, hg⟩
    walk_at "ST"
    refine c_take (by decide) fun r h1 h2 => ?_
    have h2 : r < 40 := h2
    obtain ⟨k, rfl⟩ := Int.eq_ofNat_of_zero_le h1
    have hk : k < 40 := by omega
    obtain ⟨hgf, hgm⟩ := hg k hk
    have atk : L2.atI (iL gs) (k : Int) = some (.int (gs.getD k 0)) := atI_iL (by omega) (by omega)
    obtain ⟨v1, v2⟩ := vast_step hgf (s := m) (by omega) (by omega)
    have done : ∀ (v : Int) (a b c : Sl), Fit v → v % (m : Int) = gs.getD k 0 % (m : Int) → ∃ (gs' : List Int) (a' b' c' : Sl), [.sto, .dat (.list (iL fs)), .dat (.int m), .own ((iL gs).set k (.int v)), a, b, c] = [.sto, .dat (.list (iL fs)), .dat (.int m), .own (iL gs'), a', b', c'] ∧ gs'.length = 40 ∧ ∀ i < 40, Fit (gs'.getD i 0) ∧ gs'.getD i 0 % (m : Int) = fs.getD i 0 % (m : Int) := fun v a b c hv hvm =>
      ⟨gs.set k v, a, b, c, by rw [iL_set], by rw [List.length_set]; exact hgl, fun j hj => by
        rw [getD_set (by omega)]
        split
        · rename_i e
          subst e
          exact ⟨hv, hvm.trans hgm⟩
        · exact hg j hj⟩
    walk_at "ST"
    refine c_take (by decide) fun t h3 h4 => ?_
    have h4 : t < 2 := h4
    obtain rfl | rfl : t = 0 ∨ t = 1 := by omega
    all_goals
      walk_at "GO"
      refine ⟨_, atk, ?_⟩
      walk_at "ST"
      refine ⟨mulR (by omega) (by omega), ?_⟩
      walk_at "ST"
      refine ⟨⟨by decide, by decide⟩, ?_⟩
      walk_at "ST"
      refine ⟨_, atk, ?_⟩
      walk_at "ST"
      refine ⟨mulL (by decide) (by decide), ?_⟩
      walk_at "ST"
      refine ⟨divOk (by omega) (by omega), ?_⟩
      walk_at "ST"
      refine ⟨mulL (by omega) (by omega), ?_⟩
      walk_at "ST"
      refine ⟨_, ixN_nat (by omega) (by rw [iL_len]; omega), ?_⟩
      walk_at "ST"
    · exact done _ _ _ _ v1 (by show (gs.getD k 0 + 1 * (m : Int) * _) % (m : Int) = _; rw [Int.one_mul (m : Int)]; exact mod_add_mul _ _ _)
    · exact done _ _ _ _ v2 (by show (gs.getD k 0 + (-1) * (m : Int) * _) % (m : Int) = _; rw [show (-1 : Int) * (m : Int) = -(m : Int) by omega, Int.neg_mul, ← Int.mul_neg]; exact mod_add_mul _ _ _)
  · rintro δ ⟨gs, a, b, c, rfl, hgl, hg⟩
    have at39 : L2.atI (iL gs) 39 = some (.int (gs.getD 39 0)) := atI_iL (by omega) (by omega)
    walk_at "ST"
    refine ⟨fun δ' => ∃ gs' : List Int, δ' = [.sto, .dat (.list (iL fs)), .dat (.int m), .own (iL gs'), a, b, c] ∧ gs'.length = 40 ∧ gs'.getD 39 0 ≠ 0 ∧ ∀ i < 40, Fit (gs'.getD i 0) ∧ gs'.getD i 0 % (m : Int) = fs.getD i 0 % (m : Int), ?_, ?_⟩
    · walk_at "ST"
      refine ⟨_, at39, ?_⟩
      walk_at "ST"
      refine Br.dec (fun h0 => ?_) (fun h0 => ?_)
      · walk_at "ST"
        refine ⟨_, ixN_nat (i := 39) (by omega) (by rw [iL_len]; omega), ?_⟩
        walk_at "ST"
        have e39 : (gs.set 39 (m : Int)).getD 39 0 = m := by rw [getD_set (by omega), if_pos rfl]
        refine ⟨gs.set 39 m, by rw [← iL_set]; rfl, by rw [List.length_set]; exact hgl, by rw [e39]; omega, fun j hj => ?_⟩
        by_cases e : 39 = j
        · subst e
          rw [e39, ← (hg 39 hj).2, h0]
          exact ⟨⟨by omega, by omega⟩, by rw [Int.emod_self]; exact (Int.zero_emod _).symm⟩
        · rw [getD_set (by omega), if_neg e]
          exact hg j hj
      · walk_at "ST"
        exact ⟨gs, rfl, hgl, h0, hg⟩
    · rintro δ' ⟨gs', rfl, hgl', hg39, hg'⟩
      walk_at "ST"
      refine h gs' (polyB_mk (by omega) (fit_get fun i hi => (hg' i (by omega)).1) (last_get (by omega) (by rw [hgl']; exact hg39))) fun q x hq hmq => ?_
      rw [← hor_pad (40 - fs.length) fs]
      refine hor_cong (by rw [hgl', hbl]) fun i hi => ?_
      rw [hbl] at hi
      rw [hb0, ← Int.emod_emod_of_dvd _ (Int.dvd_of_emod_eq_zero hmq), (hg' i hi).2, Int.emod_emod_of_dvd _ (Int.dvd_of_emod_eq_zero hmq)]
theorem c_vast {fs : List Int} {m : Nat} (hm : 2 ≤ m ∧ m ≤ 10000000000) (hl : fs.length ≤ 40) (hf : ∀ x ∈ fs, Fit x) (k : ∀ gs : List Int, polyB (.list (iL gs)) = true → (∀ q x : Int, 0 < q → (m : Int) % q = 0 → hor q x gs = hor q x fs) → Q (.own (iL gs))) : Cal (sp__law_vast K) 3 [.sto, .dat (.list (iL fs)), .dat (.int m)] Q X := ⟨rfl, fs, m, rfl, hm, hl, hf, k⟩
theorem dep_ints {n : Nat} {ns : List Int} (h : ns.length < 2 ^ 20) : Dep (n + 2) (.list (iL ns)) := .lst (by rw [iL_len]; exact h) dep_iL
end
theorem facM_41 (m : Int) : facM (41 * m) = none := by
  cases h : facM (41 * m) with
  | none => rfl
  | some l =>
    obtain ⟨n, hn, h2, h3, hf⟩ := facM_int h
    obtain ⟨es, hc, he⟩ := facM_es hf
    have hp : Prm 41 := prm_of (by decide) (by decide)
    have hd : 41 ∣ n := by
      have : (41 : Int) ∣ (n : Int) := ⟨m, hn.symm⟩
      exact Int.natCast_dvd_natCast.mp this
    rw [he] at hd
    exact absurd hd (prodE_nd hp PR es prml.p (by decide))
theorem polyB_0 {fs : List Int} : polyB (.list (iL fs ++ [.int 0])) = false := by
  rw [polyB_list]
  have e : lastOk (iL fs ++ [.int 0]) = false := by
    unfold lastOk
    rw [List.getLast?_concat]
    rfl
  rw [e, Bool.and_false, Bool.and_false]
section
variable {K : Fr} {Q : RV → Prop} {X : Addr → Prop} {rs : List RV}
theorem c_copyS {n : Nat} {d : D} {k : Int} (h : Dep n d) (q : Q (.dat d)) (he : ∀ ds, Q (.dat (.list ds)) → Q (.own ds)) : Cal (sp__law_copy n) 2 [.dat d, .dat (.int k)] Q X := c_copy h q fun ds e => he ds (e ▸ q)
theorem polyB_len {fs : List Int} (hp : polyB (.list (iL fs)) = true) : fs.length ≤ 40 := by
  rw [polyB_list, iL_len] at hp
  exact of_decide_eq_true (Bool.and_eq_true_iff.mp hp).1
end
theorem tw_zero : ∀ l : List Int, ∀ x ∈ l.takeWhile fun i : Int => decide (i = 0), x = 0
  | [], x, h => by cases h
  | a :: l, x, h => by
    rw [List.takeWhile_cons] at h
    split at h
    · rename_i ha
      rcases List.mem_cons.mp h with rfl | h
      · exact of_decide_eq_true ha
      · exact tw_zero l x h
    · cases h
theorem dw_head : ∀ l : List Int, ∀ {a : Int} {t : List Int}, l.dropWhile (fun i : Int => decide (i = 0)) = a :: t → a ≠ 0
  | [], _, _, h => by cases h
  | b :: l, a, t, h => by
    rw [List.dropWhile_cons] at h
    split at h
    · exact dw_head l h
    · rename_i hb
      cases h
      exact fun z => hb (decide_eq_true z)
theorem cut_split (ns : List Int) : ∃ j, ns = cutL ns ++ List.replicate j 0 := by
  have h := List.takeWhile_append_dropWhile (p := fun i : Int => decide (i = 0)) (l := ns.reverse)
  have hz : ∀ x ∈ ns.reverse.takeWhile fun i : Int => decide (i = 0), x = 0 := tw_zero ns.reverse
  refine ⟨(ns.reverse.takeWhile fun i : Int => decide (i = 0)).length, ?_⟩
  have e := congrArg List.reverse h
  rw [List.reverse_append, List.reverse_reverse] at e
  rw [← List.eq_replicate_iff.mpr ⟨rfl, hz⟩] 
  have e3 : (ns.reverse.takeWhile fun i : Int => decide (i = 0)).reverse = ns.reverse.takeWhile fun i : Int => decide (i = 0) := by
    rw [List.eq_replicate_iff.mpr ⟨rfl, hz⟩, List.reverse_replicate]
  rw [e3] at e
  exact e.symm
theorem cut_get (ns : List Int) (k : Nat) : (cutL ns).getD k 0 = ns.getD k 0 := by
  obtain ⟨j, e⟩ := cut_split ns
  rw [List.getD_eq_getElem?_getD, List.getD_eq_getElem?_getD]
  by_cases h : k < (cutL ns).length
  · have e2 := congrArg (fun l => l[k]?) e
    rw [e2, List.getElem?_append_left h]
  · rw [List.getElem?_eq_none (by omega), congrArg (fun l => l[k]?) e, List.getElem?_append_right (by omega), List.getElem?_replicate]
    split <;> rfl
theorem cut_last {ns : List Int} {k : Nat} (h : (cutL ns).length = k + 1) : (cutL ns).getD k 0 ≠ 0 := by
  unfold cutL at *
  cases e : ns.reverse.dropWhile fun i : Int => decide (i = 0) with
  | nil => rw [e] at h; cases h
  | cons a l =>
    rw [e] at h
    rw [List.reverse_cons, List.getD_eq_getElem?_getD, List.getElem?_append_right (by rw [List.length_reverse, List.length_cons] at h; rw [List.length_reverse]; omega)]
    rw [List.length_reverse, List.length_cons] at h
    rw [List.length_reverse, show k - l.length = 0 by omega]
    show a ≠ 0
    intro z
    exact dw_head _ e z
theorem cut_ext {a b : List Int} (h : ∀ k, a.getD k 0 = b.getD k 0) : cutL a = cutL b := by
  have hk : ∀ k, (cutL a).getD k 0 = (cutL b).getD k 0 := fun k => by rw [cut_get, cut_get, h k]
  have ge : ∀ {l : List Int} {k : Nat}, l.length ≤ k → l.getD k 0 = 0 := fun {l k} z => by rw [List.getD_eq_getElem?_getD, List.getElem?_eq_none z]; rfl
  have hl : (cutL a).length = (cutL b).length := by
    rcases Nat.lt_trichotomy (cutL a).length (cutL b).length with c | c | c
    · have q := cut_last (ns := b) (k := (cutL b).length - 1) (by omega)
      rw [← hk, ge (by omega)] at q
      exact absurd rfl q
    · exact c
    · have q := cut_last (ns := a) (k := (cutL a).length - 1) (by omega)
      rw [hk, ge (by omega)] at q
      exact absurd rfl q
  refine List.ext_getElem hl fun k h1 h2 => ?_
  have := hk k
  rw [List.getD_eq_getElem?_getD, List.getD_eq_getElem?_getD, List.getElem?_eq_getElem h1, List.getElem?_eq_getElem h2] at this
  exact this
theorem cut_idem (ns : List Int) : cutL (cutL ns) = cutL ns := cut_ext fun k => cut_get ns k
theorem fac_bad : ∀ x ∈ [1, 0, -6, 41, 82, 529, 10000000000, (10000000001 : Int)], facM x = none := by decide +kernel
theorem Dep.mono {n : Nat} {d : D} (h : Dep n d) : ∀ {m : Nat}, n ≤ m → Dep m d := by
  induction h with
  | non => intro m hm; obtain ⟨k, rfl⟩ : ∃ k, m = k + 1 := ⟨m - 1, by omega⟩; exact .non
  | bl b => intro m hm; obtain ⟨k, rfl⟩ : ∃ k, m = k + 1 := ⟨m - 1, by omega⟩; exact .bl b
  | int i => intro m hm; obtain ⟨k, rfl⟩ : ∃ k, m = k + 1 := ⟨m - 1, by omega⟩; exact .int i
  | str x => intro m hm; obtain ⟨k, rfl⟩ : ∃ k, m = k + 1 := ⟨m - 1, by omega⟩; exact .str x
  | lst hl _ ih => intro m hm; obtain ⟨k, rfl⟩ : ∃ k, m = k + 1 := ⟨m - 1, by omega⟩; exact .lst hl fun d hd => ih d hd (by omega)
  | tup hl _ ih => intro m hm; obtain ⟨k, rfl⟩ : ∃ k, m = k + 1 := ⟨m - 1, by omega⟩; exact .tup hl fun d hd => ih d hd (by omega)
theorem dL_nil {n : Nat} : ∀ d ∈ ([] : List D), Dep n d := fun d hd => by cases hd
theorem dL_cons {n : Nat} {a : D} {b : List D} (h1 : Dep n a) (h2 : ∀ d ∈ b, Dep n d) : ∀ d ∈ a :: b, Dep n d := fun d hd => (List.mem_cons.mp hd).elim (fun e => e ▸ h1) (h2 d)
theorem dep_set {n k : Nat} {ds : List D} {e : D} (h : ∀ d ∈ ds, Dep n d) (he : Dep n e) : ∀ d ∈ ds.set k e, Dep n d := fun d hd => by
  rcases List.mem_or_eq_of_mem_set hd with hd | rfl
  · exact h d hd
  · exact he
section
variable {K : Fr} {Q : RV → Prop} {X : Addr → Prop} {rs : List RV}
theorem c_kindbent {n k dp : Nat} {d : D} (h : dp < n) (hd : Dep (k + 1) d) (q : ∀ d', Dep (k + 4) d' → Q (.dat d') ∧ ∀ ds, d' = .list ds → Q (.own ds)) : Cal (sp__law_kindbent n) 3 [.sto, .dat d, .dat (.int (dp : Nat))] Q X := ⟨rfl, d, k, dp, rfl, h, hd, q⟩
theorem l__law_kindbent (n : Nat) (h : sp__law_kindbent (n + 1) rs Q X) : d__law_kindbent K (sp__law_kindbent n) (endD Q X) (startD ["store", "paper", "deep", "entries", "at"] rs) := by
  obtain ⟨d, k, dp, rfl, hdp, hd, h⟩ := h
  have hQ : ∀ d', Dep (k + 4) d' → Q (.dat d') := fun d' hd' => (h d' hd').1
  have hO : ∀ ds, Dep (k + 4) (.list ds) → Q (.own ds) := fun ds hd' => (h _ hd').2 ds rfl
  cases hd with
  | int i =>
    ((conv => whnf); repeat (first | (refine Br.t ?_; conv => whnf) | (refine Br.f ?_; conv => whnf)))
    iterate 2
      refine ⟨(szLine (by first | exact (by decide : (0 : Nat) < 2 ^ 20) | exact (by decide : (1 : Nat) < 2 ^ 20) | exact (by decide : (2 : Nat) < 2 ^ 20) | exact (by decide : (3 : Nat) < 2 ^ 20) | exact (by decide : (9 : Nat) < 2 ^ 20) | exact (by decide : (10 : Nat) < 2 ^ 20) | omega | (simp only [List.length_append, List.length_map, List.length_cons, List.length_nil]; omega))), ?_⟩
      ((conv => whnf); repeat (first | (refine Br.t ?_; conv => whnf) | (refine Br.f ?_; conv => whnf)))
    refine ⟨szLine (show 6 < 2 ^ 20 by decide), ?_⟩
    ((conv => whnf); repeat (first | (refine Br.t ?_; conv => whnf) | (refine Br.f ?_; conv => whnf)))
    refine c_pick (fun z => nomatch z) (show 6 < 2 ^ 62 by decide) fun d hd => ?_
    have key : ∀ b : Bool, ∀ d ∈ [PyData.bool b, .bool b, .none, .str "1", .list [.int i], .tuple [.int i]], Dep (k + 4) d := fun b => dL_cons (.bl _) (dL_cons (.bl _) (dL_cons .non (dL_cons (.str _) (dL_cons (.lst (by show 1 < 2 ^ 20; decide) (dL_cons (.int _) dL_nil)) (dL_cons (.tup (by show 1 < 2 ^ 20; decide) (dL_cons (.int _) dL_nil)) dL_nil)))))
    ((conv => whnf); repeat (first | (refine Br.t ?_; conv => whnf) | (refine Br.f ?_; conv => whnf)))
    exact hQ d (key _ d hd)
  | @lst _ ds hl hn =>
    have other : Dep (k + 4) (.tuple ds) := .tup hl fun d hd => (hn d hd).mono (by omega)
    ((conv => whnf); repeat (first | (refine Br.t ?_; conv => whnf) | (refine Br.f ?_; conv => whnf)))
    refine Br.dec (fun hd0 => ?_) (fun _ => ?_)
    · ((conv => whnf); repeat (first | (refine Br.t ?_; conv => whnf) | (refine Br.f ?_; conv => whnf)))
      refine Br.dec (fun hl0 => ?_) (fun _ => ?_)
      · ((conv => whnf); repeat (first | (refine Br.t ?_; conv => whnf) | (refine Br.f ?_; conv => whnf)))
        refine c_take (by decide) fun t0 h1 h2 => ?_
        ((conv => whnf); repeat (first | (refine Br.t ?_; conv => whnf) | (refine Br.f ?_; conv => whnf)))
        refine Br.dec (fun _ => ?_) (fun _ => ?_)
        · ((conv => whnf); repeat (first | (refine Br.t ?_; conv => whnf) | (refine Br.f ?_; conv => whnf)))
          refine c_take (by omega) fun t h3 h4 => ?_
          have ht : t < ds.length := by omega
          ((conv => whnf); repeat (first | (refine Br.t ?_; conv => whnf) | (refine Br.f ?_; conv => whnf)))
          refine ⟨_, atI_nat h3 ht, ?_⟩
          have hm := hn _ (List.getElem_mem (show t.toNat < ds.length by omega))
          generalize ds[t.toNat]'(by omega) = e at hm
          ((conv => whnf); repeat (first | (refine Br.t ?_; conv => whnf) | (refine Br.f ?_; conv => whnf)))
          obtain ⟨k', rfl⟩ : ∃ k', k = k' + 1 := by
            cases k with
            | zero => cases hm
            | succ k' => exact ⟨k', rfl⟩
          rw [show ((dp : Int) - 1) = ((dp - 1 : Nat) : Int) by omega]
          refine c_kindbent (k := k') (by omega) hm fun d' hd' => ?_
          have fin : Dep (k' + 1 + 4) (.list (ds.set t.toNat d')) := .lst (by rw [List.length_set]; exact hl) (dep_set (fun d hd => (hn d hd).mono (by omega)) hd')
          refine ⟨?_, fun es ee => ?_⟩
          · ((conv => whnf); repeat (first | (refine Br.t ?_; conv => whnf) | (refine Br.f ?_; conv => whnf)))
            refine ⟨_, ixN_nat h3 ht, ?_⟩
            ((conv => whnf); repeat (first | (refine Br.t ?_; conv => whnf) | (refine Br.f ?_; conv => whnf)))
            exact hO _ fin
          · ((conv => whnf); repeat (first | (refine Br.t ?_; conv => whnf) | (refine Br.f ?_; conv => whnf)))
            refine ⟨_, ixN_nat h3 ht, ?_⟩
            rw [← ee]
            ((conv => whnf); repeat (first | (refine Br.t ?_; conv => whnf) | (refine Br.f ?_; conv => whnf)))
            exact hO _ fin
        · ((conv => whnf); repeat (first | (refine Br.t ?_; conv => whnf) | (refine Br.f ?_; conv => whnf)))
          exact hQ _ other
      · ((conv => whnf); repeat (first | (refine Br.t ?_; conv => whnf) | (refine Br.f ?_; conv => whnf)))
        exact hQ _ other
    · ((conv => whnf); repeat (first | (refine Br.t ?_; conv => whnf) | (refine Br.f ?_; conv => whnf)))
      exact hQ _ other
  | @tup _ ds hl hn =>
    have other : Dep (k + 4) (.list ds) := .lst hl fun d hd => (hn d hd).mono (by omega)
    ((conv => whnf); repeat (first | (refine Br.t ?_; conv => whnf) | (refine Br.f ?_; conv => whnf)))
    refine Br.dec (fun hd0 => ?_) (fun _ => ?_)
    · ((conv => whnf); repeat (first | (refine Br.t ?_; conv => whnf) | (refine Br.f ?_; conv => whnf)))
      refine Br.dec (fun hl0 => ?_) (fun _ => ?_)
      · ((conv => whnf); repeat (first | (refine Br.t ?_; conv => whnf) | (refine Br.f ?_; conv => whnf)))
        refine c_take (by decide) fun t0 h1 h2 => ?_
        ((conv => whnf); repeat (first | (refine Br.t ?_; conv => whnf) | (refine Br.f ?_; conv => whnf)))
        refine Br.dec (fun _ => ?_) (fun _ => ?_)
        · ((conv => whnf); repeat (first | (refine Br.t ?_; conv => whnf) | (refine Br.f ?_; conv => whnf)))
          refine c_take (by omega) fun t h3 h4 => ?_
          have ht : t < ds.length := by omega
          ((conv => whnf); repeat (first | (refine Br.t ?_; conv => whnf) | (refine Br.f ?_; conv => whnf)))
          refine ⟨_, atI_nat h3 ht, ?_⟩
          have hm := hn _ (List.getElem_mem (show t.toNat < ds.length by omega))
          generalize ds[t.toNat]'(by omega) = e at hm
          ((conv => whnf); repeat (first | (refine Br.t ?_; conv => whnf) | (refine Br.f ?_; conv => whnf)))
          obtain ⟨k', rfl⟩ : ∃ k', k = k' + 1 := by
            cases k with
            | zero => cases hm
            | succ k' => exact ⟨k', rfl⟩
          rw [show ((dp : Int) - 1) = ((dp - 1 : Nat) : Int) by omega]
          refine c_kindbent (k := k') (by omega) hm fun d' hd' => ?_
          have fin : Dep (k' + 1 + 4) (.tuple (ds.set t.toNat d')) := .tup (by rw [List.length_set]; exact hl) (dep_set (fun d hd => (hn d hd).mono (by omega)) hd')
          refine ⟨?_, fun es ee => ?_⟩
          · ((conv => whnf); repeat (first | (refine Br.t ?_; conv => whnf) | (refine Br.f ?_; conv => whnf)))
            refine ⟨_, ixN_nat h3 ht, ?_⟩
            ((conv => whnf); repeat (first | (refine Br.t ?_; conv => whnf) | (refine Br.f ?_; conv => whnf)))
            exact hQ _ fin
          · ((conv => whnf); repeat (first | (refine Br.t ?_; conv => whnf) | (refine Br.f ?_; conv => whnf)))
            refine ⟨_, ixN_nat h3 ht, ?_⟩
            rw [← ee]
            ((conv => whnf); repeat (first | (refine Br.t ?_; conv => whnf) | (refine Br.f ?_; conv => whnf)))
            exact hQ _ fin
        · ((conv => whnf); repeat (first | (refine Br.t ?_; conv => whnf) | (refine Br.f ?_; conv => whnf)))
          exact hO _ other
      · ((conv => whnf); repeat (first | (refine Br.t ?_; conv => whnf) | (refine Br.f ?_; conv => whnf)))
        exact hO _ other
    · ((conv => whnf); repeat (first | (refine Br.t ?_; conv => whnf) | (refine Br.f ?_; conv => whnf)))
      exact hO _ other
  | _ =>
    ((conv => whnf); repeat (first | (refine Br.t ?_; conv => whnf) | (refine Br.f ?_; conv => whnf)))
    exact hQ _ (.int _)
end
end RB

set_option Elab.async false
set_option linter.all false
set_option maxRecDepth 100000
set_option maxHeartbeats 8000000
/-! X1: rings by prime powers, papers as plain data -/
namespace RB
open PySem PySem.Spec PyProof.Rows L2
theorem least_ex {P : Nat → Prop} (n : Nat) : P n → ∃ k, k ≤ n ∧ P k ∧ ∀ j < k, ¬ P j := by
  induction n using Nat.strongRecOn with
  | _ n ih =>
    intro h
    by_cases g : ∃ j, j < n ∧ P j
    · obtain ⟨j, hj, pj⟩ := g
      obtain ⟨k, a, b, c⟩ := ih j hj pj
      exact ⟨k, by omega, b, c⟩
    · exact ⟨n, Nat.le_refl _, h, fun j hj pj => g ⟨j, hj, pj⟩⟩
theorem per_cover {fs : List Int} {m : Nat} (hm : 0 < m) (h : Per (upF fs m) 0 m) {v : Int} (hv : 0 ≤ v ∧ v < m) : ∃ k, iter (upF fs m) k 0 = v := by
  by_cases g : v ∈ orb (upF fs m) 0 m
  · obtain ⟨k, _, e⟩ := orb_mem.mp g
    exact ⟨k, e⟩
  · have := pigeonI (m := m) (List.nodup_cons.mpr ⟨g, orb_nodup h⟩) (fun x hx => by
      rcases List.mem_cons.mp hx with rfl | hx
      · exact hv
      · exact orb_res hm m x hx)
    rw [List.length_cons, orb_len] at this
    omega
theorem per_down {fs : List Int} {m q : Nat} (hq : 0 < q) (hd : q ∣ m) (h : Per (upF fs m) 0 m) : Per (upF fs q) 0 q := by
  have hm := h.n0
  have hr : iter (upF fs q) m 0 = 0 := by
    rw [← iter_down hd, h.ret]
    exact Int.zero_emod _
  obtain ⟨n, hn, ⟨n0, en⟩, hmin⟩ := least_ex (P := fun n => 0 < n ∧ iter (upF fs q) n 0 = 0) m ⟨hm, hr⟩
  have hP : Per (upF fs q) 0 n := ⟨n0, en, fun k k0 k1 e => hmin k k1 ⟨k0, e⟩⟩
  have h1 : n ≤ q := by
    have := pigeonI (orb_nodup hP) (orb_res hq n)
    rwa [orb_len] at this
  have hf : ∃ f : Nat → Nat, ∀ v < q, f v < n ∧ iter (upF fs q) (f v) 0 = (v : Nat) := by
    have hc : ∀ v : Nat, v < q → ∃ k, k < n ∧ iter (upF fs q) k 0 = (v : Nat) := fun v hv => by
      have hv2 : v < m := Nat.lt_of_lt_of_le hv (Nat.le_of_dvd hm hd)
      obtain ⟨k, hk⟩ := per_cover hm h (v := (v : Nat)) ⟨by omega, by omega⟩
      refine ⟨k % n, Nat.mod_lt _ n0, ?_⟩
      rw [← iter_mod en, ← iter_down hd, hk]
      exact Int.emod_eq_of_lt (by omega) (by omega)
    exact ⟨fun v => if g : v < q then (hc v g).choose else 0, fun v hv => by
      have e : (if g : v < q then (hc v g).choose else 0) = (hc v hv).choose := dif_pos hv
      show (if g : v < q then (hc v g).choose else 0) < n ∧ iter (upF fs q) (if g : v < q then (hc v g).choose else 0) 0 = (v : Nat)
      rw [e]
      exact (hc v hv).choose_spec⟩
  obtain ⟨f, hf⟩ := hf
  have hnd : ((List.range q).map fun v => ((f v : Nat) : Int)).Nodup := List.pairwise_map.mpr (List.Pairwise.imp_of_mem (R := fun i j => i < j) (fun {a b} ma mb hab e => by
    have ha := (hf a (List.mem_range.mp ma)).2
    have hb := (hf b (List.mem_range.mp mb)).2
    have e : f a = f b := by omega
    rw [e, hb] at ha
    omega) List.pairwise_lt_range)
  have h2 := pigeonI (m := n) hnd (fun x hx => by
    obtain ⟨v, hv, rfl⟩ := List.mem_map.mp hx
    have := (hf v (List.mem_range.mp hv)).1
    exact ⟨by omega, by omega⟩)
  rw [List.length_map, List.length_range] at h2
  have e : n = q := by omega
  rw [e] at hP
  exact hP
theorem brk_zero {fs : List Int} {p k : Nat} (hp : 0 < p) (k0 : 0 < k) (k3 : k ≤ 3) : brk fs p k = 0 ↔ goB fs (p ^ k) = true := by
  have down : ∀ j, j ≤ k → goB fs (p ^ k) = true → goB fs (p ^ j) = true := fun j hj h => (goB_iff (Nat.pow_pos hp)).mpr (per_down (Nat.pow_pos hp) (Nat.pow_dvd_pow p hj) ((goB_iff (Nat.pow_pos hp)).mp h))
  constructor
  · intro b
    rcases brk_case fs p k k0 k3 with ⟨c, _⟩ | ⟨c, _⟩ | ⟨c, _⟩ | ⟨_, g, g2, g3⟩
    · omega
    · omega
    · omega
    · have : k = 1 ∨ k = 2 ∨ k = 3 := by omega
      rcases this with rfl | rfl | rfl
      · rw [Nat.pow_one]
        exact g
      · exact g2 (by omega)
      · exact g3 (by omega)
  · intro h
    rcases brk_case fs p k k0 k3 with ⟨_, g⟩ | ⟨_, _, g, hk⟩ | ⟨_, _, _, g, hk⟩ | ⟨b, _⟩
    · have := down 1 (by omega) h
      rw [Nat.pow_one, g] at this
      cases this
    · have := down 2 (by omega) h
      rw [g] at this
      cases this
    · have := down 3 (by omega) h
      rw [g] at this
      cases this
    · exact b
theorem eqP_iff : ∀ {ds : List D} {ns : List Int}, eqP ds ns = true ↔ ds = iL ns
  | [], [] => ⟨fun _ => rfl, fun _ => rfl⟩
  | [], n :: ns => ⟨fun h => (by simp [eqP] at h), fun h => by cases h⟩
  | d :: ds, [] => ⟨fun h => (by simp [eqP] at h), fun h => by cases h⟩
  | d :: ds, n :: ns => by
    constructor
    · intro h
      cases d with
      | int x =>
        have h : (decide (x = n) && eqP ds ns) = true := h
        rw [Bool.and_eq_true] at h
        rw [of_decide_eq_true h.1, eqP_iff.mp h.2]
        rfl
      | _ => simp [eqP] at h
    · intro h
      have h : d :: ds = .int n :: iL ns := h
      injection h with h1 h2
      subst h1 h2
      show (decide (n = n) && eqP (iL ns) ns) = true
      rw [decide_eq_true rfl, eqP_iff.mpr rfl]
      rfl
theorem eqE_iff {d : D} {a b : Int} {ns : List Int} {c : Int} : eqE d a b ns c = true ↔ d = .tuple [.int a, .int b, .list (iL ns), .int c] := by
  constructor
  · intro h
    unfold eqE at h
    split at h
    · rw [Bool.and_eq_true] at h
      have h1 := eqP_iff.mp h.1
      have h2 := eqP_iff.mp h.2
      injection h2 with e1 h2
      injection h2 with e2 h2
      injection h2 with e3 _
      rw [h1, e1, e2, e3]
    · cases h
  · rintro rfl
    show (eqP (iL ns) ns && eqP (iL [a, b, c]) [a, b, c]) = true
    rw [eqP_iff.mpr rfl, eqP_iff.mpr rfl]
    rfl
theorem eqEnt_iff {fs : List Int} {p k : Nat} {d : D} : eqEnt fs p k d = true ↔ d = entD fs p k := eqE_iff
theorem papB_iff {fs : List Int} : ∀ {l : List (Nat × Nat)} {ds : List D}, papB fs l ds = true ↔ ds = papL fs l ∧ ∀ q ∈ l, brk fs q.1 (capK q.1 q.2) = 0
  | [], [] => ⟨fun _ => ⟨rfl, fun q hq => by cases hq⟩, fun _ => rfl⟩
  | [], d :: ds => ⟨fun h => by simp [papB] at h, fun h => by cases h.1⟩
  | q :: l, [] => ⟨fun h => by simp [papB] at h, fun h => by cases h.1⟩
  | q :: l, d :: ds => by
    have e : papB fs (q :: l) (d :: ds) = ((eqEnt fs q.1 (capK q.1 q.2) d && decide (brk fs q.1 (capK q.1 q.2) = 0)) && papB fs l ds) := by rw [papB]
    rw [e, Bool.and_eq_true, Bool.and_eq_true, eqEnt_iff, decide_eq_true_iff, papB_iff (l := l)]
    constructor
    · rintro ⟨⟨rfl, h2⟩, rfl, h3⟩
      refine ⟨rfl, fun r hr => ?_⟩
      rcases List.mem_cons.mp hr with rfl | hr
      · exact h2
      · exact h3 r hr
    · rintro ⟨h1, h2⟩
      have h1 : d :: ds = entD fs q.1 (capK q.1 q.2) :: papL fs l := h1
      injection h1 with h3 h4
      exact ⟨⟨h3, h2 q List.mem_cons_self⟩, h4, fun r hr => h2 r (List.mem_cons_of_mem _ hr)⟩
theorem showB_iff {fs : List Int} {l : List (Nat × Nat)} {d : D} : showB fs l d = true ↔ d = .list (papL fs l) ∧ ∀ q ∈ l, brk fs q.1 (capK q.1 q.2) = 0 := by
  unfold showB
  split
  · rename_i ds
    rw [papB_iff]
    constructor
    · rintro ⟨rfl, h⟩
      exact ⟨rfl, h⟩
    · rintro ⟨h1, h⟩
      exact ⟨PyData.list.inj h1, h⟩
  · rename_i h
    constructor
    · intro z
      cases z
    · rintro ⟨rfl, _⟩
      exact absurd rfl (h _)
theorem all_same {n : Nat} {xs ys : List D} (ih : ∀ x ∈ xs, ∀ y ∈ ys, (sameB n x y = true ↔ x = y)) : (decide (xs.length = ys.length) && (List.range ys.length).all fun i => sameB n (xs.getD i .none) (ys.getD i .none)) = true ↔ xs = ys := by
  rw [Bool.and_eq_true, decide_eq_true_iff, List.all_eq_true]
  have key : ∀ i, (h1 : i < xs.length) → (h2 : i < ys.length) → (sameB n (xs.getD i .none) (ys.getD i .none) = true ↔ xs[i] = ys[i]) := fun i h1 h2 => by
    rw [List.getD_eq_getElem?_getD, List.getD_eq_getElem?_getD, List.getElem?_eq_getElem h1, List.getElem?_eq_getElem h2]
    exact ih _ (List.getElem_mem h1) _ (List.getElem_mem h2)
  constructor
  · rintro ⟨hl, h⟩
    exact List.ext_getElem hl fun i h1 h2 => (key i h1 h2).mp (h i (List.mem_range.mpr h2))
  · rintro rfl
    exact ⟨rfl, fun i hi => (key i (List.mem_range.mp hi) (List.mem_range.mp hi)).mpr rfl⟩
theorem sameB_iff : ∀ {n : Nat} {a b : D}, Dep n a → Dep n b → (sameB n a b = true ↔ a = b)
  | n + 1, a, b, ha, hb => by
    cases ha with
    | non => cases hb <;> first | exact ⟨fun _ => rfl, fun _ => rfl⟩ | exact ⟨fun h => (by cases h), fun h => by cases h⟩
    | bl x => cases hb <;> first | exact ⟨fun h => (by rw [of_decide_eq_true h]), fun h => decide_eq_true (PyData.bool.inj h)⟩ | exact ⟨fun h => (by cases h), fun h => by cases h⟩
    | int x => cases hb <;> first | exact ⟨fun h => (by rw [of_decide_eq_true h]), fun h => decide_eq_true (PyData.int.inj h)⟩ | exact ⟨fun h => (by cases h), fun h => by cases h⟩
    | str x => cases hb <;> first | exact ⟨fun h => (by rw [of_decide_eq_true h]), fun h => decide_eq_true (PyData.str.inj h)⟩ | exact ⟨fun h => (by cases h), fun h => by cases h⟩
    | lst l1 h1 =>
      cases hb with
      | lst l2 h2 => exact (all_same fun x hx y hy => sameB_iff (h1 x hx) (h2 y hy)).trans ⟨fun e => by rw [e], fun e => PyData.list.inj e⟩
      | _ => exact ⟨fun h => (by cases h), fun h => by cases h⟩
    | tup l1 h1 =>
      cases hb with
      | tup l2 h2 => exact (all_same fun x hx y hy => sameB_iff (h1 x hx) (h2 y hy)).trans ⟨fun e => by rw [e], fun e => PyData.tuple.inj e⟩
      | _ => exact ⟨fun h => (by cases h), fun h => by cases h⟩
end RB

set_option Elab.async false
set_option linter.all false
set_option maxRecDepth 100000
set_option maxHeartbeats 8000000
/-! X2: patched, the same, a cycle, linear rings -/
namespace RB
open PySem PySem.Spec PyProof.Rows L2
local macro_rules | `(tactic| walk_at "ST") => `(tactic| ((conv => whnf); repeat (first | (refine Br.t ?_; conv => whnf) | (refine Br.f ?_; conv => whnf))))
local macro_rules | `(tactic| walk_at "SZ") => `(tactic| first | decide | omega | (simp only [List.length_append, List.length_map, List.length_cons, List.length_nil]; done) | (simp only [List.length_append, List.length_map, List.length_cons, List.length_nil]; omega))
local macro_rules | `(tactic| walk_at "G1") => `(tactic| first | refine And.intro (szLine (by walk_at "SZ")) ?_ | refine And.intro (mulR (by decide) (by decide)) ?_ | refine And.intro (mulL (by decide) (by decide)) ?_ | refine And.intro (divOk (by decide) (by decide)) ?_ | refine And.intro (show PowOk _ _ from ⟨by decide, by decide⟩) ?_ | refine And.intro (by decide) ?_ | refine And.intro rfl ?_ | refine Exists.intro _ (And.intro rfl ?_))
local macro_rules | `(tactic| walk_at "DP") => `(tactic| repeat (first | assumption | exact Dep.non | exact Dep.bl _ | exact Dep.int _ | exact Dep.str _ | exact dL_nil | refine dL_cons ?_ ?_ | refine Dep.lst (by walk_at "SZ") ?_ | refine Dep.tup (by walk_at "SZ") ?_))
local macro_rules | `(tactic| walk_at "GO") => `(tactic| ((walk_at "ST"); repeat ((walk_at "G1"); (walk_at "ST"))))
theorem pad_get (fs : List Int) (k i : Nat) : (fs ++ List.replicate k 0).getD i 0 = fs.getD i 0 := by
  rw [List.getD_eq_getElem?_getD, List.getD_eq_getElem?_getD]
  rcases Nat.lt_or_ge i fs.length with h | h
  · rw [List.getElem?_append_left h]
  · rw [List.getElem?_append_right h, List.getElem?_replicate, List.getElem?_eq_none h]
    split <;> rfl
theorem snoc_get (ns : List Int) (r : Int) (j : Nat) : (ns ++ [r]).getD j 0 = if j < ns.length then ns.getD j 0 else if j = ns.length then r else 0 := by
  rw [List.getD_eq_getElem?_getD, List.getD_eq_getElem?_getD]
  rcases Nat.lt_trichotomy j ns.length with h | h | h
  · rw [List.getElem?_append_left h, if_pos h]
  · rw [List.getElem?_append_right (by omega), if_neg (by omega), if_pos h, h, Nat.sub_self]
    rfl
  · rw [List.getElem?_append_right (by omega), if_neg (by omega), if_neg (by omega), List.getElem?_eq_none (by show 1 ≤ _; omega)]
    rfl
def prt (i : Nat) (q : List Int × Nat) : Int × Nat := (q.1.getD i 0, q.2)
theorem getD_out {ns : List Int} {i : Nat} (h : ns.length ≤ i) : ns.getD i 0 = 0 := by
  rw [List.getD_eq_getElem?_getD, List.getElem?_eq_none h]
  rfl
theorem rng_iL (lo : Int) (n : Nat) : rngD lo n = iL ((List.range n).map fun i : Nat => lo + (i : Nat)) := by
  unfold rngD iL
  rw [List.map_map]
  rfl
theorem same_f {n : Nat} {xs ys : List D} {i : Nat} (hi : i < ys.length) (z : sameB n (xs.getD i .none) (ys.getD i .none) = false) : (decide (xs.length = ys.length) && (List.range ys.length).all fun i => sameB n (xs.getD i .none) (ys.getD i .none)) = false := by
  rw [Bool.and_eq_false_iff]
  right
  rw [List.all_eq_false]
  exact ⟨i, List.mem_range.mpr hi, fun w => by
    have w : sameB n (xs.getD i .none) (ys.getD i .none) = true := w
    rw [z] at w
    cases w⟩
theorem same_t {n : Nat} {xs ys : List D} (e : xs.length = ys.length) (h : ∀ j, j < ys.length → sameB n (xs.getD j .none) (ys.getD j .none) = true) : (decide (xs.length = ys.length) && (List.range ys.length).all fun i => sameB n (xs.getD i .none) (ys.getD i .none)) = true := by
  rw [decide_eq_true e, Bool.true_and, List.all_eq_true]
  exact fun j hj => h j (List.mem_range.mp hj)
theorem at_get {ds : List D} {i : Nat} (h : i < ds.length) : L2.atI ds ((0 : Int) + (i : Nat)) = some (ds.getD i .none) := by
  rw [at_nat h, List.getD_eq_getElem?_getD, List.getElem?_eq_getElem h]
  rfl
theorem getD_dep {n : Nat} {ds : List D} (h : ∀ d ∈ ds, Dep n d) {i : Nat} (hi : i < ds.length) : Dep n (ds.getD i .none) := by
  rw [List.getD_eq_getElem?_getD, List.getElem?_eq_getElem hi]
  exact h _ (List.getElem_mem hi)
section
variable {K : Fr} {Q : RV → Prop} {X : Addr → Prop} {rs : List RV}
theorem l__law_patched (h : sp__law_patched K rs Q X) : d__law_patched K (endD Q X) (startD ["parts", "size", "entries", "i", "f", "q", "conditions"] rs) := by
  obtain ⟨ps, rfl, hl, hp, hpr, hcop, h⟩ := h
  walk_at "ST"
  refine ⟨fun i δ => ∃ (s : Nat) (a b : Sl), δ = [.dat (.list (ps.map ptD)), .dat (.int s), .no, .no, a, b, .no] ∧ s ≤ 40 ∧ ∀ q ∈ ps.take i, q.1.length ≤ s, ⟨0, _, _, rfl, by omega, fun q hq => (nomatch hq)⟩, ?_, ?_⟩
  · rintro i d δ hd ⟨s, a, b, rfl, hs, hz⟩
    obtain ⟨q, hq, rfl⟩ := ptD_at hd
    obtain ⟨q1, _⟩ := hp q (List.mem_of_getElem? hq)
    walk_at "GO"
    rw [iL_len]
    have e : (if (q.1.length : Int) > (s : Int) then (q.1.length : Int) else (s : Int)) = ((if q.1.length > s then q.1.length else s : Nat) : Int) := by
      by_cases hc : q.1.length > s
      · rw [if_pos hc, if_pos (by omega)]
      · rw [if_neg hc, if_neg (by omega)]
    dsimp only
    rw [e]
    refine ⟨_, _, _, rfl, by split <;> omega, fun r hr => ?_⟩
    rw [List.take_add_one, hq] at hr
    rcases List.mem_append.mp hr with hr | hr
    · have := hz r hr
      split <;> omega
    · rw [List.mem_singleton.mp hr]
      split <;> omega
  rintro δ ⟨s, a, b, hδ, hs, hz⟩
  rw [List.length_map, List.take_length] at hz
  subst hδ
  walk_at "GO"
  refine ⟨⟨by omega, by omega⟩, ?_⟩
  walk_at "ST"
  refine ⟨fun i δ => ∃ (ns : List Int) (w a b c : Sl), δ = [.dat (.list (ps.map ptD)), .dat (.int s), .own (iL ns), w, a, b, c] ∧ ns.length = i ∧ (∀ x ∈ ns, 0 ≤ x ∧ x ≤ 10 ^ 14) ∧ ∀ q ∈ ps, ∀ j < ns.length, ns.getD j 0 % (q.2 : Int) = q.1.getD j 0 % (q.2 : Int), ⟨[], _, _, _, _, rfl, rfl, (fun _ z => nomatch z), fun q _ j hj => absurd hj (Nat.not_lt_zero j)⟩, ?_, ?_⟩
  · rintro i d δ hd ⟨ns, w, a, b, c, rfl, hnl, hn, hres⟩
    obtain ⟨hi, rfl⟩ := rngD_get hd
    have hi : i < s := by omega
    rw [Int.zero_add]
    walk_at "GO"
    refine ⟨fun j δ => ∃ (a b : Sl), δ = [.dat (.list (ps.map ptD)), .dat (.int s), .own (iL ns), .dat (.int i), a, b, .own (((ps.take j).map (prt i)).map cnD)], ⟨_, _, rfl⟩, ?_, ?_⟩
    · rintro j d δ hd ⟨a, b, rfl⟩
      obtain ⟨q, hq, rfl⟩ := ptD_at hd
      have hj : j < ps.length := (List.getElem?_eq_some_iff.mp hq).1
      have hcl : (ps.take j).length ≤ 12 := by
        rw [List.length_take]
        omega
      have app : ∀ v : Int, v = q.1.getD i 0 → ((ps.take j).map (prt i)).map cnD ++ [PyData.tuple [.int v, .int q.2]] = ((ps.take (j + 1)).map (prt i)).map cnD := fun v hv => by
        rw [List.take_add_one, hq, List.map_append, List.map_append, hv]
        rfl
      walk_at "GO"
      rw [iL_len]
      refine Br.dec (fun h1 => ?_) (fun h1 => ?_)
      · walk_at "ST"
        refine ⟨_, atI_iL (by omega) (by omega), ?_⟩
        walk_at "GO"
        exact ⟨_, _, by rw [← app _ rfl]; rfl⟩
      · have h1 : ¬ (i : Int) < (q.1.length : Int) := h1
        walk_at "GO"
        exact ⟨_, _, by rw [← app 0 (getD_out (by omega)).symm]; rfl⟩
    rintro δ ⟨a, b, hδ⟩
    rw [List.length_map, List.take_length] at hδ
    subst hδ
    have h2 : (ps.map (prt i)).map (·.2) = ps.map (·.2) := by
      rw [List.map_map]
      rfl
    walk_at "ST"
    refine ⟨rfl, ps.map (prt i), rfl, by rw [List.length_map]; omega, fun c hc => ?_, by rw [h2]; exact hpr, fun r r0 r1 hr => ?_⟩
    · obtain ⟨q, hq, rfl⟩ := List.mem_map.mp hc
      exact (hp q hq).2
    · rw [h2] at r1
      have hr2 := hr (fun k hk => by
        rw [h2]
        rw [List.length_map] at hk
        exact hcop k hk)
      walk_at "GO"
      refine ⟨ns ++ [r], _, _, _, _, by rw [← iL_append]; rfl, by rw [List.length_append, hnl]; rfl, fun x hx => ?_, fun q hq j hj => ?_⟩
      · rcases List.mem_append.mp hx with hx | hx
        · exact hn x hx
        · rw [List.mem_singleton.mp hx]; omega
      · rw [List.length_append] at hj
        have hj : j < ns.length + 1 := hj
        rw [snoc_get]
        by_cases g : j < ns.length
        · rw [if_pos g]
          exact hres q hq j g
        · rw [if_neg g, if_pos (by omega)]
          have := hr2 (prt i q) (List.mem_map.mpr ⟨q, hq, rfl⟩)
          have this : (r - q.1.getD i 0) % (q.2 : Int) = 0 := this
          rw [show j = i by omega]
          exact Int.emod_eq_emod_iff_emod_sub_eq_zero.mpr this
  · rintro δ ⟨ns, w, a, b, c, rfl, hnl, hn, hres⟩
    rw [rngD_length, Int.toNat_natCast] at hnl
    walk_at "ST"
    refine c_lcut (ns := ns) (by omega) ?_
    refine h _ (Nat.le_trans (cutL_len ns) (by omega)) (fun x hx => hn x (cutL_mem hx)) (cut_idem ns) fun q hq x => ?_
    rw [hor_cut]
    have hql := hz q hq
    rw [← hor_pad (s - q.1.length) q.1]
    refine hor_cong (by rw [List.length_append, List.length_replicate]; omega) fun j hj => ?_
    rw [List.length_append, List.length_replicate] at hj
    rw [pad_get]
    exact hres q hq j (by omega)
theorem c_same {n : Nat} {a b : D} (ha : Dep n a) (hb : Dep n b) (q : Q (.dat (.bool (sameB n a b)))) : Cal (sp__law_same n) 2 [.dat a, .dat b] Q X := ⟨rfl, a, b, rfl, ha, hb, q⟩
theorem l__law_same (n : Nat) (h : sp__law_same (n + 1) rs Q X) : d__law_same K (sp__law_same n) (endD Q X) (startD ["actual", "due", "i", "key"] rs) := by
  obtain ⟨a, b, rfl, ha, hb, h⟩ := h
  cases hb with
  | non =>
    cases ha <;>
    · walk_at "ST"
      refine ⟨fun δ' => False, ?_, fun δ' z => z.elim⟩
      walk_at "ST"
      exact h
  | bl y =>
    cases ha with
    | bl x =>
      walk_at "ST"
      cases x <;> cases y <;> exact ⟨⟨rfl, rfl⟩, h⟩
    | _ =>
      walk_at "ST"
      exact h
  | int y =>
    cases ha <;>
    · walk_at "ST"
      exact h
  | str y =>
    cases ha <;>
    · walk_at "ST"
      exact h
  | @lst _ ys hyl hyn =>
    cases ha with
    | @lst _ xs hxl hxn =>
      have h : Q (.dat (.bool (decide (xs.length = ys.length) && (List.range ys.length).all fun i => sameB n (xs.getD i .none) (ys.getD i .none)))) := h
      walk_at "ST"
      refine ⟨fun δ' => δ' = [.dat (.list xs), .dat (.list ys), .no, .no], ?_, ?_⟩
      · walk_at "ST"
        rfl
      · rintro δ' rfl
        walk_at "ST"
        refine Br.ndec (fun hc => ?_) (fun hc => ?_)
        · have hc : ¬ (xs.length : Int) = ys.length := hc
          rw [decide_eq_false (show ¬ xs.length = ys.length by omega), Bool.false_and] at h
          walk_at "ST"
          exact h
        have hc : (xs.length : Int) = ys.length := hc
        have hc : xs.length = ys.length := by omega
        walk_at "ST"
        refine ⟨⟨by omega, by omega⟩, ?_⟩
        walk_at "ST"
        refine ⟨fun i δ => ∃ a, δ = [.dat (.list xs), .dat (.list ys), a, .no] ∧ ∀ j, j < i → sameB n (xs.getD j .none) (ys.getD j .none) = true, ⟨_, rfl, fun j hj => absurd hj (Nat.not_lt_zero j)⟩, ?_, ?_⟩
        · rintro i d δ hd ⟨a, rfl, hz⟩
          obtain ⟨hi, rfl⟩ := rngD_get hd
          have hi : i < ys.length := by omega
          walk_at "ST"
          refine ⟨_, at_get (by omega), ?_⟩
          walk_at "ST"
          refine ⟨_, at_get hi, ?_⟩
          walk_at "ST"
          refine c_same (getD_dep hxn (by omega)) (getD_dep hyn hi) ?_
          walk_at "ST"
          refine ⟨fun z => ?_, fun z => ?_⟩
          · have z : (!sameB n (xs.getD i .none) (ys.getD i .none)) = true := z
            rw [Bool.not_eq_true'] at z
            rw [same_f hi z] at h
            walk_at "ST"
            exact h
          · have z : (!sameB n (xs.getD i .none) (ys.getD i .none)) = false := z
            rw [Bool.not_eq_false'] at z
            walk_at "ST"
            refine ⟨_, rfl, fun j hj => ?_⟩
            by_cases g : j = i
            · rw [g]; exact z
            · exact hz j (by omega)
        · rintro δ ⟨a, rfl, hz⟩
          rw [rngD_length] at hz
          rw [same_t hc fun j hj => hz j (by omega)] at h
          walk_at "ST"
          exact h
    | _ =>
      walk_at "ST"
      refine ⟨fun δ' => False, ?_, fun δ' z => z.elim⟩
      walk_at "ST"
      exact h
  | @tup _ ys hyl hyn =>
    cases ha with
    | @tup _ xs hxl hxn =>
      have h : Q (.dat (.bool (decide (xs.length = ys.length) && (List.range ys.length).all fun i => sameB n (xs.getD i .none) (ys.getD i .none)))) := h
      walk_at "ST"
      refine ⟨fun δ' => δ' = [.dat (.tuple xs), .dat (.tuple ys), .no, .no], ?_, ?_⟩
      · walk_at "ST"
        rfl
      · rintro δ' rfl
        walk_at "ST"
        refine Br.ndec (fun hc => ?_) (fun hc => ?_)
        · have hc : ¬ (xs.length : Int) = ys.length := hc
          rw [decide_eq_false (show ¬ xs.length = ys.length by omega), Bool.false_and] at h
          walk_at "ST"
          exact h
        have hc : (xs.length : Int) = ys.length := hc
        have hc : xs.length = ys.length := by omega
        walk_at "ST"
        refine ⟨⟨by omega, by omega⟩, ?_⟩
        walk_at "ST"
        refine ⟨fun i δ => ∃ a, δ = [.dat (.tuple xs), .dat (.tuple ys), a, .no] ∧ ∀ j, j < i → sameB n (xs.getD j .none) (ys.getD j .none) = true, ⟨_, rfl, fun j hj => absurd hj (Nat.not_lt_zero j)⟩, ?_, ?_⟩
        · rintro i d δ hd ⟨a, rfl, hz⟩
          obtain ⟨hi, rfl⟩ := rngD_get hd
          have hi : i < ys.length := by omega
          walk_at "ST"
          refine ⟨_, at_get (by omega), ?_⟩
          walk_at "ST"
          refine ⟨_, at_get hi, ?_⟩
          walk_at "ST"
          refine c_same (getD_dep hxn (by omega)) (getD_dep hyn hi) ?_
          walk_at "ST"
          refine ⟨fun z => ?_, fun z => ?_⟩
          · have z : (!sameB n (xs.getD i .none) (ys.getD i .none)) = true := z
            rw [Bool.not_eq_true'] at z
            rw [same_f hi z] at h
            walk_at "ST"
            exact h
          · have z : (!sameB n (xs.getD i .none) (ys.getD i .none)) = false := z
            rw [Bool.not_eq_false'] at z
            walk_at "ST"
            refine ⟨_, rfl, fun j hj => ?_⟩
            by_cases g : j = i
            · rw [g]; exact z
            · exact hz j (by omega)
        · rintro δ ⟨a, rfl, hz⟩
          rw [rngD_length] at hz
          rw [same_t hc fun j hj => hz j (by omega)] at h
          walk_at "ST"
          exact h
    | _ =>
      walk_at "ST"
      refine ⟨fun δ' => False, ?_, fun δ' z => z.elim⟩
      walk_at "ST"
      exact h
theorem l__law_cycle (h : sp__law_cycle K rs Q X) : d__law_cycle K (endD Q X) (startD ["store", "p", "values", "k", "other", "kept"] rs) := by
  obtain ⟨p, rfl, hp, h⟩ := h
  obtain ⟨p2, p37⟩ := p12_b p hp
  walk_at "ST"
  refine ⟨⟨by omega, by omega⟩, ?_⟩
  walk_at "ST"
  refine ⟨⟨by omega, by omega⟩, ?_⟩
  walk_at "ST"
  refine ⟨fun i δ => ∃ (vs : List Int) (a b c : Sl), δ = [.sto, .dat (.int p), .own (iL vs), a, b, c] ∧ vs.length = p ∧ (∀ x ∈ vs, 0 ≤ x ∧ x < p) ∧ 0 ∈ vs, ?_, ?_, ?_⟩
  · refine ⟨(List.range p).map fun i : Nat => (0 : Int) + (i : Nat), _, _, _, by rw [← rng_iL]; rfl, by rw [List.length_map, List.length_range], fun x hx => ?_, ?_⟩
    · obtain ⟨i, hi, rfl⟩ := List.mem_map.mp hx
      have := List.mem_range.mp hi
      omega
    · exact List.mem_map.mpr ⟨0, List.mem_range.mpr (by omega), rfl⟩
  · rintro k d δ hd ⟨vs, a, b, c, rfl, hvl, hvb, hv0⟩
    obtain ⟨hk, rfl⟩ := rngD_get hd
    have hk : k < p - 1 := by omega
    walk_at "ST"
    refine c_take (by omega) fun r r0 r1 => ?_
    have r1 : r < (p : Int) - 1 - k := by omega
    have ea : ((p : Int) - 1 - ((0 : Int) + (k : Nat))).toNat = p - 1 - k := by omega
    have er : r.toNat < p - 1 - k := by omega
    walk_at "ST"
    refine ⟨_, atI_iL (by omega) (by omega), ?_⟩
    walk_at "ST"
    refine ⟨_, atI_iL r0 (by omega), ?_⟩
    walk_at "ST"
    refine ⟨_, ixN_nat (by omega) (by rw [iL_len]; omega), ?_⟩
    rw [iL_set, ea]
    walk_at "ST"
    refine ⟨_, ixN_nat r0 (by rw [iL_len, List.length_set]; omega), ?_⟩
    rw [iL_set]
    walk_at "ST"
    refine ⟨_, _, _, _, rfl, by rw [List.length_set, List.length_set]; exact hvl, fun x hx => ?_, ?_⟩
    · rcases List.mem_or_eq_of_mem_set hx with hx | rfl
      · rcases List.mem_or_eq_of_mem_set hx with hx | rfl
        · exact hvb x hx
        · exact hvb _ (getD_mem (by omega))
      · exact hvb _ (getD_mem (by omega))
    · obtain ⟨j, hj, hj0⟩ := List.mem_iff_getElem.mp hv0
      have hg : vs.getD j 0 = 0 := by
        rw [List.getD_eq_getElem?_getD, List.getElem?_eq_getElem hj, hj0]
        rfl
      have key : ∀ z, z < p → ((vs.set (p - 1 - k) (vs.getD r.toNat 0)).set r.toNat (vs.getD (p - 1 - k) 0)).getD z 0 = 0 → (0 : Int) ∈ (vs.set (p - 1 - k) (vs.getD r.toNat 0)).set r.toNat (vs.getD (p - 1 - k) 0) := fun z hz e => by
        have := getD_mem (ns := (vs.set (p - 1 - k) (vs.getD r.toNat 0)).set r.toNat (vs.getD (p - 1 - k) 0)) (k := z) (by rw [List.length_set, List.length_set]; omega)
        rw [e] at this
        exact this
      by_cases g1 : j = p - 1 - k
      · refine key r.toNat (by omega) ?_
        rw [getD_st (by rw [List.length_set]; omega), if_pos rfl, ← g1, hg]
      · by_cases g2 : j = r.toNat
        · refine key (p - 1 - k) (by omega) ?_
          rw [getD_st (by rw [List.length_set]; omega), if_neg (by omega), getD_st (by omega), if_pos rfl, ← g2, hg]
        · refine key j (by omega) ?_
          rw [getD_st (by rw [List.length_set]; omega), if_neg (by omega), getD_st (by omega), if_neg (by omega), hg]
  · rintro δ ⟨vs, a, b, c, rfl, hvl, hvb, hv0⟩
    walk_at "ST"
    exact h vs hvl hvb hv0
theorem c_cycle {p : Nat} (hp : p ∈ P12) (q : ∀ vs : List Int, vs.length = p → (∀ x ∈ vs, 0 ≤ x ∧ x < p) → 0 ∈ vs → Q (.own (iL vs))) : Cal (sp__law_cycle K) 2 [.sto, .dat (.int p)] Q X := ⟨rfl, p, rfl, hp, q⟩
end
end RB

set_option Elab.async false
set_option linter.all false
set_option maxRecDepth 100000
set_option maxHeartbeats 8000000
/-! X3: linear rings, polynomials of all kinds, the maker -/
namespace RB
open PySem PySem.Spec PyProof.Rows L2
local macro_rules | `(tactic| walk_at "ST") => `(tactic| ((conv => whnf); repeat (first | (refine Br.t ?_; conv => whnf) | (refine Br.f ?_; conv => whnf))))
local macro_rules | `(tactic| walk_at "SZ") => `(tactic| first | decide | omega | (simp only [List.length_append, List.length_map, List.length_cons, List.length_nil]; done) | (simp only [List.length_append, List.length_map, List.length_cons, List.length_nil]; omega))
local macro_rules | `(tactic| walk_at "G1") => `(tactic| first | refine And.intro (szLine (by walk_at "SZ")) ?_ | refine And.intro (mulR (by decide) (by decide)) ?_ | refine And.intro (mulL (by decide) (by decide)) ?_ | refine And.intro (divOk (by decide) (by decide)) ?_ | refine And.intro (show PowOk _ _ from ⟨by decide, by decide⟩) ?_ | refine And.intro (by decide) ?_ | refine And.intro rfl ?_ | refine Exists.intro _ (And.intro rfl ?_))
local macro_rules | `(tactic| walk_at "DP") => `(tactic| repeat (first | assumption | exact Dep.non | exact Dep.bl _ | exact Dep.int _ | exact Dep.str _ | exact dL_nil | refine dL_cons ?_ ?_ | refine Dep.lst (by walk_at "SZ") ?_ | refine Dep.tup (by walk_at "SZ") ?_))
local macro_rules | `(tactic| walk_at "GO") => `(tactic| ((walk_at "ST"); repeat ((walk_at "G1"); (walk_at "ST"))))
theorem p12_dvd : ∀ p ∈ P12, ∀ r ∈ P12, p ∣ r → p = r := by decide +kernel
theorem nd_pow {p r : Nat} (hp : p ∈ P12) (hr : r ∈ P12) (ne : r ≠ p) : ∀ k : Nat, ¬ p ∣ r ^ k
  | 0 => fun h => by
    rw [Nat.pow_zero] at h
    have := Nat.le_of_dvd (by decide) h
    have := (p12_b p hp).1
    omega
  | k + 1 => fun h => by
    rw [Nat.pow_succ] at h
    rcases (prm12 p hp).2 _ _ h with h | h
    · exact nd_pow hp hr ne k h
    · exact ne (p12_dvd p hp r hr h).symm
theorem nd_prod {p : Nat} (hp : p ∈ P12) : ∀ l : List (Nat × Nat), (∀ q ∈ l, q.1 ∈ P12 ∧ q.1 ≠ p) → ¬ p ∣ prodN (l.map fun q => q.1 ^ capK q.1 q.2)
  | [], _ => fun h => by
    have := Nat.le_of_dvd (by decide) h
    have := (p12_b p hp).1
    have e : prodN (([] : List (Nat × Nat)).map fun q => q.1 ^ capK q.1 q.2) = 1 := rfl
    omega
  | q :: l, hl => fun h => by
    have h : p ∣ q.1 ^ capK q.1 q.2 * prodN (l.map fun q => q.1 ^ capK q.1 q.2) := h
    have hq := hl q List.mem_cons_self
    rcases (prm12 p hp).2 _ _ h with h | h
    · exact nd_pow hp hq.1 hq.2 _ h
    · exact nd_prod hp l (fun r hr => hl r (List.mem_cons_of_mem _ hr)) h
theorem fac_nd {m : Nat} {l : List (Nat × Nat)} (hm : facM m = some l) : (l.map (·.1)).Nodup := (facRun_names (facM_run hm).2.2).nodup (by decide)
theorem fac_copr {m : Nat} {l : List (Nat × Nat)} (hm : facM m = some l) {i : Nat} (hi : i < l.length) : Int.gcd (prodN ((l.map fun q => q.1 ^ capK q.1 q.2).take i) : Nat) ((l.map fun q => q.1 ^ capK q.1 q.2).getD i 1 : Nat) = 1 := by
  have e : (l.map fun q => q.1 ^ capK q.1 q.2).getD i 1 = l[i].1 ^ capK l[i].1 l[i].2 := by
    rw [List.getD_eq_getElem?_getD, List.getElem?_map, List.getElem?_eq_getElem hi]
    rfl
  have hp := (fac_pk hm (List.getElem_mem hi)).1.m
  have hn : ¬ l[i].1 ∣ prodN ((l.take i).map fun q => q.1 ^ capK q.1 q.2) := nd_prod hp _ fun q hq => by
    obtain ⟨j, hj, rfl⟩ := List.mem_iff_getElem.mp hq
    rw [List.length_take] at hj
    rw [List.getElem_take]
    refine ⟨(fac_pk hm (List.getElem_mem (by omega))).1.m, fun z => ?_⟩
    have := List.pairwise_iff_getElem.mp (fac_nd hm) j i (by rw [List.length_map]; omega) (by rw [List.length_map]; omega) (by omega)
    rw [List.getElem_map, List.getElem_map] at this
    exact this z
  rw [e, ← List.map_take]
  show Nat.gcd (Int.natAbs (_ : Nat)) (Int.natAbs (_ : Nat)) = 1
  rw [Int.natAbs_natCast, Int.natAbs_natCast, Nat.gcd_comm]
  exact Nat.Coprime.pow_left _ ((prm12 _ hp).cop hn)
theorem goB_cong {fs gs : List Int} {m : Nat} (h : ∀ x, hor m x fs = hor m x gs) : goB fs m = goB gs m := by
  have e : ∀ k, itF fs m 0 k = itF gs m 0 k := fun k => by
    induction k with
    | zero => rfl
    | succ k ih =>
      show hor m (itF fs m 0 k % m) fs = hor m (itF gs m 0 k % m) gs
      rw [ih, h]
  unfold goB
  rw [e]
  congr 1
  exact congrArg _ (funext fun k => by rw [e])
section
variable {K : Fr} {Q : RV → Prop} {X : Addr → Prop} {rs : List RV}
theorem l__law_linear (h : sp__law_linear K rs Q X) : d__law_linear K (endD Q X) (startD ["store", "p", "k", "q", "step", "c"] rs) := by
  obtain ⟨p, k, rfl, hk, h⟩ := h
  obtain ⟨p2, p37⟩ := pk_b hk.pk
  obtain ⟨_, _, q0⟩ := pk_len hk.pk
  have q4 := hk.pk.b
  have kk := hk.pk.k0
  have kk3 := hk.pk.k3
  have hc := hk.c
  have dp : (p : Int) ∣ ((p ^ k : Nat) : Int) := Int.natCast_dvd_natCast.mpr (by have := Nat.pow_dvd_pow p kk; rwa [Nat.pow_one] at this)
  walk_at "GO"
  refine c_power ⟨by omega, by omega⟩ (by omega) ?_
  rw [show ((p : Int) ^ k) = ((p ^ k : Nat) : Int) from (Int.natCast_pow ..).symm]
  walk_at "ST"
  refine ⟨fun δ' => ∃ st : Int, δ' = [.sto, .dat (.int p), .dat (.int k), .dat (.int (p ^ k : Nat)), .dat (.int st), .no] ∧ (0 ≤ st ∧ st ≤ 40) ∧ (p : Int) ∣ st ∧ (p = 2 → 1 < k → st = 4), ?_, ?_⟩
  · walk_at "ST"
    refine Br.dec (fun z1 => ?_) (fun z1 => ?_)
    · have z1 : (p : Int) = 2 := z1
      walk_at "ST"
      refine Br.dec (fun z2 => ?_) (fun z2 => ?_)
      · walk_at "ST"
        exact ⟨4, rfl, ⟨by decide, by decide⟩, by rw [z1]; decide, fun _ _ => rfl⟩
      · have z2 : ¬ (k : Int) > 1 := z2
        walk_at "ST"
        exact ⟨p, rfl, ⟨by omega, by omega⟩, Int.dvd_refl _, fun _ _ => by omega⟩
    · have z1 : ¬ (p : Int) = 2 := z1
      walk_at "ST"
      exact ⟨p, rfl, ⟨by omega, by omega⟩, Int.dvd_refl _, fun _ _ => by omega⟩
  · rintro δ' ⟨st, rfl, ⟨st0, st1⟩, hst, hst4⟩
    walk_at "ST"
    refine c_take (by omega) fun r1 a0 a1 => ?_
    have a1 : r1 < (p : Int) - 1 := by omega
    walk_at "GO"
    refine ⟨divOk (by omega) (by omega), ?_⟩
    walk_at "ST"
    refine c_take (by rw [← Int.natCast_ediv]; have := Nat.div_le_self (p ^ k) p; omega) fun r2 b0 b1 => ?_
    walk_at "ST"
    refine ⟨mulL (by omega) (by omega), ?_⟩
    walk_at "GO"
    refine c_take (by omega) fun r3 c0 c1 => ?_
    walk_at "ST"
    refine ⟨mulL (by omega) (by omega), ?_⟩
    walk_at "ST"
    refine ⟨by omega, ?_⟩
    walk_at "GO"
    refine h [_, _] (by show 2 ≤ 40; decide) ((brk_zero (by omega) kk kk3).mp (lin_brk ⟨hk.pk.m, fun z => ?_, ?_, fun e2 k2 => ?_⟩ hc kk))
    · have z2 : (p : Int) ∣ 1 + r1 := (Int.dvd_add_left (Int.dvd_mul_right _ _)).mp z
      have := Int.le_of_dvd (by omega) z2
      omega
    · rw [Int.emod_emod_of_dvd _ dp]
      obtain ⟨j, rfl⟩ := hst
      rw [Int.mul_assoc, Int.add_mul_emod_self_left]
      exact Int.emod_eq_of_lt (by omega) (by omega)
    · have s4 := hst4 e2 (by omega)
      have d4 : (4 : Int) ∣ ((p ^ k : Nat) : Int) := by
        rw [e2]
        exact Int.natCast_dvd_natCast.mpr (show 2 ^ 2 ∣ 2 ^ k from Nat.pow_dvd_pow 2 k2)
      rw [Int.emod_emod_of_dvd _ d4, s4]
      omega
theorem c_linear {p k : Nat} (hk : PC p k) (q : ∀ es : List Int, es.length ≤ 40 → goB es (p ^ k) = true → Q (.own (iL es))) : Cal (sp__law_linear K) 3 [.sto, .dat (.int p), .dat (.int k)] Q X := ⟨rfl, p, k, rfl, hk, q⟩
end
end RB

set_option Elab.async false
set_option linter.all false
set_option maxRecDepth 100000
set_option maxHeartbeats 8000000
/-! X4: polynomials of all kinds -/
namespace RB
open PySem PySem.Spec PyProof.Rows L2
local macro_rules | `(tactic| walk_at "ST") => `(tactic| ((conv => whnf); repeat (first | (refine Br.t ?_; conv => whnf) | (refine Br.f ?_; conv => whnf))))
local macro_rules | `(tactic| walk_at "SZ") => `(tactic| first | decide | omega | (simp only [List.length_append, List.length_map, List.length_cons, List.length_nil]; done) | (simp only [List.length_append, List.length_map, List.length_cons, List.length_nil]; omega))
local macro_rules | `(tactic| walk_at "G1") => `(tactic| first | refine And.intro (szLine (by walk_at "SZ")) ?_ | refine And.intro (mulR (by decide) (by decide)) ?_ | refine And.intro (mulL (by decide) (by decide)) ?_ | refine And.intro (divOk (by decide) (by decide)) ?_ | refine And.intro (show PowOk _ _ from ⟨by decide, by decide⟩) ?_ | refine And.intro (by decide) ?_ | refine And.intro rfl ?_ | refine Exists.intro _ (And.intro rfl ?_))
local macro_rules | `(tactic| walk_at "DP") => `(tactic| repeat (first | assumption | exact Dep.non | exact Dep.bl _ | exact Dep.int _ | exact Dep.str _ | exact dL_nil | refine dL_cons ?_ ?_ | refine Dep.lst (by walk_at "SZ") ?_ | refine Dep.tup (by walk_at "SZ") ?_))
local macro_rules | `(tactic| walk_at "GO") => `(tactic| ((walk_at "ST"); repeat ((walk_at "G1"); (walk_at "ST"))))
section
variable {K : Fr} {Q : RV → Prop} {X : Addr → Prop} {rs : List RV}
theorem l__law_localkind (h : sp__law_localkind K rs Q X) : d__law_localkind K (endD Q X) (startD ["store", "p", "k", "kind", "q", "values", "f", "turn", "i", "bend", "entry"] rs) := by
  obtain ⟨p, k, kd, rfl, hk, h⟩ := h
  obtain ⟨p2, p37⟩ := pk_b hk.pk
  obtain ⟨_, _, q0⟩ := pk_len hk.pk
  have q4 := hk.pk.b
  have kk := hk.pk.k0
  have kk3 := hk.pk.k3
  have hc := hk.c
  walk_at "GO"
  refine c_power ⟨by omega, by omega⟩ (by omega) ?_
  rw [show ((p : Int) ^ k) = ((p ^ k : Nat) : Int) from (Int.natCast_pow ..).symm]
  walk_at "ST"
  refine Br.dec (fun _ => ?_) (fun z0 => ?_)
  · walk_at "ST"
    refine c_linear hk fun es hes _ => ?_
    walk_at "ST"
    exact (h es hes).2
  walk_at "ST"
  refine Br.dec (fun z1 => ?ga) (fun z1 => ?gb)
  case' ga =>
    walk_at "ST"
    refine Br.dec (fun z2 => ?gc) (fun z2 => ?gd)
  case' gc =>
    walk_at "ST"
    refine c_seldom (by decide) fun b => ?_
    walk_at "ST"
    refine ⟨fun hb => ?ge, fun hb => ?gf⟩
  case ge =>
    have z2 : (k : Int) = 3 := z2
    have p4 : p = 2 ∨ p = 3 := by
      by_cases g : p < 4
      · omega
      · rw [if_neg g] at hc
        omega
    rcases p4 with rfl | rfl
    · walk_at "GO"
      exact (h [1, 1, 2, 2] (by decide)).1
    · walk_at "GO"
      exact (h [1, 1, 0, 1, 0, 26] (by decide)).1
  all_goals
    walk_at "ST"
    refine Br.dec (fun z3 => ?_) (fun z3 => ?_)
  all_goals first | (walk_at "ST"; refine Br.dec (fun z4 => ?_) (fun z4 => ?_)) | skip
  all_goals first | (exfalso; omega) | skip
  all_goals first
    | walk_at "ST"
      refine c_take (by omega) fun r1 a0 a1 => ?_
      walk_at "GO"
      refine ⟨⟨by omega, by omega, szLine (show 1 * ((p : Int) - 2).toNat < 2 ^ 20 by omega)⟩, ?_⟩
      have e : ((p : Int) - 2) = ((p - 2 : Nat) : Int) := by omega
      rw [e, repl_flat]
      walk_at "ST"
      refine ⟨szLine (by rw [iL_len, List.length_replicate]; show 2 + (p - 2) < 2 ^ 20; omega), ?_⟩
      have eL : [PyData.int (1 + r1), PyData.int 1] ++ iL (List.replicate (p - 2) 0) = iL ([1 + r1, 1] ++ List.replicate (p - 2) 0) := iL_append [1 + r1, 1] _
      have hL : ([1 + r1, 1] ++ List.replicate (p - 2) 0).length = p := by
        rw [List.length_append, List.length_replicate]
        show 2 + _ = p
        omega
      walk_at "ST"
      refine ⟨_, (congrArg (fun z => L2.atI z _) eL).trans (atI_iL (by omega) (by omega)), ?_⟩
      walk_at "ST"
      refine ⟨_, (congrArg (fun z => L2.atI z _) eL).trans (atI_iL (by omega) (by omega)), ?_⟩
      walk_at "ST"
      refine ⟨mulL (by omega) (by omega), ?_⟩
      walk_at "ST"
      refine ⟨_, ixN_nat (by omega) (by show (p : Int) - 1 < (([PyData.int (1 + r1), PyData.int 1] ++ iL (List.replicate (p - 2) 0)).length : Nat); rw [eL, iL_len]; omega), ?_⟩
      walk_at "ST"
      have hh := fun v => (h (([1 + r1, 1] ++ List.replicate (p - 2) 0).set ((p : Int) - 1).toNat v) (by rw [List.length_set]; omega)).2
      simp only [← iL_set] at hh
      rw [← eL] at hh
      exact hh _
    | walk_at "ST"
      refine c_cycle hk.pk.m fun vs hvl hvb hv0 => ?_
      walk_at "ST"
      refine ⟨fun δ' => ∃ ws : List Int, δ' = [.sto, .dat (.int p), .dat (.int k), .dat (.int kd), .dat (.int (p ^ k : Nat)), .own (iL ws), .no, .no, .no, .no, .no] ∧ ws.length = p ∧ (∀ x ∈ ws, 0 ≤ x ∧ x < p) ∧ (kd ≠ 3 → 0 ∈ ws), ?_, ?_⟩
      · walk_at "ST"
        refine Br.dec (fun y1 => ?_) (fun y1 => ?_)
        · have y1 : kd = 3 := y1
          walk_at "ST"
          refine c_take (by omega) fun r1 a0 a1 => ?_
          walk_at "ST"
          refine c_take (by omega) fun r2 b0 b1 => ?_
          walk_at "ST"
          refine ⟨_, ixN_nat b0 (by rw [iL_len]; omega), ?_⟩
          rw [iL_set]
          walk_at "ST"
          refine ⟨_, rfl, by rw [List.length_set]; exact hvl, fun x hx => ?_, fun y => absurd y1 y⟩
          rcases List.mem_or_eq_of_mem_set hx with hx | rfl
          · exact hvb x hx
          · omega
        · walk_at "ST"
          exact ⟨_, rfl, hvl, hvb, fun _ => hv0⟩
      rintro δ' ⟨ws, rfl, hwl, hwb, hw0⟩
      walk_at "ST"
      refine ⟨fun δ' => ∃ ws : List Int, δ' = [.sto, .dat (.int p), .dat (.int k), .dat (.int kd), .dat (.int (p ^ k : Nat)), .own (iL ws), .no, .no, .no, .no, .no] ∧ ws.length = p ∧ (∀ x ∈ ws, 0 ≤ x ∧ x < p), ?_, ?_⟩
      · walk_at "ST"
        refine Br.dec (fun y1 => ?_) (fun y1 => ?_)
        · have y1 : kd = 4 := y1
          obtain ⟨j0, hj0, hf0⟩ := first_at (hw0 (by omega))
          walk_at "ST"
          refine c_take (by omega) fun r1 a0 a1 => ?_
          walk_at "ST"
          refine ⟨ws, j0, rfl, hj0, hf0, ?_⟩
          walk_at "ST"
          have hj1 := (List.getElem?_eq_some_iff.mp hj0).1
          refine ⟨_, ixN_nat (by omega) (by rw [iL_len]; omega), ?_⟩
          rw [Int.toNat_natCast, iL_set]
          walk_at "ST"
          refine ⟨_, rfl, by rw [List.length_set]; exact hwl, fun x hx => ?_⟩
          rcases List.mem_or_eq_of_mem_set hx with hx | rfl
          · exact hwb x hx
          · omega
        · walk_at "ST"
          exact ⟨_, rfl, hwl, hwb⟩
      clear hw0 hwl hwb
      rintro δ' ⟨us, rfl, hul, hub⟩
      have wide : ∀ x ∈ us, -400 ≤ x ∧ x ≤ 400 := fun x hx => by have := hub x hx; omega
      walk_at "ST"
      refine c_through ⟨p2, by omega⟩ hul wide fun es hel her => ?_
      walk_at "GO"
      refine ⟨szLine (show (iL es).length + 3 < 2 ^ 20 by rw [iL_len]; omega), ?_⟩
      walk_at "ST"
      refine ⟨mulR (by split <;> decide) (by split <;> decide), ?_⟩
      walk_at "ST"
      refine ⟨⟨by show _ ≤ 3 * (if decide ((1 : Int) < k) = true then (1 : Int) else 0); split <;> decide, by show 3 * (if decide ((1 : Int) < k) = true then (1 : Int) else 0) < _; split <;> decide⟩, ?_⟩
      walk_at "ST"
      refine ⟨fun i δ => ∃ (fs : List Int) (a b c : Sl), δ = [.sto, .dat (.int p), .dat (.int k), .dat (.int kd), .dat (.int (p ^ k : Nat)), .dat (.list (iL us)), .own (iL fs), a, b, c, .no] ∧ fs.length = p + 3, ⟨es ++ [0, 0, 0], _, _, _, by rw [← iL_append]; rfl, by rw [List.length_append]; show _ + 3 = _; omega⟩, ?_, ?_⟩
      · rintro i d δ hd ⟨fs, a, b, c, rfl, hfl⟩
        obtain ⟨hi, rfl⟩ := rngD_get hd
        clear hi
        walk_at "ST"
        refine c_take (by show (if (3 : Int) < p then (3 : Int) else p) < 2 ^ 64; split <;> omega) fun r r0 r1 => ?_
        have r1 : r < max 1 (if (3 : Int) < p then (3 : Int) else p) := r1
        have r1 : r < 3 ∧ r < p := by split at r1 <;> omega
        walk_at "ST"
        refine c_take (by omega) fun bn b0 b1 => ?_
        walk_at "ST"
        refine ⟨_, atI_iL (by omega) (by omega), ?_⟩
        walk_at "ST"
        refine ⟨_, ixN_nat (by omega) (by rw [iL_len]; omega), ?_⟩
        rw [iL_set]
        walk_at "ST"
        refine ⟨_, atI_iL (by omega) (by rw [List.length_set]; omega), ?_⟩
        walk_at "ST"
        refine ⟨_, ixN_nat (by omega) (by rw [iL_len, List.length_set]; omega), ?_⟩
        rw [iL_set]
        walk_at "ST"
        refine ⟨_, atI_iL (by omega) (by rw [List.length_set, List.length_set]; omega), ?_⟩
        walk_at "ST"
        refine ⟨divOk (by omega) (by omega), ?_⟩
        walk_at "ST"
        refine c_take (by rw [← Int.natCast_ediv]; have := Nat.div_le_self (p ^ k) p; omega) fun r2 c0 c1 => ?_
        walk_at "ST"
        refine ⟨mulL (by omega) (by omega), ?_⟩
        walk_at "ST"
        refine ⟨_, ixN_nat (by omega) (by rw [iL_len, List.length_set, List.length_set]; omega), ?_⟩
        rw [iL_set]
        walk_at "ST"
        exact ⟨_, _, _, _, rfl, by rw [List.length_set, List.length_set, List.length_set]; exact hfl⟩
      · rintro δ ⟨fs, a, b, c, rfl, hfl⟩
        walk_at "ST"
        refine LcS.some (fun _ d' => ∃ y : Int, d' = .int y) (szLine (by rw [iL_len]; omega)) (fun d hd C hC => ?_) fun os hos => ?_
        · obtain ⟨x, hx, rfl⟩ := List.mem_map.mp hd
          walk_at "ST"
          refine ⟨by omega, ?_⟩
          walk_at "ST"
          exact hC _ ⟨_, rfl⟩
        · obtain ⟨gs, rfl, hgl⟩ := paired_any hos
          walk_at "ST"
          exact (h gs (by rw [iL_len] at hgl; omega)).2
end
end RB

set_option Elab.async false
set_option linter.all false
set_option maxRecDepth 100000
set_option maxHeartbeats 8000000
/-! X5: the maker, all round -/
namespace RB
open PySem PySem.Spec PyProof.Rows L2
local macro_rules | `(tactic| walk_at "ST") => `(tactic| ((conv => whnf); repeat (first | (refine Br.t ?_; conv => whnf) | (refine Br.f ?_; conv => whnf))))
local macro_rules | `(tactic| walk_at "SZ") => `(tactic| first | decide | omega | (simp only [List.length_append, List.length_map, List.length_cons, List.length_nil]; done) | (simp only [List.length_append, List.length_map, List.length_cons, List.length_nil]; omega))
local macro_rules | `(tactic| walk_at "G1") => `(tactic| first | refine And.intro (szLine (by walk_at "SZ")) ?_ | refine And.intro (mulR (by decide) (by decide)) ?_ | refine And.intro (mulL (by decide) (by decide)) ?_ | refine And.intro (divOk (by decide) (by decide)) ?_ | refine And.intro (show PowOk _ _ from ⟨by decide, by decide⟩) ?_ | refine And.intro (by decide) ?_ | refine And.intro rfl ?_ | refine Exists.intro _ (And.intro rfl ?_))
local macro_rules | `(tactic| walk_at "DP") => `(tactic| repeat (first | assumption | exact Dep.non | exact Dep.bl _ | exact Dep.int _ | exact Dep.str _ | exact dL_nil | refine dL_cons ?_ ?_ | refine Dep.lst (by walk_at "SZ") ?_ | refine Dep.tup (by walk_at "SZ") ?_))
local macro_rules | `(tactic| walk_at "GO") => `(tactic| ((walk_at "ST"); repeat ((walk_at "G1"); (walk_at "ST"))))
section
variable {K : Fr} {Q : RV → Prop} {X : Addr → Prop} {rs : List RV}
theorem c_localkind {p k : Nat} {kd : Int} (hk : PC p k) (q : ∀ es : List Int, es.length ≤ 40 → Q (.dat (.list (iL es))) ∧ Q (.own (iL es))) : Cal (sp__law_localkind K) 4 [.sto, .dat (.int p), .dat (.int k), .dat (.int kd)] Q X := ⟨rfl, p, k, kd, rfl, hk, q⟩
theorem c_patched {ps : List (List Int × Nat)} (h1 : ps.length ≤ 12) (h2 : ∀ q ∈ ps, q.1.length ≤ 40 ∧ 0 < q.2 ∧ q.2 ≤ 10000000000) (h3 : prodN (ps.map (·.2)) ≤ 10 ^ 14) (h4 : ∀ i < ps.length, Int.gcd (prodN ((ps.map (·.2)).take i) : Nat) ((ps.map (·.2)).getD i 1 : Nat) = 1)
    (q : ∀ ns : List Int, ns.length ≤ 40 → (∀ x ∈ ns, 0 ≤ x ∧ x ≤ 10 ^ 14) → cutL ns = ns → (∀ q ∈ ps, ∀ x, hor q.2 x ns = hor q.2 x q.1) → Q (.own (iL ns))) : Cal (sp__law_patched K) 1 [.dat (.list (ps.map ptD))] Q X := ⟨rfl, ps, rfl, h1, h2, h3, h4, q⟩
theorem two {Z : Prop} (z : Z) : Z ∧ Z := ⟨z, z⟩
theorem l__law_maker (h : sp__law_maker K rs Q X) : d__law_maker K (endD Q X) (startD ["store", "m", "good", "pairs", "spoilt", "parts", "i", "p", "k", "q", "f"] rs) := by
  obtain ⟨m, l, b, rfl, hm, h⟩ := h
  obtain ⟨m2, m3, _⟩ := facM_run hm
  have hlen := fac_len hm
  walk_at "GO"
  refine c_lfactors ⟨by omega, by omega⟩ ?_
  rw [facM_lawFac hm]
  walk_at "GO"
  refine c_take (by rw [List.length_map]; omega) fun sp sp0 sp1 => ?_
  walk_at "GO"
  refine ⟨⟨by rw [List.length_map]; omega, by rw [List.length_map]; omega⟩, ?_⟩
  walk_at "ST"
  refine ⟨fun i δ => ∃ (ps : List (List Int × Nat)) (a b' c d e : Sl) (j : Nat), δ = [.sto, .dat (.int m), .dat (.bool b), .dat (.list (l.map prD)), .dat (.int sp), .own (ps.map ptD), a, b', c, d, e] ∧ j = i ∧ ps.map (·.2) = (l.take j).map (fun q => q.1 ^ capK q.1 q.2) ∧ (∀ q ∈ ps, q.1.length ≤ 40) ∧ (b = true → ∀ q ∈ ps, goB q.1 q.2 = true),
    ⟨[], _, _, _, _, _, 0, rfl, rfl, rfl, fun q hq => (nomatch hq), fun _ q hq => (nomatch hq)⟩, ?_, ?_⟩
  · rintro _ d δ hd ⟨ps, a, b', c, d', e, i, rfl, rfl, hps, hp40, hpg⟩
    obtain ⟨hi, rfl⟩ := rngD_get hd
    rw [List.length_map] at hi
    have hi : i < l.length := by omega
    have hq : l[i]? = some l[i] := List.getElem?_eq_getElem hi
    obtain ⟨hpk, e0⟩ := fac_pk hm (List.getElem_mem hi)
    have hpc : PC l[i].1 (capK l[i].1 l[i].2) := ⟨hpk, Nat.min_le_right _ _⟩
    obtain ⟨p2, p37⟩ := pk_b hpk
    obtain ⟨_, _, q0⟩ := pk_len hpk
    have q4 := hpk.b
    have hll : ps.length = i := by
      have := congrArg List.length hps
      rw [List.length_map, List.length_map, List.length_take] at this
      omega
    have at1 : L2.atI (l.map prD) ((0 : Int) + (i : Nat)) = some (prD l[i]) := by
      rw [at_natE (by rw [List.length_map]; exact hi)]
      congr 1
      exact List.getElem_map ..
    have hnext : ∀ es : List Int, es.length ≤ 40 → (b = true → goB es (l[i].1 ^ capK l[i].1 l[i].2) = true) → (ps ++ [(es, l[i].1 ^ capK l[i].1 l[i].2)]).map (·.2) = (l.take (i + 1)).map (fun q => q.1 ^ capK q.1 q.2) ∧ (∀ q ∈ ps ++ [(es, l[i].1 ^ capK l[i].1 l[i].2)], q.1.length ≤ 40) ∧ (b = true → ∀ q ∈ ps ++ [(es, l[i].1 ^ capK l[i].1 l[i].2)], goB q.1 q.2 = true) := fun es h1 h2 => by
      refine ⟨?_, fun r hr => ?_, fun hb r hr => ?_⟩
      · rw [List.map_append, hps, List.take_add_one, hq, List.map_append]
        rfl
      · rcases List.mem_append.mp hr with hr | hr
        · exact hp40 r hr
        · rw [List.mem_singleton.mp hr]; exact h1
      · rcases List.mem_append.mp hr with hr | hr
        · exact hpg hb r hr
        · rw [List.mem_singleton.mp hr]; exact h2 hb
    clear hq hps hp40 hpg
    generalize l[i] = q at *
    walk_at "ST"
    refine ⟨_, at1, ?_⟩
    walk_at "GO"
    refine ⟨_, at1, ?_⟩
    walk_at "GO"
    refine c_capped ?_
    rw [show min q.2 (if q.1 < 4 then 3 else 2) = capK q.1 q.2 from rfl]
    walk_at "ST"
    refine c_power ⟨by omega, by omega⟩ (by have := hpk.k3; omega) ?_
    rw [show ((q.1 : Int) ^ capK q.1 q.2) = ((q.1 ^ capK q.1 q.2 : Nat) : Int) from (Int.natCast_pow ..).symm]
    walk_at "ST"
    refine c_take (by decide) fun r0 a0 a1 => ?_
    have a1 : r0 < 2 := a1
    walk_at "ST"
    refine ⟨mulR (by omega) (by omega), ?_⟩
    walk_at "ST"
    refine c_localkind hpc fun es hes => ?_
    refine two (Z := _) ?_
    walk_at "ST"
    refine ⟨fun δ' => ∃ es : List Int, δ' = [.sto, .dat (.int m), .dat (.bool b), .dat (.list (l.map prD)), .dat (.int sp), .own (ps.map ptD), .dat (.int ((0 : Int) + (i : Nat))), .dat (.int q.1), .dat (.int (capK q.1 q.2 : Nat)), .dat (.int (q.1 ^ capK q.1 q.2 : Nat)), .dat (.list (iL es))] ∧ es.length ≤ 40 ∧ (b = true → goB es (q.1 ^ capK q.1 q.2) = true), ?_, ?_⟩
    · walk_at "ST"
      refine Br.dec (fun y => ?ga) (fun y => ?gb)
      case' ga =>
        walk_at "ST"
        refine ⟨fun hb => ?gc, fun hb => ?gd⟩
      case gc =>
        have hb : (!b) = true := hb
        walk_at "ST"
        refine c_take (by decide) fun r1 b0 b1 => ?_
        walk_at "ST"
        refine c_localkind hpc fun es' hes' => ?_
        refine two (Z := _) ?_
        walk_at "ST"
        exact ⟨es', rfl, hes', fun z => by rw [z] at hb; cases hb⟩
      all_goals
        walk_at "ST"
        refine c_goesround ⟨q0, q4⟩ hes ?_
        walk_at "ST"
        refine ⟨fun z => ?_, fun z => ?_⟩
        · walk_at "ST"
          refine c_linear hpc fun es' h1 h2 => ?_
          walk_at "ST"
          exact ⟨es', rfl, h1, fun _ => h2⟩
        · have z : (!goB es (q.1 ^ capK q.1 q.2)) = false := z
          rw [Bool.not_eq_false'] at z
          walk_at "ST"
          exact ⟨es, rfl, hes, fun _ => z⟩
    · rintro δ' ⟨es', rfl, h1, h2⟩
      walk_at "GO"
      obtain ⟨n1, n2, n3⟩ := hnext es' h1 h2
      exact ⟨ps ++ [(es', q.1 ^ capK q.1 q.2)], _, _, _, _, _, i + 1, by rw [List.map_append]; rfl, rfl, n1, n2, n3⟩
  · rintro δ ⟨ps, a, b', c, d', e, j, rfl, hj, hps, hp40, hpg⟩
    rw [rngD_length, List.length_map] at hj
    have hj : j = l.length := by omega
    rw [hj, List.take_length] at hps
    have hpr : prodN (ps.map (·.2)) ≤ 10000000000 := by
      rw [hps]
      refine Nat.le_trans ?_ m3
      have h1 := prodN_cap l fun q hq => by have := (fac_mem hm hq).1; omega
      rwa [fac_prod hm] at h1
    have hll : ps.length = l.length := by
      have := congrArg List.length hps
      rwa [List.length_map, List.length_map] at this
    have hat : ∀ q ∈ l, ∃ r ∈ ps, r.2 = q.1 ^ capK q.1 q.2 := fun q hq => by
      have : q.1 ^ capK q.1 q.2 ∈ ps.map (·.2) := by
        rw [hps]
        exact List.mem_map.mpr ⟨q, hq, rfl⟩
      obtain ⟨r, hr, er⟩ := List.mem_map.mp this
      exact ⟨r, hr, er⟩
    walk_at "ST"
    refine c_patched (by omega) (fun q hq => ?_) (by omega) (fun i hi => by rw [hps]; exact fac_copr hm (by omega)) fun ns hnl hnb hnc hnh => ?_
    · refine ⟨hp40 q hq, ?_⟩
      have : q.2 ∈ ps.map (·.2) := List.mem_map.mpr ⟨q, hq, rfl⟩
      rw [hps] at this
      obtain ⟨r, hr, er⟩ := List.mem_map.mp this
      obtain ⟨hpk, _⟩ := fac_pk hm hr
      have := hpk.b
      have := (pk_len hpk).2.2
      omega
    walk_at "ST"
    refine h ns ?_ fun hb q hq => ?_
    · have := polyB_cut hnl fun x hx => (show Fit x from ⟨by have := hnb x hx; omega, by have := hnb x hx; omega⟩)
      rw [hnc] at this
      exact this
    · obtain ⟨r, hr, er⟩ := hat q hq
      rw [← er, goB_cong (hnh r hr)]
      exact hpg hb r hr
theorem l__law_allround (h : sp__law_allround K rs Q X) : d__law_allround K (endD Q X) (startD ["f", "m", "p", "e"] rs) := by
  obtain ⟨fs, m, l, rfl, hm, hl, h⟩ := h
  obtain ⟨m2, m3, _⟩ := facM_run hm
  walk_at "GO"
  refine c_lfactors ⟨by omega, by omega⟩ ?_
  rw [facM_lawFac hm]
  walk_at "ST"
  refine ⟨fun i δ => ∃ a b : Sl, δ = [.dat (.list (iL fs)), .dat (.int m), a, b] ∧ ∀ q ∈ l.take i, goB fs (q.1 ^ capK q.1 q.2) = true, ⟨_, _, rfl, fun q hq => (nomatch hq)⟩, ?_, ?_⟩
  · rintro i d δ hd ⟨a, b, rfl, hz⟩
    rw [List.getElem?_map] at hd
    obtain ⟨q, hq, rfl⟩ := Option.map_eq_some_iff.mp hd
    obtain ⟨hpk, e0⟩ := fac_pk hm (List.mem_of_getElem? hq)
    obtain ⟨p2, p37⟩ := pk_b hpk
    obtain ⟨_, _, q0⟩ := pk_len hpk
    have q4 := hpk.b
    refine ⟨rfl, ?_⟩
    walk_at "ST"
    refine c_capped ?_
    rw [show min q.2 (if q.1 < 4 then 3 else 2) = capK q.1 q.2 from rfl]
    walk_at "ST"
    refine c_power ⟨by omega, by omega⟩ (by have := hpk.k3; omega) ?_
    rw [show ((q.1 : Int) ^ capK q.1 q.2) = ((q.1 ^ capK q.1 q.2 : Nat) : Int) from (Int.natCast_pow ..).symm]
    walk_at "ST"
    refine c_goesround ⟨q0, q4⟩ hl ?_
    walk_at "ST"
    refine ⟨fun z => ?_, fun z => ?_⟩
    · have z : (!goB fs (q.1 ^ capK q.1 q.2)) = true := z
      rw [Bool.not_eq_true'] at z
      have e : (l.all fun q => goB fs (q.1 ^ capK q.1 q.2)) = false := by
        rw [List.all_eq_false]
        exact ⟨q, List.mem_of_getElem? hq, by rw [z]; decide⟩
      rw [e] at h
      walk_at "ST"
      exact h
    · have z : (!goB fs (q.1 ^ capK q.1 q.2)) = false := z
      rw [Bool.not_eq_false'] at z
      walk_at "ST"
      refine ⟨_, _, rfl, fun r hr => ?_⟩
      rw [List.take_add_one, hq] at hr
      rcases List.mem_append.mp hr with hr | hr
      · exact hz r hr
      · rw [List.mem_singleton.mp hr]; exact z
  · rintro δ ⟨a, b, rfl, hz⟩
    rw [List.length_map, List.take_length] at hz
    have e : (l.all fun q => goB fs (q.1 ^ capK q.1 q.2)) = true := List.all_eq_true.mpr hz
    rw [e] at h
    walk_at "ST"
    exact h
theorem c_maker {m : Nat} {l : List (Nat × Nat)} {b : Bool} (hm : facM m = some l) (q : ∀ fs : List Int, Pol fs → (b = true → ∀ q ∈ l, goB fs (q.1 ^ capK q.1 q.2) = true) → Q (.own (iL fs))) : Cal (sp__law_maker K) 3 [.sto, .dat (.int m), .dat (.bool b)] Q X := ⟨rfl, m, l, b, rfl, hm, q⟩
theorem c_allround {fs : List Int} {m : Nat} {l : List (Nat × Nat)} (hm : facM m = some l) (hl : fs.length ≤ 40) (q : Q (.dat (.bool (l.all fun q => goB fs (q.1 ^ capK q.1 q.2))))) : Cal (sp__law_allround K) 2 [.dat (.list (iL fs)), .dat (.int m)] Q X := ⟨rfl, fs, m, l, rfl, hm, hl, q⟩
end
end RB

set_option Elab.async false
set_option linter.all false
set_option maxRecDepth 100000
set_option maxHeartbeats 8000000
/-! X6: the judge of ring papers -/
namespace RB
open PySem PySem.Spec PyProof.Rows L2
local macro_rules | `(tactic| walk_at "ST") => `(tactic| ((conv => whnf); repeat (first | (refine Br.t ?_; conv => whnf) | (refine Br.f ?_; conv => whnf))))
local macro_rules | `(tactic| walk_at "SZ") => `(tactic| first | decide | omega | (simp only [List.length_append, List.length_map, List.length_cons, List.length_nil]; done) | (simp only [List.length_append, List.length_map, List.length_cons, List.length_nil]; omega))
local macro_rules | `(tactic| walk_at "G1") => `(tactic| first | refine And.intro (szLine (by walk_at "SZ")) ?_ | refine And.intro (mulR (by decide) (by decide)) ?_ | refine And.intro (mulL (by decide) (by decide)) ?_ | refine And.intro (divOk (by decide) (by decide)) ?_ | refine And.intro (show PowOk _ _ from ⟨by decide, by decide⟩) ?_ | refine And.intro (by decide) ?_ | refine And.intro rfl ?_ | refine Exists.intro _ (And.intro rfl ?_))
local macro_rules | `(tactic| walk_at "DP") => `(tactic| repeat (first | assumption | exact Dep.non | exact Dep.bl _ | exact Dep.int _ | exact Dep.str _ | exact dL_nil | refine dL_cons ?_ ?_ | refine Dep.lst (by walk_at "SZ") ?_ | refine Dep.tup (by walk_at "SZ") ?_))
local macro_rules | `(tactic| walk_at "GO") => `(tactic| ((walk_at "ST"); repeat ((walk_at "G1"); (walk_at "ST"))))
def gB (d : D) : Bool := match d with
  | .tuple [.int x, .int n] => decide (x = n)
  | _ => false
theorem gB_all : ∀ (xs : List D) (ns : List Int), xs.length = ns.length → ((zipD xs (iL ns)).map gB).all id = eqP xs ns
  | [], [], _ => rfl
  | x :: xs, n :: ns, h => by
    have ih := gB_all xs ns (Nat.succ.inj h)
    cases x with
    | int x =>
      show (decide (x = n) && ((zipD xs (iL ns)).map gB).all id) = (decide (x = n) && eqP xs ns)
      rw [ih]
    | _ => simp [eqP, zipD, gB]
theorem eqP_len {xs : List D} {ns : List Int} (h : xs.length ≠ ns.length) : eqP xs ns = false := by
  cases e : eqP xs ns with
  | false => rfl
  | true =>
    rw [eqP_iff.mp e, iL_len] at h
    exact absurd rfl h
theorem zipD_at {xs ys : List D} {i : Nat} {d : D} (h : (zipD xs ys)[i]? = some d) : ∃ x y, xs[i]? = some x ∧ ys[i]? = some y ∧ d = .tuple [x, y] := by
  unfold zipD at h
  rw [List.getElem?_map] at h
  obtain ⟨p, hp, rfl⟩ := Option.map_eq_some_iff.mp h
  obtain ⟨h1, h2⟩ := List.getElem?_zip_eq_some.mp hp
  exact ⟨p.1, p.2, h1, h2, rfl⟩
theorem zipI_mem {xs : List D} {ns : List Int} {d : D} (h : d ∈ zipD xs (iL ns)) : ∃ (x : D) (n : Int), d = .tuple [x, .int n] := by
  obtain ⟨i, hi⟩ := List.mem_iff_getElem?.mp h
  obtain ⟨x, y, _, h2, rfl⟩ := zipD_at hi
  rw [List.getElem?_map] at h2
  obtain ⟨n, _, rfl⟩ := Option.map_eq_some_iff.mp h2
  exact ⟨x, n, rfl⟩
section
variable {K : Fr} {Q : RV → Prop} {X : Addr → Prop} {rs : List RV}
theorem l_ring_entry (h : sp_ring_entry K rs Q X) : d_ring_entry K (endD Q X) (startD ["f", "p", "q", "path"] rs) := by
  obtain ⟨fs, p, k, rfl, hk, hl, h⟩ := h
  obtain ⟨p2, p37⟩ := pk_b hk
  obtain ⟨l1, l2, q0⟩ := pk_len hk
  have q4 := hk.b
  walk_at "GO"
  refine c_reduced (by omega) hl ?_
  walk_at "ST"
  refine ⟨divOk (by omega) (by omega), ?_⟩
  walk_at "ST"
  have e : (if ((p ^ k / p : Nat) : Int) > (p : Int) then ((p ^ k / p : Nat) : Int) else (p : Int)) + 1 = ((lenE p k + 1 : Nat) : Int) := by
    unfold lenE
    split <;> omega
  have e2 : (fun i j : Int => if j > i then j else i) (p : Int) (((p ^ k : Nat) : Int) / (p : Int)) + 1 = ((lenE p k + 1 : Nat) : Int) := e
  rw [e2]
  refine c_path_from ⟨q0, q4⟩ ⟨by omega, by omega⟩ ⟨by omega, by omega⟩ ?_
  walk_at "GO"
  rw [cut_m1 (by rw [orb_len]; omega), orb_len, Nat.add_sub_cancel, orb_take _ _ (by omega)]
  walk_at "ST"
  refine ⟨_, orb_last, ?_⟩
  walk_at "GO"
  exact h
theorem c_ring_entry {fs : List Int} {p k : Nat} (hk : PK p k) (hl : fs.length ≤ 40) (q : Q (.dat (entD fs p k))) : Cal (sp_ring_entry K) 3 [.dat (.list (iL fs)), .dat (.int p), .dat (.int (p ^ k : Nat))] Q X := ⟨rfl, fs, p, k, rfl, hk, hl, q⟩
theorem l_equal_plain (h : sp_equal_plain K rs Q X) : d_equal_plain K (endD Q X) (startD ["told", "due", "x", "y"] rs) := by
  obtain ⟨ds, ns, rfl, hl, h⟩ := h
  walk_at "ST"
  refine Br.ndec (fun hc => ?_) (fun hc => ?_)
  · have hc : ¬ (ds.length : Int) = (iL ns).length := hc
    rw [iL_len] at hc
    rw [eqP_len (by omega)] at h
    walk_at "ST"
    exact h
  have hc : (ds.length : Int) = (iL ns).length := hc
  rw [iL_len] at hc
  walk_at "ST"
  refine LcS.map (fun d => .bool (gB d)) (szLine (by rw [zipD_length, iL_len]; omega)) (fun d hd C hC => ?_) ?_
  · obtain ⟨x, n, rfl⟩ := zipI_mem hd
    walk_at "ST"
    refine ⟨rfl, ?_⟩
    walk_at "ST"
    refine c_is_plain ?_
    cases x with
    | int x =>
      walk_at "ST"
      exact hC
    | _ =>
      walk_at "ST"
      exact hC
  · walk_at "ST"
    refine ⟨(zipD ds (iL ns)).map gB, by rw [List.map_map]; rfl, ?_⟩
    rw [gB_all ds ns (by omega)]
    exact h
theorem c_equal_plain {ds : List D} {ns : List Int} (hl : ns.length ≤ 1000) (q : Q (.dat (.bool (eqP ds ns)))) : Cal (sp_equal_plain K) 2 [.dat (.list ds), .dat (.list (iL ns))] Q X := ⟨rfl, ds, ns, rfl, hl, q⟩
theorem l_equal_entry (h : sp_equal_entry K rs Q X) : d_equal_entry K (endD Q X) (startD ["told", "entry"] rs) := by
  obtain ⟨d, fs, p, k, rfl, hk, h⟩ := h
  have hle := (pk_len hk).2.1
  cases d with
  | tuple xs =>
    walk_at "ST"
    refine Br.ndec (fun hc => ?_) (fun hc => ?_)
    · have hc : ¬ (xs.length : Int) = 4 := hc
      have e : eqEnt fs p k (.tuple xs) = false := by
        cases e : eqEnt fs p k (.tuple xs) with
        | false => rfl
        | true =>
          have := PyData.tuple.inj (eqEnt_iff.mp e)
          rw [this] at hc
          exact absurd rfl hc
      rw [e] at h
      walk_at "ST"
      exact h
    have hc : (xs.length : Int) = 4 := hc
    match xs, hc, h with
    | [x, y, z, w], _, h =>
      walk_at "GO"
      cases z with
      | list ds =>
        walk_at "ST"
        have h : Q (.dat (.bool (eqP ds (orb (upF fs (p ^ k : Nat)) 0 (lenE p k)) && eqP [x, y, w] [(p : Int), ((p ^ k : Nat) : Int), iter (upF fs (p ^ k : Nat)) (lenE p k) 0]))) := h
        walk_at "GO"
        refine c_equal_plain (by rw [orb_len]; omega) ?_
        walk_at "ST"
        refine ⟨fun z => ?_, fun z => ?_⟩
        · have z : (!eqP ds (orb (upF fs (p ^ k : Nat)) 0 (lenE p k))) = true := z
          rw [Bool.not_eq_true'] at z
          rw [z, Bool.false_and] at h
          walk_at "ST"
          exact h
        · have z : (!eqP ds (orb (upF fs (p ^ k : Nat)) 0 (lenE p k))) = false := z
          rw [Bool.not_eq_false'] at z
          rw [z, Bool.true_and] at h
          walk_at "GO"
          exact c_equal_plain (ns := [(p : Int), ((p ^ k : Nat) : Int), iter (upF fs (p ^ k : Nat)) (lenE p k) 0]) (show 3 ≤ 1000 by decide) h
      | _ =>
        walk_at "ST"
        exact h
    | [], hc, _ => exact absurd hc (by show ¬ ((0 : Nat) : Int) = 4; decide)
    | [_], hc, _ => exact absurd hc (by show ¬ ((1 : Nat) : Int) = 4; decide)
    | [_, _], hc, _ => exact absurd hc (by show ¬ ((2 : Nat) : Int) = 4; decide)
    | [_, _, _], hc, _ => exact absurd hc (by show ¬ ((3 : Nat) : Int) = 4; decide)
    | _ :: _ :: _ :: _ :: _ :: l, hc, _ => exact absurd hc (by show ¬ ((l.length + 1 + 1 + 1 + 1 + 1 : Nat) : Int) = 4; omega)
  | _ =>
    walk_at "ST"
    exact h
theorem c_equal_entry {d : D} {fs : List Int} {p k : Nat} (hk : PK p k) (q : Q (.dat (.bool (eqEnt fs p k d)))) : Cal (sp_equal_entry K) 2 [.dat d, .dat (entD fs p k)] Q X := ⟨rfl, d, fs, p, k, rfl, hk, q⟩
theorem papB_len {fs : List Int} {l : List (Nat × Nat)} {ds : List D} (h : ds.length ≠ l.length) : papB fs l ds = false := by
  cases e : papB fs l ds with
  | false => rfl
  | true =>
    have := congrArg List.length (papB_iff.mp e).1
    unfold papL at this
    rw [List.length_map] at this
    exact absurd this h
theorem facD_some {dm : D} {l : List (Nat × Nat)} (h : facD dm = some l) : ∃ m : Nat, dm = .int m ∧ facM m = some l := by
  cases dm with
  | int m =>
    have h : facM m = some l := h
    have h2 : 2 ≤ m := by
      unfold facM at h
      split at h
      · rename_i g
        exact g.1
      · cases h
    obtain ⟨n, rfl⟩ := Int.eq_ofNat_of_zero_le (show 0 ≤ m by omega)
    exact ⟨n, rfl, h⟩
  | _ => cases h
theorem l_shows_ring (h : sp_shows_ring K rs Q X) : d_shows_ring K (endD Q X) (startD ["f", "m", "paper", "pairs", "told", "entry", "p", "e"] rs) := by
  obtain ⟨df, dm, d, rfl, h1, h2, h3⟩ := h
  walk_at "ST"
  refine c_check_poly (fun hp => ?_) h1
  walk_at "ST"
  refine c_check_modulus (fun l hf => ?_) (h2 hp)
  obtain ⟨fs, rfl, hl⟩ := polyB_ints hp
  obtain ⟨m, rfl, hm⟩ := facD_some hf
  have h := h3 fs l rfl hp hf
  walk_at "ST"
  refine c_factors (fun l2 hf2 => ?_) (fun z => by rw [hf] at z; cases z)
  rw [hf] at hf2
  cases hf2
  clear h1 h2 h3
  cases d with
  | list ds =>
    have h : Q (.dat (.bool (papB fs l ds))) := h
    walk_at "ST"
    refine Br.ndec (fun hc => ?_) (fun hc => ?_)
    · have hc : ¬ (ds.length : Int) = (l.map prD).length := hc
      rw [List.length_map] at hc
      rw [papB_len (by omega)] at h
      walk_at "ST"
      exact h
    have hc : (ds.length : Int) = (l.map prD).length := hc
    rw [List.length_map] at hc
    have hc : ds.length = l.length := by omega
    walk_at "ST"
    refine ⟨fun i δ => ∃ a b c d : Sl, δ = [.dat (.list (iL fs)), .dat (.int m), .dat (.list ds), .dat (.list (l.map prD)), a, b, c, d] ∧ ds.take i = papL fs (l.take i) ∧ ∀ q ∈ l.take i, brk fs q.1 (capK q.1 q.2) = 0, ⟨_, _, _, _, rfl, rfl, fun q hq => (nomatch hq)⟩, ?_, ?_⟩
    · rintro i d δ hd ⟨a, b, c, d', rfl, ht, hz⟩
      obtain ⟨x, y, hx, hy, rfl⟩ := zipD_at hd
      rw [List.getElem?_map] at hy
      obtain ⟨q, hq, rfl⟩ := Option.map_eq_some_iff.mp hy
      obtain ⟨hpk, e0⟩ := fac_pk hm (List.mem_of_getElem? hq)
      obtain ⟨p2, p37⟩ := pk_b hpk
      have bad : (eqEnt fs q.1 (capK q.1 q.2) x = false ∨ brk fs q.1 (capK q.1 q.2) ≠ 0) → papB fs l ds = false := fun z => by
        cases e : papB fs l ds with
        | false => rfl
        | true =>
          obtain ⟨e1, e2⟩ := papB_iff.mp e
          rcases z with z | z
          · rw [e1] at hx
            unfold papL at hx
            rw [List.getElem?_map, hq] at hx
            have : entD fs q.1 (capK q.1 q.2) = x := Option.some.inj hx
            rw [eqEnt_iff.mpr this.symm] at z
            cases z
          · exact absurd (e2 q (List.mem_of_getElem? hq)) z
      refine ⟨rfl, ?_⟩
      walk_at "ST"
      refine c_small_power e0 (by omega) ?_
      walk_at "ST"
      refine c_ring_entry hpk hl ?_
      walk_at "ST"
      refine c_equal_entry hpk ?_
      walk_at "ST"
      refine ⟨fun z => ?_, fun z => ?_⟩
      · have z : (!eqEnt fs q.1 (capK q.1 q.2) x) = true := z
        rw [Bool.not_eq_true'] at z
        rw [bad (.inl z)] at h
        walk_at "ST"
        exact h
      have z : (!eqEnt fs q.1 (capK q.1 q.2) x) = false := z
      rw [Bool.not_eq_false'] at z
      walk_at "ST"
      refine c_broken_at hpk hl ?_
      walk_at "ST"
      refine Br.dec (fun y => ?_) (fun y => ?_)
      · have y : ((brk fs q.1 (capK q.1 q.2) : Nat) : Int) > 0 := y
        rw [bad (.inr (by omega))] at h
        walk_at "ST"
        exact h
      · have y : ¬ ((brk fs q.1 (capK q.1 q.2) : Nat) : Int) > 0 := y
        walk_at "ST"
        refine ⟨_, _, _, _, rfl, ?_, fun r hr => ?_⟩
        · rw [List.take_add_one, List.take_add_one, hx, hq, ht, eqEnt_iff.mp z]
          unfold papL
          rw [List.map_append]
          rfl
        · rw [List.take_add_one, hq] at hr
          rcases List.mem_append.mp hr with hr | hr
          · exact hz r hr
          · rw [List.mem_singleton.mp hr]; omega
    · rintro δ ⟨a, b, c, d', rfl, ht, hz⟩
      rw [zipD_length, List.length_map, hc, Nat.min_self] at ht hz
      rw [List.take_length] at hz ht
      rw [← hc, List.take_length] at ht
      rw [papB_iff.mpr ⟨ht, hz⟩] at h
      walk_at "ST"
      exact h
  | _ =>
    walk_at "ST"
    exact h
end
end RB

set_option Elab.async false
set_option linter.all false
set_option maxRecDepth 100000
set_option maxHeartbeats 8000000
/-! X7: judged, refusals, twisted papers -/
namespace RB
open PySem PySem.Spec PyProof.Rows L2
local macro_rules | `(tactic| walk_at "ST") => `(tactic| ((conv => whnf); repeat (first | (refine Br.t ?_; conv => whnf) | (refine Br.f ?_; conv => whnf))))
local macro_rules | `(tactic| walk_at "SZ") => `(tactic| first | decide | omega | (simp only [List.length_append, List.length_map, List.length_cons, List.length_nil]; done) | (simp only [List.length_append, List.length_map, List.length_cons, List.length_nil]; omega))
local macro_rules | `(tactic| walk_at "G1") => `(tactic| first | refine And.intro (szLine (by walk_at "SZ")) ?_ | refine And.intro (mulR (by decide) (by decide)) ?_ | refine And.intro (mulL (by decide) (by decide)) ?_ | refine And.intro (divOk (by decide) (by decide)) ?_ | refine And.intro (show PowOk _ _ from ⟨by decide, by decide⟩) ?_ | refine And.intro (by decide) ?_ | refine And.intro rfl ?_ | refine Exists.intro _ (And.intro rfl ?_))
local macro_rules | `(tactic| walk_at "DP") => `(tactic| repeat (first | assumption | exact Dep.non | exact Dep.bl _ | exact Dep.int _ | exact Dep.str _ | exact dL_nil | refine dL_cons ?_ ?_ | refine Dep.lst (by walk_at "SZ") ?_ | refine Dep.tup (by walk_at "SZ") ?_))
local macro_rules | `(tactic| walk_at "GO") => `(tactic| ((walk_at "ST"); repeat ((walk_at "G1"); (walk_at "ST"))))
theorem entD_dep {fs : List Int} {p k n : Nat} (hk : PK p k) : Dep (n + 3) (entD fs p k) :=
  .tup (by show 4 < 2 ^ 20; decide) (dL_cons (.int _) (dL_cons (.int _) (dL_cons (dep_ints (by rw [orb_len]; have := (pk_len hk).2.1; omega)) (dL_cons (.int _) dL_nil))))
theorem papL_dep {fs : List Int} {m : Nat} {l : List (Nat × Nat)} (hm : facM m = some l) {n : Nat} : ∀ d ∈ papL fs l, Dep (n + 3) d := fun d hd => by
  obtain ⟨q, hq, rfl⟩ := List.mem_map.mp hd
  exact entD_dep (fac_pk hm hq).1
theorem papL_len {fs : List Int} {l : List (Nat × Nat)} : (papL fs l).length = l.length := List.length_map ..
section
variable {K : Fr} {Q : RV → Prop} {X : Addr → Prop} {rs : List RV}
theorem c_shows {df dm d : D} (h1 : polyB df = false → X (cP K)) (h2 : polyB df = true → facD dm = none → X (cM K)) (h3 : ∀ fs l, df = .list (iL fs) → polyB df = true → facD dm = some l → Q (.dat (.bool (showB fs l d)))) : Cal (sp_shows_ring K) 3 [.dat df, .dat dm, .dat d] Q X := ⟨rfl, df, dm, d, rfl, h1, h2, h3⟩
theorem l__law_judged (h : sp__law_judged K rs Q X) : d__law_judged K (endD Q X) (startD ["f", "m", "paper", "due", "given", "shown", "answer"] rs) := by
  obtain ⟨fs, m, l, d, rfl, hf, hp, hd, h⟩ := h
  have hd : Dep 30 d := hd.mono (by decide)
  have hp : polyB (.list (iL fs)) = true := hp
  have hl := polyB_len hp
  have hs : Dep 30 (.list (iL fs)) := dep_ints (by omega)
  walk_at "ST"
  refine c_copyS hd ?_ (fun ds z => z)
  walk_at "ST"
  refine c_shows (fun z => by rw [hp] at z; cases z) (fun _ z => ?_) (fun fs' l' e1 _ e2 => ?_)
  · have z : facM m = none := z
    rw [hf] at z; cases z
  · cases iL_inj (PyData.list.inj e1)
    have e2 : facM m = some l' := e2
    rw [hf] at e2
    cases e2
    walk_at "ST"
    refine c_same (.bl _) (.bl _) ?_
    rw [(sameB_iff (.bl _) (.bl _)).mpr rfl]
    walk_at "ST"
    refine c_same hs hs ?_
    rw [(sameB_iff hs hs).mpr rfl]
    walk_at "ST"
    refine c_same hd hd ?_
    rw [(sameB_iff hd hd).mpr rfl]
    exact h
theorem c_judged {fs : List Int} {m : Nat} {l : List (Nat × Nat)} {d : D} {b : Bool} (hm : facM m = some l) (hp : Pol fs) (hd : Dep 24 d) (hb : b = showB fs l d) (q : Q (.dat (.bool true))) : Cal (sp__law_judged K) 4 [.dat (.list (iL fs)), .dat (.int m), .dat d, .dat (.bool b)] Q X := ⟨rfl, fs, m, l, d, (by subst hb; rfl), hm, hp, hd, q⟩
theorem l__law_refusal (F : TF K) (h : sp__law_refusal K rs Q X) : d__law_refusal K (endD Q X) (startD ["f", "m", "paper", "e"] rs) := by
  obtain ⟨df, dm, d, rfl, h1, h2, hb⟩ := h
  walk_at "ST"
  refine c_shows (fun hn => ?_) (fun hp hn => ?_) (fun fs l e1 hp e2 => ?_)
  · walk_at "ST"
    refine ⟨true, F.ex_BadPoly_BadPoly, Br.t fun a => ?_⟩
    walk_at "GO"
    refine ⟨F.cx_BadPoly, rfl, true, kitAny_t F.ki_BadPoly_RingError, ?_⟩
    walk_at "ST"
    refine ⟨F.cx_BadPoly, rfl, false, kitAny_f F.ki_BadPoly_BadModulus (kitAny_f F.ki_BadPoly_BadRow (kitAny_f F.ki_BadPoly_BadNumber kitAny_nil)), ?_⟩
    walk_at "GO"
    exact h1 hn
  · walk_at "ST"
    refine ⟨false, F.ex_BadModulus_BadPoly, Br.f ?_⟩
    walk_at "ST"
    refine ⟨true, F.ex_BadModulus_BadModulus, Br.t fun a => ?_⟩
    walk_at "GO"
    refine ⟨F.cx_BadModulus, rfl, true, kitAny_t F.ki_BadModulus_RingError, ?_⟩
    walk_at "ST"
    refine ⟨F.cx_BadModulus, rfl, false, kitAny_f F.ki_BadModulus_BadRow (kitAny_f F.ki_BadModulus_BadNumber (kitAny_f F.ki_BadModulus_NotRing kitAny_nil)), ?_⟩
    walk_at "GO"
    exact h2 hp hn
  · rcases hb with hb | hb
    · rw [hp] at hb; cases hb
    · rw [e2] at hb; cases hb
theorem c_refusal {f m d : D} {word : Str} (h : (polyB f = false ∧ word = "poly") ∨ (polyB f = true ∧ facD m = none ∧ word = "modulus")) (k : Q (.dat (.str word))) : Cal (sp__law_refusal K) 3 [.dat f, .dat m, .dat d] Q X := by
  refine ⟨rfl, f, m, d, rfl, fun z => ?_, fun z z2 => ?_, ?_⟩
  · rcases h with h | h
    · rw [← h.2]; exact k
    · rw [h.1] at z; cases z
  · rcases h with h | h
    · rw [h.1] at z; cases z
    · rw [← h.2.2]; exact k
  · rcases h with h | h
    · exact .inl h.1
    · exact .inr h.2.1
end
end RB

set_option Elab.async false
set_option linter.all false
set_option maxRecDepth 100000
set_option maxHeartbeats 8000000
/-! X8: a twisted paper -/
namespace RB
open PySem PySem.Spec PyProof.Rows L2
local macro_rules | `(tactic| walk_at "ST") => `(tactic| ((conv => whnf); repeat (first | (refine Br.t ?_; conv => whnf) | (refine Br.f ?_; conv => whnf))))
local macro_rules | `(tactic| walk_at "SZ") => `(tactic| first | decide | omega | (simp only [List.length_append, List.length_map, List.length_cons, List.length_nil]; done) | (simp only [List.length_append, List.length_map, List.length_cons, List.length_nil]; omega))
local macro_rules | `(tactic| walk_at "G1") => `(tactic| first | refine And.intro (szLine (by walk_at "SZ")) ?_ | refine And.intro (mulR (by decide) (by decide)) ?_ | refine And.intro (mulL (by decide) (by decide)) ?_ | refine And.intro (divOk (by decide) (by decide)) ?_ | refine And.intro (show PowOk _ _ from ⟨by decide, by decide⟩) ?_ | refine And.intro (by decide) ?_ | refine And.intro rfl ?_ | refine Exists.intro _ (And.intro rfl ?_))
local macro_rules | `(tactic| walk_at "DP") => `(tactic| repeat (first | assumption | exact Dep.non | exact Dep.bl _ | exact Dep.int _ | exact Dep.str _ | exact dL_nil | refine dL_cons ?_ ?_ | refine Dep.lst (by walk_at "SZ") ?_ | refine Dep.tup (by walk_at "SZ") ?_))
local macro_rules | `(tactic| walk_at "GO") => `(tactic| ((walk_at "ST"); repeat ((walk_at "G1"); (walk_at "ST"))))
theorem last_ex {ns : List Int} (h : 0 < ns.length) : ∃ z : Int, L2.atI (iL ns) (-1) = some (.int z) := by
  have e : L2.atI (iL ns) (-1) = (iL ns)[ns.length - 1]? := by
    unfold L2.atI L2.ixN
    rw [if_neg (by decide), iL_len, if_pos (by omega)]
    show (iL ns)[(-1 + (ns.length : Int)).toNat]? = _
    rw [show (-1 + (ns.length : Int)).toNat = ns.length - 1 by omega]
  rw [e, List.getElem?_eq_getElem (by rw [iL_len]; omega), List.getElem_map]
  exact ⟨_, rfl⟩
section
variable {K : Fr} {Q : RV → Prop} {X : Addr → Prop} {rs : List RV}
theorem l__law_twist (h : sp__law_twist K rs Q X) : d__law_twist K (endD Q X) (startD ["store", "paper", "f", "kind", "at", "place", "deep", "k", "turned", "p", "q", "line", "last", "full"] rs) := by
  obtain ⟨fs, m, l, rfl, hm, hp, h⟩ := h
  have hfl := polyB_len (show polyB (.list (iL fs)) = true from hp)
  have hl12 := fac_len hm
  have hl0 : 0 < l.length := by
    rcases l with _ | ⟨a, l⟩
    · have h1 := fac_prod hm
      have h2 := (facM_run hm).1
      have h1 : 1 = m := h1
      omega
    · exact Nat.succ_pos _
  have hPl : (papL fs l).length = l.length := papL_len
  have hPd : ∀ d ∈ papL fs l, Dep 23 d := papL_dep hm
  have hPD : Dep 4 (.list (papL fs l)) := .lst (by omega) (papL_dep hm)
  have h4 : ∀ d, Dep 24 d → Q (.dat d) := fun d hd => (h d hd).1
  have cl : ∀ lo hi, (cutD (papL fs l) lo hi).length ≤ 12 := fun lo hi => Nat.le_trans (cutD_len _ lo hi) (by omega)
  have ci : ∀ lo hi, ∀ d ∈ cutD (papL fs l) lo hi, Dep 23 d := fun lo hi => dep_cut hPd
  walk_at "ST"
  refine c_take (by decide) fun kd _ _ => ?_
  walk_at "ST"
  refine Br.dec (fun _ => ?_) (fun _ => ?_)
  · walk_at "ST"
    refine c_kindbent (k := 3) (by decide) hPD fun d' hd' => ?_
    exact h d' (hd'.mono (by decide))
  walk_at "ST"
  refine Br.dec (fun _ => ?_) (fun _ => ?_)
  · walk_at "GO"
    refine ⟨⟨by decide, by decide⟩, ?_⟩
    walk_at "ST"
    refine ⟨fun i δ => ∃ (x : D) (a : Sl), δ = [.sto, .dat (.list (papL fs l)), .dat (.list (iL fs)), .dat (.int kd), .no, .no, .dat x, a, .no, .no, .no, .no, .no, .no] ∧ Dep (i + 1) x, ⟨_, _, rfl, .tup (by decide) dL_nil⟩, ?_, ?_⟩
    · rintro i d δ hd ⟨x, a, rfl, hx⟩
      walk_at "GO"
      exact ⟨_, _, rfl, .lst (by show 1 < 2 ^ 20; decide) (dL_cons hx dL_nil)⟩
    · rintro δ ⟨x, a, rfl, hx⟩
      have hx : Dep 20 x := hx
      have hx : Dep 24 x := hx.mono (by decide)
      have hP2 : Dep 22 (.list (papL fs l)) := hPD.mono (by decide)
      walk_at "GO"
      refine c_pick (fun z => nomatch z) (show 12 < 2 ^ 62 by decide) fun d hd => ?_
      have hd : Dep 24 d := (show ∀ d ∈ [PyData.none, .bool true, .int 0, .str "", .str "ring", .list [], .tuple [], x, .list [.tuple []], .list [.list []], .tuple [.str "ring", .list (papL fs l)], .list [.list (papL fs l)]], Dep 24 d by
        refine dL_cons .non (dL_cons (.bl _) (dL_cons (.int _) (dL_cons (.str _) (dL_cons (.str _) (dL_cons (.lst (by decide) dL_nil) (dL_cons (.tup (by decide) dL_nil) (dL_cons hx (dL_cons (.lst (by show 1 < 2 ^ 20; decide) (dL_cons (.tup (by decide) dL_nil) dL_nil)) (dL_cons (.lst (by show 1 < 2 ^ 20; decide) (dL_cons (.lst (by decide) dL_nil) dL_nil)) (dL_cons (.tup (by show 2 < 2 ^ 20; decide) (dL_cons (.str _) (dL_cons (hP2.mono (by decide)) dL_nil))) (dL_cons (.lst (by show 1 < 2 ^ 20; decide) (dL_cons (hP2.mono (by decide)) dL_nil)) dL_nil)))))))))))) d hd
      walk_at "ST"
      exact h4 d hd
  walk_at "ST"
  refine c_take (by rw [hPl]; omega) fun at0 h1 h2 => ?_
  have h2 : at0 < l.length := by rw [hPl] at h2; omega
  have hlt : at0.toNat < l.length := by omega
  have ati : L2.atI (papL fs l) at0 = some (entD fs l[at0.toNat].1 (capK l[at0.toNat].1 l[at0.toNat].2)) := by
    rw [atI_nat h1 (by rw [hPl]; exact h2)]
    congr 1
    exact List.getElem_map ..
  have hpk := (fac_pk hm (List.getElem_mem hlt)).1
  generalize l[at0.toNat] = q at *
  obtain ⟨p2, p37⟩ := pk_b hpk
  obtain ⟨l1, l2, q0⟩ := pk_len hpk
  have q4 := hpk.b
  walk_at "ST"
  refine Br.dec (fun _ => ?_) (fun _ => ?_)
  · have c1 := cl none (some at0)
    have c2 := cl (some (at0 + 1)) none
    have c3 := cl none (some (at0 + 1))
    have c4 := cl (some at0) none
    have hE : Dep 23 (entD fs q.1 (capK q.1 q.2)) := entD_dep hpk
    walk_at "GO"
    refine ⟨_, ati, ?_⟩
    walk_at "GO"
    refine ⟨_, ati, ?_⟩
    walk_at "GO"
    refine c_pick (fun z => nomatch z) (show 7 < 2 ^ 62 by decide) fun d hd => ?_
    have hd : ∃ ds, d = .list ds ∧ ds.length ≤ 5000 ∧ ∀ d ∈ ds, Dep 23 d := by
      generalize entD fs q.1 (capK q.1 q.2) = E at *
      have hd : d ∈ [PyData.list (cutD (papL fs l) (some (at0 + 1)) none ++ cutD (papL fs l) none (some (at0 + 1))), .list (cutD (papL fs l) none (some at0) ++ cutD (papL fs l) (some (at0 + 1)) none), .list (papL fs l).reverse, .list (papL fs l ++ [E]),
        .list (cutD (papL fs l) none (some at0) ++ [E] ++ cutD (papL fs l) (some at0) none), .list (papL fs l ++ [.tuple []]), .list (papL fs l ++ [.none])] := hd
      simp only [List.mem_cons, List.not_mem_nil, or_false] at hd
      rcases hd with rfl | rfl | rfl | rfl | rfl | rfl | rfl
      · exact ⟨_, rfl, by rw [List.length_append]; omega, dep_app (ci _ _) (ci _ _)⟩
      · exact ⟨_, rfl, by rw [List.length_append]; omega, dep_app (ci _ _) (ci _ _)⟩
      · exact ⟨_, rfl, by rw [List.length_reverse]; omega, dep_rev hPd⟩
      · exact ⟨_, rfl, by rw [List.length_append]; show _ + 1 ≤ 5000; omega, dep_app hPd (dL_cons hE dL_nil)⟩
      · exact ⟨_, rfl, by rw [List.length_append, List.length_append]; show _ + 1 + _ ≤ 5000; omega, dep_app (dep_app (ci _ _) (dL_cons hE dL_nil)) (ci _ _)⟩
      · exact ⟨_, rfl, by rw [List.length_append]; show _ + 1 ≤ 5000; omega, dep_app hPd (dL_cons (.tup (by decide) dL_nil) dL_nil)⟩
      · exact ⟨_, rfl, by rw [List.length_append]; show _ + 1 ≤ 5000; omega, dep_app hPd (dL_cons .non dL_nil)⟩
    obtain ⟨ds, rfl, hd1, hd2⟩ := hd
    walk_at "ST"
    exact h4 _ (.lst (by omega) hd2)
  have eE : entD fs q.1 (capK q.1 q.2) = .tuple [.int q.1, .int (q.1 ^ capK q.1 q.2 : Nat), .list (iL (orb (upF fs (q.1 ^ capK q.1 q.2 : Nat)) 0 (lenE q.1 (capK q.1 q.2)))), .int (iter (upF fs (q.1 ^ capK q.1 q.2 : Nat)) (lenE q.1 (capK q.1 q.2)) 0)] := rfl
  rw [eE] at ati
  have hLl := orb_len (upF fs (q.1 ^ capK q.1 q.2 : Nat)) 0 (lenE q.1 (capK q.1 q.2))
  walk_at "ST"
  refine ⟨_, ati, ?_⟩
  clear ati eE
  generalize orb (upF fs (q.1 ^ capK q.1 q.2 : Nat)) 0 (lenE q.1 (capK q.1 q.2)) = L at *
  generalize iter (upF fs (q.1 ^ capK q.1 q.2 : Nat)) (lenE q.1 (capK q.1 q.2)) 0 = z at *
  generalize q.1 ^ capK q.1 q.2 = w at *
  generalize q.1 = p at *
  have hL0 : 2 ≤ L.length ∧ L.length ≤ 400 := by omega
  have c1 := cl none (some at0)
  have c2 := cl (some (at0 + 1)) none
  walk_at "ST"
  refine ⟨rfl, ?_⟩
  walk_at "ST"
  refine c_take (by rw [iL_len]; omega) fun pl p1 p3 => ?_
  have p3 : pl < L.length := by rw [iL_len] at p3; omega
  have atp : L2.atI (iL L) pl = some (.int (L.getD pl.toNat 0)) := atI_iL p1 p3
  have at00 : L2.atI (iL L) 0 = some (.int (L.getD 0 0)) := atI_iL (by omega) (by omega)
  have il : ∀ lo hi, (cutD (iL L) lo hi).length ≤ 400 := fun lo hi => Nat.le_trans (cutD_len _ lo hi) (by rw [iL_len]; omega)
  have ii : ∀ lo hi, ∀ d ∈ cutD (iL L) lo hi, Dep 19 d := fun lo hi => dep_cut dep_iL
  have iLl := iL_len L
  have i1 := il none (some pl)
  have i2 := il (some (pl + 1)) none
  have hL20 : Dep 20 (.list (iL L)) := dep_ints (by omega)
  walk_at "ST"
  refine ⟨fun δ' => ∃ (d1 d2 d3 d4 : D) (a : Sl), δ' = [.sto, .dat (.list (papL fs l)), .dat (.list (iL fs)), .dat (.int kd), .dat (.int at0), .dat (.int pl), .no, .no, .no, .dat d1, .dat d2, .dat d3, .dat d4, a] ∧ Dep 20 d1 ∧ Dep 20 d2 ∧ Dep 20 d3 ∧ Dep 20 d4, ?_, ?_⟩
  · walk_at "ST"
    refine Br.dec (fun _ => ?_) (fun _ => ?_)
    · walk_at "ST"
      refine ⟨_, atp, ?_⟩
      walk_at "GO"
      refine c_pick (fun z => nomatch z) (show 2 < 2 ^ 62 by decide) fun d hd => ?_
      obtain ⟨v, rfl⟩ : ∃ v : Int, d = .int v := by
        have hd : d ∈ [PyData.int w, .int (0 - w)] := hd
        simp only [List.mem_cons, List.not_mem_nil, or_false] at hd
        rcases hd with rfl | rfl <;> exact ⟨_, rfl⟩
      walk_at "GO"
      exact ⟨_, _, _, _, _, rfl, .int _, .int _, .lst (by rw [List.length_append, List.length_append]; show _ + 1 + _ < 2 ^ 20; omega) (dep_app (dep_app (ii _ _) (dL_cons (.int _) dL_nil)) (ii _ _)), .int _⟩
    walk_at "ST"
    refine Br.dec (fun _ => ?_) (fun _ => ?_)
    · walk_at "ST"
      refine ⟨_, atp, ?_⟩
      walk_at "ST"
      refine c_take (by omega) fun t _ _ => ?_
      walk_at "ST"
      refine ⟨by omega, ?_⟩
      walk_at "GO"
      exact ⟨_, _, _, _, _, rfl, .int _, .int _, .lst (by rw [List.length_append, List.length_append]; show _ + 1 + _ < 2 ^ 20; omega) (dep_app (dep_app (ii _ _) (dL_cons (.int _) dL_nil)) (ii _ _)), .int _⟩
    walk_at "ST"
    refine Br.dec (fun _ => ?_) (fun _ => ?_)
    · walk_at "ST"
      refine ⟨by omega, ?_⟩
      walk_at "ST"
      refine ⟨by omega, ?_⟩
      walk_at "ST"
      refine ⟨_, at00, ?_⟩
      walk_at "GO"
      refine c_pick (fun z => nomatch z) (show 7 < 2 ^ 62 by decide) fun d hd => ?_
      have hd : Dep 20 d := (show ∀ d ∈ [PyData.int (z + w), .int (z - w), .int ((z + p) % w), .int ((z + 1) % w), .int 0, .int (L.getD (0 : Int).toNat 0), .none], Dep 20 d by walk_at "DP") d hd
      walk_at "ST"
      exact ⟨_, _, _, _, _, rfl, .int _, .int _, hL20, hd⟩
    walk_at "ST"
    refine Br.dec (fun _ => ?_) (fun _ => ?_)
    · walk_at "ST"
      refine ⟨_, atp, ?_⟩
      walk_at "GO"
      refine c_pick (fun z => nomatch z) (show 2 < 2 ^ 62 by decide) fun d hd => ?_
      obtain ⟨v, rfl⟩ : ∃ v : Int, d = .int v := by
        have hd : d ∈ [PyData.int 0, .int (L.getD pl.toNat 0)] := hd
        simp only [List.mem_cons, List.not_mem_nil, or_false] at hd
        rcases hd with rfl | rfl <;> exact ⟨_, rfl⟩
      walk_at "ST"
      refine c_take (by decide) fun t t0 t1 => ?_
      have t1 : t < 3 := t1
      walk_at "ST"
      rw [iLl, show (L.length : Int) + t = ((L.length + t.toNat : Nat) : Int) by omega]
      refine c_rowof ⟨by omega, by omega⟩ hfl (by omega) ?_
      obtain ⟨z', hz'⟩ := last_ex (ns := rowF fs w v (L.length + t.toNat)) (by rw [rowF_len]; omega)
      walk_at "GO"
      refine ⟨_, hz', ?_⟩
      walk_at "GO"
      exact ⟨_, _, _, _, _, rfl, .int _, .int _, .lst (Nat.lt_of_le_of_lt (cutD_len _ _ _) (by rw [iL_len, rowF_len]; omega)) (dep_cut dep_iL), .int _⟩
    walk_at "ST"
    refine Br.dec (fun _ => ?_) (fun _ => ?_)
    · have mx : ∀ a b : Nat, a ≤ 400 → b ≤ 37 → a * b ≤ 14800 := fun a b h1 h2 => Nat.mul_le_mul h1 h2
      walk_at "ST"
      refine ⟨mulR (by omega) (by omega), ?_⟩
      walk_at "ST"
      refine ⟨mulR (by omega) (by omega), ?_⟩
      walk_at "GO"
      refine c_pick (fun z => nomatch z) (show 3 < 2 ^ 62 by decide) fun d hd => ?_
      obtain ⟨W, ⟨w0, w1, w2⟩, rfl⟩ : ∃ W : Nat, (0 < W ∧ W ≤ 14800 ∧ W / p ≤ 400) ∧ d = .int W := by
        have hd : d ∈ [PyData.int p, .int ((w : Int) * p), .int ((p : Int) * p)] := hd
        simp only [List.mem_cons, List.not_mem_nil, or_false] at hd
        rcases hd with rfl | rfl | rfl
        · exact ⟨p, ⟨by omega, by omega, Nat.le_trans (Nat.div_le_self _ _) (by omega)⟩, rfl⟩
        · exact ⟨w * p, ⟨Nat.mul_pos q0 (by omega), mx w p (by omega) p37, by rw [Nat.mul_div_cancel _ (by omega)]; omega⟩, by rw [Int.natCast_mul]⟩
        · exact ⟨p * p, ⟨Nat.mul_pos (by omega) (by omega), mx p p (by omega) p37, by rw [Nat.mul_div_cancel _ (by omega)]; omega⟩, by rw [Int.natCast_mul]⟩
      walk_at "ST"
      refine ⟨divOk (by omega) (by omega), ?_⟩
      have e : (if ((W / p : Nat) : Int) > (p : Int) then ((W / p : Nat) : Int) else (p : Int)) + 1 = ((max p (W / p) + 1 : Nat) : Int) := by
        split <;> omega
      have e2 : (fun i j : Int => if j > i then j else i) (p : Int) ((W : Int) / (p : Int)) + 1 = ((max p (W / p) + 1 : Nat) : Int) := e
      walk_at "ST"
      rw [e2]
      refine c_rowof ⟨by omega, by omega⟩ hfl (by omega) ?_
      obtain ⟨z', hz'⟩ := last_ex (ns := rowF fs W 0 (max p (W / p) + 1)) (by rw [rowF_len]; omega)
      walk_at "GO"
      refine ⟨_, hz', ?_⟩
      walk_at "GO"
      exact ⟨_, _, _, _, _, rfl, .int _, .int _, .lst (Nat.lt_of_le_of_lt (cutD_len _ _ _) (by rw [iL_len, rowF_len]; omega)) (dep_cut dep_iL), .int _⟩
    walk_at "ST"
    refine Br.dec (fun _ => ?_) (fun _ => ?_)
    · walk_at "GO"
      refine c_pick (fun z => nomatch z) (show 7 < 2 ^ 62 by decide) fun d hd => ?_
      have hd : Dep 20 d := (show ∀ d ∈ [PyData.int w, .int (p + 1), .int (0 - p), .int 2, .int 3, .int 1, .bool true], Dep 20 d by walk_at "DP") d hd
      walk_at "ST"
      exact ⟨_, _, _, _, _, rfl, hd, .int _, hL20, .int _⟩
    · have i3 := il none (some (-1))
      have i4 := il (some 1) none
      have i5 := il none (some 1)
      walk_at "GO"
      rw [iLl]
      refine ⟨⟨by omega, by omega, szLine (show 1 * (L.length : Int).toNat < 2 ^ 20 by omega)⟩, ?_⟩
      rw [repl_flat]
      walk_at "GO"
      refine c_pick (fun z => nomatch z) (show 6 < 2 ^ 62 by decide) fun d hd => ?_
      have hd : Dep 20 d := by
        have hd : d ∈ [PyData.list (iL L ++ [.int z]), .list (cutD (iL L) none (some (-1))), .list (cutD (iL L) (some 1) none ++ cutD (iL L) none (some 1)), .list (iL L).reverse, .list [], .list (iL (List.replicate L.length 0))] := hd
        simp only [List.mem_cons, List.not_mem_nil, or_false] at hd
        rcases hd with rfl | rfl | rfl | rfl | rfl | rfl
        · exact .lst (by rw [List.length_append]; show _ + 1 < 2 ^ 20; omega) (dep_app dep_iL (dL_cons (.int _) dL_nil))
        · exact .lst (by omega) (ii _ _)
        · exact .lst (by rw [List.length_append]; omega) (dep_app (ii _ _) (ii _ _))
        · exact .lst (by rw [List.length_reverse]; omega) (dep_rev dep_iL)
        · exact .lst (by decide) dL_nil
        · exact dep_ints (by rw [List.length_replicate]; omega)
      walk_at "ST"
      exact ⟨_, _, _, _, _, rfl, .int _, .int _, hd, .int _⟩
  · rintro δ' ⟨d1, d2, d3, d4, a, rfl, e1, e2, e3, e4⟩
    walk_at "GO"
    have fin : Dep 24 (.list (cutD (papL fs l) none (some at0) ++ [.tuple [d1, d2, d3, d4]] ++ cutD (papL fs l) (some (at0 + 1)) none)) := .lst (by rw [List.length_append, List.length_append]; show _ + 1 + _ < 2 ^ 20; omega) (dep_app (dep_app (ci _ _) (dL_cons (.tup (by show 4 < 2 ^ 20; decide) (dL_cons (e1.mono (by decide)) (dL_cons (e2.mono (by decide)) (dL_cons (e3.mono (by decide)) (dL_cons (e4.mono (by decide)) dL_nil))))) dL_nil)) (ci _ _))
    exact (h _ fin).2 _ rfl
end
end RB

set_option Elab.async false
set_option linter.all false
set_option maxRecDepth 100000
set_option maxHeartbeats 8000000
set_option exponentiation.threshold 100000
/-! X9: the law -/
namespace RB
open PySem PySem.Spec PyProof.Rows L2
local macro_rules | `(tactic| walk_at "ST") => `(tactic| ((conv => whnf); repeat (first | (refine Br.t ?_; conv => whnf) | (refine Br.f ?_; conv => whnf))))
local macro_rules | `(tactic| walk_at "SZ") => `(tactic| first | decide | omega | (simp only [List.length_append, List.length_map, List.length_cons, List.length_nil]; done) | (simp only [List.length_append, List.length_map, List.length_cons, List.length_nil]; omega))
local macro_rules | `(tactic| walk_at "G1") => `(tactic| first | refine And.intro (szLine (by walk_at "SZ")) ?_ | refine And.intro (mulR (by decide) (by decide)) ?_ | refine And.intro (mulL (by decide) (by decide)) ?_ | refine And.intro (divOk (by decide) (by decide)) ?_ | refine And.intro (show PowOk _ _ from ⟨by decide, by decide⟩) ?_ | refine And.intro (by decide) ?_ | refine And.intro rfl ?_ | refine Exists.intro _ (And.intro rfl ?_))
local macro_rules | `(tactic| walk_at "DP") => `(tactic| repeat (first | assumption | exact Dep.non | exact Dep.bl _ | exact Dep.int _ | exact Dep.str _ | exact dL_nil | refine dL_cons ?_ ?_ | refine Dep.lst (by walk_at "SZ") ?_ | refine Dep.tup (by walk_at "SZ") ?_))
local macro_rules | `(tactic| walk_at "GO") => `(tactic| ((walk_at "ST"); repeat ((walk_at "G1"); (walk_at "ST"))))
theorem polyB_snoc {ds : List D} {x : D} (h : fitD x = false) : polyB (.list (ds ++ [x])) = false := by
  rw [polyB_list, List.all_append]
  show (decide _ && ((ds.all fitD && (fitD x && true)) && _)) = false
  rw [h, Bool.false_and, Bool.and_false, Bool.false_and, Bool.and_false]
theorem fac_neg {m : Int} (h : m < 2) : facM m = none := by
  unfold facM
  rw [if_neg (by omega)]
theorem fac_bad2 : ∀ x ∈ [1, 0, 41, 529, (10000000001 : Int)], facM x = none := by decide +kernel
section
variable {K : Fr} {Q : RV → Prop} {X : Addr → Prop} {rs : List RV}
theorem c_twist {fs : List Int} {m : Nat} {l : List (Nat × Nat)} (hm : facM m = some l) (hp : Pol fs) (q : ∀ d, Dep 24 d → Q (.dat d)) (he : ∀ ds, Q (.dat (.list ds)) → Q (.own ds)) : Cal (sp__law_twist K) 3 [.sto, .dat (.list (papL fs l)), .dat (.list (iL fs))] Q X :=
  ⟨rfl, fs, m, l, rfl, hm, hp, fun d hd => ⟨q d hd, fun ds e => he ds (by rw [← e]; exact q d hd)⟩⟩
theorem l_law : d_law K endL (lawSt 17) := by
  walk_at "GO"
  refine c_pick (fun z => nomatch z) (show 12 < 2 ^ 62 by decide) fun d hd => ?_
  obtain ⟨hh, hhv, rfl⟩ : ∃ h : Nat, (2 ≤ h ∧ h ≤ 10000000000) ∧ d = .int h := by
    obtain ⟨x, hx, rfl⟩ := List.mem_map.mp (show d ∈ [60, 60, 60, 60, 60, 60, 60, 60, 60, 400, 400, 10000000000].map (fun x : Nat => PyData.int ((x : Nat) : Int)) from hd)
    have : ∀ x ∈ [60, 60, 60, 60, 60, 60, 60, 60, 60, 400, 400, 10000000000], 2 ≤ x ∧ x ≤ 10000000000 := by decide
    exact ⟨x, this x hx, rfl⟩
  clear hd
  walk_at "ST"
  refine c_modulus hhv fun m m2 m3 ⟨l, hm⟩ => ?_
  have m4 : m ≤ 10000000000 := by omega
  have hdv : ∀ q ∈ l, (0 : Int) < ((q.1 ^ capK q.1 q.2 : Nat) : Int) ∧ (m : Int) % ((q.1 ^ capK q.1 q.2 : Nat) : Int) = 0 := fun q hq => by
    have h0 := (pk_len (fac_pk hm hq).1).2.2
    refine ⟨by omega, Int.emod_eq_zero_of_dvd (Int.natCast_dvd_natCast.mpr (Nat.dvd_trans (Nat.pow_dvd_pow _ (capK_le _ _)) (fac_mem hm hq).2.2.2.1))⟩
  walk_at "ST"
  refine c_maker hm fun fs0 hp0 hg0 => ?_
  have hg0 := hg0 rfl
  walk_at "ST"
  refine c_maker hm fun gs0 hq0 _ => ?_
  walk_at "ST"
  refine ⟨fun δ' => ∃ fs : List Int, δ' = [.no, .sto, .dat (.int m), .dat (.list (iL fs)), .dat (.list (iL gs0)), .no, .no, .no, .no, .no, .no, .no, .no, .no, .no, .no, .no] ∧ Pol fs ∧ ∀ q ∈ l, goB fs (q.1 ^ capK q.1 q.2) = true, ?_, ?_⟩
  · walk_at "ST"
    refine c_seldom (by decide) fun b => ?_
    walk_at "ST"
    refine ⟨fun _ => ?_, fun _ => ?_⟩
    · walk_at "ST"
      refine c_vast ⟨m2, m4⟩ (polyB_len (show polyB (.list (iL fs0)) = true from hp0)) (pol_fit hp0) fun fs' h1 h2 => ?_
      walk_at "ST"
      refine ⟨fs', rfl, h1, fun q hq => ?_⟩
      rw [goB_cong fun x => h2 _ x (hdv q hq).1 (hdv q hq).2]
      exact hg0 q hq
    · walk_at "ST"
      exact ⟨fs0, rfl, hp0, hg0⟩
  clear hp0 hg0
  rintro δ' ⟨fs, rfl, hp, hg⟩
  walk_at "ST"
  refine ⟨fun δ' => ∃ gs : List Int, δ' = [.no, .sto, .dat (.int m), .dat (.list (iL fs)), .dat (.list (iL gs)), .no, .no, .no, .no, .no, .no, .no, .no, .no, .no, .no, .no] ∧ Pol gs, ?_, ?_⟩
  · walk_at "ST"
    refine c_seldom (by decide) fun b => ?_
    walk_at "ST"
    refine ⟨fun _ => ?_, fun _ => ?_⟩
    · walk_at "ST"
      refine c_vast ⟨m2, m4⟩ (polyB_len (show polyB (.list (iL gs0)) = true from hq0)) (pol_fit hq0) fun gs' h1 h2 => ?_
      walk_at "ST"
      exact ⟨gs', rfl, h1⟩
    · walk_at "ST"
      exact ⟨gs0, rfl, hq0⟩
  clear hq0
  rintro δ' ⟨gs, rfl, hq⟩
  have hpl := polyB_len (show polyB (.list (iL fs)) = true from hp)
  have hql := polyB_len (show polyB (.list (iL gs)) = true from hq)
  have brk0 : ∀ hs : List Int, (∀ q ∈ l, brk hs q.1 (capK q.1 q.2) = 0) ↔ (l.all fun q => goB hs (q.1 ^ capK q.1 q.2)) = true := fun hs => by
    rw [List.all_eq_true]
    have key : ∀ q ∈ l, (brk hs q.1 (capK q.1 q.2) = 0 ↔ goB hs (q.1 ^ capK q.1 q.2) = true) := fun q hq => by
      have hpk := (fac_pk hm hq).1
      have := (pk_b hpk).1
      exact brk_zero (by omega) hpk.k0 hpk.k3
    exact ⟨fun h q hq => (key q hq).mp (h q hq), fun h q hq => (key q hq).mpr (h q hq)⟩
  have hF := (brk0 fs).mpr (List.all_eq_true.mpr hg)
  have shF : ∀ d, showB fs l d = true ↔ d = .list (papL fs l) := fun d => showB_iff.trans ⟨fun h => h.1, fun h => ⟨h, hF⟩⟩
  have shG : ∀ d, showB gs l d = true ↔ d = .list (papL gs l) ∧ (l.all fun q => goB gs (q.1 ^ capK q.1 q.2)) = true := fun d => by rw [showB_iff, brk0 gs]
  have hl12 := fac_len hm
  have dpp : ∀ (n : Nat) (hs : List Int), Dep (n + 4) (.list (papL hs l)) := fun n hs => .lst (by rw [papL_len]; omega) (papL_dep hm)
  walk_at "ST"
  refine c_ringpaper hm hpl ?_
  walk_at "ST"
  refine c_ringpaper hm hql ?_
  walk_at "ST"
  refine c_allround hm hql ?_
  generalize hgood : (l.all fun q => goB gs (q.1 ^ capK q.1 q.2)) = good at *
  walk_at "ST"
  refine c_judged hm hp (dpp _ _) ((shF _).mpr rfl).symm ?_
  walk_at "ST"
  refine c_judged hm hq (dpp _ _) (Bool.eq_iff_iff.mpr ((shG _).trans ⟨fun h => h.2, fun h => ⟨rfl, h⟩⟩).symm) ?_
  walk_at "ST"
  refine c_same (dpp _ _) (dpp _ _) ?_
  have hmeet := sameB_iff (n := 30) (dpp _ fs) (dpp _ gs)
  generalize sameB 30 (.list (papL fs l)) (.list (papL gs l)) = meet at *
  walk_at "ST"
  refine c_judged hm hp (dpp _ _) (Bool.eq_iff_iff.mpr (hmeet.trans ⟨fun h => (shF _).mpr h.symm, fun h => ((shF _).mp h).symm⟩)) ?_
  have hv : (meet && good) = showB gs l (.list (papL fs l)) := Bool.eq_iff_iff.mpr (by
    rw [Bool.and_eq_true]
    exact ⟨fun h => (shG _).mpr ⟨hmeet.mp h.1, h.2⟩, fun h => ⟨hmeet.mpr ((shG _).mp h).1, ((shG _).mp h).2⟩⟩)
  have hw : ∀ d, Dep 24 d → (good && sameB 30 d (.list (papL gs l))) = showB gs l d := fun d hd => Bool.eq_iff_iff.mpr (by
    rw [Bool.and_eq_true, sameB_iff (hd.mono (by decide)) (dpp _ gs)]
    exact ⟨fun h => (shG _).mpr ⟨h.2, h.1⟩, fun h => ⟨((shG _).mp h).2, ((shG _).mp h).1⟩⟩)
  have hu : ∀ d, Dep 24 d → sameB 30 d (.list (papL fs l)) = showB fs l d := fun d hd => Bool.eq_iff_iff.mpr ((sameB_iff (hd.mono (by decide)) (dpp _ fs)).trans (shF d).symm)
  clear hmeet hgood shG brk0
  have bp : ∀ d, d ∈ [PyData.tuple (iL fs), .list (iL fs ++ [.int 0]), .none, .list (iL fs ++ [.int ((10 : Int) ^ Int.toNat 60 + 1)]), .list (iL fs ++ [.bool true]), .list (List.replicate 41 [PyData.int 1]).flatten, .str "x", .list [.int 0], .tuple []] → polyB d = false := fun d hd => by
    simp only [List.mem_cons, List.not_mem_nil, or_false] at hd
    rcases hd with rfl | rfl | rfl | rfl | rfl | rfl | rfl | rfl | rfl
    · rfl
    · exact polyB_0
    · rfl
    · exact polyB_snoc (by decide)
    · exact polyB_snoc rfl
    · decide
    · rfl
    · decide
    · rfl
  have bm : ∀ d, d ∈ [PyData.int 1, .int 0, .int (0 - m), .int 41, .int (41 * m), .bool true, .none, .str "6", .int ((10 : Int) ^ Int.toNat 10 + 1), .int 529, .list [.int m]] → facD d = none := fun d hd => by
    rw [show (10 : Int) ^ Int.toNat 10 = 10000000000 by decide] at hd
    simp only [List.mem_cons, List.not_mem_nil, or_false] at hd
    rcases hd with rfl | rfl | rfl | rfl | rfl | rfl | rfl | rfl | rfl | rfl | rfl
    · exact fac_bad2 1 (by decide)
    · exact fac_bad2 0 (by decide)
    · exact fac_neg (by omega)
    · exact fac_bad2 41 (by decide)
    · exact facM_41 _
    · rfl
    · rfl
    · rfl
    · exact fac_bad2 10000000001 (by decide)
    · exact fac_bad2 529 (by decide)
    · rfl
  have hmm : facD (.int m) = some l := hm
  have hpp : polyB (.list (iL fs)) = true := hp
  rcases meet with _ | _
  all_goals
    walk_at "ST"
    refine c_judged hm hq (dpp _ _) hv ?_
    walk_at "GO"
    refine ⟨⟨by decide, by decide⟩, ?_⟩
    walk_at "ST"
    refine ⟨fun i δ => ∃ a b c : Sl, δ = [.no, .sto, .dat (.int m), .dat (.list (iL fs)), .dat (.list (iL gs)), .dat (.list (papL fs l)), .dat (.list (papL gs l)), .dat (.bool good), c, a, b, .no, .no, .no, .no, .no, .no], ⟨_, _, _, rfl⟩, ?_, ?_⟩
    · rintro i d δ hd ⟨a, b, c, rfl⟩
      walk_at "ST"
      refine c_twist hm hp (fun bent hb => ?_) (fun ds z => z)
      walk_at "ST"
      refine c_same (hb.mono (by decide)) (dpp _ _) ?_
      walk_at "ST"
      refine c_judged hm hp hb (hu bent hb) ?_
      walk_at "ST"
      exact ⟨_, _, _, rfl⟩
    rintro δ ⟨a, b, c, rfl⟩
    walk_at "ST"
    refine c_twist hm hq (fun bent hb => ?_) (fun ds z => z)
    have hwb := hw bent hb
    rcases good with _ | _
    all_goals
      walk_at "ST"
      first
        | refine c_judged hm hq hb hwb ?_
        | (refine c_same (hb.mono (by decide)) (dpp _ _) ?_
           walk_at "ST"
           refine c_judged hm hq hb hwb ?_)
      walk_at "GO"
      refine c_pick (fun z => nomatch z) (show 9 < 2 ^ 62 by decide) fun x hx => ?_
      have hx := bp x hx
      walk_at "GO"
      refine c_pick (fun z => nomatch z) (show 11 < 2 ^ 62 by decide) fun y hy => ?_
      have hy := bm y hy
      walk_at "GO"
      refine c_pick (fun z => nomatch z) (show 3 < 2 ^ 62 by decide) fun sh _ => ?_
      walk_at "GO"
      refine ⟨fun i δ => ∃ a b c d e f : Sl, δ = [.no, .sto, .dat (.int m), .dat (.list (iL fs)), .dat (.list (iL gs)), .dat (.list (papL fs l)), .dat (.list (papL gs l)), a, b, c, .dat bent, .dat x, .dat y, .dat sh, d, e, f], ⟨_, _, _, _, _, _, rfl⟩, ?_, ?_⟩
      · rintro i t δ ht ⟨a, b, c, d, e, f, rfl⟩
        have ht := List.mem_of_getElem? ht
        obtain ⟨u, v, w, rfl, hr⟩ : ∃ (u v : D) (w : Str), t = .tuple [u, v, .str w] ∧ ((polyB u = false ∧ w = "poly") ∨ (polyB u = true ∧ facD v = none ∧ w = "modulus")) := by
          have ht : t ∈ [PyData.tuple [x, .int m, .str "poly"], .tuple [.list (iL fs), y, .str "modulus"], .tuple [x, y, .str "poly"]] := ht
          simp only [List.mem_cons, List.not_mem_nil, or_false] at ht
          rcases ht with rfl | rfl | rfl
          · exact ⟨_, _, _, rfl, .inl ⟨hx, rfl⟩⟩
          · exact ⟨_, _, _, rfl, .inr ⟨hpp, hy, rfl⟩⟩
          · exact ⟨_, _, _, rfl, .inl ⟨hx, rfl⟩⟩
        refine ⟨rfl, ?_⟩
        walk_at "ST"
        refine c_refusal hr ?_
        walk_at "ST"
        refine Br.ndec (fun hc => absurd rfl hc) (fun _ => ?_)
        walk_at "ST"
        exact ⟨_, _, _, _, _, _, rfl⟩
      · rintro δ ⟨a, b, c, d, e, f, rfl⟩
        walk_at "ST"
        exact c_judged hm hp (dpp _ _) ((shF _).mpr rfl).symm (by trivial)
end
end RB

set_option Elab.async false
set_option linter.all false
set_option maxRecDepth 100000
set_option maxHeartbeats 8000000
/-! the defs joined, the head; printed by gen_end.py -/
namespace RB
open PySem PySem.Spec PyProof.Rows L2
section
variable {P : Program} {w : World} {K : PySem.W.Frag} {mg : Str → Option Value} {base : Heap}
theorem okXN {x qual : Str} {st : Stmt} {f : Addr} {fd : FuncData} {N ps : List Str} {k : Nat} {sp : Sp} (F : Fun K x qual st f fd) (S : FnScope N ps (defScope st)) (len : ∀ vs H Q E, sp vs H Q E → vs.length = ps.length)
    (hbody : ∀ (cdv : Value) (A : Around) (outer : List Env) (s : Shared) (H : Hp) (vs : List V) (Q : VK) (E : XK), Room k (A.deeper (envOfC qual (defScope st) s.heap.objs.size f cdv)) → sp vs H Q E →
      ∃ t, PSs (cxOf (L2N.CX P w) P w K mg base N qual (defScope st) f cdv A outer s H E) (defBody st) t ∧ t { nx := fun _ H' => Q .non H', rt := Q } (start N vs) H) : FnOk P w K mg base (L2N.CX P w) (k + 1) f fd ps sp := by
  obtain ⟨oc, od, kV, doc, pm, an, cdv, ct, osl, rfl, lk, hcd⟩ := F.ex
  exact fn_of lk hcd S len fun A outer s H vs Q E hr h => hbody cdv A outer s H vs Q E hr h
theorem okD0 (X : K.In base) (G : base.Ns mainGlobals mg) (c : SaysR fa fn K) {al x : Str} {st : Stmt} {ps : List Str} {dsp : DSp} (i : Nat) (hdef : fn[i]? = some (dfd2 al x st)) (g : mg al = some (.ref (He.ga K al)))
    (hbd : ∀ (kV doc pm : Value) (an : Option Addr) (cdv ct : Value) (us : List Value), us.length = ps.length → bindArgs (PySem.W.fnOf x x (defArgs st) (defBody st) (defScope st) .none kV doc pm an cdv ct) ⟨us, []⟩ = pure (ps.zip us)) (no : ∀ rs Q X, ¬ dsp rs Q X) {k : Nat} : Ok P w K mg base k al ps.length dsp := by
  obtain ⟨fd, F, FD⟩ := c.fun2 i hdef
  have no2 : ∀ vs H Q E, ¬ spD K ps.length dsp vs H Q E := fun vs H Q E h => by
    obtain ⟨_, _, _, _, _, _, _, _, _, h, _⟩ := h
    exact no _ _ _ h
  refine ⟨_, fd, ps, ⟨fun vs H Q E h => (no2 _ _ _ _ h).elim, ?_⟩, g, F.kp, FD.bindsN hbd⟩
  intro A outer s H args us vs Q E _ _ _ _ h
  exact (no2 _ _ _ _ h).elim
theorem tf (c : SaysR fa fn K) : TF K := ⟨f_21 c, f_22 c, f_23 c, f_25 c, f_27 c, f_29 c, f_30 c, f_32 c, f_33 c, f_34 c, f_35 c, f_36 c, f_37 c, f_38 c⟩
theorem r_within (X0 : K.In base) (G0 : base.Ns mainGlobals mg) (c : SaysR fa fn K) : Ok P w K mg base 1 "within" 3 (sp_within K) :=
  okD (ps := ["x", "low", "high"]) X0 G0 c 0 rfl (g_39 X0 G0 c) sc_within (fun _ _ _ _ _ _ us hl => match us, hl with | [_, _, _], _ => rfl) (w_within X0 G0 c) (fun rs Q2 X2 _ h => l_within h)
theorem r_factors (X0 : K.In base) (G0 : base.Ns mainGlobals mg) (c : SaysR fa fn K) : Ok P w K mg base 2 "factors" 1 (sp_factors K) :=
  okD (ps := ["m"]) X0 G0 c 1 rfl (g_40 X0 G0 c) sc_factors (fun _ _ _ _ _ _ us hl => match us, hl with | [_], _ => rfl) (w_factors X0 G0 c (r_within X0 G0 c)) (fun rs Q2 X2 _ h => l_factors h)
theorem r_check_modulus (X0 : K.In base) (G0 : base.Ns mainGlobals mg) (c : SaysR fa fn K) : Ok P w K mg base 3 "check_modulus" 1 (sp_check_modulus K) :=
  okD (ps := ["m"]) X0 G0 c 2 rfl (g_41 X0 G0 c) sc_check_modulus (fun _ _ _ _ _ _ us hl => match us, hl with | [_], _ => rfl) (w_check_modulus X0 G0 c (r_factors X0 G0 c)) (fun rs Q2 X2 _ h => l_check_modulus h)
theorem r_is_bounded (X0 : K.In base) (G0 : base.Ns mainGlobals mg) (c : SaysR fa fn K) : Ok P w K mg base 1 "is_bounded" 2 (sp_is_bounded K) :=
  okD (ps := ["number", "most"]) X0 G0 c 3 rfl (g_42 X0 G0 c) sc_is_bounded (fun _ _ _ _ _ _ us hl => match us, hl with | [_, _], _ => rfl) (w_is_bounded X0 G0 c) (fun rs Q2 X2 _ h => l_is_bounded h)
theorem r_are_bounded (X0 : K.In base) (G0 : base.Ns mainGlobals mg) (c : SaysR fa fn K) : Ok P w K mg base 2 "are_bounded" 3 (sp_are_bounded K) :=
  okD (ps := ["row", "count", "most"]) X0 G0 c 4 rfl (g_43 X0 G0 c) sc_are_bounded (fun _ _ _ _ _ _ us hl => match us, hl with | [_, _, _], _ => rfl) (w_are_bounded X0 G0 c (r_is_bounded X0 G0 c)) (fun rs Q2 X2 _ h => l_are_bounded h)
theorem r_check_poly (X0 : K.In base) (G0 : base.Ns mainGlobals mg) (c : SaysR fa fn K) : Ok P w K mg base 3 "check_poly" 1 (sp_check_poly K) :=
  okD (ps := ["f"]) X0 G0 c 5 rfl (g_44 X0 G0 c) sc_check_poly (fun _ _ _ _ _ _ us hl => match us, hl with | [_], _ => rfl) (w_check_poly X0 G0 c (r_are_bounded X0 G0 c)) (fun rs Q2 X2 _ h => l_check_poly h)
theorem r_is_plain (X0 : K.In base) (G0 : base.Ns mainGlobals mg) (c : SaysR fa fn K) : Ok P w K mg base 1 "is_plain" 1 (sp_is_plain K) :=
  okD (ps := ["x"]) X0 G0 c 6 rfl (g_45 X0 G0 c) sc_is_plain (fun _ _ _ _ _ _ us hl => match us, hl with | [_], _ => rfl) (w_is_plain X0 G0 c) (fun rs Q2 X2 _ h => l_is_plain h)
theorem r_reduced (X0 : K.In base) (G0 : base.Ns mainGlobals mg) (c : SaysR fa fn K) : Ok P w K mg base 1 "reduced" 2 (sp_reduced K) :=
  okD (ps := ["f", "m"]) X0 G0 c 7 rfl (g_46 X0 G0 c) sc_reduced (fun _ _ _ _ _ _ us hl => match us, hl with | [_, _], _ => rfl) (w_reduced X0 G0 c) (fun rs Q2 X2 _ h => l_reduced h)
theorem r_step_by (X0 : K.In base) (G0 : base.Ns mainGlobals mg) (c : SaysR fa fn K) : Ok P w K mg base 1 "step_by" 3 (sp_step_by K) :=
  okD (ps := ["entries", "m", "x"]) X0 G0 c 8 rfl (g_47 X0 G0 c) sc_step_by (fun _ _ _ _ _ _ us hl => match us, hl with | [_, _, _], _ => rfl) (w_step_by X0 G0 c) (fun rs Q2 X2 _ h => l_step_by h)
theorem r_path_from (X0 : K.In base) (G0 : base.Ns mainGlobals mg) (c : SaysR fa fn K) : Ok P w K mg base 2 "path_from" 4 (sp_path_from K) :=
  okD (ps := ["entries", "m", "start", "many"]) X0 G0 c 9 rfl (g_48 X0 G0 c) sc_path_from (fun _ _ _ _ _ _ us hl => match us, hl with | [_, _, _, _], _ => rfl) (w_path_from X0 G0 c (r_step_by X0 G0 c)) (fun rs Q2 X2 _ h => l_path_from h)
theorem r_slope_by (X0 : K.In base) (G0 : base.Ns mainGlobals mg) (c : SaysR fa fn K) : Ok P w K mg base 1 "slope_by" 2 (sp_slope_by K) :=
  okD (ps := ["f", "p"]) X0 G0 c 10 rfl (g_49 X0 G0 c) sc_slope_by (fun _ _ _ _ _ _ us hl => match us, hl with | [_, _], _ => rfl) (w_slope_by X0 G0 c) (fun rs Q2 X2 _ h => l_slope_by h)
theorem r_product_over (X0 : K.In base) (G0 : base.Ns mainGlobals mg) (c : SaysR fa fn K) : Ok P w K mg base 2 "product_over" 3 (sp_product_over K) :=
  okD (ps := ["slopes", "p", "residues"]) X0 G0 c 11 rfl (g_50 X0 G0 c) sc_product_over (fun _ _ _ _ _ _ us hl => match us, hl with | [_, _, _], _ => rfl) (w_product_over X0 G0 c (r_step_by X0 G0 c)) (fun rs Q2 X2 _ h => l_product_over h)
theorem r_power_of (X0 : K.In base) (G0 : base.Ns mainGlobals mg) (c : SaysR fa fn K) : Ok P w K mg base 1 "power_of" 2 (sp_power_of K) :=
  okD (ps := ["p", "k"]) X0 G0 c 12 rfl (g_51 X0 G0 c) sc_power_of (fun _ _ _ _ _ _ us hl => match us, hl with | [_, _], _ => rfl) (w_power_of X0 G0 c) (fun rs Q2 X2 _ h => l_power_of h)
theorem r_small_power (X0 : K.In base) (G0 : base.Ns mainGlobals mg) (c : SaysR fa fn K) : Ok P w K mg base 2 "small_power" 2 (sp_small_power K) :=
  okD (ps := ["p", "e"]) X0 G0 c 13 rfl (g_52 X0 G0 c) sc_small_power (fun _ _ _ _ _ _ us hl => match us, hl with | [_, _], _ => rfl) (w_small_power X0 G0 c (r_power_of X0 G0 c)) (fun rs Q2 X2 _ h => l_small_power h)
theorem r_ring_entry (X0 : K.In base) (G0 : base.Ns mainGlobals mg) (c : SaysR fa fn K) : Ok P w K mg base 3 "ring_entry" 3 (sp_ring_entry K) :=
  okD (ps := ["f", "p", "q"]) X0 G0 c 14 rfl (g_53 X0 G0 c) sc_ring_entry (fun _ _ _ _ _ _ us hl => match us, hl with | [_, _, _], _ => rfl) (w_ring_entry X0 G0 c (r_path_from X0 G0 c) (r_reduced X0 G0 c)) (fun rs Q2 X2 _ h => l_ring_entry h)
theorem r_broken_at (X0 : K.In base) (G0 : base.Ns mainGlobals mg) (c : SaysR fa fn K) : Ok P w K mg base 3 "broken_at" 2 (sp_broken_at K) :=
  okD (ps := ["f", "entry"]) X0 G0 c 15 rfl (g_54 X0 G0 c) sc_broken_at (fun _ _ _ _ _ _ us hl => match us, hl with | [_, _], _ => rfl) (w_broken_at X0 G0 c (r_product_over X0 G0 c) (r_slope_by X0 G0 c)) (fun rs Q2 X2 _ h => l_broken_at h)
theorem r_equal_plain (X0 : K.In base) (G0 : base.Ns mainGlobals mg) (c : SaysR fa fn K) : Ok P w K mg base 2 "equal_plain" 2 (sp_equal_plain K) :=
  okD (ps := ["told", "due"]) X0 G0 c 16 rfl (g_55 X0 G0 c) sc_equal_plain (fun _ _ _ _ _ _ us hl => match us, hl with | [_, _], _ => rfl) (w_equal_plain X0 G0 c (r_is_plain X0 G0 c)) (fun rs Q2 X2 _ h => l_equal_plain h)
theorem r_equal_entry (X0 : K.In base) (G0 : base.Ns mainGlobals mg) (c : SaysR fa fn K) : Ok P w K mg base 3 "equal_entry" 2 (sp_equal_entry K) :=
  okD (ps := ["told", "entry"]) X0 G0 c 17 rfl (g_56 X0 G0 c) sc_equal_entry (fun _ _ _ _ _ _ us hl => match us, hl with | [_, _], _ => rfl) (w_equal_entry X0 G0 c (r_equal_plain X0 G0 c)) (fun rs Q2 X2 _ h => l_equal_entry h)
theorem r_shows_ring (X0 : K.In base) (G0 : base.Ns mainGlobals mg) (c : SaysR fa fn K) : Ok P w K mg base 4 "shows_ring" 3 (sp_shows_ring K) :=
  okD (ps := ["f", "m", "paper"]) X0 G0 c 18 rfl (g_57 X0 G0 c) sc_shows_ring (fun _ _ _ _ _ _ us hl => match us, hl with | [_, _, _], _ => rfl) (w_shows_ring X0 G0 c (r_equal_entry X0 G0 c) (r_broken_at X0 G0 c) (r_ring_entry X0 G0 c) (r_small_power X0 G0 c) (r_factors X0 G0 c) (r_check_modulus X0 G0 c) (r_check_poly X0 G0 c)) (fun rs Q2 X2 _ h => l_shows_ring h)
theorem r__law_mixed (X0 : K.In base) (G0 : base.Ns mainGlobals mg) (c : SaysR fa fn K) : Ok P w K mg base 1 "_law_mixed" 2 (sp__law_mixed K) :=
  okD (ps := ["number", "turn"]) X0 G0 c 19 rfl (g_58 X0 G0 c) sc__law_mixed (fun _ _ _ _ _ _ us hl => match us, hl with | [_, _], _ => rfl) (w__law_mixed X0 G0 c) (fun rs Q2 X2 _ h => l__law_mixed h)
theorem r__law_take (X0 : K.In base) (G0 : base.Ns mainGlobals mg) (c : SaysR fa fn K) : Ok P w K mg base 2 "_law_take" 2 spTake :=
  okD (ps := ["store", "many"]) X0 G0 c 20 rfl (g_59 X0 G0 c) sc__law_take (fun _ _ _ _ _ _ us hl => match us, hl with | [_, _], _ => rfl) (w__law_take X0 G0 c (r__law_mixed X0 G0 c)) (fun rs Q2 X2 _ h => l__law_take h)
theorem r__law_seldom (X0 : K.In base) (G0 : base.Ns mainGlobals mg) (c : SaysR fa fn K) : Ok P w K mg base 3 "_law_seldom" 2 (sp__law_seldom K) :=
  okD (ps := ["store", "many"]) X0 G0 c 21 rfl (g_60 X0 G0 c) sc__law_seldom (fun _ _ _ _ _ _ us hl => match us, hl with | [_, _], _ => rfl) (w__law_seldom X0 G0 c (r__law_take X0 G0 c)) (fun rs Q2 X2 _ h => l__law_seldom h)
theorem r__law_pick (X0 : K.In base) (G0 : base.Ns mainGlobals mg) (c : SaysR fa fn K) : Ok P w K mg base 3 "_law_pick" 2 (sp__law_pick K) :=
  okD (ps := ["store", "items"]) X0 G0 c 22 rfl (g_61 X0 G0 c) sc__law_pick (fun _ _ _ _ _ _ us hl => match us, hl with | [_, _], _ => rfl) (w__law_pick X0 G0 c (r__law_take X0 G0 c)) (fun rs Q2 X2 _ h => l__law_pick h)
theorem r__law_power (X0 : K.In base) (G0 : base.Ns mainGlobals mg) (c : SaysR fa fn K) : Ok P w K mg base 1 "_law_power" 2 (sp__law_power K) :=
  okD (ps := ["base", "e"]) X0 G0 c 23 rfl (g_62 X0 G0 c) sc__law_power (fun _ _ _ _ _ _ us hl => match us, hl with | [_, _], _ => rfl) (w__law_power X0 G0 c) (fun rs Q2 X2 _ h => l__law_power h)
theorem r__law_undone (X0 : K.In base) (G0 : base.Ns mainGlobals mg) (c : SaysR fa fn K) : Ok P w K mg base 1 "_law_undone" 2 (sp__law_undone K) :=
  okD (ps := ["a", "w"]) X0 G0 c 24 rfl (g_63 X0 G0 c) sc__law_undone (fun _ _ _ _ _ _ us hl => match us, hl with | [_, _], _ => rfl) (w__law_undone X0 G0 c) (fun rs Q2 X2 _ h => l__law_undone h)
theorem r__law_chinese (X0 : K.In base) (G0 : base.Ns mainGlobals mg) (c : SaysR fa fn K) : Ok P w K mg base 2 "_law_chinese" 1 (sp__law_chinese K) :=
  okD (ps := ["pairs"]) X0 G0 c 25 rfl (g_64 X0 G0 c) sc__law_chinese (fun _ _ _ _ _ _ us hl => match us, hl with | [_], _ => rfl) (w__law_chinese X0 G0 c (r__law_undone X0 G0 c)) (fun rs Q2 X2 _ h => l__law_chinese h)
theorem r__law_factors (X0 : K.In base) (G0 : base.Ns mainGlobals mg) (c : SaysR fa fn K) : Ok P w K mg base 1 "_law_factors" 1 (sp__law_factors K) :=
  okD (ps := ["m"]) X0 G0 c 26 rfl (g_65 X0 G0 c) sc__law_factors (fun _ _ _ _ _ _ us hl => match us, hl with | [_], _ => rfl) (w__law_factors X0 G0 c) (fun rs Q2 X2 _ h => l__law_factors h)
theorem r__law_capped (X0 : K.In base) (G0 : base.Ns mainGlobals mg) (c : SaysR fa fn K) : Ok P w K mg base 1 "_law_capped" 2 (sp__law_capped K) :=
  okD (ps := ["p", "e"]) X0 G0 c 27 rfl (g_66 X0 G0 c) sc__law_capped (fun _ _ _ _ _ _ us hl => match us, hl with | [_, _], _ => rfl) (w__law_capped X0 G0 c) (fun rs Q2 X2 _ h => l__law_capped h)
theorem r__law_modulus (X0 : K.In base) (G0 : base.Ns mainGlobals mg) (c : SaysR fa fn K) : Ok P w K mg base 4 "_law_modulus" 2 (sp__law_modulus K) :=
  okD (ps := ["store", "high"]) X0 G0 c 28 rfl (g_67 X0 G0 c) sc__law_modulus (fun _ _ _ _ _ _ us hl => match us, hl with | [_, _], _ => rfl) (w__law_modulus X0 G0 c (r__law_take X0 G0 c) (r__law_seldom X0 G0 c) (r__law_pick X0 G0 c)) (fun rs Q2 X2 _ h => l__law_modulus h)
theorem r__law_cut (X0 : K.In base) (G0 : base.Ns mainGlobals mg) (c : SaysR fa fn K) : Ok P w K mg base 1 "_law_cut" 1 (sp__law_cut K) :=
  okD (ps := ["line"]) X0 G0 c 29 rfl (g_68 X0 G0 c) sc__law_cut (fun _ _ _ _ _ _ us hl => match us, hl with | [_], _ => rfl) (w__law_cut X0 G0 c) (fun rs Q2 X2 _ h => l__law_cut h)
theorem r__law_at (X0 : K.In base) (G0 : base.Ns mainGlobals mg) (c : SaysR fa fn K) : Ok P w K mg base 1 "_law_at" 3 (sp__law_at K) :=
  okD (ps := ["f", "m", "x"]) X0 G0 c 30 rfl (g_69 X0 G0 c) sc__law_at (fun _ _ _ _ _ _ us hl => match us, hl with | [_, _, _], _ => rfl) (w__law_at X0 G0 c) (fun rs Q2 X2 _ h => l__law_at h)
theorem r__law_through (X0 : K.In base) (G0 : base.Ns mainGlobals mg) (c : SaysR fa fn K) : Ok P w K mg base 1 "_law_through" 2 (sp__law_through K) :=
  okD (ps := ["p", "values"]) X0 G0 c 31 rfl (g_70 X0 G0 c) sc__law_through (fun _ _ _ _ _ _ us hl => match us, hl with | [_, _], _ => rfl) (w__law_through X0 G0 c) (fun rs Q2 X2 _ h => l__law_through h)
theorem r__law_goesround (X0 : K.In base) (G0 : base.Ns mainGlobals mg) (c : SaysR fa fn K) : Ok P w K mg base 2 "_law_goesround" 2 (sp__law_goesround K) :=
  okD (ps := ["f", "m"]) X0 G0 c 32 rfl (g_71 X0 G0 c) sc__law_goesround (fun _ _ _ _ _ _ us hl => match us, hl with | [_, _], _ => rfl) (w__law_goesround X0 G0 c (r__law_at X0 G0 c)) (fun rs Q2 X2 _ h => l__law_goesround h)
theorem r__law_linear (X0 : K.In base) (G0 : base.Ns mainGlobals mg) (c : SaysR fa fn K) : Ok P w K mg base 3 "_law_linear" 3 (sp__law_linear K) :=
  okD (ps := ["store", "p", "k"]) X0 G0 c 33 rfl (g_72 X0 G0 c) sc__law_linear (fun _ _ _ _ _ _ us hl => match us, hl with | [_, _, _], _ => rfl) (w__law_linear X0 G0 c (r__law_take X0 G0 c) (r__law_power X0 G0 c)) (fun rs Q2 X2 _ h => l__law_linear h)
theorem r__law_patched (X0 : K.In base) (G0 : base.Ns mainGlobals mg) (c : SaysR fa fn K) : Ok P w K mg base 3 "_law_patched" 1 (sp__law_patched K) :=
  okD (ps := ["parts"]) X0 G0 c 34 rfl (g_73 X0 G0 c) sc__law_patched (fun _ _ _ _ _ _ us hl => match us, hl with | [_], _ => rfl) (w__law_patched X0 G0 c (r__law_cut X0 G0 c) (r__law_chinese X0 G0 c)) (fun rs Q2 X2 _ h => l__law_patched h)
theorem r__law_rowof (X0 : K.In base) (G0 : base.Ns mainGlobals mg) (c : SaysR fa fn K) : Ok P w K mg base 2 "_law_rowof" 4 (sp__law_rowof K) :=
  okD (ps := ["f", "m", "start", "many"]) X0 G0 c 35 rfl (g_74 X0 G0 c) sc__law_rowof (fun _ _ _ _ _ _ us hl => match us, hl with | [_, _, _, _], _ => rfl) (w__law_rowof X0 G0 c (r__law_at X0 G0 c)) (fun rs Q2 X2 _ h => l__law_rowof h)
theorem r__law_same (X0 : K.In base) (G0 : base.Ns mainGlobals mg) (c : SaysR fa fn K) : ∀ n : Nat, Ok P w K mg base (0 + n) "_law_same" 2 (sp__law_same n)
  | 0 => okD0 (ps := ["actual", "due"]) X0 G0 c 36 rfl (g_75 X0 G0 c) (fun _ _ _ _ _ _ us hl => match us, hl with | [_, _], _ => rfl) (fun rs Q X h => by first | (obtain ⟨_, _, h, _⟩ := h; cases h; done) | (obtain ⟨_, _, _, h, _⟩ := h; cases h; done))
  | n + 1 => okD (ps := ["actual", "due"]) X0 G0 c 36 rfl (g_75 X0 G0 c) sc__law_same (fun _ _ _ _ _ _ us hl => match us, hl with | [_, _], _ => rfl) (w__law_same X0 G0 c (r__law_same X0 G0 c n)) (fun rs Q2 X2 _ h => l__law_same n h)
theorem r__law_copy (X0 : K.In base) (G0 : base.Ns mainGlobals mg) (c : SaysR fa fn K) : ∀ n : Nat, Ok P w K mg base (0 + n) "_law_copy" 2 (sp__law_copy n)
  | 0 => okD0 (ps := ["thing", "deep"]) X0 G0 c 37 rfl (g_76 X0 G0 c) (fun _ _ _ _ _ _ us hl => match us, hl with | [_, _], _ => rfl) (fun rs Q X h => by obtain ⟨_, _, _, h, _⟩ := h; cases h)
  | n + 1 => okD (ps := ["thing", "deep"]) X0 G0 c 37 rfl (g_76 X0 G0 c) sc__law_copy (fun _ _ _ _ _ _ us hl => match us, hl with | [_, _], _ => rfl) (w__law_copy X0 G0 c (r__law_copy X0 G0 c n)) (fun rs Q2 X2 _ h => l__law_copy n h)
theorem r__law_kindbent (X0 : K.In base) (G0 : base.Ns mainGlobals mg) (c : SaysR fa fn K) : ∀ n : Nat, Ok P w K mg base (3 + n) "_law_kindbent" 3 (sp__law_kindbent n)
  | 0 => okD0 (ps := ["store", "paper", "deep"]) X0 G0 c 38 rfl (g_77 X0 G0 c) (fun _ _ _ _ _ _ us hl => match us, hl with | [_, _, _], _ => rfl) (fun rs Q X h => by obtain ⟨_, _, _, _, h, _⟩ := h; exact absurd h (Nat.not_lt_zero _))
  | n + 1 => okD (ps := ["store", "paper", "deep"]) X0 G0 c 38 rfl (g_77 X0 G0 c) sc__law_kindbent (fun _ _ _ _ _ _ us hl => match us, hl with | [_, _, _], _ => rfl) (w__law_kindbent X0 G0 c (r__law_pick X0 G0 c) (r__law_take X0 G0 c) (r__law_kindbent X0 G0 c n)) (fun rs Q2 X2 _ h => l__law_kindbent n h)
theorem r__law_ringpaper (X0 : K.In base) (G0 : base.Ns mainGlobals mg) (c : SaysR fa fn K) : Ok P w K mg base 3 "_law_ringpaper" 2 (sp__law_ringpaper K) :=
  okD (ps := ["f", "m"]) X0 G0 c 39 rfl (g_78 X0 G0 c) sc__law_ringpaper (fun _ _ _ _ _ _ us hl => match us, hl with | [_, _], _ => rfl) (w__law_ringpaper X0 G0 c (r__law_factors X0 G0 c) (r__law_rowof X0 G0 c) (r__law_power X0 G0 c) (r__law_capped X0 G0 c)) (fun rs Q2 X2 _ h => l__law_ringpaper h)
theorem r__law_cycle (X0 : K.In base) (G0 : base.Ns mainGlobals mg) (c : SaysR fa fn K) : Ok P w K mg base 3 "_law_cycle" 2 (sp__law_cycle K) :=
  okD (ps := ["store", "p"]) X0 G0 c 40 rfl (g_79 X0 G0 c) sc__law_cycle (fun _ _ _ _ _ _ us hl => match us, hl with | [_, _], _ => rfl) (w__law_cycle X0 G0 c (r__law_take X0 G0 c)) (fun rs Q2 X2 _ h => l__law_cycle h)
theorem r__law_localkind (X0 : K.In base) (G0 : base.Ns mainGlobals mg) (c : SaysR fa fn K) : Ok P w K mg base 4 "_law_localkind" 4 (sp__law_localkind K) :=
  okD (ps := ["store", "p", "k", "kind"]) X0 G0 c 41 rfl (g_80 X0 G0 c) sc__law_localkind (fun _ _ _ _ _ _ us hl => match us, hl with | [_, _, _, _], _ => rfl) (w__law_localkind X0 G0 c (r__law_take X0 G0 c) (r__law_through X0 G0 c) (r__law_cycle X0 G0 c) (r__law_seldom X0 G0 c) (r__law_linear X0 G0 c) (r__law_power X0 G0 c)) (fun rs Q2 X2 _ h => l__law_localkind h)
theorem r__law_maker (X0 : K.In base) (G0 : base.Ns mainGlobals mg) (c : SaysR fa fn K) : Ok P w K mg base 5 "_law_maker" 3 (sp__law_maker K) :=
  okD (ps := ["store", "m", "good"]) X0 G0 c 42 rfl (g_81 X0 G0 c) sc__law_maker (fun _ _ _ _ _ _ us hl => match us, hl with | [_, _, _], _ => rfl) (w__law_maker X0 G0 c (r__law_patched X0 G0 c) (r__law_localkind X0 G0 c) (r__law_take X0 G0 c) (r__law_goesround X0 G0 c) (r__law_linear X0 G0 c) (r__law_power X0 G0 c) (r__law_capped X0 G0 c) (r__law_factors X0 G0 c)) (fun rs Q2 X2 _ h => l__law_maker h)
theorem r__law_vast (X0 : K.In base) (G0 : base.Ns mainGlobals mg) (c : SaysR fa fn K) : Ok P w K mg base 3 "_law_vast" 3 (sp__law_vast K) :=
  okD (ps := ["store", "f", "s"]) X0 G0 c 43 rfl (g_82 X0 G0 c) sc__law_vast (fun _ _ _ _ _ _ us hl => match us, hl with | [_, _, _], _ => rfl) (w__law_vast X0 G0 c (r__law_take X0 G0 c)) (fun rs Q2 X2 _ h => l__law_vast h)
theorem r__law_allround (X0 : K.In base) (G0 : base.Ns mainGlobals mg) (c : SaysR fa fn K) : Ok P w K mg base 3 "_law_allround" 2 (sp__law_allround K) :=
  okD (ps := ["f", "m"]) X0 G0 c 44 rfl (g_83 X0 G0 c) sc__law_allround (fun _ _ _ _ _ _ us hl => match us, hl with | [_, _], _ => rfl) (w__law_allround X0 G0 c (r__law_factors X0 G0 c) (r__law_goesround X0 G0 c) (r__law_power X0 G0 c) (r__law_capped X0 G0 c)) (fun rs Q2 X2 _ h => l__law_allround h)
theorem r__law_twist (X0 : K.In base) (G0 : base.Ns mainGlobals mg) (c : SaysR fa fn K) : Ok P w K mg base 34 "_law_twist" 3 (sp__law_twist K) :=
  okD (ps := ["store", "paper", "f"]) X0 G0 c 45 rfl (g_84 X0 G0 c) sc__law_twist (fun _ _ _ _ _ _ us hl => match us, hl with | [_, _, _], _ => rfl) (w__law_twist X0 G0 c (r__law_pick X0 G0 c) (r__law_take X0 G0 c) (r__law_rowof X0 G0 c) (r__law_kindbent X0 G0 c 30)) (fun rs Q2 X2 _ h => l__law_twist h)
theorem r__law_judged (X0 : K.In base) (G0 : base.Ns mainGlobals mg) (c : SaysR fa fn K) : Ok P w K mg base 31 "_law_judged" 4 (sp__law_judged K) :=
  okD (ps := ["f", "m", "paper", "due"]) X0 G0 c 46 rfl (g_85 X0 G0 c) sc__law_judged (fun _ _ _ _ _ _ us hl => match us, hl with | [_, _, _, _], _ => rfl) (w__law_judged X0 G0 c (r__law_same X0 G0 c 30) (r_shows_ring X0 G0 c) (r__law_copy X0 G0 c 30)) (fun rs Q2 X2 _ h => l__law_judged h)
theorem r__law_refusal (X0 : K.In base) (G0 : base.Ns mainGlobals mg) (c : SaysR fa fn K) : Ok P w K mg base 5 "_law_refusal" 3 (sp__law_refusal K) :=
  okD (ps := ["f", "m", "paper"]) X0 G0 c 47 rfl (g_86 X0 G0 c) sc__law_refusal (fun _ _ _ _ _ _ us hl => match us, hl with | [_, _, _], _ => rfl) (w__law_refusal X0 G0 c (r_shows_ring X0 G0 c)) (fun rs Q2 X2 _ h => l__law_refusal (tf c) h)
theorem sc__law_open : FnScope ["script", "prime", "base", "cell"] ["script"] (defScope (top 37)) := ⟨rfl, rfl, rfl, by decide +kernel, rfl, by decide +kernel, by decide +kernel⟩
theorem r__law_open (X0 : K.In base) (G0 : base.Ns mainGlobals mg) (c : SaysR fa fn K) : ∃ f fd, FnOk P w K mg base (L2N.CX P w) 1 f fd ["script"] (spOpen K) ∧ mg "_law_open" = some (.ref f) ∧ PySem.W.keepIn K (.ref f) = true ∧ Binds K fd ["script"] [] := by
  obtain ⟨fd, F, FD⟩ := c.fun2 49 (al := "_law_open") (x := "_law_open") (st := top 37) rfl
  refine ⟨_, fd, okXN F sc__law_open (fun vs H Q E h => by obtain ⟨a, ns, rfl, _⟩ := h; rfl) (fun cdv A outer s H vs Q E hr h => ⟨_, pss_cons (ps_set (i := 1) sc__law_open.nd rfl (.inl rfl) pe_int) (pss_cons (ps_set (i := 2) sc__law_open.nd rfl (.inl rfl) pe_int)
    (pss_cons (ps_for (passes_of rfl) rfl (pi_list (pv 0)) (pg_name (i := 3) sc__law_open.nd rfl (.inl rfl)) (pss_one (ps_set (i := 2) sc__law_open.nd rfl (.inl rfl) (pe_op op_mod (pe_callTy call_int1 rfl (g_0 X0 G0 c) boot_int (pa_cons (pe_op op_add (pe_op op_add (pe_op op_mul (pv 2) pe_int) (pe_op op_mod (pe_callTy call_int1 rfl (g_0 X0 G0 c) boot_int (pa_cons (pv 3) pa_nil)) (pv 1))) pe_int) pa_nil)) (pv 1)))))
    (pss_one (ps_ret (pe_lst (pa_cons (pe_callTy call_list_of rfl (g_7 X0 G0 c) boot_list (pa_cons (pv 0) pa_nil)) (pa_cons pe_int (pa_cons pe_int (pa_cons pe_int (pa_cons pe_int (pa_cons pe_int (pa_cons (pv 2) pa_nil)))))))))))), ?_⟩), g_88 X0 G0 c, F.kp, FD.bindsN (fun _ _ _ _ _ _ us hl => match us, hl with | [_], _ => rfl)⟩
  obtain ⟨a, ns, rfl, hS, hl, hq⟩ := h
  refine ⟨_, rfl, ⟨_, rfl, ⟨_, hS⟩, ?_⟩⟩
  refine ⟨fun i m σ H1 => H1 = H ∧ i ≤ ns.length ∧ m = ns.length - i ∧ ∃ (b : Int) (z : Option V), σ = [some (.ref a), some (.int 2305843009213693951), some (.int b), z] , ⟨ns.length, rfl, Nat.zero_le _, rfl, 11, _, rfl⟩, ?_⟩
  rintro i m σ H1 ⟨rfl, hi, rfl, b, z, rfl⟩
  have hlen : (ns.map V.int).length = ns.length := List.length_map ..
  by_cases hlt : i < ns.length
  · have hg : (ns.map V.int)[i]? = some (.int ns[i]) := by rw [List.getElem?_map, List.getElem?_eq_getElem hlt]; rfl
    refine .inr ⟨⟨_, _, hS, hg⟩, fun σ' H' => H' = H1 ∧ ∃ (b : Int) (z : Option V), σ' = [some (.ref a), some (.int 2305843009213693951), some (.int b), z], fun σ' H' ⟨e1, b, z, e2⟩ => ⟨ns.length - (i + 1), by omega, e1, hlt, rfl, b, z, e2⟩, ?_⟩
    rintro x H' ⟨rfl, hx⟩
    obtain rfl : x = .int ns[i] := Option.some.inj ((hx _ hS).symm.trans hg)
    refine ⟨_, rfl, _, _, rfl, rfl, .inr ⟨by decide, by decide⟩, _, rfl, .inl ⟨_, rfl, _, rfl, _, _, rfl, rfl, (show (0 : Int) < 2305843009213693951 by decide), _, _, rfl, rfl, _, _, rfl, rfl, .inl ⟨_, rfl, _, rfl, _, _, rfl, rfl, (show (0 : Int) < 2305843009213693951 by decide), ?_⟩⟩⟩
    exact ⟨rfl, _, _, rfl⟩
  · refine .inl ⟨⟨_, hS, by rw [hlen]; omega⟩, ?_⟩
    refine ⟨_, rfl, a, _, rfl, .inl hS, fun cc hc => ?_⟩
    exact ⟨_, rfl, (by decide : 7 ≤ sizeLine), fun p hp => hq cc p b hc hp⟩
theorem r_law (X0 : K.In base) (G0 : base.Ns mainGlobals mg) (c : SaysR fa fn K) {fd : FuncData} (F : Fun K "law" "law" (top 66) (He.ga K "law") fd) : FnOk P w K mg base (L2N.CX P w) 35 (He.ga K "law") fd ["script"] (spLaw K) := by
  obtain ⟨fo, fdo, FO, hmo, hko, hbo⟩ := r__law_open (P := P) (w := w) X0 G0 c
  refine okXN F sc_law (fun vs H Q E h => by obtain ⟨a, ns, rfl, _⟩ := h; rfl) (fun cdv A outer s H vs Q E hr h => ⟨_, pss_cons (ps_set (i := 1) sc_law.nd rfl (by first | exact .inl rfl | exact .inr rfl) (pe_callS (E := WE (WE0 E)) FO (hr.mono (by decide)) rfl hmo hko hbo (fun σ => L2N.passAt (L2N.takes_of rfl rfl rfl rfl) σ) (pa_cons (pv 0) pa_nil)))
    (w_law X0 G0 c (r__law_judged X0 G0 c) (r__law_refusal X0 G0 c) (r__law_pick X0 G0 c) (r__law_same X0 G0 c 30) (r__law_twist X0 G0 c) (r__law_allround X0 G0 c) (r__law_ringpaper X0 G0 c) (r__law_seldom X0 G0 c) (r__law_vast X0 G0 c) (r__law_maker X0 G0 c) (r__law_modulus X0 G0 c) _ cdv A outer s H E hr (L2N.takes_of rfl rfl rfl rfl) (passes_of rfl)), ?_⟩)
  obtain ⟨a, ns, rfl, hS, hl, hq⟩ := h
  refine ⟨_, rfl, a, ns, rfl, hS, Nat.le_trans hl (by decide), fun cc p b hc hp => ?_⟩
  exact law_lS (n := 17) hc hp rfl rfl hq l_law
end
theorem facts {P : Program} {w : World} {K : PySem.W.Frag} {h : Heap} {mg : Str → Option Value} {f : Addr} (X : K.In h) (G : h.Ns mainGlobals mg) (hfa : mg ("law" : Str) = some (.ref f)) (c : SaysR fa fn K) :
    ∃ fd : FuncData, (∀ (s : Shared) (v : Value), BindsTo s fd ⟨[v], []⟩ [("script", v)]) ∧ ∀ base : Heap, K.In base → base.Ns mainGlobals mg → FnOk P w K mg base (L2N.CX P w) 35 f fd ["script"] (spLaw K) := by
  obtain ⟨fd, F, FD⟩ := c.fun2 48 (al := "law") (x := "law") (st := top 66) rfl
  have e := hfa.symm.trans (g_87 X G c)
  cases e
  have b := FunD.bindsA (ps := ["script"]) FD fun _ _ _ _ _ _ us hl => match us, hl with | [_], _ => rfl
  exact ⟨fd, fun s v => b s [v] rfl, fun base X0 G0 => r_law X0 G0 c F⟩
end RB
open PySem PySem.W PySem.Calls PyProof.Rows
theorem PySem.Challenge.cw_ringofall_k13_shows_ring_holds : PySem.Challenge.rw_ringofall_k13_shows_ring.Holds := by
  w_on; o_law
  refine HandSHeadRun.head_any (r := OpenLaw.row PySem.Challenge.rw_ringofall_k13_shows_ring) (q := view (OpenLaw.row PySem.Challenge.rw_ringofall_k13_shows_ring).prog [66]) (H := RB.hk) (ob := RB.ob) (M := 12000) (loose := RB.nm0 ++ RB.nm1) (d := HandSHeadRun.topDef (OpenLaw.row PySem.Challenge.rw_ringofall_k13_shows_ring).prog 66) (kwd := []) RB.ob_eq
    (by kernel_rfl) (fun s => by kernel_rfl) RB.run (by kernel_rfl) (by kernel_rfl) (by kernel_rfl) (by rfl) (by first | assumption | decide +kernel) (by decide +kernel) ⟨rfl, rfl, rfl, rfl, rfl, by decide +kernel⟩ ?hw ?hc
  case hw => w_witness2
  case hc =>
    refine RB.walkW (l := PySem.Challenge.rw_ringofall_k13_shows_ring) (n := 63) (k := 35) (x := "script") rfl (by decide) (by kernel_rfl) ⟨rfl, by decide, by decide⟩ ?F
    case F =>
      intro w mg fa h Y G hmg0
      obtain ⟨K, KX, c⟩ := Y
      have hmg : mg ("law" : PySem.Str) = some (.ref fa) := by
        have e : (HandSHeadRun.topDef (OpenLaw.row PySem.Challenge.rw_ringofall_k13_shows_ring).prog 66).name = ("law" : PySem.Str) := by kernel_rfl
        rw [← e]
        exact hmg0
      obtain ⟨fd, hb, hF⟩ := RB.facts (P := (PySem.Challenge.rw_ringofall_k13_shows_ring).prog) (w := w) KX G hmg c
      exact ⟨K, fd, RB.spLaw K, KX, hb, fun H a ns hl _ hS => ⟨a, ns, rfl, hS, hl, fun _ => rfl⟩, hF⟩
