import PyProof.Rows.All
import Wide.All
import OpenK.AllK
import Wide.FinOn
import HandS.ForMost
import HandS.IsInst
import HandS.Wide
import HandS.Style
import HandS.Flow
import HandS.Exc
import HandS.ExcOwn
import HandS.WordsExc
import HandS.SortInts
import HandS.Walk
import HandS.TryOnly
import HandS.Conv
import KE.GoesEnum
import PyProof.ReprRoads
import HandS.EndBits
import PyProof.ReprLen
import PyProof.Rows.RegStrFacts
import KE.KExcIs
import HandS.SetFor
import HandS.Dict
import HandS.Small
import HandS.Iter
import KE.KDictCopyH
import HandS.Deep
import KE.DataCmp
import KE.DataMinMax
import PySem.Challenge.RW_onebend_k19_whole_fewest_bends_in_wide_b
set_option Elab.async false
set_option linter.all false
set_option maxRecDepth 100000
set_option maxHeartbeats 4000000
namespace Yl
open PySem PySem.Spec PyProof.Rows L2

/-! ### data -/
abbrev Dt := PyData
/-- the law's script, which is read only -/
def scrD (ns : List Int) : Dt := .dict [(.none, .list (ns.map .int))]
/-- a key of ints -/
abbrev ky (ns : List Int) : List L2.Key := ns.map Sum.inl
/-- a dict that stands, its keys tuples of ints -/
def dctD (es : List (List Int × Dt)) : Dt := .dict [(.none, .tuple (es.map fun e => .tuple [.tuple (e.1.map .int), e.2]))]
/-- a tuple of ints that can be a key -/
def tpD (ns : List Int) : Dt := .dict [(.bool true, .list (ns.map .int))]
/-- a key of a dict as data -/
def kD : L2.Key → Dt
  | .inl i => .int i
  | .inr x => .str x
/-- an exception that tells a text -/
def excD (m : Str) : Dt := .dict [(.bool false, .str m)]
/-- an exception of the class at C, at a, its arguments at t -/
def XsO (C a t : Addr) : HO := .ext fun h => ∃ (oe : Obj) (vs : Array Value), h.get? a = some oe ∧ oe.cls = .ref C ∧ oe.data = .fields vs ∧ vs[0]? = some (.ref t)
mutual
inductive Rp (K : PySem.W.Frag) (S : Hp) : V → Dt → Prop
  | non : Rp K S .non .none
  | bl (b : Bool) : Rp K S (.bl b) (.bool b)
  | int (i : Int) : Rp K S (.int i) (.int i)
  | str (x : Str) : Rp K S (.str x) (.str x)
  | lst {a : Addr} {xs : List V} {ds : List Dt} : S a = some (.lst xs) → RpA K S xs ds → Rp K S (.ref a) (.list ds)
  | tup {a : Addr} {xs : List V} {ds : List Dt} : SqT K S a xs → RpA K S xs ds → Rp K S (.ref a) (.tuple ds)
  | emp {a : Addr} : S a = some (.dK []) → Rp K S (.ref a) (.dict [])
  | one {a : Addr} {q : L2.Key} {j : Int} : S a = some (.dK [(q, .int j)]) → Rp K S (.ref a) (.dict [(kD q, .int j)])
  | scr {a : Addr} {ns : List Int} : SqL K S a (ns.map V.int) → Rp K S (.ref a) (scrD ns)
  | dct {a : Addr} {kvs : List (List L2.Key × V)} {es : List (List Int × Dt)} : (S a = some (.dT kvs) ∨ ∃ od, S a = some (.frz od (.dT kvs))) → kvs.map Prod.fst = es.map (fun e => ky e.1) → RpA K S (kvs.map Prod.snd) (es.map Prod.snd) → Rp K S (.ref a) (dctD es)
  | exc {a t C : Addr} {m : Str} : S a = some (XsO C a t) → S t = some (.tup [.str m]) → PySem.W.findIn K (.ref C) "__str__" = some (some (.builtin "BaseException.__str__")) → PySem.W.subIn K (.ref C) (.type "BaseException") = some true → Rp K S (.ref a) (excD m)
  | tpk {a : Addr} {ns : List Int} : S a = some (.tup (ns.map V.int)) → Rp K S (.ref a) (tpD ns)
inductive RpA (K : PySem.W.Frag) (S : Hp) : List V → List Dt → Prop
  | nil : RpA K S [] []
  | cons {v : V} {vs : List V} {d : Dt} {ds : List Dt} : Rp K S v d → RpA K S vs ds → RpA K S (v :: vs) (d :: ds)
end
def Sub (S H : Hp) : Prop := ∀ a o, S a = some o → H a = some o
theorem Sub.refl (S : Hp) : Sub S S := fun _ _ h => h
theorem Sub.trans {A B C : Hp} (h : Sub A B) (k : Sub B C) : Sub A C := fun a o e => k a o (h a o e)
theorem Sub.seq {K : PySem.W.Frag} {S H : Hp} (h : Sub S H) {a : Addr} {xs : List V} (q : SqL K S a xs) : SqL K H a xs := by
  rcases q with (q | ⟨o, q⟩) | q
  · exact .inl (.inl (h _ _ q))
  · exact .inl (.inr ⟨o, h _ _ q⟩)
  · exact .inr q
theorem Sub.tup {K : PySem.W.Frag} {S H : Hp} (h : Sub S H) {a : Addr} {xs : List V} (q : SqT K S a xs) : SqT K H a xs := by
  rcases q with (q | ⟨o, q⟩) | q
  · exact .inl (.inl (h _ _ q))
  · exact .inl (.inr ⟨o, h _ _ q⟩)
  · exact .inr q
mutual
theorem Rp.mono {K : PySem.W.Frag} {S S' : Hp} (h : Sub S S') : ∀ {v : V} {d : Dt}, Rp K S v d → Rp K S' v d
  | _, _, .non => .non
  | _, _, .bl b => .bl b
  | _, _, .int i => .int i
  | _, _, .str x => .str x
  | _, _, .lst q r => .lst (h _ _ q) (RpA.mono h r)
  | _, _, .tup q r => .tup (h.tup q) (RpA.mono h r)
  | _, _, .emp q => .emp (h _ _ q)
  | _, _, .one q => .one (h _ _ q)
  | _, _, .scr q => .scr (h.seq q)
  | _, _, .dct q e r => .dct (q.elim (fun q => .inl (h _ _ q)) fun ⟨o, q⟩ => .inr ⟨o, h _ _ q⟩) e (RpA.mono h r)
  | _, _, .exc q q2 e1 e2 => .exc (h _ _ q) (h _ _ q2) e1 e2
  | _, _, .tpk q => .tpk (h _ _ q)
theorem RpA.mono {K : PySem.W.Frag} {S S' : Hp} (h : Sub S S') : ∀ {vs : List V} {ds : List Dt}, RpA K S vs ds → RpA K S' vs ds
  | _, _, .nil => .nil
  | _, _, .cons q r => .cons (Rp.mono h q) (RpA.mono h r)
end
theorem RpA.length {K : PySem.W.Frag} {S : Hp} : ∀ {vs : List V} {ds : List Dt}, RpA K S vs ds → vs.length = ds.length
  | _, _, .nil => rfl
  | _, _, .cons _ r => by
    show _ + 1 = _ + 1
    rw [RpA.length r]
theorem RpA.append {K : PySem.W.Frag} {S : Hp} : ∀ {vs ws : List V} {ds es : List Dt}, RpA K S vs ds → RpA K S ws es → RpA K S (vs ++ ws) (ds ++ es)
  | _, _, _, _, .nil, k => k
  | _, _, _, _, .cons q r, k => .cons q (RpA.append r k)
theorem RpA.take {K : PySem.W.Frag} {S : Hp} : ∀ {vs : List V} {ds : List Dt} (n : Nat), RpA K S vs ds → RpA K S (vs.take n) (ds.take n)
  | _, _, 0, _ => .nil
  | _, _, _ + 1, .nil => .nil
  | _, _, n + 1, .cons q r => .cons q (RpA.take n r)
theorem RpA.drop {K : PySem.W.Frag} {S : Hp} : ∀ {vs : List V} {ds : List Dt} (n : Nat), RpA K S vs ds → RpA K S (vs.drop n) (ds.drop n)
  | _, _, 0, r => r
  | _, _, _ + 1, .nil => .nil
  | _, _, n + 1, .cons _ r => RpA.drop n r
theorem RpA.set {K : PySem.W.Frag} {S : Hp} {v : V} {d : Dt} (k : Rp K S v d) : ∀ {vs : List V} {ds : List Dt} (n : Nat), RpA K S vs ds → RpA K S (vs.set n v) (ds.set n d)
  | _, _, _, .nil => .nil
  | _, _, 0, .cons _ r => .cons k r
  | _, _, n + 1, .cons q r => .cons q (RpA.set k n r)
theorem RpA.get {K : PySem.W.Frag} {S : Hp} : ∀ {vs : List V} {ds : List Dt} {i : Nat} {v : V}, RpA K S vs ds → vs[i]? = some v → ∃ d, ds[i]? = some d ∧ Rp K S v d
  | _, _, _, _, .nil, e => by simp at e
  | _, _, 0, _, .cons q _, e => by
    simp at e
    subst e
    exact ⟨_, rfl, q⟩
  | _, _, i + 1, v, .cons _ r, e => by
    obtain ⟨d, h1, h2⟩ := RpA.get (i := i) (v := v) r (by simpa using e)
    exact ⟨d, by simpa using h1, h2⟩
theorem RpA.at {K : PySem.W.Frag} {S : Hp} {vs : List V} {ds : List Dt} {i : Nat} {d : Dt} (r : RpA K S vs ds) (e : ds[i]? = some d) : ∃ v, vs[i]? = some v ∧ Rp K S v d := by
  have h : i < vs.length := by
    rw [r.length]
    exact (List.getElem?_eq_some_iff.mp e).1
  obtain ⟨d', h1, h2⟩ := r.get (List.getElem?_eq_getElem h)
  rw [e] at h1
  cases h1
  exact ⟨_, List.getElem?_eq_getElem h, h2⟩
theorem RpA.ints {K : PySem.W.Frag} {S : Hp} : ∀ (ns : List Int), RpA K S (ns.map V.int) (ns.map PyData.int)
  | [] => .nil
  | n :: r => .cons (.int n) (RpA.ints r)
theorem RpA.ints_inv {K : PySem.W.Frag} {S : Hp} : ∀ {ns : List Int} {vs : List V}, RpA K S vs (ns.map PyData.int) → vs = ns.map V.int
  | [], _, .nil => rfl
  | n :: r, _, .cons q k => by
    cases q
    rw [RpA.ints_inv k]
    rfl

/-! ### owned cells, the state -/
inductive OD where
  /-- a list whose items stand -/
  | lst (ds : List Dt)
  /-- an object as it is -/
  | raw (o : HO)
def OOk (K : PySem.W.Frag) (S : Hp) : OD → HO → Prop
  | .lst ds, o => ∃ xs, o = .lst xs ∧ RpA K S xs ds
  | .raw u, o => o = u
theorem OOk.mono {K : PySem.W.Frag} {S S' : Hp} (h : Sub S S') {u : OD} {o : HO} (k : OOk K S u o) : OOk K S' u o := by
  cases u with
  | lst ds =>
    obtain ⟨xs, e, r⟩ := k
    exact ⟨xs, e, r.mono h⟩
  | raw v => exact k
/-- an owned tuple: it never changes, and may be known beside -/
def OD.isTup : OD → Bool
  | .raw (.tup _) => true
  | _ => false
structure Sy where
  F : List (V × Dt)
  O : List (Addr × OD)
def dom (O : List (Addr × OD)) : List Addr := O.map (·.1)
structure OkS (K : PySem.W.Frag) (y : Sy) (S H : Hp) : Prop where
  sub : Sub S H
  fac : ∀ v d, (v, d) ∈ y.F → Rp K S v d
  own : ∀ p u, (p, u) ∈ y.O → (u.isTup = false → S p = none) ∧ ∃ o, H p = some o ∧ OOk K S u o
  nd : (dom y.O).Nodup
structure Stp (O : List (Addr × OD)) (S H : Hp) (O' : List (Addr × OD)) (S' H' : Hp) : Prop where
  keep : ∀ a o, H a = some o → a ∉ dom O → H' a = some o
  live : ∀ a o, H a = some o → ∃ o', H' a = some o'
  sub : Sub S S'
  newS : ∀ a o, S' a = some o → (∃ u, S a = some u) ∨ a ∈ dom O ∨ H a = none ∨ ∃ xs, H a = some (.tup xs)
  newO : ∀ p, p ∈ dom O' → p ∈ dom O ∨ H p = none
theorem Stp.refl (O : List (Addr × OD)) (S H : Hp) : Stp O S H O S H :=
  ⟨fun _ _ h _ => h, fun _ o h => ⟨o, h⟩, Sub.refl S, fun _ o h => .inl ⟨o, h⟩, fun _ h => .inl h⟩
theorem Stp.none {O O' : List (Addr × OD)} {S H S' H' : Hp} (s : Stp O S H O' S' H') {a : Addr} (h : H' a = none) : H a = none := by
  cases e : H a with
  | none => rfl
  | some o =>
    obtain ⟨o', q⟩ := s.live a o e
    rw [h] at q
    cases q
theorem Stp.trans {O O1 O2 : List (Addr × OD)} {S H S1 H1 S2 H2 : Hp} (s : Stp O S H O1 S1 H1) (t : Stp O1 S1 H1 O2 S2 H2) : Stp O S H O2 S2 H2 := by
  refine ⟨fun a o h n => ?_, fun a o h => ?_, s.sub.trans t.sub, fun a o h => ?_, fun p h => ?_⟩
  · refine t.keep a o (s.keep a o h n) fun m => ?_
    rcases s.newO a m with q | q
    · exact n q
    · rw [h] at q
      cases q
  · obtain ⟨o1, h1⟩ := s.live a o h
    exact t.live a o1 h1
  · rcases t.newS a o h with ⟨u, q⟩ | q | q | ⟨xs, q⟩
    · exact s.newS a u q
    · rcases s.newO a q with q | q
      · exact .inr (.inl q)
      · exact .inr (.inr (.inl q))
    · exact .inr (.inr (.inl (s.none q)))
    · by_cases m : a ∈ dom O
      · exact .inr (.inl m)
      · cases e : H a with
        | none => exact .inr (.inr (.inl rfl))
        | some o2 =>
          have e2 := s.keep a o2 e m
          rw [q] at e2
          cases e2
          exact .inr (.inr (.inr ⟨xs, rfl⟩))
  · rcases t.newO p h with q | q
    · exact s.newO p q
    · exact .inr (s.none q)

/-! ### the judgement -/
abbrev TL (α : Type) := XK → Hp → (α → Hp → Prop) → Prop
def Lift (K : PySem.W.Frag) {α : Type} (T : TL α) (y : Sy) (Φ : α → Sy → Prop) (Ψ : Value → Sy → Prop) : Prop :=
  ∀ (S H : Hp), OkS K y S H → ∀ (Q : α → Hp → Prop) (E : XK),
    (∀ r y' S' H', OkS K y' S' H' → Stp y.O S H y'.O S' H' → Φ r y' → Q r H') →
    (∀ c y' S' H', OkS K y' S' H' → Stp y.O S H y'.O S' H' → Ψ c y' → E c none H') → T E H Q
section
variable {K : PySem.W.Frag} {α β : Type} {T : TL β} {y y2 : Sy} {Φ Φ' : β → Sy → Prop} {Ψ Ψ' : Value → Sy → Prop}
theorem Lift.bind {T1 : TL α} {T2 : α → TL β} (h : ∀ E H Q, T1 E H (fun a H1 => T2 a E H1 Q) → T E H Q)
    (k : Lift K T1 y (fun a y1 => Lift K (T2 a) y1 Φ Ψ) Ψ) : Lift K T y Φ Ψ := by
  intro S H ok Q E q e
  refine h E H Q (k S H ok _ E (fun a y1 S1 H1 ok1 st1 k2 => ?_) e)
  exact k2 S1 H1 ok1 Q E (fun b y2 S2 H2 ok2 st2 f => q b y2 S2 H2 ok2 (st1.trans st2) f) fun c y2 S2 H2 ok2 st2 f => e c y2 S2 H2 ok2 (st1.trans st2) f
theorem Lift.ret {r : β} (h : ∀ E H Q, Q r H → T E H Q) (k : Φ r y) : Lift K T y Φ Ψ := by
  intro S H ok Q E q e
  exact h E H Q (q r y S H ok (Stp.refl _ _ _) k)
theorem Lift.mono (h : Lift K T y Φ Ψ) (f : ∀ r z, Φ r z → Φ' r z) (g : ∀ c z, Ψ c z → Ψ' c z) : Lift K T y Φ' Ψ' := by
  intro S H ok Q E q e
  exact h S H ok Q E (fun r y' S' H' o s k => q r y' S' H' o s (f r y' k)) fun c y' S' H' o s k => e c y' S' H' o s (g c y' k)
theorem Lift.to {T' : TL β} (h : Lift K T y Φ Ψ) (f : ∀ E H Q, T E H Q → T' E H Q) : Lift K T' y Φ Ψ := by
  intro S H ok Q E q e
  exact f E H Q (h S H ok Q E q e)
/-- a step of the state alone -/
theorem Lift.pre (s : ∀ S H, OkS K y S H → ∃ S', OkS K y2 S' H ∧ Stp y.O S H y2.O S' H) (h : Lift K T y2 Φ Ψ) : Lift K T y Φ Ψ := by
  intro S H ok Q E q e
  obtain ⟨S', ok2, st⟩ := s S H ok
  exact h S' H ok2 Q E (fun r y' S1 H1 o t k => q r y' S1 H1 o (st.trans t) k) fun c y' S1 H1 o t k => e c y' S1 H1 o (st.trans t) k
/-- fewer facts -/
theorem Lift.forget {F2 : List (V × Dt)} (s : ∀ x, x ∈ F2 → x ∈ y.F) (h : Lift K T ⟨F2, y.O⟩ Φ Ψ) : Lift K T y Φ Ψ :=
  Lift.pre (y2 := ⟨F2, y.O⟩) (fun S H ok => ⟨S, ⟨ok.sub, fun v d m => ok.fac v d (s _ m), ok.own, ok.nd⟩, Stp.refl _ _ _⟩) h
/-- the owned cells in another order -/
theorem Lift.perm {F : List (V × Dt)} {O O2 : List (Addr × OD)} (s : O2.Perm O) (h : Lift K T ⟨F, O2⟩ Φ Ψ) : Lift K T ⟨F, O⟩ Φ Ψ := by
  refine Lift.pre (y2 := ⟨F, O2⟩) (fun S H ok => ⟨S, ⟨ok.sub, ok.fac, fun p u m => ok.own p u (s.mem_iff.mp m), ?_⟩, ?_⟩) h
  · exact (List.Perm.nodup_iff (s.map _)).mpr ok.nd
  · refine ⟨fun _ _ h _ => h, fun _ o h => ⟨o, h⟩, Sub.refl S, fun _ o h => .inl ⟨o, h⟩, fun p m => .inl ?_⟩
    exact (List.Perm.mem_iff (s.map _)).mp m
theorem Lift.sw1 {F : List (V × Dt)} {O : List (Addr × OD)} {a b : Addr × OD} (h : Lift K T ⟨F, b :: a :: O⟩ Φ Ψ) : Lift K T ⟨F, a :: b :: O⟩ Φ Ψ := Lift.perm (.swap a b O) h
theorem Lift.sw2 {F : List (V × Dt)} {O : List (Addr × OD)} {a b c : Addr × OD} (h : Lift K T ⟨F, c :: a :: b :: O⟩ Φ Ψ) : Lift K T ⟨F, a :: b :: c :: O⟩ Φ Ψ :=
  Lift.perm ((List.Perm.swap a c _).trans (.cons a (.swap b c O))) h
/-- an owned list stands from here on -/
theorem Lift.release {F : List (V × Dt)} {O : List (Addr × OD)} {p : Addr} {ds : List Dt} (h : Lift K T ⟨(.ref p, .list ds) :: F, O⟩ Φ Ψ) : Lift K T ⟨F, (p, .lst ds) :: O⟩ Φ Ψ := by
  refine Lift.pre (y2 := ⟨(.ref p, .list ds) :: F, O⟩) (fun S H ok => ?_) h
  obtain ⟨np, o, ho, xs, rfl, r⟩ := ok.own p (.lst ds) (List.Mem.head _)
  have np := np rfl
  have sb : Sub S (upd S p (.lst xs)) := fun a u e => by
    rw [upd_ne (ne_of_none e np)]
    exact e
  have nd : p ∉ dom O ∧ (dom O).Nodup := List.nodup_cons.mp ok.nd
  refine ⟨upd S p (.lst xs), ⟨fun a u e => ?_, fun v d m => ?_, fun q u m => ?_, nd.2⟩, ⟨fun _ _ h _ => h, fun _ o h => ⟨o, h⟩, sb, fun a u e => ?_, fun q m => .inl (List.mem_cons_of_mem _ m)⟩⟩
  · by_cases h : a = p
    · subst h
      rw [upd_same] at e
      cases e
      exact ho
    · rw [upd_ne h] at e
      exact ok.sub a u e
  · rcases List.mem_cons.mp m with e | m
    · cases e
      exact .lst upd_same (r.mono sb)
    · exact (ok.fac v d m).mono sb
  · obtain ⟨n1, o1, h1, k1⟩ := ok.own q u (List.mem_cons_of_mem _ m)
    have ne : q ≠ p := fun e => by
      subst e
      exact nd.1 (List.mem_map.mpr ⟨(q, u), m, rfl⟩)
    exact ⟨fun h => by rw [upd_ne ne]; exact n1 h, o1, h1, k1.mono sb⟩
  · by_cases h : a = p
    · subst h
      exact .inr (.inl (List.mem_cons_self ..))
    · rw [upd_ne h] at e
      exact .inl ⟨u, e⟩
/-- an owned cell that is no longer of use -/
theorem Lift.drop {F : List (V × Dt)} {O : List (Addr × OD)} {c : Addr × OD} (h : Lift K T ⟨F, O⟩ Φ Ψ) : Lift K T ⟨F, c :: O⟩ Φ Ψ := by
  refine Lift.pre (y2 := ⟨F, O⟩) (fun S H ok => ⟨S, ⟨ok.sub, ok.fac, fun q u m => ok.own q u (List.mem_cons_of_mem _ m), (List.nodup_cons.mp ok.nd).2⟩, ?_⟩) h
  exact ⟨fun _ _ h _ => h, fun _ o h => ⟨o, h⟩, Sub.refl S, fun _ o h => .inl ⟨o, h⟩, fun q m => .inl (List.mem_cons_of_mem _ m)⟩
end
end Yl

namespace Yl
open PySem PySem.Spec PyProof.Rows L2

/-! ### what is wanted of a piece of syntax -/
def Tk (X : Cx) (E : XK) : Prop := Takes X (fun c d _ H => E c d H)
inductive Fl where
  | nx (σ : L2.St) | rt (v : V) | bk (σ : L2.St) | ct (σ : L2.St)
def flQ (D : Ends) : Fl → Hp → Prop
  | .nx σ, H => D.nx σ H
  | .rt v, H => D.rt v H
  | .bk σ, H => D.bk σ H
  | .ct σ, H => D.ct σ H
def ends (Q : Fl → Hp → Prop) : Ends := ⟨fun σ H => Q (.nx σ) H, fun v H => Q (.rt v) H, fun σ H => Q (.bk σ) H, fun σ H => Q (.ct σ) H⟩
section
variable (X : Cx)
def wE (e : Expr) (σ : L2.St) : TL V := fun E H Q => Tk X E → ∀ (pins : List (Addr × Obj)) (s : Shared), Inv X pins σ H s → wpAny (model X.prog X.w) X.A (eval e X.env) (EP X pins σ Q) X.xe s
def wT (e : Expr) (σ : L2.St) : TL Bool := fun E H Q => Tk X E → ∀ (pins : List (Addr × Obj)) (s : Shared), Inv X pins σ H s → wpAny (model X.prog X.w) X.A (isTrue e X.env (eval e X.env)) (TP X pins σ Q) X.xe s
def wW (e : Expr) (σ : L2.St) : TL Bool := fun E H Q => Tk X E → ∀ (whole : Sem Value) (pins : List (Addr × Obj)) (s : Shared), Inv X pins σ H s → wpAny (model X.prog X.w) X.A (isTrue e X.env whole) (TP X pins σ Q) X.xe s
def wA (es : List Expr) (σ : L2.St) : TL (List V) := fun E H Q => Tk X E → ∀ (pos : Pos) (pins : List (Addr × Obj)) (s : Shared), Inv X pins σ H s → wpAny (model X.prog X.w) X.A (spliced (backTo pos (starEach es X.env))) (AP X pins σ Q) X.xe s
def wS (st : Stmt) (σ : L2.St) : TL Fl := fun E H Q => Tk X E → ∀ (pins : List (Addr × Obj)) (s : Shared), Inv X pins σ H s → wpAny (model X.prog X.w) X.A (exec st X.env) (SP X pins (ends Q)) X.xe s
def wSs (st : List Stmt) (σ : L2.St) : TL Fl := fun E H Q => Tk X E → ∀ (pins : List (Addr × Obj)) (s : Shared), Inv X pins σ H s → wpAny (model X.prog X.w) X.A (execs st X.env) (SP X pins (ends Q)) X.xe s
def wG (tg : Expr) (v : V) (σ : L2.St) : TL L2.St := fun E H Q => Tk X E → ∀ (pins : List (Addr × Obj)) (s : Shared) (u : Value), Inv X pins σ H s → RelV v u → wpAny (model X.prog X.w) X.A (assign tg X.env u) (fun _ s' => ∃ σ' H', Inv X pins σ' H' s' ∧ Q σ' H') X.xe s
def wGs (ts : List Expr) (vs : List V) (σ : L2.St) : TL L2.St := fun E H Q => Tk X E → ∀ (pins : List (Addr × Obj)) (s : Shared) (us : List Value), Inv X pins σ H s → Vals vs us →
  wpAny (model X.prog X.w) X.A (assignInOrder ((assignEach ts X.env).map (·.2)) us) (fun _ s' => ∃ σ' H', Inv X pins σ' H' s' ∧ Q σ' H') X.xe s
def wI (tg iter : Expr) (σ : L2.St) : TL It := fun E H R => Tk X E → ∀ (pins : List (Addr × Obj)) (s : Shared), Inv X pins σ H s → wpAny (model X.prog X.w) X.A (eval iter X.env) (fun v s1 => wpAny (model X.prog X.w) X.A (pyIter v) (PIE X pins σ tg R) X.xe s1) X.xe s
def wP (e : Option Expr) (σ : L2.St) : TL (Option Int) := fun E H Q => Tk X E → ∀ (pins : List (Addr × Obj)) (s : Shared), Inv X pins σ H s → wpAny (model X.prog X.w) X.A (evalPart e X.env) (fun u s' => ∃ o H', Inv X pins σ H' s' ∧ IsPart u o ∧ Q o H') X.xe s
def wTs (ifs : List Expr) (σ : L2.St) : TL Bool := fun E H Q => Tk X E → ∀ (pins : List (Addr × Obj)) (s : Shared), Inv X pins σ H s →
  wpAny (model X.prog X.w) X.A (forIn ifs true fun c r => if r = true then do let ok ← isTrue c X.env (eval c X.env); pure (ForInStep.yield ok) else pure (ForInStep.yield r)) (TP X pins σ Q) X.xe s
/-- by values -/
def wO (f : Value → Value → Sem Value) (x y : V) : TL V := fun E H Q => ∀ (pins : List (Addr × Obj)) (s : Shared) (σ : L2.St) (v u : Value), Inv X pins σ H s → RelV x v → RelV y u → wpAny (model X.prog X.w) X.A (f v u) (EP X pins σ Q) X.xe s
def wU (f : Value → Sem Value) (x : V) : TL V := fun E H Q => ∀ (pins : List (Addr × Obj)) (s : Shared) (σ : L2.St) (v : Value), Inv X pins σ H s → RelV x v → wpAny (model X.prog X.w) X.A (f v) (EP X pins σ Q) X.xe s
def wC (f : Value) (xs : List V) : TL V := fun E H Q => ∀ (pins : List (Addr × Obj)) (s : Shared) (σ : L2.St) (us : List Value), Inv X pins σ H s → Vals xs us → wpAny (model X.prog X.w) X.A (call f us) (EP X pins σ Q) X.xe s
def wB (x : V) : TL Bool := fun E H Q => ∀ (pins : List (Addr × Obj)) (s : Shared) (σ : L2.St) (v : Value), Inv X pins σ H s → RelV x v → wpAny (model X.prog X.w) X.A (truthy v) (TP X pins σ Q) X.xe s
def wM (id : String) (x : V) (xs : List V) : TL V := fun E H Q => ∀ (pins : List (Addr × Obj)) (s : Shared) (σ : L2.St) (v : Value) (us : List Value), Inv X pins σ H s → RelV x v → Vals xs us → wpAny (model X.prog X.w) X.A (call (.builtin id) (v :: us)) (EP X pins σ Q) X.xe s
def wIx (x y : V) : TL V := fun E H Q => ∀ (value slice : Expr) (pins : List (Addr × Obj)) (s : Shared) (σ : L2.St) (v u : Value), Inv X pins σ H s → RelV x v → RelV y u →
  subscripted slice false v u = operate [v, u] (getItem v u) → wpAny (model X.prog X.w) X.A (subscriptTail value slice v u) (EP X pins σ Q) X.xe s
def wSl (x : V) (lo hi : Option Int) : TL V := fun E H Q => ∀ (pins : List (Addr × Obj)) (s : Shared) (σ : L2.St) (v vl vu : Value) (sl : Addr), Inv X pins σ H s → RelV x v → s.heap.IsSliceOf sl vl vu .none → IsPart vl lo → IsPart vu hi →
  ∃ T id, typeLookup (.type T) "__getitem__" = pure (some (.builtin id)) ∧ s.TypeIs v T ∧ wpAny (model X.prog X.w) X.A (getItem v (.ref sl)) (EP X pins σ Q) X.xe s
def wSt (o i v : V) : TL Unit := fun E H Q => ∀ (pins : List (Addr × Obj)) (s : Shared) (σ : L2.St) (ov iv u : Value), Inv X pins σ H s → RelV o ov → RelV i iv → RelV v u →
  wpAny (model X.prog X.w) X.A (setItem ov iv u) (fun _ s' => ∃ H', Inv X pins σ H' s' ∧ Q () H') X.xe s
end
section
variable {X : Cx} {E : XK}
theorem pe_w (tk : Tk X E) {e : Expr} : PE X e (fun σ H Q => wE X e σ E H Q) := ⟨fun pins s _ _ _ I h => h tk pins s I⟩
theorem pt_w (tk : Tk X E) {e : Expr} : PT X e (fun σ H Q => wT X e σ E H Q) := ⟨fun pins s _ _ _ I h => h tk pins s I⟩
theorem pw_w (tk : Tk X E) {e : Expr} : PW X e (fun σ H Q => wW X e σ E H Q) := ⟨fun wh pins s _ _ _ I h => h tk wh pins s I⟩
theorem pa_w (tk : Tk X E) {es : List Expr} : PA X es (fun σ H Q => wA X es σ E H Q) := ⟨fun pos pins s _ _ _ I h => h tk pos pins s I⟩
theorem ps_w (tk : Tk X E) {st : Stmt} : PS X st (fun D σ H => wS X st σ E H (flQ D)) := ⟨fun pins s _ _ _ I h => h tk pins s I⟩
theorem pss_w (tk : Tk X E) {st : List Stmt} : PSs X st (fun D σ H => wSs X st σ E H (flQ D)) := ⟨fun pins s _ _ _ I h => h tk pins s I⟩
theorem pg_w (tk : Tk X E) {tg : Expr} : PG X tg (fun v σ H Q => wG X tg v σ E H Q) := ⟨fun pins s _ _ _ u _ I r h => h tk pins s u I r⟩
theorem pgs_w (tk : Tk X E) {ts : List Expr} : PGs X ts (fun v σ H Q => wGs X ts v σ E H Q) := ⟨fun pins s _ _ _ u _ I r h => h tk pins s u I r⟩
theorem pi_w (tk : Tk X E) {tg iter : Expr} : PI X tg iter (fun σ H Q => wI X tg iter σ E H Q) := ⟨fun pins s _ _ _ I h => h tk pins s I⟩
theorem po_w (tk : Tk X E) {e : Option Expr} : PO X e (fun σ H Q => wP X e σ E H Q) := ⟨fun pins s _ _ _ I h => h tk pins s I⟩
theorem pts_w (tk : Tk X E) {ifs : List Expr} : PTs X ifs (fun σ H Q => wTs X ifs σ E H Q) := ⟨fun pins s _ _ _ I h => h tk pins s I⟩
theorem op_w {f : Value → Value → Sem Value} : OpR X f (fun x y H Q => wO X f x y E H Q) := fun pins s σ _ _ _ v u _ I r q h => h pins s σ v u I r q
theorem un_w {f : Value → Sem Value} : UnR X f (fun x H Q => wU X f x E H Q) := fun pins s σ _ _ v _ I r h => h pins s σ v I r
theorem call_w {f : Value} : CallR X f (fun xs H Q => wC X f xs E H Q) := fun pins s σ _ _ us _ I r h => h pins s σ us I r
theorem mt_w {id : String} : MtR X id (fun x xs H Q => wM X id x xs E H Q) := fun pins s σ _ _ _ v us _ I r q h => h pins s σ v us I r q
theorem ix_w : IxR X (fun x y H Q => wIx X x y E H Q) := fun va sl pins s σ _ _ _ v u _ I r q h e => h va sl pins s σ v u I r q e
theorem sl_w : SlR X (fun x lo hi H Q => wSl X x lo hi E H Q) := fun pins s σ _ _ v vl vu _ _ sl _ I r h1 h2 h3 h => h pins s σ v vl vu sl I r h1 h2 h3
theorem set_w : PSet X (fun o i v H Q => wSt X o i v E H (fun _ H' => Q H')) := fun pins s σ _ _ _ _ ov iv u _ I r q k h => h pins s σ ov iv u I r q k
end

section
variable {X : Cx} {K : PySem.W.Frag} {y : Sy} {σ : L2.St} {Ψ : Value → Sy → Prop}
section
variable {Φ : V → Sy → Prop}
theorem l_of {e : Expr} {t : XK → TE} (h : ∀ E, Tk X E → PE X e (t E)) (k : Lift K (fun E H Q => t E σ H Q) y Φ Ψ) : Lift K (wE X e σ) y Φ Ψ :=
  k.to fun E H Q q tk pins s I => (h E tk).run pins s σ H Q I q
theorem o_of {f : Value → Value → Sem Value} {x z : V} {r : R2} (h : OpR X f r) (k : Lift K (fun _ H Q => r x z H Q) y Φ Ψ) : Lift K (wO X f x z) y Φ Ψ :=
  k.to fun _ H Q q pins s σ v u I a b => h pins s σ H x z v u Q I a b q
theorem u_of {f : Value → Sem Value} {x : V} {r : V → Hp → VK → Prop} (h : UnR X f r) (k : Lift K (fun _ H Q => r x H Q) y Φ Ψ) : Lift K (wU X f x) y Φ Ψ :=
  k.to fun _ H Q q pins s σ v I a => h pins s σ H x v Q I a q
theorem c_of {f : Value} {xs : List V} {r : List V → Hp → VK → Prop} (h : CallR X f r) (k : Lift K (fun _ H Q => r xs H Q) y Φ Ψ) : Lift K (wC X f xs) y Φ Ψ :=
  k.to fun _ H Q q pins s σ us I a => h pins s σ H xs us Q I a q
theorem m_of {id : String} {x : V} {xs : List V} {r : V → List V → Hp → VK → Prop} (h : MtR X id r) (k : Lift K (fun _ H Q => r x xs H Q) y Φ Ψ) : Lift K (wM X id x xs) y Φ Ψ :=
  k.to fun _ H Q q pins s σ v us I a b => h pins s σ H x xs v us Q I a b q
theorem ix_of {x z : V} {r : R2} (h : IxR X r) (k : Lift K (fun _ H Q => r x z H Q) y Φ Ψ) : Lift K (wIx X x z) y Φ Ψ :=
  k.to fun _ H Q q va sl pins s σ v u I a b e => h va sl pins s σ H x z v u Q I a b q e
theorem sl_of {x : V} {lo hi : Option Int} {r : V → Option Int → Option Int → Hp → VK → Prop} (h : SlR X r) (k : Lift K (fun _ H Q => r x lo hi H Q) y Φ Ψ) : Lift K (wSl X x lo hi) y Φ Ψ :=
  k.to fun _ H Q q pins s σ v vl vu sl I a b c d => h pins s σ H x v vl vu lo hi sl Q I a b c d q
end
theorem st_of {Φ : Unit → Sy → Prop} {o i v : V} {r : V → V → V → Hp → (Hp → Prop) → Prop} (h : PSet X r) (k : Lift K (fun _ H Q => r o i v H (Q ())) y Φ Ψ) : Lift K (wSt X o i v) y Φ Ψ :=
  k.to fun _ H Q q pins s σ ov iv u I a b c => h pins s σ H o i v ov iv u (Q ()) I a b c q
theorem b_of {Φ : Bool → Sy → Prop} {x : V} {r : V → Hp → (Bool → Hp → Prop) → Prop} (h : TruR X r) (k : Lift K (fun _ H Q => r x H Q) y Φ Ψ) : Lift K (wB X x) y Φ Ψ :=
  k.to fun _ H Q q pins s σ v I a => h pins s σ H x v Q I a q
theorem t_of {Φ : Bool → Sy → Prop} {e : Expr} {t : XK → TT} (h : ∀ E, Tk X E → PT X e (t E)) (k : Lift K (fun E H Q => t E σ H Q) y Φ Ψ) : Lift K (wT X e σ) y Φ Ψ :=
  k.to fun E H Q q tk pins s I => (h E tk).run pins s σ H Q I q
theorem w_of {Φ : Bool → Sy → Prop} {e : Expr} {t : XK → TT} (h : ∀ E, Tk X E → PW X e (t E)) (k : Lift K (fun E H Q => t E σ H Q) y Φ Ψ) : Lift K (wW X e σ) y Φ Ψ :=
  k.to fun E H Q q tk wh pins s I => (h E tk).run wh pins s σ H Q I q
theorem a_of {Φ : List V → Sy → Prop} {es : List Expr} {t : XK → TA} (h : ∀ E, Tk X E → PA X es (t E)) (k : Lift K (fun E H Q => t E σ H Q) y Φ Ψ) : Lift K (wA X es σ) y Φ Ψ :=
  k.to fun E H Q q tk pos pins s I => (h E tk).run pos pins s σ H Q I q
theorem s_of {Φ : Fl → Sy → Prop} {st : Stmt} {t : XK → TS} (h : ∀ E, Tk X E → PS X st (t E)) (k : Lift K (fun E H Q => t E (ends Q) σ H) y Φ Ψ) : Lift K (wS X st σ) y Φ Ψ :=
  k.to fun E H Q q tk pins s I => (h E tk).run pins s σ H (ends Q) I q
theorem ss_of {Φ : Fl → Sy → Prop} {st : List Stmt} {t : XK → TS} (h : ∀ E, Tk X E → PSs X st (t E)) (k : Lift K (fun E H Q => t E (ends Q) σ H) y Φ Ψ) : Lift K (wSs X st σ) y Φ Ψ :=
  k.to fun E H Q q tk pins s I => (h E tk).run pins s σ H (ends Q) I q
theorem g_of {Φ : L2.St → Sy → Prop} {tg : Expr} {v : V} {t : XK → TG} (h : ∀ E, Tk X E → PG X tg (t E)) (k : Lift K (fun E H Q => t E v σ H Q) y Φ Ψ) : Lift K (wG X tg v σ) y Φ Ψ :=
  k.to fun E H Q q tk pins s u I r => (h E tk).run pins s σ H v u Q I r q
theorem gs_of {Φ : L2.St → Sy → Prop} {tg : List Expr} {v : List V} {t : XK → TGs} (h : ∀ E, Tk X E → PGs X tg (t E)) (k : Lift K (fun E H Q => t E v σ H Q) y Φ Ψ) : Lift K (wGs X tg v σ) y Φ Ψ :=
  k.to fun E H Q q tk pins s u I r => (h E tk).run pins s σ H v u Q I r q
theorem i_of {Φ : It → Sy → Prop} {tg iter : Expr} {t : XK → TI} (h : ∀ E, Tk X E → PI X tg iter (t E)) (k : Lift K (fun E H Q => t E σ H Q) y Φ Ψ) : Lift K (wI X tg iter σ) y Φ Ψ :=
  k.to fun E H Q q tk pins s I => (h E tk).run pins s σ H Q I q
theorem p_of {Φ : Option Int → Sy → Prop} {e : Option Expr} {t : XK → TO} (h : ∀ E, Tk X E → PO X e (t E)) (k : Lift K (fun E H Q => t E σ H Q) y Φ Ψ) : Lift K (wP X e σ) y Φ Ψ :=
  k.to fun E H Q q tk pins s I => (h E tk).run pins s σ H Q I q
end

/-! ### a context with its tables -/
class Cn (P : outParam Program) (w : outParam World) (K : outParam PySem.W.Frag) (mg : outParam (Str → Option Value)) (base : outParam Heap) (k : outParam Nat) (N : outParam (List Str)) (sc : outParam Scope) (vb lb : outParam (List Bool)) (gs : outParam (List Str)) (X : Cx) : Prop where
  hP : X.prog = P
  hw : X.w = w
  hK : X.K = K
  hm : X.mg = mg
  hb : X.base = base
  hN : X.N = N
  hsc : X.env.scope = sc
  nd : X.N.Nodup
  calm : X.calm = true
  vis : ∀ (i : Nat) (x : Str), N[i]? = some x → vb[i]? = some true → Vis X.env.scope x ∧ (x == ("__debug__" : Str)) = false ∧ (x == ("__classdict__" : Str)) = false
  loc : ∀ (i : Nat) (x : Str), N[i]? = some x → lb[i]? = some true → Loc X.env.scope x ∧ (X.fn x = true ∨ X.env.scope.names.lookup x = some .local)
  gl : ∀ x, x ∈ gs → Gl X x ∧ (x == ("__debug__" : Str)) = false
  room : Room k X.A
  pw : PassesOwn (model X.prog X.w) X.A X.env X.xe

section
variable {P : Program} {w : World} {K : PySem.W.Frag} {mg : Str → Option Value} {base : Heap} {k : Nat} {N : List Str} {sc : Scope} {vb lb : List Bool} {gs : List Str} {X : Cx} {y : Sy} {σ : L2.St} {Ψ : Value → Sy → Prop}

/-! ### names and constants -/
theorem l_vi {Φ : V → Sy → Prop} {x : Str} {v : V} {pos : Pos} (i : Nat) (C : Cn P w K mg base k N sc vb lb gs X) (h1 : N[i]? = some x) (h2 : vb[i]? = some true) (h3 : σ[i]? = some (some v)) (h : Φ v y) : Lift K (wE X (.Name x pos) σ) y Φ Ψ := by
  obtain ⟨a, b, c⟩ := C.vis i x h1 h2
  exact l_of (t := fun _ => tVar i) (fun _ _ => pe_var (by rw [C.hN]; exact h1) a b c) (Lift.ret (r := v) (fun _ _ _ q => ⟨v, h3, q⟩) h)
theorem l_int {Φ : V → Sy → Prop} {i : Int} {j pos} (h : Φ (.int i) y) : Lift K (wE X (.Constant (.int i) j pos) σ) y Φ Ψ :=
  l_of (t := fun _ => tC (.int i)) (fun _ _ => pe_int) (Lift.ret (fun _ _ _ q => q) h)
theorem l_bl {Φ : V → Sy → Prop} {b : Bool} {j pos} (h : Φ (.bl b) y) : Lift K (wE X (.Constant (.bool b) j pos) σ) y Φ Ψ :=
  l_of (t := fun _ => tC (.bl b)) (fun _ _ => pe_bl) (Lift.ret (fun _ _ _ q => q) h)
theorem l_non {Φ : V → Sy → Prop} {j pos} (h : Φ .non y) : Lift K (wE X (.Constant .none j pos) σ) y Φ Ψ :=
  l_of (t := fun _ => tC .non) (fun _ _ => pe_non) (Lift.ret (fun _ _ _ q => q) h)
theorem l_str {Φ : V → Sy → Prop} {x : Str} {j pos} (h : Φ (.str x) y) : Lift K (wE X (.Constant (.str x) j pos) σ) y Φ Ψ :=
  l_of (t := fun _ => tC (.str x)) (fun _ _ => pe_str) (Lift.ret (fun _ _ _ q => q) h)
theorem l_glob {Φ : V → Sy → Prop} {x : Str} {v : V} {u : Value} {pos : Pos} (C : Cn P w K mg base k N sc vb lb gs X) (hg : x ∈ gs) (hm : mg x = some u) (r : RelV v u) (h : Φ v y) : Lift K (wE X (.Name x pos) σ) y Φ Ψ :=
  l_of (t := fun _ => tC v) (fun _ _ => pe_glob (C.gl x hg).1 (by rw [C.hm]; exact hm) r (C.gl x hg).2) (Lift.ret (fun _ _ _ q => q) h)
theorem l_bltn {Φ : V → Sy → Prop} {x : Str} {v : V} {u : Value} {pos : Pos} (C : Cn P w K mg base k N sc vb lb gs X) (hg : x ∈ gs) (hm : mg x = none) (hv : bootBuiltins x = some u) (hn : x ≠ "__name__") (r : RelV v u) (h : Φ v y) : Lift K (wE X (.Name x pos) σ) y Φ Ψ :=
  l_of (t := fun _ => tC v) (fun _ _ => pe_bltn (C.gl x hg).1 (by rw [C.hm]; exact hm) hv r hn (C.gl x hg).2) (Lift.ret (fun _ _ _ q => q) h)

/-! ### operators -/
theorem Lift.bind2 {α β γ : Type} {T : TL γ} {Φ : γ → Sy → Prop} (T1 : TL α) (T2 : α → TL β) (T3 : α → β → TL γ) (h : ∀ E H Q, T1 E H (fun a H1 => T2 a E H1 (fun b H2 => T3 a b E H2 Q)) → T E H Q)
    (k : Lift K T1 y (fun a y1 => Lift K (T2 a) y1 (fun b y2 => Lift K (T3 a b) y2 Φ Ψ) Ψ) Ψ) : Lift K T y Φ Ψ :=
  Lift.bind (T1 := T1) (T2 := fun a E H Q => T2 a E H (fun b H2 => T3 a b E H2 Q)) h (k.mono (fun a _ k1 => Lift.bind (T1 := T2 a) (T2 := T3 a) (fun _ _ _ q => q) k1) fun _ _ q => q)
theorem l_bin {Φ : V → Sy → Prop} {a b : Expr} {op : Operator} {pos : Pos}
    (h : Lift K (wE X a σ) y (fun v y1 => Lift K (wE X b σ) y1 (fun u y2 => Lift K (wO X (binaryOp op) v u) y2 Φ Ψ) Ψ) Ψ) : Lift K (wE X (.BinOp a op b pos) σ) y Φ Ψ :=
  l_of (fun E tk => pe_op (op_w (E := E)) (pe_w tk) (pe_w tk)) (Lift.bind2 (wE X a σ) (fun _ => wE X b σ) (fun v u => wO X (binaryOp op) v u) (fun _ _ _ q => q) h)
theorem l_un {Φ : V → Sy → Prop} {a : Expr} {op : UnaryOp} {pos : Pos}
    (h : Lift K (wE X a σ) y (fun v y1 => Lift K (wU X (unaryOp op) v) y1 Φ Ψ) Ψ) : Lift K (wE X (.UnaryOp op a pos) σ) y Φ Ψ :=
  l_of (fun E tk => pe_un (un_w (E := E)) (pe_w tk)) (Lift.bind (T1 := wE X a σ) (T2 := fun v => wU X (unaryOp op) v) (fun _ _ _ q => q) h)
theorem l_cmp {Φ : V → Sy → Prop} {a b : Expr} {op : CmpOp} {pos : Pos} (hm : behindInMarks op b = false)
    (h : Lift K (wE X a σ) y (fun v y1 => Lift K (wE X b σ) y1 (fun u y2 => Lift K (wO X (compareOp op) v u) y2 Φ Ψ) Ψ) Ψ) : Lift K (wE X (.Compare a [op] [b] pos) σ) y Φ Ψ :=
  l_of (fun E tk => pe_cmpR (op_w (E := E)) (pe_w tk) (pe_w tk) hm) (Lift.bind2 (wE X a σ) (fun _ => wE X b σ) (fun v u => wO X (compareOp op) v u) (fun _ _ _ q => q) h)
/-- what is wanted of a value that must be a bool -/
def asB (Φ : Bool → Sy → Prop) : V → Sy → Prop := fun r z => ∃ c, r = .bl c ∧ Φ c z
theorem asB_mk {Φ : Bool → Sy → Prop} {c : Bool} {z : Sy} (h : Φ c z) : asB Φ (.bl c) z := ⟨c, rfl, h⟩
theorem Lift.asB {Φ : Bool → Sy → Prop} {T : TL V} {T' : TL Bool} (h : ∀ E H Q, T E H (fun r H1 => ∃ c, r = .bl c ∧ Q c H1) → T' E H Q) (k : Lift K T y (asB Φ) Ψ) : Lift K T' y Φ Ψ :=
  Lift.bind (T1 := T) (T2 := fun r _ H Q => ∃ c, r = .bl c ∧ Q c H) h (k.mono (fun r z ⟨c, e, f⟩ => Lift.ret (r := c) (fun _ _ _ q => ⟨c, e, q⟩) f) fun _ _ q => q)
theorem t_cmp {Φ : Bool → Sy → Prop} {a b : Expr} {op : CmpOp} {pos : Pos} (hm : behindInMarks op b = false)
    (h : Lift K (wE X a σ) y (fun v y1 => Lift K (wE X b σ) y1 (fun u y2 => Lift K (wO X (compareOp op) v u) y2 (asB Φ) Ψ) Ψ) Ψ) : Lift K (wT X (.Compare a [op] [b] pos) σ) y Φ Ψ :=
  t_of (fun E tk => pt_cmpR (op_w (E := E)) (pe_w tk) (pe_w tk) hm) (Lift.asB (T := fun E H Q => wE X a σ E H fun v H1 => wE X b σ E H1 fun u H2 => wO X (compareOp op) v u E H2 Q) (fun _ _ _ q => q)
    (Lift.bind2 (wE X a σ) (fun _ => wE X b σ) (fun v u => wO X (compareOp op) v u) (fun _ _ _ q => q) h))
theorem l_chain {Φ : V → Sy → Prop} {a b c : Expr} {op op' : CmpOp} {pos : Pos} (hm : lastMarks [op, op'] [b, c] = false)
    (h : Lift K (wE X a σ) y (fun v y1 => Lift K (wE X b σ) y1 (fun u y2 => Lift K (wO X (compareOp op) v u) y2 (asB fun d y3 => (d = true → Lift K (wE X c σ) y3 (fun x y4 => Lift K (wO X (compareOp op') u x) y4 Φ Ψ) Ψ) ∧ (d = false → Φ (.bl false) y3)) Ψ) Ψ) Ψ) :
    Lift K (wE X (.Compare a [op, op'] [b, c] pos) σ) y Φ Ψ := by
  refine l_of (fun E tk => pe_chain (op_w (E := E)) (op_w (E := E)) (pe_w tk) (pe_w tk) (pe_w tk) hm) (Lift.bind2 (wE X a σ) (fun _ => wE X b σ) (fun v u => fun E H Q => wO X (compareOp op) v u E H fun r H2 => ∃ d, r = .bl d ∧ (if d = true then wE X c σ E H2 (fun x H4 => wO X (compareOp op') u x E H4 Q) else Q (.bl false) H2))
    (fun _ _ _ q => q) (h.mono (fun v z k => k.mono (fun u z2 k2 => ?_) fun _ _ q => q) fun _ _ q => q))
  refine Lift.bind (T1 := wO X (compareOp op) v u) (T2 := fun r E H Q => ∃ d, r = .bl d ∧ (if d = true then wE X c σ E H (fun x H4 => wO X (compareOp op') u x E H4 Q) else Q (.bl false) H)) (fun _ _ _ q => q) (k2.mono (fun r z3 ⟨d, e, f1, f2⟩ => ?_) fun _ _ q => q)
  subst e
  cases d with
  | true => exact Lift.to (Lift.bind (T := fun E H Q => wE X c σ E H (fun x H4 => wO X (compareOp op') u x E H4 Q)) (T1 := wE X c σ) (T2 := fun x => wO X (compareOp op') u x) (fun _ _ _ q => q) (f1 rfl)) fun _ _ _ q => ⟨true, rfl, q⟩
  | false => exact Lift.ret (r := .bl false) (fun _ _ _ q => ⟨false, rfl, q⟩) (f2 rfl)
theorem t_chain {Φ : Bool → Sy → Prop} {a b c : Expr} {op op' : CmpOp} {pos : Pos} (hm : lastMarks [op, op'] [b, c] = false)
    (h : Lift K (wE X a σ) y (fun v y1 => Lift K (wE X b σ) y1 (fun u y2 => Lift K (wO X (compareOp op) v u) y2 (asB fun d y3 => (d = true → Lift K (wE X c σ) y3 (fun x y4 => Lift K (wO X (compareOp op') u x) y4 (asB Φ) Ψ) Ψ) ∧ (d = false → Φ false y3)) Ψ) Ψ) Ψ) :
    Lift K (wT X (.Compare a [op, op'] [b, c] pos) σ) y Φ Ψ := by
  refine t_of (fun E tk => pt_chain (op_w (E := E)) (op_w (E := E)) (pe_w tk) (pe_w tk) (pe_w tk) hm) (Lift.bind2 (wE X a σ) (fun _ => wE X b σ)
    (fun v u => fun E H Q => wO X (compareOp op) v u E H fun r H2 => ∃ d, r = .bl d ∧ (if d = true then wE X c σ E H2 (fun x H4 => wO X (compareOp op') u x E H4 (fun r2 H5 => ∃ d2, r2 = .bl d2 ∧ Q d2 H5)) else ∃ d2, V.bl false = .bl d2 ∧ Q d2 H2))
    (fun _ _ _ q => q) (h.mono (fun v z k => k.mono (fun u z2 k2 => ?_) fun _ _ q => q) fun _ _ q => q))
  refine Lift.bind (T1 := wO X (compareOp op) v u) (T2 := fun r E H Q => ∃ d, r = .bl d ∧ (if d = true then wE X c σ E H (fun x H4 => wO X (compareOp op') u x E H4 (fun r2 H5 => ∃ d2, r2 = .bl d2 ∧ Q d2 H5)) else ∃ d2, V.bl false = .bl d2 ∧ Q d2 H)) (fun _ _ _ q => q) (k2.mono (fun r z3 ⟨d, e, f1, f2⟩ => ?_) fun _ _ q => q)
  subst e
  cases d with
  | true =>
    refine Lift.to (T := fun E H Q => wE X c σ E H (fun x H4 => wO X (compareOp op') u x E H4 (fun r2 H5 => ∃ d2, r2 = .bl d2 ∧ Q d2 H5))) ?_ fun _ _ _ q => ⟨true, rfl, q⟩
    exact Lift.bind (T1 := wE X c σ) (T2 := fun x E H Q => wO X (compareOp op') u x E H (fun r2 H5 => ∃ d2, r2 = .bl d2 ∧ Q d2 H5)) (fun _ _ _ q => q) ((f1 rfl).mono (fun x z4 k4 => Lift.asB (T := wO X (compareOp op') u x) (fun _ _ _ q => q) k4) fun _ _ q => q)
  | false => exact Lift.ret (r := false) (fun _ _ _ q => ⟨false, rfl, false, rfl, q⟩) (f2 rfl)

/-! ### tests -/
theorem t_val {Φ : Bool → Sy → Prop} {e : Expr} (he : ∀ whole, isTrue e X.env whole = (do let v ← whole; standAt e.pos; holding [v] (truthy v)))
    (h : Lift K (wE X e σ) y (fun v y1 => Lift K (wB X v) y1 Φ Ψ) Ψ) : Lift K (wT X e σ) y Φ Ψ := by
  refine Lift.bind (T1 := wE X e σ) (T2 := fun v => wB X v) (fun E H Q q tk pins s I => ?_) h
  exact isTrue_plain (thn (q tk pins s I) fun v s1 ⟨x, H1, I1, r1, q1⟩ => q1 pins s1 σ v I1 r1) (he _)
theorem b_bl {Φ : Bool → Sy → Prop} {b : Bool} (h : Φ b y) : Lift K (wB X (.bl b)) y Φ Ψ := b_of tru_ok (Lift.ret (r := b) (fun _ _ _ q => ⟨b, rfl, q⟩) h)
theorem t_not {Φ : Bool → Sy → Prop} {a : Expr} {pos : Pos} (h : Lift K (wT X a σ) y (fun c y1 => Φ (!c) y1) Ψ) : Lift K (wT X (.UnaryOp .Not a pos) σ) y Φ Ψ :=
  t_of (fun E tk => pt_not (pt_w tk)) (Lift.bind (T1 := wT X a σ) (T2 := fun c _ H Q => Q (!c) H) (fun _ _ _ q => q) (h.mono (fun c _ f => Lift.ret (r := !c) (fun _ _ _ q => q) f) fun _ _ q => q))
theorem t_and {Φ : Bool → Sy → Prop} {a b : Expr} {rest : List Expr} {pos : Pos} (h : Lift K (wT X a σ) y (fun c y1 => (c = true → Lift K (wW X (.BoolOp .And (b :: rest) pos) σ) y1 Φ Ψ) ∧ (c = false → Φ false y1)) Ψ) : Lift K (wW X (.BoolOp .And (a :: b :: rest) pos) σ) y Φ Ψ := by
  refine w_of (fun E tk => pw_and (pt_w tk) (pw_w tk)) (Lift.bind (T1 := wT X a σ) (T2 := fun c E H Q => if c = true then wW X (.BoolOp .And (b :: rest) pos) σ E H Q else Q false H) (fun _ _ _ q => q) (h.mono (fun c z ⟨f1, f2⟩ => ?_) fun _ _ q => q))
  cases c with
  | true => exact f1 rfl
  | false => exact Lift.ret (r := false) (fun _ _ _ q => q) (f2 rfl)
theorem t_and1 {Φ : Bool → Sy → Prop} {a : Expr} {pos : Pos} (h : Lift K (wT X a σ) y Φ Ψ) : Lift K (wW X (.BoolOp .And [a] pos) σ) y Φ Ψ := w_of (fun E tk => pw_and1 (pt_w tk)) h
theorem t_or {Φ : Bool → Sy → Prop} {a b : Expr} {rest : List Expr} {pos : Pos} (h : Lift K (wT X a σ) y (fun c y1 => (c = true → Φ true y1) ∧ (c = false → Lift K (wW X (.BoolOp .Or (b :: rest) pos) σ) y1 Φ Ψ)) Ψ) : Lift K (wW X (.BoolOp .Or (a :: b :: rest) pos) σ) y Φ Ψ := by
  refine w_of (fun E tk => pw_or (pt_w tk) (pw_w tk)) (Lift.bind (T1 := wT X a σ) (T2 := fun c E H Q => if c = true then Q true H else wW X (.BoolOp .Or (b :: rest) pos) σ E H Q) (fun _ _ _ q => q) (h.mono (fun c z ⟨f1, f2⟩ => ?_) fun _ _ q => q))
  cases c with
  | true => exact Lift.ret (r := true) (fun _ _ _ q => q) (f1 rfl)
  | false => exact f2 rfl
theorem t_or1 {Φ : Bool → Sy → Prop} {a : Expr} {pos : Pos} (h : Lift K (wT X a σ) y Φ Ψ) : Lift K (wW X (.BoolOp .Or [a] pos) σ) y Φ Ψ := w_of (fun E tk => pw_or1 (pt_w tk)) h
theorem t_w {Φ : Bool → Sy → Prop} {op : BoolOp} {es : List Expr} {pos : Pos} (h : Lift K (wW X (.BoolOp op es pos) σ) y Φ Ψ) : Lift K (wT X (.BoolOp op es pos) σ) y Φ Ψ := h.to fun _ _ _ q tk pins s I => q tk _ pins s I
/-- and, or, not as values of bools -/
theorem l_and {Φ : V → Sy → Prop} {a b : Expr} {rest : List Expr} {pos : Pos} (h : Lift K (wE X a σ) y (fun v y1 => ∃ c, v = .bl c ∧ (c = true → Lift K (wE X (.BoolOp .And (b :: rest) pos) σ) y1 Φ Ψ) ∧ (c = false → Φ (.bl false) y1)) Ψ) :
    Lift K (wE X (.BoolOp .And (a :: b :: rest) pos) σ) y Φ Ψ := by
  refine l_of (fun E tk => pe_and (pe_w tk) (pe_w tk)) (Lift.bind (T1 := wE X a σ) (T2 := fun v E H Q => ∃ c, v = .bl c ∧ if c = true then wE X (.BoolOp .And (b :: rest) pos) σ E H Q else Q (.bl false) H) (fun _ _ _ q => q) (h.mono (fun v z ⟨c, e, f1, f2⟩ => ?_) fun _ _ q => q))
  cases c with
  | true => exact (f1 rfl).to fun _ _ _ q => ⟨true, e, q⟩
  | false => exact Lift.ret (r := .bl false) (fun _ _ _ q => ⟨false, e, q⟩) (f2 rfl)
theorem l_or {Φ : V → Sy → Prop} {a b : Expr} {rest : List Expr} {pos : Pos} (h : Lift K (wE X a σ) y (fun v y1 => ∃ c, v = .bl c ∧ (c = true → Φ (.bl true) y1) ∧ (c = false → Lift K (wE X (.BoolOp .Or (b :: rest) pos) σ) y1 Φ Ψ)) Ψ) :
    Lift K (wE X (.BoolOp .Or (a :: b :: rest) pos) σ) y Φ Ψ := by
  refine l_of (fun E tk => pe_or (pe_w tk) (pe_w tk)) (Lift.bind (T1 := wE X a σ) (T2 := fun v E H Q => ∃ c, v = .bl c ∧ if c = true then Q (.bl true) H else wE X (.BoolOp .Or (b :: rest) pos) σ E H Q) (fun _ _ _ q => q) (h.mono (fun v z ⟨c, e, f1, f2⟩ => ?_) fun _ _ q => q))
  cases c with
  | true => exact Lift.ret (r := .bl true) (fun _ _ _ q => ⟨true, e, q⟩) (f1 rfl)
  | false => exact (f2 rfl).to fun _ _ _ q => ⟨false, e, q⟩
theorem l_one {Φ : V → Sy → Prop} {op : BoolOp} {a : Expr} {pos : Pos} (h : Lift K (wE X a σ) y Φ Ψ) : Lift K (wE X (.BoolOp op [a] pos) σ) y Φ Ψ := l_of (fun E tk => pe_one (pe_w tk)) h
theorem l_not {Φ : V → Sy → Prop} {a : Expr} {pos : Pos} (h : Lift K (wE X a σ) y (fun v y1 => ∃ c, v = .bl c ∧ Φ (.bl (!c)) y1) Ψ) : Lift K (wE X (.UnaryOp .Not a pos) σ) y Φ Ψ :=
  l_of (fun E tk => pe_not (pe_w tk)) (Lift.bind (T1 := wE X a σ) (T2 := fun v _ H Q => ∃ c, v = .bl c ∧ Q (.bl (!c)) H) (fun _ _ _ q => q) (h.mono (fun v _ ⟨c, e, f⟩ => Lift.ret (r := .bl (!c)) (fun _ _ _ q => ⟨c, e, q⟩) f) fun _ _ q => q))
theorem l_if {Φ : V → Sy → Prop} {c a b : Expr} {pos : Pos} (h : Lift K (wT X c σ) y (fun d y1 => (d = true → Lift K (wE X a σ) y1 Φ Ψ) ∧ (d = false → Lift K (wE X b σ) y1 Φ Ψ)) Ψ) : Lift K (wE X (.IfExp c a b pos) σ) y Φ Ψ := by
  refine l_of (fun E tk => pe_ifExp (pt_w tk) (pe_w tk) (pe_w tk)) (Lift.bind (T1 := wT X c σ) (T2 := fun d E H Q => if d = true then wE X a σ E H Q else wE X b σ E H Q) (fun _ _ _ q => q) (h.mono (fun d z ⟨f1, f2⟩ => ?_) fun _ _ q => q))
  cases d with
  | true => exact f1 rfl
  | false => exact f2 rfl

/-! ### arguments, displays -/
theorem a_nil {Φ : List V → Sy → Prop} (h : Φ [] y) : Lift K (wA X [] σ) y Φ Ψ := a_of (fun E tk => pa_nil) (Lift.ret (r := []) (fun _ _ _ q => q) h)
theorem a_cons {Φ : List V → Sy → Prop} {e : Expr} {es : List Expr} (hs : starEach (e :: es) X.env = (false, eval e X.env) :: starEach es X.env)
    (h : Lift K (wE X e σ) y (fun v y1 => Lift K (wA X es σ) y1 (fun vs y2 => Φ (v :: vs) y2) Ψ) Ψ) : Lift K (wA X (e :: es) σ) y Φ Ψ := by
  refine a_of (fun E tk => pa_cons (pe_w tk) (pa_w tk) hs) (Lift.bind (T1 := wE X e σ) (T2 := fun v E H Q => wA X es σ E H (fun vs H2 => Q (v :: vs) H2)) (fun _ _ _ q => q) (h.mono (fun v z k => ?_) fun _ _ q => q))
  exact Lift.bind (T1 := wA X es σ) (T2 := fun vs _ H Q => Q (v :: vs) H) (fun _ _ _ q => q) (k.mono (fun vs z2 f => Lift.ret (r := v :: vs) (fun _ _ _ q => q) f) fun _ _ q => q)
end
end Yl

namespace Yl
open PySem PySem.Spec PyProof.Rows L2

/-! ### values and their data -/
/-- what stands -/
inductive Hs (F : List (V × Dt)) : V → Dt → Prop
  | fact {v : V} {d : Dt} : (v, d) ∈ F → Hs F v d
  | non : Hs F .non .none
  | bl (b : Bool) : Hs F (.bl b) (.bool b)
  | int (i : Int) : Hs F (.int i) (.int i)
  | str (x : Str) : Hs F (.str x) (.str x)
inductive HsA (F : List (V × Dt)) : List V → List Dt → Prop
  | nil : HsA F [] []
  | cons {v : V} {vs : List V} {d : Dt} {ds : List Dt} : Hs F v d → HsA F vs ds → HsA F (v :: vs) (d :: ds)
/-- what may be read -/
inductive Rb (y : Sy) : V → Dt → Prop
  | hs {v : V} {d : Dt} : Hs y.F v d → Rb y v d
  | own {p : Addr} {ds : List Dt} : (p, OD.lst ds) ∈ y.O → Rb y (.ref p) (.list ds)
section
variable {K : PySem.W.Frag} {y : Sy} {S H : Hp}
theorem Hs.rp (ok : OkS K y S H) {v : V} {d : Dt} (h : Hs y.F v d) : Rp K S v d := by
  cases h with
  | fact m => exact ok.fac v d m
  | non => exact .non
  | bl b => exact .bl b
  | int i => exact .int i
  | str x => exact .str x
theorem HsA.rp (ok : OkS K y S H) : ∀ {vs : List V} {ds : List Dt}, HsA y.F vs ds → RpA K S vs ds
  | _, _, .nil => .nil
  | _, _, .cons a b => .cons (a.rp ok) (HsA.rp ok b)
theorem Rb.lst (ok : OkS K y S H) {v : V} {ds : List Dt} (h : Rb y v (.list ds)) : ∃ a xs, v = .ref a ∧ H a = some (.lst xs) ∧ RpA K S xs ds := by
  cases h with
  | hs h =>
    have r := h.rp ok
    cases r with
    | lst e r => exact ⟨_, _, rfl, ok.sub _ _ e, r⟩
  | own m =>
    obtain ⟨_, o, ho, xs, e, r⟩ := ok.own _ _ m
    subst e
    exact ⟨_, xs, rfl, ho, r⟩
theorem Rb.tup (ok : OkS K y S H) {v : V} {ds : List Dt} (h : Rb y v (.tuple ds)) : ∃ a xs, v = .ref a ∧ SqT K H a xs ∧ RpA K S xs ds := by
  cases h with
  | hs h =>
    have r := h.rp ok
    cases r with
    | tup e r => exact ⟨_, _, rfl, ok.sub.tup e, r⟩
theorem Rb.scr (ok : OkS K y S H) {v : V} {ns : List Int} (h : Rb y v (scrD ns)) : ∃ a, v = .ref a ∧ SqL K H a (ns.map V.int) := by
  cases h with
  | hs h =>
    have r := h.rp ok
    generalize e : scrD ns = d at r
    cases r with
    | scr q =>
      rename_i ms
      have e' : ns.map PyData.int = ms.map PyData.int := by
        injection e with e1
        injection e1 with e2 _
        injection e2 with _ e3
        injection e3
      have e2 : ns = ms := by
        clear h e q
        induction ns generalizing ms with
        | nil =>
          cases ms with
          | nil => rfl
          | cons _ _ => cases e'
        | cons n r ih =>
          cases ms with
          | nil => cases e'
          | cons m t =>
            rw [List.map_cons, List.map_cons] at e'
            injection e' with e1 e2
            injection e1 with e3
            rw [e3, ih e2]
      subst e2
      exact ⟨_, rfl, ok.sub.seq q⟩
    | emp q => injection e with e1; cases e1
    | one q =>
      injection e with e1
      injection e1 with e2 _
      injection e2 with _ e3
      cases e3
    | exc _ _ _ _ =>
      injection e with e1
      injection e1 with e2 _
      injection e2 with e3 _
      cases e3
    | tpk _ =>
      injection e with e1
      injection e1 with e2 _
      injection e2 with e3 _
      cases e3
    | dct _ _ _ =>
      injection e with e1
      injection e1 with e2 _
      injection e2 with _ e3
      cases e3
    | non => cases e
    | bl _ => cases e
    | int _ => cases e
    | str _ => cases e
    | lst _ _ => cases e
    | tup _ _ => cases e
/-- a new object that stands -/
theorem OkS.new (ok : OkS K y S H) {p : Addr} {o : HO} {d : Dt} (hp : H p = none) (r : Rp K (upd S p o) (.ref p) d) :
    OkS K ⟨(.ref p, d) :: y.F, y.O⟩ (upd S p o) (upd H p o) ∧ Stp y.O S H y.O (upd S p o) (upd H p o) := by
  have sp : S p = none := by
    cases e : S p with
    | none => rfl
    | some u =>
      have := ok.sub _ _ e
      rw [hp] at this
      cases this
  have sb : Sub S (upd S p o) := fun a u e => by
    rw [upd_ne (ne_of_none e sp)]
    exact e
  refine ⟨⟨fun a u e => ?_, fun v d' m => ?_, fun q u m => ?_, ok.nd⟩, ⟨fun a u e _ => ?_, fun a u e => ⟨u, ?_⟩, sb, fun a u e => ?_, fun q m => .inl m⟩⟩
  · by_cases h : a = p
    · subst h
      rw [upd_same] at e ⊢
      exact e
    · rw [upd_ne h] at e ⊢
      exact ok.sub a u e
  · rcases List.mem_cons.mp m with e | m
    · cases e
      exact r
    · exact (ok.fac v d' m).mono sb
  · obtain ⟨n1, o1, h1, k1⟩ := ok.own q u m
    have ne : q ≠ p := ne_of_none h1 hp
    exact ⟨fun h => by rw [upd_ne ne]; exact n1 h, o1, by rw [upd_ne ne]; exact h1, k1.mono sb⟩
  · rw [upd_ne (ne_of_none e hp)]
    exact e
  · rw [upd_ne (ne_of_none e hp)]
    exact e
  · by_cases h : a = p
    · subst h
      exact .inr (.inr (.inl hp))
    · rw [upd_ne h] at e
      exact .inl ⟨u, e⟩
/-- a new object that is owned -/
theorem OkS.newO (ok : OkS K y S H) {p : Addr} {o : HO} {u : OD} (hp : H p = none) (r : OOk K S u o) :
    OkS K ⟨y.F, (p, u) :: y.O⟩ S (upd H p o) ∧ Stp y.O S H ((p, u) :: y.O) S (upd H p o) := by
  have sp : S p = none := by
    cases e : S p with
    | none => rfl
    | some u =>
      have := ok.sub _ _ e
      rw [hp] at this
      cases this
  refine ⟨⟨fun a u e => ?_, ok.fac, fun q u' m => ?_, ?_⟩, ⟨fun a u e _ => ?_, fun a u e => ⟨u, ?_⟩, Sub.refl S, fun a u e => .inl ⟨u, e⟩, fun q m => ?_⟩⟩
  · rw [upd_ne (ne_of_none e sp)]
    exact ok.sub a u e
  · rcases List.mem_cons.mp m with e | m
    · cases e
      exact ⟨fun _ => sp, o, upd_same, r⟩
    · obtain ⟨n1, o1, h1, k1⟩ := ok.own q u' m
      exact ⟨n1, o1, by rw [upd_ne (ne_of_none h1 hp)]; exact h1, k1⟩
  · refine List.nodup_cons.mpr ⟨fun m => ?_, ok.nd⟩
    obtain ⟨⟨q, u'⟩, m, e⟩ := List.mem_map.mp m
    obtain ⟨_, o1, h1, _⟩ := ok.own q u' m
    cases (show q = p from e)
    rw [hp] at h1
    cases h1
  · rw [upd_ne (ne_of_none e hp)]
    exact e
  · rw [upd_ne (ne_of_none e hp)]
    exact e
  · rcases List.mem_cons.mp m with e | m
    · subst e
      exact .inr hp
    · exact .inl m
/-- an owned object is changed -/
theorem OkS.set {F : List (V × Dt)} {O : List (Addr × OD)} {p : Addr} {u u2 : OD} {o2 : HO} (ok : OkS K ⟨F, (p, u) :: O⟩ S H) (r : OOk K S u2 o2) (hu : u.isTup = false := by rfl) :
    OkS K ⟨F, (p, u2) :: O⟩ S (upd H p o2) ∧ Stp ((p, u) :: O) S H ((p, u2) :: O) S (upd H p o2) := by
  obtain ⟨sp, o, ho, _⟩ := ok.own p u (List.Mem.head _)
  have sp := sp hu
  have nd : p ∉ dom O ∧ (dom O).Nodup := List.nodup_cons.mp ok.nd
  refine ⟨⟨fun a u e => ?_, ok.fac, fun q u' m => ?_, ok.nd⟩, ⟨fun a u' e n => ?_, fun a u' e => ?_, Sub.refl S, fun a u e => .inl ⟨u, e⟩, fun q m => .inl m⟩⟩
  · rw [upd_ne (ne_of_none e sp)]
    exact ok.sub a u e
  · rcases List.mem_cons.mp m with e | m2
    · cases e
      exact ⟨fun _ => sp, o2, upd_same, r⟩
    · obtain ⟨n1, o1, h1, k1⟩ := ok.own q u' (List.mem_cons_of_mem _ m2)
      have ne : q ≠ p := fun e => nd.1 (by
        rw [← e]
        exact List.mem_map.mpr ⟨(q, u'), m2, rfl⟩)
      exact ⟨n1, o1, by rw [upd_ne ne]; exact h1, k1⟩
  · have ne : a ≠ p := fun e => n (by rw [e]; exact List.mem_cons_self ..)
    rw [upd_ne ne]
    exact e
  · by_cases h : a = p
    · subst h
      exact ⟨o2, upd_same⟩
    · exact ⟨u', by rw [upd_ne h]; exact e⟩
/-- one more fact -/
theorem OkS.fact (ok : OkS K y S H) {v : V} {d : Dt} (r : Rp K S v d) : OkS K ⟨(v, d) :: y.F, y.O⟩ S H :=
  ⟨ok.sub, fun v' d' m => by
    rcases List.mem_cons.mp m with e | m
    · cases e
      exact r
    · exact ok.fac v' d' m, ok.own, ok.nd⟩
end

section
variable {X : Cx} {K : PySem.W.Frag} {y : Sy} {Ψ : Value → Sy → Prop} {α : Type}
/-- the raw rule -/
theorem Lift.raw {T : TL α} {Φ : α → Sy → Prop} (h : ∀ S H, OkS K y S H → ∀ E (Q : α → Hp → Prop), (∀ r y' S' H', OkS K y' S' H' → Stp y.O S H y'.O S' H' → Φ r y' → Q r H') → T E H Q) : Lift K T y Φ Ψ :=
  fun S H ok Q E q _ => h S H ok E Q q
/-- a fact of a scalar -/
theorem Lift.isInt {T : TL α} {Φ : α → Sy → Prop} {v : V} {n : Int} (m : Hs y.F v (.int n)) (h : v = .int n → Lift K T y Φ Ψ) : Lift K T y Φ Ψ := by
  intro S H ok Q E q e
  have r := m.rp ok
  cases r
  exact h rfl S H ok Q E q e
theorem Lift.isBl {T : TL α} {Φ : α → Sy → Prop} {v : V} {b : Bool} (m : Hs y.F v (.bool b)) (h : v = .bl b → Lift K T y Φ Ψ) : Lift K T y Φ Ψ := by
  intro S H ok Q E q e
  have r := m.rp ok
  cases r
  exact h rfl S H ok Q E q e
theorem Lift.isStr {T : TL α} {Φ : α → Sy → Prop} {v : V} {x : Str} (m : Hs y.F v (.str x)) (h : v = .str x → Lift K T y Φ Ψ) : Lift K T y Φ Ψ := by
  intro S H ok Q E q e
  have r := m.rp ok
  cases r
  exact h rfl S H ok Q E q e
theorem Lift.isNon {T : TL α} {Φ : α → Sy → Prop} {v : V} (m : Hs y.F v .none) (h : v = .non → Lift K T y Φ Ψ) : Lift K T y Φ Ψ := by
  intro S H ok Q E q e
  have r := m.rp ok
  cases r
  exact h rfl S H ok Q E q e
theorem Lift.isRefL {T : TL α} {Φ : α → Sy → Prop} {v : V} {ds : List Dt} (m : Hs y.F v (.list ds)) (h : ∀ a, v = .ref a → Lift K T y Φ Ψ) : Lift K T y Φ Ψ := by
  intro S H ok Q E q e
  have r := m.rp ok
  cases r
  exact h _ rfl S H ok Q E q e

/-! ### ints -/
theorem o_add {Φ : V → Sy → Prop} {i j : Int} (h : Φ (.int (i + j)) y) : Lift K (wO X (binaryOp .Add) (.int i) (.int j)) y Φ Ψ := o_of op_add (Lift.ret (fun _ _ _ q => ⟨i, j, rfl, rfl, q⟩) h)
theorem o_sub {Φ : V → Sy → Prop} {i j : Int} (h : Φ (.int (i - j)) y) : Lift K (wO X (binaryOp .Sub) (.int i) (.int j)) y Φ Ψ := o_of op_sub (Lift.ret (fun _ _ _ q => ⟨i, j, rfl, rfl, q⟩) h)
theorem o_mul {Φ : V → Sy → Prop} {i j : Int} (c : CMulW i j) (h : Φ (.int (i * j)) y) : Lift K (wO X (binaryOp .Mult) (.int i) (.int j)) y Φ Ψ := o_of op_mulW (Lift.ret (fun _ _ _ q => ⟨i, j, rfl, rfl, c, q⟩) h)
theorem o_mulL {Φ : V → Sy → Prop} {i j : Int} (c : CMul i j) (h : Φ (.int (i * j)) y) : Lift K (wO X (binaryOp .Mult) (.int i) (.int j)) y Φ Ψ := o_of op_mul (Lift.ret (fun _ _ _ q => ⟨i, j, rfl, rfl, c, q⟩) h)
theorem o_div {Φ : V → Sy → Prop} {i j : Int} (c : CDivW i j) (h : Φ (.int (i / j)) y) : Lift K (wO X (binaryOp .FloorDiv) (.int i) (.int j)) y Φ Ψ := o_of op_fdivW (Lift.ret (fun _ _ _ q => ⟨i, j, rfl, rfl, c, q⟩) h)
theorem o_mod {Φ : V → Sy → Prop} {i j : Int} (c : 0 < j) (h : Φ (.int (i % j)) y) : Lift K (wO X (binaryOp .Mod) (.int i) (.int j)) y Φ Ψ := o_of op_mod (Lift.ret (fun _ _ _ q => ⟨i, j, rfl, rfl, c, q⟩) h)
theorem o_pow {Φ : V → Sy → Prop} {i j : Int} (c : CPow i j) (h : Φ (.int (i ^ j.toNat)) y) : Lift K (wO X (binaryOp .Pow) (.int i) (.int j)) y Φ Ψ := o_of op_pow (Lift.ret (fun _ _ _ q => ⟨i, j, rfl, rfl, c, q⟩) h)
theorem o_lt {Φ : V → Sy → Prop} {i j : Int} (h : Φ (.bl (decide (i < j))) y) : Lift K (wO X (compareOp .Lt) (.int i) (.int j)) y Φ Ψ := o_of op_lt (Lift.ret (fun _ _ _ q => ⟨i, j, rfl, rfl, q⟩) h)
theorem o_le {Φ : V → Sy → Prop} {i j : Int} (h : Φ (.bl (decide (i ≤ j))) y) : Lift K (wO X (compareOp .LtE) (.int i) (.int j)) y Φ Ψ := o_of op_le (Lift.ret (fun _ _ _ q => ⟨i, j, rfl, rfl, q⟩) h)
theorem o_gt {Φ : V → Sy → Prop} {i j : Int} (h : Φ (.bl (decide (j < i))) y) : Lift K (wO X (compareOp .Gt) (.int i) (.int j)) y Φ Ψ := o_of op_gt (Lift.ret (fun _ _ _ q => ⟨i, j, rfl, rfl, q⟩) h)
theorem o_ge {Φ : V → Sy → Prop} {i j : Int} (h : Φ (.bl (decide (j ≤ i))) y) : Lift K (wO X (compareOp .GtE) (.int i) (.int j)) y Φ Ψ := o_of op_ge (Lift.ret (fun _ _ _ q => ⟨i, j, rfl, rfl, q⟩) h)
theorem o_eq {Φ : V → Sy → Prop} {i j : Int} (h : Φ (.bl (decide (i = j))) y) : Lift K (wO X (compareOp .Eq) (.int i) (.int j)) y Φ Ψ :=
  o_of op_eq (Lift.ret (r := .bl (decide (i = j))) (fun _ _ Q q => ⟨rfl, by
    have e : decide (V.int i = V.int j) = decide (i = j) := by simp
    rw [e]
    exact q⟩) h)
theorem o_ne {Φ : V → Sy → Prop} {i j : Int} (h : Φ (.bl (!decide (i = j))) y) : Lift K (wO X (compareOp .NotEq) (.int i) (.int j)) y Φ Ψ :=
  o_of op_ne (Lift.ret (r := .bl (!decide (i = j))) (fun _ _ Q q => ⟨rfl, by
    have e : decide (V.int i = V.int j) = decide (i = j) := by simp
    rw [e]
    exact q⟩) h)
theorem u_neg {Φ : V → Sy → Prop} {i : Int} (h : Φ (.int (-i)) y) : Lift K (wU X (unaryOp .USub) (.int i)) y Φ Ψ := u_of un_neg (Lift.ret (r := .int (-i)) (fun _ _ _ q => ⟨i, rfl, q⟩) h)
theorem o_isN {Φ : V → Sy → Prop} {v : V} (h : Φ (.bl (decide (v = .non))) y) : Lift K (wO X (compareOp .Is) v .non) y Φ Ψ := o_of op_isN (Lift.ret (r := .bl (decide (v = .non))) (fun _ _ _ q => ⟨rfl, q⟩) h)
theorem o_notN {Φ : V → Sy → Prop} {v : V} (h : Φ (.bl (!decide (v = .non))) y) : Lift K (wO X (compareOp .IsNot) v .non) y Φ Ψ := o_of op_notN (Lift.ret (r := .bl (!decide (v = .non))) (fun _ _ _ q => ⟨rfl, q⟩) h)
theorem o_isB {Φ : V → Sy → Prop} {a b : Bool} (h : Φ (.bl (decide (a = b))) y) : Lift K (wO X (compareOp .Is) (.bl a) (.bl b)) y Φ Ψ := o_of op_isBl (Lift.ret (r := .bl (decide (a = b))) (fun _ _ _ q => ⟨a, b, rfl, rfl, q⟩) h)

/-! ### lists and tuples -/
/-- what is wanted of an item -/
theorem ix_lst {Φ : V → Sy → Prop} {v : V} {ds : List Dt} {i : Int} {d : Dt} (h : Rb y v (.list ds)) (e : atI ds i = some d) (hK : X.K = K) (k : ∀ x, Φ x ⟨(x, d) :: y.F, y.O⟩) : Lift K (wIx X v (.int i)) y Φ Ψ := by
  refine ix_of ix_list (Lift.raw fun S H ok E Q q => ?_)
  obtain ⟨a, xs, rfl, ha, r⟩ := h.lst ok
  obtain ⟨j, hj, ej⟩ := Option.bind_eq_some_iff.mp e
  obtain ⟨x, hx, rx⟩ := r.at ej
  refine ⟨a, xs, i, x, rfl, rfl, SqL.of ha, ?_, q x _ S H (ok.fact rx) (Stp.refl _ _ _) (k x)⟩
  show (ixN xs.length i).bind _ = _
  rw [r.length, hj]
  exact hx
theorem ix_tupd {Φ : V → Sy → Prop} {v : V} {ds : List Dt} {i : Int} {d : Dt} (h : Rb y v (.tuple ds)) (e : atI ds i = some d) (hK : X.K = K) (k : ∀ x, Φ x ⟨(x, d) :: y.F, y.O⟩) : Lift K (wIx X v (.int i)) y Φ Ψ := by
  refine ix_of ix_tup (Lift.raw fun S H ok E Q q => ?_)
  obtain ⟨a, xs, rfl, ha, r⟩ := h.tup ok
  obtain ⟨j, hj, ej⟩ := Option.bind_eq_some_iff.mp e
  obtain ⟨x, hx, rx⟩ := r.at ej
  refine ⟨a, xs, i, x, rfl, rfl, by rw [hK]; exact ha, ?_, q x _ S H (ok.fact rx) (Stp.refl _ _ _) (k x)⟩
  show (ixN xs.length i).bind _ = _
  rw [r.length, hj]
  exact hx
theorem atI_map {α β : Type} (f : α → β) (l : List α) (i : Int) : atI (l.map f) i = (atI l i).map f := by
  unfold atI
  rw [List.length_map]
  cases ixN l.length i with
  | none => rfl
  | some j =>
    show (l.map f)[j]? = (l[j]?).map f
    rw [List.getElem?_map]
theorem ix_scr {Φ : V → Sy → Prop} {v : V} {ns : List Int} {i n : Int} (h : Rb y v (scrD ns)) (e : atI ns i = some n) (hK : X.K = K) (k : Φ (.int n) y) : Lift K (wIx X v (.int i)) y Φ Ψ := by
  refine ix_of ix_list (Lift.raw fun S H ok E Q q => ?_)
  obtain ⟨a, rfl, ha⟩ := h.scr ok
  refine ⟨a, _, i, .int n, rfl, rfl, by rw [hK]; exact ha, ?_, q _ y S H ok (Stp.refl _ _ _) k⟩
  rw [atI_map, e]
  rfl
theorem ix_lstI {Φ : V → Sy → Prop} {v : V} {ds : List Dt} {i n : Int} (h : Rb y v (.list ds)) (e : atI ds i = some (.int n)) (hK : X.K = K) (k : Φ (.int n) y) : Lift K (wIx X v (.int i)) y Φ Ψ := by
  refine ix_of ix_list (Lift.raw fun S H ok E Q q => ?_)
  obtain ⟨a, xs, rfl, ha, r⟩ := h.lst ok
  obtain ⟨j, hj, ej⟩ := Option.bind_eq_some_iff.mp e
  obtain ⟨x, hx, rx⟩ := r.at ej
  cases rx
  refine ⟨a, xs, i, .int n, rfl, rfl, SqL.of ha, ?_, q _ _ S H ok (Stp.refl _ _ _) k⟩
  show (ixN xs.length i).bind _ = _
  rw [r.length, hj]
  exact hx
theorem ix_tupI {Φ : V → Sy → Prop} {v : V} {ds : List Dt} {i n : Int} (h : Rb y v (.tuple ds)) (e : atI ds i = some (.int n)) (hK : X.K = K) (k : Φ (.int n) y) : Lift K (wIx X v (.int i)) y Φ Ψ := by
  refine ix_of ix_tup (Lift.raw fun S H ok E Q q => ?_)
  obtain ⟨a, xs, rfl, ha, r⟩ := h.tup ok
  obtain ⟨j, hj, ej⟩ := Option.bind_eq_some_iff.mp e
  obtain ⟨x, hx, rx⟩ := r.at ej
  cases rx
  refine ⟨a, xs, i, .int n, rfl, rfl, by rw [hK]; exact ha, ?_, q _ _ S H ok (Stp.refl _ _ _) k⟩
  show (ixN xs.length i).bind _ = _
  rw [r.length, hj]
  exact hx
/-- slices -/
def cutG {α : Type} (xs : List α) (lo hi : Option Int) : List α := (xs.drop (HT.sIx xs.length 0 lo)).take (HT.sIx xs.length xs.length hi - HT.sIx xs.length 0 lo)
theorem RpA.cut {S : Hp} {xs : List V} {ds : List Dt} (r : RpA K S xs ds) (lo hi : Option Int) : RpA K S (cutV xs lo hi) (cutG ds lo hi) := by
  unfold cutV cutG
  rw [r.length]
  exact (r.drop _).take _
theorem sl_lst {Φ : V → Sy → Prop} {v : V} {ds : List Dt} {lo hi : Option Int} (h : Rb y v (.list ds)) (hK : X.K = K) (k : ∀ p, Φ (.ref p) ⟨(.ref p, .list (cutG ds lo hi)) :: y.F, y.O⟩) : Lift K (wSl X v lo hi) y Φ Ψ := by
  refine sl_of sl_list (Lift.raw fun S H ok E Q q => ?_)
  obtain ⟨a, xs, rfl, ha, r⟩ := h.lst ok
  refine ⟨a, xs, rfl, SqL.of ha, fun p hp => ?_⟩
  have n : Sub S (upd S p (.lst (cutV xs lo hi))) := fun b o e => by
    rw [upd_ne (ne_of_none (ok.sub b o e) hp)]
    exact e
  obtain ⟨ok2, st⟩ := ok.new (o := .lst (cutV xs lo hi)) hp (.lst upd_same ((r.cut lo hi).mono n))
  exact q _ _ _ _ ok2 st (k p)
theorem sl_lstO {Φ : V → Sy → Prop} {v : V} {ds : List Dt} {lo hi : Option Int} (h : Rb y v (.list ds)) (hK : X.K = K) (k : ∀ p, Φ (.ref p) ⟨y.F, (p, .lst (cutG ds lo hi)) :: y.O⟩) : Lift K (wSl X v lo hi) y Φ Ψ := by
  refine sl_of sl_list (Lift.raw fun S H ok E Q q => ?_)
  obtain ⟨a, xs, rfl, ha, r⟩ := h.lst ok
  refine ⟨a, xs, rfl, SqL.of ha, fun p hp => ?_⟩
  obtain ⟨ok2, st⟩ := ok.newO (o := .lst (cutV xs lo hi)) (u := .lst (cutG ds lo hi)) hp ⟨_, rfl, r.cut lo hi⟩
  exact q _ _ _ _ ok2 st (k p)
theorem l_slice {Φ : V → Sy → Prop} {σ : L2.St} {e : Expr} {lo hi : Option Expr} {pos p2 : Pos}
    (h : Lift K (wE X e σ) y (fun v y1 => Lift K (wP X lo σ) y1 (fun l y2 => Lift K (wP X hi σ) y2 (fun u y3 => Lift K (wSl X v l u) y3 Φ Ψ) Ψ) Ψ) Ψ) : Lift K (wE X (.Subscript e (.Slice lo hi none p2) pos) σ) y Φ Ψ := by
  refine l_of (fun E tk => pe_slice (sl_w (E := E)) (pe_w tk) (po_w tk) (po_w tk)) ?_
  refine Lift.bind2 (wE X e σ) (fun _ => wP X lo σ) (fun v l => fun E H Q => wP X hi σ E H fun u H3 => wSl X v l u E H3 Q) (fun _ _ _ q => q) (h.mono (fun v z k => k.mono (fun l z2 k2 => ?_) fun _ _ q => q) fun _ _ q => q)
  exact Lift.bind (T1 := wP X hi σ) (T2 := fun u => wSl X v l u) (fun _ _ _ q => q) k2
theorem p_none {Φ : Option Int → Sy → Prop} {σ : L2.St} (h : Φ none y) : Lift K (wP X none σ) y Φ Ψ := p_of (fun _ _ => po_none) (Lift.ret (r := (none : Option Int)) (fun _ _ _ q => q) h)
theorem p_some {Φ : Option Int → Sy → Prop} {σ : L2.St} {e : Expr} (h : Lift K (wE X e σ) y (fun v y1 => ∃ i, v = .int i ∧ Φ (some i) y1) Ψ) : Lift K (wP X (some e) σ) y Φ Ψ :=
  p_of (fun E tk => po_some (pe_w tk)) (Lift.bind (T1 := wE X e σ) (T2 := fun v _ H Q => ∃ i, v = .int i ∧ Q (some i) H) (fun _ _ _ q => q) (h.mono (fun v z ⟨i, e, f⟩ => Lift.ret (r := some i) (fun _ _ _ q => ⟨i, e, q⟩) f) fun _ _ q => q))
theorem l_ix {Φ : V → Sy → Prop} {σ : L2.St} {a b : Expr} {pos : Pos} (hs : PlainIx b)
    (h : Lift K (wE X a σ) y (fun v y1 => Lift K (wE X b σ) y1 (fun u y2 => Lift K (wIx X v u) y2 Φ Ψ) Ψ) Ψ) : Lift K (wE X (.Subscript a b pos) σ) y Φ Ψ :=
  l_of (fun E tk => pe_ix (ix_w (E := E)) (pe_w tk) (pe_w tk) hs) (Lift.bind2 (wE X a σ) (fun _ => wE X b σ) (fun v u => wIx X v u) (fun _ _ _ q => q) h)
theorem o_cat {Φ : V → Sy → Prop} {v u : V} {ds es : List Dt} (h1 : Rb y v (.list ds)) (h2 : Rb y u (.list es)) (hz : ds.length + es.length ≤ 1000000) (k : ∀ p, Φ (.ref p) ⟨(.ref p, .list (ds ++ es)) :: y.F, y.O⟩) : Lift K (wO X (binaryOp .Add) v u) y Φ Ψ := by
  refine o_of op_cat (Lift.raw fun S H ok E Q q => ?_)
  obtain ⟨a, xs, rfl, ha, r⟩ := h1.lst ok
  obtain ⟨b, zs, rfl, hb, r2⟩ := h2.lst ok
  refine ⟨a, b, xs, zs, rfl, rfl, ha, hb, by rw [r.length, r2.length]; exact Nat.le_trans hz (by decide), fun p hp => ?_⟩
  have n : Sub S (upd S p (.lst (xs ++ zs))) := fun b o e => by
    rw [upd_ne (ne_of_none (ok.sub b o e) hp)]
    exact e
  obtain ⟨ok2, st⟩ := ok.new (o := .lst (xs ++ zs)) hp (.lst upd_same ((r.append r2).mono n))
  exact q _ _ _ _ ok2 st (k p)
theorem RpA.rep {S : Hp} {xs : List V} {ds : List Dt} (r : RpA K S xs ds) : ∀ n, RpA K S (List.replicate n xs).flatten (List.replicate n ds).flatten
  | 0 => .nil
  | n + 1 => by
    rw [List.replicate_succ, List.replicate_succ, List.flatten_cons, List.flatten_cons]
    exact r.append (RpA.rep r n)
theorem o_rep {Φ : V → Sy → Prop} {v : V} {ds : List Dt} {i : Int} (h1 : Rb y v (.list ds)) (h0 : 0 ≤ i) (hi : i ≤ 100000) (hz : ds.length * i.toNat ≤ 1000000) (k : ∀ p, Φ (.ref p) ⟨(.ref p, .list (List.replicate i.toNat ds).flatten) :: y.F, y.O⟩) : Lift K (wO X (binaryOp .Mult) v (.int i)) y Φ Ψ := by
  refine o_of L2.op_rep (Lift.raw fun S H ok E Q q => ?_)
  obtain ⟨a, xs, rfl, ha, r⟩ := h1.lst ok
  refine ⟨a, i, xs, rfl, rfl, ha, by omega, by omega, by rw [r.length]; exact Nat.le_trans hz (by decide), fun p hp => ?_⟩
  have n : Sub S (upd S p (.lst (List.replicate i.toNat xs).flatten)) := fun b o e => by
    rw [upd_ne (ne_of_none (ok.sub b o e) hp)]
    exact e
  obtain ⟨ok2, st⟩ := ok.new (o := .lst (List.replicate i.toNat xs).flatten) hp (.lst upd_same ((r.rep _).mono n))
  exact q _ _ _ _ ok2 st (k p)
/-- displays -/
theorem l_lst {Φ : V → Sy → Prop} {σ : L2.St} {es : List Expr} {pos : Pos} (h : Lift K (wA X es σ) y (fun vs y1 => ∃ ds, HsA y1.F vs ds ∧ ds.length ≤ 1000000 ∧ ∀ p, Φ (.ref p) ⟨(.ref p, .list ds) :: y1.F, y1.O⟩) Ψ) : Lift K (wE X (.List es pos) σ) y Φ Ψ := by
  refine l_of (fun E tk => pe_lst (pa_w tk)) (Lift.bind (T1 := wA X es σ) (T2 := fun xs _ H Q => xs.length ≤ sizeLine ∧ ∀ p, H p = none → Q (.ref p) (upd H p (.lst xs))) (fun _ _ _ q => q) (h.mono (fun vs z ⟨ds, hs, hz, k⟩ => Lift.raw fun S H ok E Q q => ?_) fun _ _ q => q))
  have r := hs.rp ok
  refine ⟨by rw [r.length]; exact Nat.le_trans hz (by decide), fun p hp => ?_⟩
  have n : Sub S (upd S p (.lst vs)) := fun b o e => by
    rw [upd_ne (ne_of_none (ok.sub b o e) hp)]
    exact e
  obtain ⟨ok2, st⟩ := ok.new (o := .lst vs) hp (.lst upd_same (r.mono n))
  exact q _ _ _ _ ok2 st (k p)
theorem l_lstO {Φ : V → Sy → Prop} {σ : L2.St} {es : List Expr} {pos : Pos} (h : Lift K (wA X es σ) y (fun vs y1 => ∃ ds, HsA y1.F vs ds ∧ ds.length ≤ 1000000 ∧ ∀ p, Φ (.ref p) ⟨y1.F, (p, .lst ds) :: y1.O⟩) Ψ) : Lift K (wE X (.List es pos) σ) y Φ Ψ := by
  refine l_of (fun E tk => pe_lst (pa_w tk)) (Lift.bind (T1 := wA X es σ) (T2 := fun xs _ H Q => xs.length ≤ sizeLine ∧ ∀ p, H p = none → Q (.ref p) (upd H p (.lst xs))) (fun _ _ _ q => q) (h.mono (fun vs z ⟨ds, hs, hz, k⟩ => Lift.raw fun S H ok E Q q => ?_) fun _ _ q => q))
  have r := hs.rp ok
  refine ⟨by rw [r.length]; exact Nat.le_trans hz (by decide), fun p hp => ?_⟩
  obtain ⟨ok2, st⟩ := ok.newO (o := .lst vs) (u := .lst ds) hp ⟨_, rfl, r⟩
  exact q _ _ _ _ ok2 st (k p)
theorem l_tup {Φ : V → Sy → Prop} {σ : L2.St} {es : List Expr} {x1} {pos : Pos} (h : Lift K (wA X es σ) y (fun vs y1 => ∃ ds, HsA y1.F vs ds ∧ ds.length ≤ 1000000 ∧ ∀ p, Φ (.ref p) ⟨(.ref p, .tuple ds) :: y1.F, y1.O⟩) Ψ) : Lift K (wE X (.Tuple es x1 pos) σ) y Φ Ψ := by
  refine l_of (fun E tk => pe_tup (pa_w tk)) (Lift.bind (T1 := wA X es σ) (T2 := fun xs _ H Q => xs.length ≤ sizeLine ∧ ∀ p, H p = none → Q (.ref p) (upd H p (.tup xs))) (fun _ _ _ q => q) (h.mono (fun vs z ⟨ds, hs, hz, k⟩ => Lift.raw fun S H ok E Q q => ?_) fun _ _ q => q))
  have r := hs.rp ok
  refine ⟨by rw [r.length]; exact Nat.le_trans hz (by decide), fun p hp => ?_⟩
  have n : Sub S (upd S p (.tup vs)) := fun b o e => by
    rw [upd_ne (ne_of_none (ok.sub b o e) hp)]
    exact e
  obtain ⟨ok2, st⟩ := ok.new (o := .tup vs) hp (.tup (SqT.of upd_same) (r.mono n))
  exact q _ _ _ _ ok2 st (k p)

/-! ### built-in calls by values -/
theorem c_lenL {Φ : V → Sy → Prop} {v : V} {ds : List Dt} (h : Rb y v (.list ds)) (hK : X.K = K) (k : Φ (.int (ds.length : Nat)) y) : Lift K (wC X (.builtin "len") [v]) y Φ Ψ := by
  refine c_of call_len_seq (Lift.raw fun S H ok E Q q => ?_)
  obtain ⟨a, xs, rfl, ha, r⟩ := h.lst ok
  refine ⟨a, xs, rfl, .inl (SqL.of ha), ?_⟩
  rw [r.length]
  exact q _ y S H ok (Stp.refl _ _ _) k
theorem c_lenT {Φ : V → Sy → Prop} {v : V} {ds : List Dt} (h : Rb y v (.tuple ds)) (hK : X.K = K) (k : Φ (.int (ds.length : Nat)) y) : Lift K (wC X (.builtin "len") [v]) y Φ Ψ := by
  refine c_of call_len_seq (Lift.raw fun S H ok E Q q => ?_)
  obtain ⟨a, xs, rfl, ha, r⟩ := h.tup ok
  refine ⟨a, xs, rfl, .inr (by rw [hK]; exact ha), ?_⟩
  rw [r.length]
  exact q _ y S H ok (Stp.refl _ _ _) k
theorem c_lenS {Φ : V → Sy → Prop} {v : V} {ns : List Int} (h : Rb y v (scrD ns)) (hK : X.K = K) (k : Φ (.int (ns.length : Nat)) y) : Lift K (wC X (.builtin "len") [v]) y Φ Ψ := by
  refine c_of call_len_seq (Lift.raw fun S H ok E Q q => ?_)
  obtain ⟨a, rfl, ha⟩ := h.scr ok
  refine ⟨a, _, rfl, .inl (by rw [hK]; exact ha), ?_⟩
  rw [List.length_map]
  exact q _ y S H ok (Stp.refl _ _ _) k
theorem c_abs {Φ : V → Sy → Prop} {i : Int} (k : Φ (.int (if i < 0 then -i else i)) y) : Lift K (wC X (.builtin "abs") [.int i]) y Φ Ψ := c_of call_abs (Lift.ret (r := .int (if i < 0 then -i else i)) (fun _ _ _ q => ⟨i, rfl, q⟩) k)
theorem c_max {Φ : V → Sy → Prop} {i j : Int} (hc : X.calm = true) (k : Φ (.int (max i j)) y) : Lift K (wC X (.builtin "max") [.int i, .int j]) y Φ Ψ := by
  refine c_of (call_max2 hc) (Lift.ret (r := .int (max i j)) (fun _ _ _ q => ⟨i, j, rfl, ?_⟩) k)
  have e : (if j > i then j else i) = max i j := by
    rw [Int.max_def]
    split <;> split <;> omega
  rw [e]
  exact q
theorem c_min {Φ : V → Sy → Prop} {i j : Int} (hc : X.calm = true) (k : Φ (.int (min i j)) y) : Lift K (wC X (.builtin "min") [.int i, .int j]) y Φ Ψ := by
  refine c_of (call_min2 hc) (Lift.ret (r := .int (min i j)) (fun _ _ _ q => ⟨i, j, rfl, ?_⟩) k)
  have e : (if j < i then j else i) = min i j := by
    rw [Int.min_def]
    split <;> split <;> omega
  rw [e]
  exact q
theorem c_intB {Φ : V → Sy → Prop} {b : Bool} (k : Φ (.int (if b then 1 else 0)) y) : Lift K (wC X (.type "int") [.bl b]) y Φ Ψ := c_of call_int1 (Lift.ret (r := .int (if b then 1 else 0)) (fun _ _ _ q => .inr ⟨b, rfl, q⟩) k)
theorem c_listL {Φ : V → Sy → Prop} {v : V} {ds : List Dt} (h : Rb y v (.list ds)) (hK : X.K = K) (k : ∀ p, Φ (.ref p) ⟨y.F, (p, .lst ds) :: y.O⟩) : Lift K (wC X (.type "list") [v]) y Φ Ψ := by
  refine c_of call_list_of (Lift.raw fun S H ok E Q q => ?_)
  obtain ⟨a, xs, rfl, ha, r⟩ := h.lst ok
  refine ⟨a, xs, rfl, .inl (SqL.of ha), fun p hp => ?_⟩
  obtain ⟨ok2, st⟩ := ok.newO (o := .lst xs) (u := .lst ds) hp ⟨_, rfl, r⟩
  exact q _ _ _ _ ok2 st (k p)
theorem c_listT {Φ : V → Sy → Prop} {v : V} {ds : List Dt} (h : Rb y v (.tuple ds)) (hK : X.K = K) (k : ∀ p, Φ (.ref p) ⟨y.F, (p, .lst ds) :: y.O⟩) : Lift K (wC X (.type "list") [v]) y Φ Ψ := by
  refine c_of call_list_of (Lift.raw fun S H ok E Q q => ?_)
  obtain ⟨a, xs, rfl, ha, r⟩ := h.tup ok
  refine ⟨a, xs, rfl, .inr (by rw [hK]; exact ha), fun p hp => ?_⟩
  obtain ⟨ok2, st⟩ := ok.newO (o := .lst xs) (u := .lst ds) hp ⟨_, rfl, r⟩
  exact q _ _ _ _ ok2 st (k p)
theorem c_sorted {Φ : V → Sy → Prop} {v : V} {ns : List Int} (h : Rb y v (.list (ns.map .int))) (hK : X.K = K) (k : ∀ (ms : List Int) p, ms.Perm ns → ms.Pairwise (· ≤ ·) → Φ (.ref p) ⟨y.F, (p, .lst (ms.map .int)) :: y.O⟩) : Lift K (wC X (.builtin "sorted") [v]) y Φ Ψ := by
  refine c_of cr_sortedI (Lift.raw fun S H ok E Q q => ?_)
  obtain ⟨a, xs, rfl, ha, r⟩ := h.lst ok
  cases r.ints_inv
  refine ⟨a, ns, rfl, SqL.of ha, fun ms p h1 h2 hp => ?_⟩
  obtain ⟨ok2, st⟩ := ok.newO (o := .lst (ms.map V.int)) (u := .lst (ms.map .int)) hp ⟨_, rfl, RpA.ints ms⟩
  exact q _ _ _ _ ok2 st (k ms p h1 h2)
/-! ### == -/
def plainD : Dt → Bool
  | .dict _ => false
  | .list xs => plainA xs
  | .tuple xs => plainA xs
  | _ => true
where plainA : List Dt → Bool
  | [] => true
  | d :: r => plainD d && plainA r
mutual
theorem Rp.dp {S H : Hp} (s : Sub S H) : ∀ {v : V} {d : Dt}, Rp K S v d → plainD d = true → Dp K H v d
  | _, _, .non, _ => .non
  | _, _, .bl b, _ => .bl b
  | _, _, .int i, _ => .int i
  | _, _, .str x, _ => .str x
  | _, _, .lst q r, h => .lst (SqL.of (s _ _ q)) (RpA.dp s r h)
  | _, _, .tup q r, h => .tup (s.tup q) (RpA.dp s r h)
  | _, _, .emp _, h => by cases h
  | _, _, .one _, h => by cases h
  | _, _, .scr _, h => by cases h
  | _, _, .dct _ _ _, h => by cases h
  | _, _, .tpk _, h => by cases h
  | _, _, .exc _ _ _ _, h => by cases h
theorem RpA.dp {S H : Hp} (s : Sub S H) : ∀ {vs : List V} {ds : List Dt}, RpA K S vs ds → plainD.plainA ds = true → DpAll K H vs ds
  | _, _, .nil, _ => .nil
  | _, _, .cons q r, h => .cons (Rp.dp s q (Bool.and_eq_true_iff.mp h).1) (RpA.dp s r (Bool.and_eq_true_iff.mp h).2)
end
theorem Rb.dp {S H : Hp} (ok : OkS K y S H) {v : V} {d : Dt} (h : Rb y v d) (p : plainD d = true) : Dp K H v d := by
  cases h with
  | hs h => exact (h.rp ok).dp ok.sub p
  | own m =>
    obtain ⟨_, o, ho, xs, e, r⟩ := ok.own _ _ m
    subst e
    exact .lst (SqL.of ho) (r.dp ok.sub p)
theorem o_eqD {Φ : V → Sy → Prop} {v u : V} {d e : Dt} (h1 : Rb y v d) (h2 : Rb y u e) (p1 : plainD d = true) (p2 : plainD e = true) (s1 : SeqAt.shaped d = true) (s2 : SeqAt.shaped e = true) (hu : X.A.units + 64 < cLine) (hK : X.K = K)
    (k : Φ (.bl (PyData.eqv d e)) y) : Lift K (wO X (compareOp .Eq) v u) y Φ Ψ := by
  refine o_of (op_eqD hu) (Lift.raw fun S H ok E Q q => ?_)
  rw [hK]
  exact ⟨d, e, h1.dp ok p1, h2.dp ok p2, s1, s2, q _ y S H ok (Stp.refl _ _ _) k⟩
theorem o_neD {Φ : V → Sy → Prop} {v u : V} {d e : Dt} (h1 : Rb y v d) (h2 : Rb y u e) (p1 : plainD d = true) (p2 : plainD e = true) (s1 : SeqAt.shaped d = true) (s2 : SeqAt.shaped e = true) (hu : X.A.units + 64 < cLine) (hK : X.K = K)
    (k : Φ (.bl (!PyData.eqv d e)) y) : Lift K (wO X (compareOp .NotEq) v u) y Φ Ψ := by
  refine o_of (op_neD hu) (Lift.raw fun S H ok E Q q => ?_)
  rw [hK]
  exact ⟨d, e, h1.dp ok p1, h2.dp ok p2, s1, s2, q _ y S H ok (Stp.refl _ _ _) k⟩
end
end Yl

namespace Yl
open PySem PySem.Spec PyProof.Rows L2

section
variable {P : Program} {w : World} {K : PySem.W.Frag} {mg : Str → Option Value} {base : Heap} {k : Nat} {N : List Str} {sc : Scope} {vb lb : List Bool} {gs : List Str} {X : Cx} {y : Sy} {σ : L2.St} {Ψ : Value → Sy → Prop} {Φ : Fl → Sy → Prop} {pos : Pos} {rest : List Stmt}

/-! ### the tables of a context -/
def visB (sc : Scope) (x : Str) : Bool := match sc.names.lookup x with
  | some .local => true
  | some .cell => true
  | some .free => true
  | _ => false
def locB (sc : Scope) (x : Str) : Bool := match sc.names.lookup x with
  | some .local => true
  | some .cell => true
  | _ => false
def locL (sc : Scope) (x : Str) : Bool := match sc.names.lookup x with
  | some .local => true
  | _ => false
def gloB (sc : Scope) (x : Str) : Bool := match sc.names.lookup x with
  | some .globalImplicit => true
  | _ => false
def tabAll (f : Str → Bool) : List Str → List Bool → Bool
  | x :: r, b :: t => (!b || f x) && tabAll f r t
  | _, _ => true
theorem tabAll_at {f : Str → Bool} : ∀ {l : List Str} {t : List Bool} {i : Nat} {x : Str}, tabAll f l t = true → l[i]? = some x → t[i]? = some true → f x = true
  | [], _, _, _, _, h, _ => by simp at h
  | _ :: _, [], _, _, _, _, h => by simp at h
  | x :: r, b :: t, 0, z, h, h1, h2 => by
    simp at h1 h2
    subst h1
    subst h2
    have := (Bool.and_eq_true_iff.mp h).1
    simpa using this
  | x :: r, b :: t, i + 1, z, h, h1, h2 => tabAll_at (l := r) (t := t) (i := i) (Bool.and_eq_true_iff.mp h).2 (by simpa using h1) (by simpa using h2)
def plainName (x : Str) : Bool := !(x == ("__debug__" : Str)) && !(x == ("__classdict__" : Str))
theorem plainName_1 {x : Str} (h : plainName x = true) : (x == ("__debug__" : Str)) = false := by
  have := (Bool.and_eq_true_iff.mp h).1
  simpa using this
theorem plainName_2 {x : Str} (h : plainName x = true) : (x == ("__classdict__" : Str)) = false := by
  have := (Bool.and_eq_true_iff.mp h).2
  simpa using this
def chkT (sc : Scope) (N : List Str) (vb lb : List Bool) (gs : List Str) : Bool := tabAll (fun x => visB sc x && plainName x) N vb && tabAll (locB sc) N lb && gs.all (fun x => gloB sc x && plainName x)
def chkB (sc : Scope) (N : List Str) (vb lb : List Bool) (gs : List Str) : Bool := tabAll (fun x => visB sc x && plainName x) N vb && tabAll (locL sc) N lb && gs.all (fun x => gloB sc x && plainName x)
theorem visB_vis {sc : Scope} {x : Str} (h : visB sc x = true) : Vis sc x := by
  unfold visB at h
  split at h
  · exact .inl (by assumption)
  · exact .inr (.inl (by assumption))
  · exact .inr (.inr (by assumption))
  · cases h
theorem locB_loc {sc : Scope} {x : Str} (h : locB sc x = true) : Loc sc x := by
  unfold locB at h
  split at h
  · exact .inl (by assumption)
  · exact .inr (by assumption)
  · cases h
theorem locL_loc {sc : Scope} {x : Str} (h : locL sc x = true) : sc.names.lookup x = some .local := by
  unfold locL at h
  split at h
  · assumption
  · cases h
theorem gloB_glo {sc : Scope} {x : Str} (h : gloB sc x = true) : sc.names.lookup x = some .globalImplicit := by
  unfold gloB at h
  split at h
  · assumption
  · cases h
theorem Cn.top (hP : X.prog = P) (hw : X.w = w) (hK : X.K = K) (hm : X.mg = mg) (hb : X.base = base) (hN : X.N = N) (hsc : X.env.scope = sc) (nd : N.Nodup) (calm : X.calm = true) (hf : X.fn = fun _ => true) (room : Room k X.A)
    (pw : PassesOwn (model X.prog X.w) X.A X.env X.xe) (c : chkT sc N vb lb gs = true) : Cn P w K mg base k N sc vb lb gs X := by
  have c1 := Bool.and_eq_true_iff.mp c
  have c2 := Bool.and_eq_true_iff.mp c1.1
  refine ⟨hP, hw, hK, hm, hb, hN, hsc, by rw [hN]; exact nd, calm, fun i x h1 h2 => ?_, fun i x h1 h2 => ?_, fun x hx => ?_, room, pw⟩
  · have q := Bool.and_eq_true_iff.mp (tabAll_at c2.1 h1 h2)
    rw [hsc]
    exact ⟨visB_vis q.1, plainName_1 q.2, plainName_2 q.2⟩
  · rw [hsc, hf]
    exact ⟨locB_loc (tabAll_at c2.2 h1 h2), .inl rfl⟩
  · have q := Bool.and_eq_true_iff.mp (List.all_eq_true.mp c1.2 x hx)
    refine ⟨?_, plainName_1 q.2⟩
    show X.env.scope.names.lookup x = some .globalImplicit
    rw [hsc]
    exact gloB_glo q.1
theorem Cn.blk (C : Cn P w K mg base k N sc vb lb gs X) {scope : Scope} {vb' lb' : List Bool} {gs' : List Str} (c : chkB (relS scope sc) N vb' lb' gs' = true) (s : Shared) (H : Hp) (Cc : Addr) (cl : List (Str × Addr)) (fp : List Addr) :
    Cn P w K mg base k N (relS scope sc) vb' lb' gs' (X.blk s H scope (compEnvC scope cl Cc X.env) fp) := by
  have c1 := Bool.and_eq_true_iff.mp c
  have c2 := Bool.and_eq_true_iff.mp c1.1
  have hsc : (compEnvC scope cl Cc X.env).scope = relS scope sc := by
    rw [← C.hsc]
    rfl
  refine ⟨C.hP, C.hw, C.hK, C.hm, C.hb, C.hN, hsc, C.nd, C.calm, fun i x h1 h2 => ?_, fun i x h1 h2 => ?_, fun x hx => ?_, C.room, PassesOwn.never⟩
  · have q := Bool.and_eq_true_iff.mp (tabAll_at c2.1 h1 h2)
    rw [hsc]
    exact ⟨visB_vis q.1, plainName_1 q.2, plainName_2 q.2⟩
  · have q := locL_loc (tabAll_at c2.2 h1 h2)
    rw [hsc]
    exact ⟨.inl q, .inr q⟩
  · have q := Bool.and_eq_true_iff.mp (List.all_eq_true.mp c1.2 x hx)
    refine ⟨?_, plainName_1 q.2⟩
    show (compEnvC scope cl Cc X.env).scope.names.lookup x = some .globalImplicit
    rw [hsc]
    exact gloB_glo q.1

/-! ### statements -/
def seqK (X : Cx) (K : PySem.W.Frag) (rest : List Stmt) (Φ : Fl → Sy → Prop) (Ψ : Value → Sy → Prop) : Fl → Sy → Prop
  | .nx σ, y => Lift K (wSs X rest σ) y Φ Ψ
  | f, y => Φ f y
def retK (Φ : V → Sy → Prop) : Fl → Sy → Prop
  | .nx _, y => Φ .non y
  | .rt v, y => Φ v y
  | _, _ => False
theorem seqK_nx (h : Lift K (wSs X rest σ) y Φ Ψ) : seqK X K rest Φ Ψ (.nx σ) y := h
theorem seqK_rt {v : V} (h : Φ (.rt v) y) : seqK X K rest Φ Ψ (.rt v) y := h
theorem retK_nx {Φ : V → Sy → Prop} (h : Φ .non y) : retK Φ (.nx σ) y := h
theorem retK_rt {Φ : V → Sy → Prop} {v : V} (h : Φ v y) : retK Φ (.rt v) y := h
theorem s_nil (h : Φ (.nx σ) y) : Lift K (wSs X [] σ) y Φ Ψ := ss_of (fun _ _ => pss_nil) (Lift.ret (r := .nx σ) (fun _ _ _ q => q) h)
theorem s_cons {st : Stmt} (h : Lift K (wS X st σ) y (seqK X K rest Φ Ψ) Ψ) : Lift K (wSs X (st :: rest) σ) y Φ Ψ := by
  refine ss_of (fun E tk => pss_cons (ps_w tk) (pss_w tk)) ?_
  intro S H ok Q E q e
  show wS X st σ E H (flQ { ends Q with nx := fun σ H => wSs X rest σ E H (flQ (ends Q)) })
  have fe : flQ (ends Q) = Q := by
    funext f H
    cases f <;> rfl
  refine h S H ok _ E (fun f y' S' H' ok' st' g => ?_) e
  cases f with
  | nx s =>
    show wSs X rest s E H' (flQ (ends Q))
    rw [fe]
    exact (show Lift K (wSs X rest s) y' Φ Ψ from g) S' H' ok' Q E (fun r y2 S2 H2 o2 t2 k => q r y2 S2 H2 o2 (st'.trans t2) k) fun c y2 S2 H2 o2 t2 k => e c y2 S2 H2 o2 (st'.trans t2) k
  | rt v => exact q _ y' S' H' ok' st' g
  | bk s => exact q _ y' S' H' ok' st' g
  | ct s => exact q _ y' S' H' ok' st' g
theorem s_ret {e : Expr} (h : Lift K (wE X e σ) y (fun v y1 => Φ (.rt v) y1) Ψ) : Lift K (wSs X (.Return (some e) pos :: rest) σ) y Φ Ψ := by
  refine s_cons (s_of (fun E tk => ps_ret (pe_w tk)) ?_)
  refine Lift.bind (T1 := wE X e σ) (T2 := fun v _ H Q => Q (.rt v) H) (fun _ _ _ q => q) (h.mono (fun v z f => Lift.ret (r := .rt v) (fun _ _ _ q => q) f) fun _ _ q => q)
theorem s_retN (h : Φ (.rt .non) y) : Lift K (wSs X (.Return none pos :: rest) σ) y Φ Ψ :=
  s_cons (s_of (fun _ _ => ps_retN) (Lift.ret (r := .rt .non) (fun _ _ _ q => q) h))
theorem s_pass (h : Lift K (wSs X rest σ) y Φ Ψ) : Lift K (wSs X (.Pass pos :: rest) σ) y Φ Ψ := s_cons (s_of (fun _ _ => ps_pass) (Lift.ret (r := .nx σ) (fun _ _ _ q => q) h))
theorem s_break (h : Φ (.bk σ) y) : Lift K (wSs X (.Break pos :: rest) σ) y Φ Ψ := s_cons (s_of (fun _ _ => ps_break) (Lift.ret (r := .bk σ) (fun _ _ _ q => q) h))
theorem s_continue (h : Φ (.ct σ) y) : Lift K (wSs X (.Continue pos :: rest) σ) y Φ Ψ := s_cons (s_of (fun _ _ => ps_continue) (Lift.ret (r := .ct σ) (fun _ _ _ q => q) h))
theorem s_expr {e : Expr} (hs : swapsWith e none pos.line X.env = pure false) (h : Lift K (wE X e σ) y (fun _ y1 => Lift K (wSs X rest σ) y1 Φ Ψ) Ψ) : Lift K (wSs X (.Expr e pos :: rest) σ) y Φ Ψ := by
  refine s_cons (s_of (fun E tk => ps_expr (pe_w tk) hs) ?_)
  refine Lift.bind (T1 := wE X e σ) (T2 := fun v _ H Q => Q (.nx σ) H) (fun _ _ _ q => q) (h.mono (fun v z f => Lift.ret (r := .nx σ) (fun _ _ _ q => q) f) fun _ _ q => q)
theorem s_if {c : Expr} {a b : List Stmt} (h : Lift K (wT X c σ) y (fun d y1 => (d = true → Lift K (wSs X a σ) y1 (seqK X K rest Φ Ψ) Ψ) ∧ (d = false → Lift K (wSs X b σ) y1 (seqK X K rest Φ Ψ) Ψ)) Ψ) : Lift K (wSs X (.If c a b pos :: rest) σ) y Φ Ψ := by
  refine s_cons (s_of (fun E tk => ps_if (pt_w tk) (pss_w tk) (pss_w tk)) ?_)
  refine Lift.bind (T1 := wT X c σ) (T2 := fun d E H Q => if d = true then wSs X a σ E H (flQ (ends Q)) else wSs X b σ E H (flQ (ends Q))) (fun _ _ _ q => q) (h.mono (fun d z ⟨f1, f2⟩ => ?_) fun _ _ q => q)
  have fe : ∀ Q, flQ (ends Q) = Q := fun Q => by
    funext f H
    cases f <;> rfl
  cases d with
  | true => exact (f1 rfl).to fun E H Q q => iteT (by rw [fe]; exact q)
  | false => exact (f2 rfl).to fun E H Q q => iteF (by rw [fe]; exact q)
theorem s_if0 {c : Expr} {a : List Stmt} (h : Lift K (wT X c σ) y (fun d y1 => (d = true → Lift K (wSs X a σ) y1 (seqK X K rest Φ Ψ) Ψ) ∧ (d = false → Lift K (wSs X rest σ) y1 Φ Ψ)) Ψ) : Lift K (wSs X (.If c a [] pos :: rest) σ) y Φ Ψ :=
  s_if (h.mono (fun d z ⟨f1, f2⟩ => ⟨f1, fun hd => s_nil (seqK_nx (f2 hd))⟩) fun _ _ q => q)
/-- name = e -/
theorem s_seti {x : Str} {e : Expr} {pos' : Pos} (i : Nat) (C : Cn P w K mg base k N sc vb lb gs X) (h1 : N[i]? = some x) (h2 : lb[i]? = some true) (hs : swapsWith e (some (.Name x pos')) pos.line X.env = pure false)
    (h : Lift K (wE X e σ) y (fun v y1 => Lift K (wSs X rest (σ.set i (some v))) y1 Φ Ψ) Ψ) : Lift K (wSs X (.Assign [.Name x pos'] e pos :: rest) σ) y Φ Ψ := by
  obtain ⟨a, b⟩ := C.loc i x h1 h2
  refine s_cons (s_of (fun E tk => ps_set (i := i) C.nd (by rw [C.hN]; exact h1) a (pe_w tk) hs b) ?_)
  refine Lift.bind (T1 := wE X e σ) (T2 := fun v _ H Q => Q (.nx (σ.set i (some v))) H) (fun _ _ _ q => q) (h.mono (fun v z f => Lift.ret (r := .nx (σ.set i (some v))) (fun _ _ _ q => q) f) fun _ _ q => q)
/-- target = e -/
theorem s_asg {tg e : Expr} (hs : swapsWithSole [tg] e pos.line X.env = pure false) (hw : swappedStores [tg] e X.env = pure none) (h1 : (assignEach [tg] X.env).map (·.2) = [assign tg X.env])
    (h : Lift K (wE X e σ) y (fun v y1 => Lift K (wG X tg v σ) y1 (fun σ2 y2 => Lift K (wSs X rest σ2) y2 Φ Ψ) Ψ) Ψ) : Lift K (wSs X (.Assign [tg] e pos :: rest) σ) y Φ Ψ := by
  refine s_cons (s_of (fun E tk => ps_asg (pe_w tk) (pg_w tk) hs hw h1) ?_)
  refine Lift.bind2 (wE X e σ) (fun v => wG X tg v σ) (fun _ σ2 => fun _ H Q => Q (.nx σ2) H) (fun _ _ _ q => q) (h.mono (fun v z f => f.mono (fun σ2 z2 f2 => Lift.ret (r := .nx σ2) (fun _ _ _ q => q) f2) fun _ _ q => q) fun _ _ q => q)
/-- name op= e -/
theorem s_augi {x : Str} {e : Expr} {op : Operator} {pos' : Pos} {v : V} (i : Nat) (C : Cn P w K mg base k N sc vb lb gs X) (h1 : N[i]? = some x) (h2 : lb[i]? = some true) (h3 : σ[i]? = some (some v))
    (h : Lift K (wE X e σ) y (fun u y1 => Lift K (wO X (inplaceOp op) v u) y1 (fun r y2 => Lift K (wSs X rest (σ.set i (some r))) y2 Φ Ψ) Ψ) Ψ) : Lift K (wSs X (.AugAssign (.Name x pos') op e pos :: rest) σ) y Φ Ψ := by
  obtain ⟨a, b⟩ := C.loc i x h1 h2
  refine s_cons (s_of (fun E tk => ps_aug (i := i) C.nd (by rw [C.hN]; exact h1) a (pe_w tk) (fun pins s σ H x y v u Q I r q h => op_w (E := E) pins s σ H x y v u Q I r q h) b) ?_)
  refine Lift.to (T := fun E H Q => wE X e σ E H fun u H1 => wO X (inplaceOp op) v u E H1 fun r H2 => Q (Fl.nx (σ.set i (some r))) H2) ?_ fun _ _ _ q => ⟨v, h3, q⟩
  exact Lift.bind2 (wE X e σ) (fun u => wO X (inplaceOp op) v u) (fun _ r => fun _ H Q => Q (Fl.nx (σ.set i (some r))) H) (fun _ _ _ q => q) (h.mono (fun u z f => f.mono (fun r z2 f2 => Lift.ret (r := .nx (σ.set i (some r))) (fun _ _ _ q => q) f2) fun _ _ q => q) fun _ _ q => q)
theorem o_iadd {Φ : V → Sy → Prop} {i j : Int} (h : Φ (.int (i + j)) y) : Lift K (wO X (inplaceOp .Add) (.int i) (.int j)) y Φ Ψ := o_of iop_add (Lift.ret (fun _ _ _ q => ⟨i, j, rfl, rfl, q⟩) h)
theorem o_isub {Φ : V → Sy → Prop} {i j : Int} (h : Φ (.int (i - j)) y) : Lift K (wO X (inplaceOp .Sub) (.int i) (.int j)) y Φ Ψ := o_of iop_sub (Lift.ret (fun _ _ _ q => ⟨i, j, rfl, rfl, q⟩) h)
/-! ### targets -/
theorem g_ni {Φ : L2.St → Sy → Prop} {x : Str} {v : V} (i : Nat) (C : Cn P w K mg base k N sc vb lb gs X) (h1 : N[i]? = some x) (h2 : lb[i]? = some true) (h : Φ (σ.set i (some v)) y) : Lift K (wG X (.Name x pos) v σ) y Φ Ψ := by
  obtain ⟨a, b⟩ := C.loc i x h1 h2
  exact g_of (fun E tk => pg_name (i := i) C.nd (by rw [C.hN]; exact h1) a b) (Lift.ret (r := σ.set i (some v)) (fun _ _ _ q => q) h)
theorem gs_nil {Φ : L2.St → Sy → Prop} (h : Φ σ y) : Lift K (wGs X [] [] σ) y Φ Ψ := gs_of (fun _ _ => pgs_nil) (Lift.ret (r := σ) (fun _ _ _ q => ⟨rfl, q⟩) h)
theorem gs_cons {Φ : L2.St → Sy → Prop} {e : Expr} {es : List Expr} {v : V} {vs : List V} (hs : (assignEach (e :: es) X.env).map (·.2) = assign e X.env :: (assignEach es X.env).map (·.2))
    (h : Lift K (wG X e v σ) y (fun σ1 y1 => Lift K (wGs X es vs σ1) y1 Φ Ψ) Ψ) : Lift K (wGs X (e :: es) (v :: vs) σ) y Φ Ψ := by
  refine gs_of (fun E tk => pgs_cons (pg_w tk) (pgs_w tk) hs) ?_
  refine Lift.to (T := fun E H Q => wG X e v σ E H fun σ1 H1 => wGs X es vs σ1 E H1 Q) ?_ fun _ _ _ q => ⟨v, vs, rfl, q⟩
  exact Lift.bind (T1 := wG X e v σ) (T2 := fun σ1 => wGs X es vs σ1) (fun _ _ _ q => q) h
theorem g_tup2 {Φ : L2.St → Sy → Prop} {e1 e2 : Expr} {kk : Nat} {v : V} {d1 d2 : Dt} (C : Cn P w K mg base k N sc vb lb gs X) (hd : Rb y v (.tuple [d1, d2])) (hn : (assignEach [e1, e2] X.env).length = 2) (hst : (assignEach [e1, e2] X.env).findIdx? (·.1) = none)
    (h : ∀ x1 x2, Lift K (wGs X [e1, e2] [x1, x2] σ) ⟨(x1, d1) :: (x2, d2) :: y.F, y.O⟩ Φ Ψ) : Lift K (wG X (.Tuple [e1, e2] kk pos) v σ) y Φ Ψ := by
  refine g_of (fun E tk => pg_tup C.calm (pgs_w tk) hn hst) ?_
  intro S H ok Q E q e
  obtain ⟨a, xs, rfl, ha, r⟩ := hd.tup ok
  cases r with
  | @cons x1 _ _ _ r1 r =>
    cases r with
    | @cons x2 _ _ _ r2 r =>
      cases r
      refine ⟨a, [x1, x2], rfl, by rw [C.hK]; exact ha, rfl, ?_⟩
      have ok2 := (ok.fact (y := y) r2).fact (v := x1) (d := d1) r1
      exact h x1 x2 S H ok2 Q E (fun s y' S' H' o t f => q s y' S' H' o t f) fun c y' S' H' o t f => e c y' S' H' o t f
theorem g_tup3 {Φ : L2.St → Sy → Prop} {e1 e2 e3 : Expr} {kk : Nat} {v : V} {d1 d2 d3 : Dt} (C : Cn P w K mg base k N sc vb lb gs X) (hd : Rb y v (.tuple [d1, d2, d3])) (hn : (assignEach [e1, e2, e3] X.env).length = 3) (hst : (assignEach [e1, e2, e3] X.env).findIdx? (·.1) = none)
    (h : ∀ x1 x2 x3, Lift K (wGs X [e1, e2, e3] [x1, x2, x3] σ) ⟨(x1, d1) :: (x2, d2) :: (x3, d3) :: y.F, y.O⟩ Φ Ψ) : Lift K (wG X (.Tuple [e1, e2, e3] kk pos) v σ) y Φ Ψ := by
  refine g_of (fun E tk => pg_tup C.calm (pgs_w tk) hn hst) ?_
  intro S H ok Q E q e
  obtain ⟨a, xs, rfl, ha, r⟩ := hd.tup ok
  cases r with
  | @cons x1 _ _ _ r1 r =>
    cases r with
    | @cons x2 _ _ _ r2 r =>
      cases r with
      | @cons x3 _ _ _ r3 r =>
        cases r
        refine ⟨a, [x1, x2, x3], rfl, by rw [C.hK]; exact ha, rfl, ?_⟩
        have ok2 := ((ok.fact (y := y) r3).fact (v := x2) (d := d2) r2).fact (v := x1) (d := d1) r1
        exact h x1 x2 x3 S H ok2 Q E (fun s y' S' H' o t f => q s y' S' H' o t f) fun c y' S' H' o t f => e c y' S' H' o t f
theorem g_sub {Φ : L2.St → Sy → Prop} {o i : Expr} {v : V} (ha : ∀ v, assign (.Subscript o i pos) X.env v = (do
      let ov ← holding [v] (eval o X.env)
      let iv ← holding [v, ov] (eval i X.env)
      standAt pos
      holding [v, ov, iv] (setItem ov iv v)
      release [v, ov, iv] []))
    (h : Lift K (wE X o σ) y (fun ov y1 => Lift K (wE X i σ) y1 (fun iv y2 => Lift K (wSt X ov iv v) y2 (fun _ y3 => Φ σ y3) Ψ) Ψ) Ψ) : Lift K (wG X (.Subscript o i pos) v σ) y Φ Ψ := by
  refine g_of (fun E tk => pg_sub (pe_w tk) (pe_w tk) (set_w (E := E)) ha) ?_
  refine Lift.bind2 (wE X o σ) (fun _ => wE X i σ) (fun ov iv => fun E H Q => wSt X ov iv v E H fun _ H3 => Q σ H3) (fun _ _ _ q => q) (h.mono (fun ov z f => f.mono (fun iv z2 f2 => ?_) fun _ _ q => q) fun _ _ q => q)
  exact Lift.bind (T1 := wSt X ov iv v) (T2 := fun _ _ H Q => Q σ H) (fun _ _ _ q => q) (f2.mono (fun _ z3 f3 => Lift.ret (r := σ) (fun _ _ _ q => q) f3) fun _ _ q => q)
/-- an item of an owned list -/
theorem st_lst {Φ : Unit → Sy → Prop} {F : List (V × Dt)} {O : List (Addr × OD)} {p : Addr} {ds : List Dt} {i : Int} {j : Nat} {v : V} {d : Dt} (hv : Hs F v d) (hj : ixN ds.length i = some j) (h : Φ () ⟨F, (p, .lst (ds.set j d)) :: O⟩) :
    Lift K (wSt X (.ref p) (.int i) v) ⟨F, (p, .lst ds) :: O⟩ Φ Ψ := by
  refine st_of set_list (Lift.raw fun S H ok E Q q => ?_)
  obtain ⟨sp, o, ho, xs, rfl, r⟩ := ok.own p _ (List.Mem.head _)
  obtain ⟨ok2, st⟩ := ok.set (u2 := .lst (ds.set j d)) (o2 := .lst (xs.set j v)) ⟨_, rfl, r.set (hv.rp ok) j⟩
  exact ⟨p, xs, i, j, rfl, rfl, ho, by rw [r.length]; exact hj, q () _ _ _ ok2 st h⟩
end
end Yl

namespace Yl
open PySem PySem.Spec PyProof.Rows L2

/-! ### what is walked -/
structure Sr (K : PySem.W.Frag) (J : It) (y : Sy) (es : List Dt) : Prop where
  ex : ∀ S H, OkS K y S H → ∃ (G : Hp → Prop) (Y : Nat → Hp → V → Hp → Prop), Walk J es.length G Y ∧ (∀ H', Sub S H' → G H') ∧
    ∀ (i : Nat) (H1 : Hp) (x : V) (H2 : Hp) (d : Dt) (S' : Hp), es[i]? = some d → Sub S S' → Sub S' H1 → Y i H1 x H2 →
      (H2 = H1 ∧ Rp K S' x d) ∨ (∃ T o, H1 T = none ∧ H2 = upd H1 T o ∧ x = .ref T ∧ Rp K (upd S' T o) (.ref T) d)
/-- .. from a told heap on -/
def SrW (K : PySem.W.Frag) (J : It) (S : Hp) (es : List Dt) (G : Hp → Prop) (Y : Nat → Hp → V → Hp → Prop) : Prop :=
  Walk J es.length G Y ∧ (∀ S' H', Sub S S' → Sub S' H' → G H') ∧
    ∀ (i : Nat) (H1 : Hp) (x : V) (H2 : Hp) (d : Dt) (y' : Sy) (S' : Hp), es[i]? = some d → Sub S S' → OkS K y' S' H1 → Y i H1 x H2 →
      ∃ S2, OkS K ⟨(x, d) :: y'.F, y'.O⟩ S2 H2 ∧ Stp y'.O S' H1 y'.O S2 H2
theorem Sub.new {S H : Hp} (s : Sub S H) {p : Addr} {o : HO} (hp : H p = none) : Sub S (upd S p o) := fun b u e => by
  rw [upd_ne (ne_of_none (s b u e) hp)]
  exact e
section
variable {K : PySem.W.Frag} {y : Sy}
theorem Sr.list {a : Addr} {ds : List Dt} (h : Hs y.F (.ref a) (.list ds)) : Sr K (Itl K a) y ds := by
  refine ⟨fun S H ok => ?_⟩
  have r := h.rp ok
  cases r with
  | @lst _ xs _ e r =>
    refine ⟨_, YAt xs, by rw [← r.length]; exact walk_list (xs := xs), fun H' s => SqL.of (s _ _ e), fun i H1 x H2 d S' hd s1 s2 y => .inl ⟨y.1, ?_⟩⟩
    obtain ⟨x', hx, rx⟩ := r.at hd
    have hy := y.2
    rw [hx] at hy
    cases hy
    exact rx.mono s1
theorem Sr.tup {a : Addr} {ds : List Dt} (h : Hs y.F (.ref a) (.tuple ds)) : Sr K (Itt K a) y ds := by
  refine ⟨fun S H ok => ?_⟩
  have r := h.rp ok
  cases r with
  | @tup _ xs _ e r =>
    refine ⟨_, YAt xs, by rw [← r.length]; exact walk_tup (xs := xs), fun H' s => s.tup e, fun i H1 x H2 d S' hd s1 s2 y => .inl ⟨y.1, ?_⟩⟩
    obtain ⟨x', hx, rx⟩ := r.at hd
    have hy := y.2
    rw [hx] at hy
    cases hy
    exact rx.mono s1
/-- n ints from lo on -/
def rngD (lo : Int) (n : Nat) : List Dt := (List.range n).map fun i => PyData.int (lo + (i : Nat))
theorem rngD_len (lo : Int) (n : Nat) : (rngD lo n).length = n := by
  unfold rngD
  rw [List.length_map, List.length_range]
theorem rngD_at {lo : Int} {n i : Nat} {d : Dt} (h : (rngD lo n)[i]? = some d) : i < n ∧ d = .int (lo + (i : Nat)) := by
  have h1 := (List.getElem?_eq_some_iff.mp h).1
  rw [rngD_len] at h1
  refine ⟨h1, ?_⟩
  unfold rngD at h
  rw [List.getElem?_map, List.getElem?_range h1] at h
  exact (Option.some.inj h).symm
theorem Sr.range {lo : Int} {n : Nat} : Sr K (Itr lo n) y (rngD lo n) := by
  refine ⟨fun S H ok => ⟨fun _ => True, YFn fun i => .int (lo + i), by rw [rngD_len]; exact walk_range, fun _ _ => True.intro, fun i H1 x H2 d S' hd s1 s2 y => .inl ⟨y.1, ?_⟩⟩⟩
  rw [(rngD_at hd).2, y.2]
  exact .int _
def zipD (ds es : List Dt) : List Dt := List.zipWith (fun d e => PyData.tuple [d, e]) ds es
theorem Sr.zip {a b : Addr} {ds es : List Dt} (h : Hs y.F (.ref a) (.list ds)) (h2 : Hs y.F (.ref b) (.list es)) : Sr K (Itz K a b) y (zipD ds es) := by
  refine ⟨fun S H ok => ?_⟩
  have r := h.rp ok
  have r2 := h2.rp ok
  cases r with
  | @lst _ xs _ e r =>
    cases r2 with
    | @lst _ zs _ e2 r2 =>
      have hl : (zipD ds es).length = min xs.length zs.length := by
        unfold zipD
        rw [List.length_zipWith, r.length, r2.length]
      refine ⟨_, YPair (fun i => xs[i]?) (fun i => zs[i]?), walk_zip (xs := xs) (ys := zs) hl, fun H' s => ⟨SqL.of (s _ _ e), SqL.of (s _ _ e2)⟩, fun i H1 x H2 d S' hd s1 s2 y => .inr ?_⟩
      obtain ⟨T, x1, x2, rfl, hT, rfl, g1, g2⟩ := y
      obtain ⟨d1, hd1, p1⟩ := r.get g1
      obtain ⟨d2, hd2, p2⟩ := r2.get g2
      have ed : d = .tuple [d1, d2] := by
        unfold zipD at hd
        rw [List.getElem?_zipWith, hd1, hd2] at hd
        exact (Option.some.inj hd).symm
      refine ⟨T, _, hT, rfl, rfl, ?_⟩
      rw [ed]
      have n := s1.trans (s2.new (o := .tup [x1, x2]) hT)
      exact .tup (SqT.of upd_same) (.cons (p1.mono n) (.cons (p2.mono n) .nil))
def enumD (ds : List Dt) : List Dt := ds.mapIdx fun i d => PyData.tuple [.int (i : Nat), d]
theorem Sr.enum {a : Addr} {ds : List Dt} (h : Hs y.F (.ref a) (.list ds)) : Sr K (Ite K a) y (enumD ds) := by
  refine ⟨fun S H ok => ?_⟩
  have r := h.rp ok
  cases r with
  | @lst _ xs _ e r =>
    have hl : (enumD ds).length = xs.length := by
      unfold enumD
      rw [List.length_mapIdx, r.length]
    refine ⟨_, YPair (fun i => some (.int (i : Nat))) (fun i => xs[i]?), by rw [hl]; exact walk_enum (xs := xs), fun H' s => SqL.of (s _ _ e), fun i H1 x H2 d S' hd s1 s2 y => .inr ?_⟩
    obtain ⟨T, x1, x2, rfl, hT, rfl, g1, g2⟩ := y
    obtain ⟨d2, hd2, p2⟩ := r.get g2
    cases g1
    have ed : d = .tuple [.int (i : Nat), d2] := by
      unfold enumD at hd
      rw [List.getElem?_mapIdx, hd2] at hd
      exact (Option.some.inj hd).symm
    refine ⟨T, _, hT, rfl, rfl, ?_⟩
    rw [ed]
    have n := s1.trans (s2.new (o := .tup [.int (i : Nat), x2]) hT)
    exact .tup (SqT.of upd_same) (.cons (.int _) (.cons (p2.mono n) .nil))
end

section
variable {P : Program} {w : World} {K : PySem.W.Frag} {mg : Str → Option Value} {base : Heap} {k : Nat} {N : List Str} {sc : Scope} {vb lb : List Bool} {gs : List Str} {X : Cx} {y : Sy} {σ : L2.St} {Ψ : Value → Sy → Prop} {pos : Pos} {rest : List Stmt}
/-- what a for goes through -/
theorem i_list {Φ : It → Sy → Prop} {tg iter : Expr} (hK : X.K = K) (h : Lift K (wE X iter σ) y (fun v y1 => ∃ ds, Hs y1.F v (.list ds) ∧ ∀ J, Sr K J y1 ds → Φ J y1) Ψ) : Lift K (wI X tg iter σ) y Φ Ψ := by
  refine i_of (fun E tk => pi_list (pe_w tk)) (Lift.bind (T1 := wE X iter σ) (T2 := fun v _ H R => ∃ a, v = .ref a ∧ (∃ xs, SqL X.K H a xs) ∧ R (Itl X.K a) H) (fun _ _ _ q => q) (h.mono (fun v z ⟨ds, hs, f⟩ => Lift.raw fun S H ok E Q q => ?_) fun _ _ q => q))
  have r := hs.rp ok
  cases r with
  | @lst a xs _ e r =>
    refine ⟨a, rfl, ⟨xs, SqL.of (ok.sub _ _ e)⟩, q _ z S H ok (Stp.refl _ _ _) (f _ ?_)⟩
    rw [hK]
    exact Sr.list hs
theorem i_tup {Φ : It → Sy → Prop} {tg iter : Expr} (hK : X.K = K) (h : Lift K (wE X iter σ) y (fun v y1 => ∃ ds, Hs y1.F v (.tuple ds) ∧ ∀ J, Sr K J y1 ds → Φ J y1) Ψ) : Lift K (wI X tg iter σ) y Φ Ψ := by
  refine i_of (fun E tk => pi_tup (pe_w tk)) (Lift.bind (T1 := wE X iter σ) (T2 := fun v _ H R => ∃ a, v = .ref a ∧ (∃ xs, SqT X.K H a xs) ∧ R (Itt X.K a) H) (fun _ _ _ q => q) (h.mono (fun v z ⟨ds, hs, f⟩ => Lift.raw fun S H ok E Q q => ?_) fun _ _ q => q))
  have r := hs.rp ok
  cases r with
  | @tup a xs _ e r =>
    refine ⟨a, rfl, ⟨xs, by rw [hK]; exact ok.sub.tup e⟩, q _ z S H ok (Stp.refl _ _ _) (f _ ?_)⟩
    rw [hK]
    exact Sr.tup hs
theorem i_range1 {Φ : It → Sy → Prop} {tg a : Expr} {p : Pos} (C : Cn P w K mg base k N sc vb lb gs X) (hg : ("range" : Str) ∈ gs) (hm : mg "range" = none) (hs : starEach [a] X.env = [(false, eval a X.env)])
    (h : Lift K (wA X [a] σ) y (fun vs y1 => ∃ j : Int, vs = [.int j] ∧ j ≤ 1000000 ∧ -1000000 ≤ j ∧ ∀ J, Sr K J y1 (rngD 0 j.toNat) → Φ J y1) Ψ) : Lift K (wI X tg (.Call (.Name "range" p) [a] [] pos) σ) y Φ Ψ := by
  refine i_of (fun E tk => pi_range1 (C.gl _ hg).1 (by rw [C.hm]; exact hm) (pa_w tk) hs) (Lift.bind (T1 := wA X [a] σ) (T2 := fun vs _ H R => ∃ j : Int, vs = [.int j] ∧ -(2 ^ 62) ≤ j ∧ j < 2 ^ 62 ∧ R (Itr 0 j.toNat) H) (fun _ _ _ q => q) (h.mono (fun v z ⟨j, e, h1, h2, f⟩ => Lift.ret (r := Itr 0 j.toNat) (fun _ _ _ q => ⟨j, e, by omega, by omega, q⟩) (f _ Sr.range)) fun _ _ q => q))
theorem i_range2 {Φ : It → Sy → Prop} {tg a b : Expr} {p : Pos} (C : Cn P w K mg base k N sc vb lb gs X) (hg : ("range" : Str) ∈ gs) (hm : mg "range" = none) (hs : starEach [a, b] X.env = [(false, eval a X.env), (false, eval b X.env)]) (hs2 : starEach [b] X.env = [(false, eval b X.env)])
    (h : Lift K (wA X [a, b] σ) y (fun vs y1 => ∃ i j : Int, vs = [.int i, .int j] ∧ (-(2 ^ 62) ≤ i ∧ i < 2 ^ 62 ∧ -(2 ^ 62) ≤ j ∧ j < 2 ^ 62) ∧ ∀ J, Sr K J y1 (rngD i (j - i).toNat) → Φ J y1) Ψ) : Lift K (wI X tg (.Call (.Name "range" p) [a, b] [] pos) σ) y Φ Ψ := by
  refine i_of (fun E tk => pi_range2 (C.gl _ hg).1 (by rw [C.hm]; exact hm) (pa_w tk) hs hs2) (Lift.bind (T1 := wA X [a, b] σ) (T2 := fun vs _ H R => ∃ i j : Int, vs = [.int i, .int j] ∧ (-(2 ^ 62) ≤ i ∧ i < 2 ^ 62 ∧ -(2 ^ 62) ≤ j ∧ j < 2 ^ 62) ∧ R (Itr i (j - i).toNat) H) (fun _ _ _ q => q)
    (h.mono (fun v z ⟨i, j, e, h1, f⟩ => Lift.ret (r := Itr i (j - i).toNat) (fun _ _ _ q => ⟨i, j, e, h1, q⟩) (f _ Sr.range)) fun _ _ q => q))
theorem i_zip {Φ : It → Sy → Prop} {a b : Expr} {p tpos : Pos} {elts : List Expr} {kk : Nat} (C : Cn P w K mg base k N sc vb lb gs X) (hg : ("zip" : Str) ∈ gs) (hm : mg "zip" = none) (hs : starEach [a, b] X.env = (false, eval a X.env) :: starEach [b] X.env) (hpl : (backTo pos (starEach [b] X.env)).any (·.1) = false)
    (h : Lift K (wA X [a, b] σ) y (fun vs y1 => ∃ v u ds es, vs = [v, u] ∧ Hs y1.F v (.list ds) ∧ Hs y1.F u (.list es) ∧ ∀ J, Sr K J y1 (zipD ds es) → Φ J y1) Ψ) : Lift K (wI X (.Tuple elts kk tpos) (.Call (.Name "zip" p) [a, b] [] pos) σ) y Φ Ψ := by
  refine i_of (fun E tk => pi_zip (C.gl _ hg).1 (by rw [C.hm]; exact hm) (pa_w tk) hs hpl) (Lift.bind (T1 := wA X [a, b] σ) (T2 := fun vs _ H R => ∃ a b xs ys, vs = [.ref a, .ref b] ∧ SqL X.K H a xs ∧ SqL X.K H b ys ∧ R (Itz X.K a b) H) (fun _ _ _ q => q)
    (h.mono (fun vs z ⟨v, u, ds, es, e, h1, h2, f⟩ => Lift.raw fun S H ok E Q q => ?_) fun _ _ q => q))
  subst e
  have r := h1.rp ok
  have r2 := h2.rp ok
  cases r with
  | @lst a1 xs _ e1 r =>
    cases r2 with
    | @lst a2 zs _ e2 r2 =>
      refine ⟨a1, a2, xs, zs, rfl, SqL.of (ok.sub _ _ e1), SqL.of (ok.sub _ _ e2), q _ z S H ok (Stp.refl _ _ _) (f _ ?_)⟩
      rw [C.hK]
      exact Sr.zip h1 h2
theorem i_enum {Φ : It → Sy → Prop} {a : Expr} {p tpos : Pos} {elts : List Expr} {kk : Nat} (C : Cn P w K mg base k N sc vb lb gs X) (hg : ("enumerate" : Str) ∈ gs) (hm : mg "enumerate" = none) (hs : starEach [a] X.env = [(false, eval a X.env)])
    (h : Lift K (wA X [a] σ) y (fun vs y1 => ∃ v ds, vs = [v] ∧ Hs y1.F v (.list ds) ∧ ∀ J, Sr K J y1 (enumD ds) → Φ J y1) Ψ) : Lift K (wI X (.Tuple elts kk tpos) (.Call (.Name "enumerate" p) [a] [] pos) σ) y Φ Ψ := by
  refine i_of (fun E tk => pi_enum (C.gl _ hg).1 (by rw [C.hm]; exact hm) (pa_w tk) hs) (Lift.bind (T1 := wA X [a] σ) (T2 := fun vs _ H R => ∃ a xs, vs = [.ref a] ∧ SqL X.K H a xs ∧ R (Ite X.K a) H) (fun _ _ _ q => q)
    (h.mono (fun vs z ⟨v, ds, e, h1, f⟩ => Lift.raw fun S H ok E Q q => ?_) fun _ _ q => q))
  subst e
  have r := h1.rp ok
  cases r with
  | @lst a1 xs _ e1 r =>
    refine ⟨a1, xs, rfl, SqL.of (ok.sub _ _ e1), q _ z S H ok (Stp.refl _ _ _) (f _ ?_)⟩
    rw [C.hK]
    exact Sr.enum h1

/-! ### for, while -/
def loopK (X : Cx) (K : PySem.W.Frag) (Iv : L2.St → Sy → Prop) (rest : List Stmt) (Φ : Fl → Sy → Prop) (Ψ : Value → Sy → Prop) : Fl → Sy → Prop
  | .nx s, y => Iv s y
  | .ct s, y => Iv s y
  | .bk s, y => Lift K (wSs X rest s) y Φ Ψ
  | .rt v, y => Φ (.rt v) y
theorem flQ_ends (Q : Fl → Hp → Prop) : flQ (ends Q) = Q := by
  funext f H
  cases f <;> rfl
theorem Sr.walks {J : It} {es : List Dt} (sr : Sr K J y es) {S H : Hp} (ok : OkS K y S H) : ∃ G Y, SrW K J S es G Y := by
  obtain ⟨G, Y, wk, hG, hY⟩ := sr.ex S H ok
  refine ⟨G, Y, wk, fun S' H' s1 s2 => hG _ (s1.trans s2), fun i H1 x H2 d y' S' hd s1 ok' yy => ?_⟩
  rcases hY i H1 x H2 d S' hd s1 ok'.sub yy with ⟨rfl, rx⟩ | ⟨T, o, hT, rfl, rfl, rx⟩
  · exact ⟨S', ok'.fact rx, Stp.refl _ _ _⟩
  · obtain ⟨ok2, st2⟩ := ok'.new hT rx
    exact ⟨_, ok2, st2⟩
/-- the turns of a for -/
theorem for_core {Φ : Fl → Sy → Prop} {tg : Expr} {body : List Stmt} {J : It} {es : List Dt} {y1 : Sy} {S1 H1 : Hp} {G : Hp → Prop} {Y : Nat → Hp → V → Hp → Prop} (ok1 : OkS K y1 S1 H1) (wk : SrW K J S1 es G Y) (Iv : Nat → L2.St → Sy → Prop) (i0 : Iv 0 σ y1)
    (turn : ∀ i d σ' y' x, es[i]? = some d → Iv i σ' y' → Lift K (wG X tg x σ') ⟨(x, d) :: y'.F, y'.O⟩ (fun σ2 y2 => Lift K (wSs X body σ2) y2 (loopK X K (Iv (i + 1)) rest Φ Ψ) Ψ) Ψ)
    (done : ∀ σ' y', Iv es.length σ' y' → Lift K (wSs X rest σ') y' Φ Ψ) {Q : Fl → Hp → Prop} {E : XK} (q : ∀ r y' S' H', OkS K y' S' H' → Stp y1.O S1 H1 y'.O S' H' → Φ r y' → Q r H') (e : ∀ c y' S' H', OkS K y' S' H' → Stp y1.O S1 H1 y'.O S' H' → Ψ c y' → E c none H') :
    ∃ W : Nat → Nat → L2.St → Hp → Prop, (∃ m, W 0 m σ H1) ∧ ∀ i m σ H, W i m σ H →
    (J.stop i H ∧ wSs X rest σ E H (flQ (ends Q))) ∨ (J.go i H ∧ ∃ N : L2.St → Hp → Prop, (∀ σ' H', N σ' H' → ∃ m', m' < m ∧ W (i + 1) m' σ' H') ∧ ∀ x H', J.yld i H x H' → wG X tg x σ E H' fun σ2 H2 => wSs X body σ2 E H2 (flQ { nx := N, ct := N, bk := fun σ H => wSs X rest σ E H (flQ (ends Q)), rt := fun v H => Q (.rt v) H })) := by
  obtain ⟨wk, hG, hY⟩ := wk
  refine for_it wk (g := fun v σ H Q => wG X tg v σ E H Q) (tb := fun D σ H => wSs X body σ E H (flQ D)) (D := { nx := fun σ H => wSs X rest σ E H (flQ (ends Q)), rt := fun v H => Q (.rt v) H })
    (fun i σ' H' => ∃ y' S', OkS K y' S' H' ∧ Stp y1.O S1 H1 y'.O S' H' ∧ Iv i σ' y') ⟨y1, S1, ok1, Stp.refl _ _ _, i0⟩ (fun i σ' H' _ ⟨y', S', ok', st', _⟩ => hG _ _ st'.sub ok'.sub) ?_ ?_
  · rintro i x σ' H' H2 hi ⟨y', S', ok', st', iv⟩ yy
    obtain ⟨d, hd⟩ : ∃ d, es[i]? = some d := ⟨_, List.getElem?_eq_getElem hi⟩
    have go : ∀ S3 H3, OkS K ⟨(x, d) :: y'.F, y'.O⟩ S3 H3 → Stp y'.O S' H' y'.O S3 H3 → wG X tg x σ' E H3 fun σ2 H2 => wSs X body σ2 E H2 (flQ { nx := fun σ' H' => ∃ y' S', OkS K y' S' H' ∧ Stp y1.O S1 H1 y'.O S' H' ∧ Iv (i + 1) σ' y', ct := fun σ' H' => ∃ y' S', OkS K y' S' H' ∧ Stp y1.O S1 H1 y'.O S' H' ∧ Iv (i + 1) σ' y', bk := fun σ H => wSs X rest σ E H (flQ (ends Q)), rt := fun v H => Q (.rt v) H }) := by
      intro S3 H3 ok3 st3
      have s3 := st'.trans st3
      refine turn i d σ' y' x hd iv S3 H3 ok3 _ E (fun σ2 y2 S4 H4 ok4 st4 l2 => ?_) fun c y2 S4 H4 ok4 st4 f => e c y2 S4 H4 ok4 (s3.trans st4) f
      have s4 := s3.trans st4
      refine l2 S4 H4 ok4 _ E (fun f y5 S5 H5 ok5 st5 lk => ?_) fun c y5 S5 H5 ok5 st5 f => e c y5 S5 H5 ok5 (s4.trans st5) f
      have s5 := s4.trans st5
      cases f with
      | nx s => exact ⟨y5, S5, ok5, s5, lk⟩
      | ct s => exact ⟨y5, S5, ok5, s5, lk⟩
      | rt v => exact q _ y5 S5 H5 ok5 s5 lk
      | bk s =>
        show wSs X rest s E H5 (flQ (ends Q))
        rw [flQ_ends]
        exact (show Lift K (wSs X rest s) y5 Φ Ψ from lk) S5 H5 ok5 Q E (fun r y6 S6 H6 o6 t6 g => q r y6 S6 H6 o6 (s5.trans t6) g) fun c y6 S6 H6 o6 t6 g => e c y6 S6 H6 o6 (s5.trans t6) g
    obtain ⟨S3, ok3, st3⟩ := hY i H' x H2 d y' S' hd st'.sub ok' yy
    exact go S3 H2 ok3 st3
  · rintro σ' H' ⟨y', S', ok', st', iv⟩
    show wSs X rest σ' E H' (flQ (ends Q))
    rw [flQ_ends]
    exact done σ' y' iv S' H' ok' Q E (fun r y6 S6 H6 o6 t6 g => q r y6 S6 H6 o6 (st'.trans t6) g) fun c y6 S6 H6 o6 t6 g => e c y6 S6 H6 o6 (st'.trans t6) g
theorem s_for {Φ : Fl → Sy → Prop} {tg iter : Expr} {body : List Stmt} (C : Cn P w K mg base k N sc vb lb gs X) (hs : ∀ x, foldedSetIterable iter X.env x = pure x)
    (h : Lift K (wI X tg iter σ) y (fun J y1 => ∃ es, Sr K J y1 es ∧ ∃ Iv : Nat → L2.St → Sy → Prop, Iv 0 σ y1 ∧
      (∀ i d σ' y' x, es[i]? = some d → Iv i σ' y' → Lift K (wG X tg x σ') ⟨(x, d) :: y'.F, y'.O⟩ (fun σ2 y2 => Lift K (wSs X body σ2) y2 (loopK X K (Iv (i + 1)) rest Φ Ψ) Ψ) Ψ) ∧
      (∀ σ' y', Iv es.length σ' y' → Lift K (wSs X rest σ') y' Φ Ψ)) Ψ) : Lift K (wSs X (.For tg iter body [] pos :: rest) σ) y Φ Ψ := by
  refine ss_of (fun E tk => pss_cons (ps_for C.pw C.calm (pi_w tk) (pg_w tk) (pss_w tk) hs) (pss_w tk)) ?_
  refine Lift.bind (T1 := wI X tg iter σ) (T2 := fun J E H Q => ∃ W : Nat → Nat → L2.St → Hp → Prop, (∃ m, W 0 m σ H) ∧ ∀ i m σ H, W i m σ H →
    (J.stop i H ∧ wSs X rest σ E H (flQ (ends Q))) ∨ (J.go i H ∧ ∃ N : L2.St → Hp → Prop, (∀ σ' H', N σ' H' → ∃ m', m' < m ∧ W (i + 1) m' σ' H') ∧ ∀ x H', J.yld i H x H' → wG X tg x σ E H' fun σ2 H2 => wSs X body σ2 E H2 (flQ { nx := N, ct := N, bk := fun σ H => wSs X rest σ E H (flQ (ends Q)), rt := fun v H => Q (.rt v) H })))
    (fun _ _ _ q => q) (h.mono (fun J y1 ⟨es, sr, Iv, i0, turn, done⟩ => ?_) fun _ _ q => q)
  intro S1 H1 ok1 Q E q e
  obtain ⟨G, Y, wk⟩ := sr.walks ok1
  exact for_core ok1 wk Iv i0 turn done q e
theorem s_while {Φ : Fl → Sy → Prop} {c : Expr} {body : List Stmt} (C : Cn P w K mg base k N sc vb lb gs X) (Iv : Nat → L2.St → Sy → Prop) (m0 : Nat) (i0 : Iv m0 σ y)
    (turn : ∀ m σ' y', Iv m σ' y' → Lift K (wT X c σ') y' (fun b y2 => (b = true → Lift K (wSs X body σ') y2 (loopK X K (fun s y3 => ∃ m', m' < m ∧ Iv m' s y3) rest Φ Ψ) Ψ) ∧ (b = false → Lift K (wSs X rest σ') y2 Φ Ψ)) Ψ) : Lift K (wSs X (.While c body [] pos :: rest) σ) y Φ Ψ := by
  refine ss_of (fun E tk => pss_cons (ps_while C.pw (pt_w tk) (pss_w tk)) (pss_w tk)) ?_
  intro S1 H1 ok1 Q E q e
  refine ⟨fun m σ' H' => ∃ y' S', OkS K y' S' H' ∧ Stp y.O S1 H1 y'.O S' H' ∧ Iv m σ' y', ⟨m0, y, S1, ok1, Stp.refl _ _ _, i0⟩, ?_⟩
  rintro m σ' H' ⟨y', S', ok', st', iv⟩
  refine turn m σ' y' iv S' H' ok' _ E (fun b y2 S2 H2 ok2 st2 ⟨f1, f2⟩ => ?_) fun c y6 S6 H6 o6 t6 g => e c y6 S6 H6 o6 (st'.trans t6) g
  have s2 := st'.trans st2
  cases b with
  | true =>
    refine iteT ⟨fun s H3 => ∃ m', m' < m ∧ ∃ y' S', OkS K y' S' H3 ∧ Stp y.O S1 H1 y'.O S' H3 ∧ Iv m' s y', fun _ _ z => z, ?_⟩
    refine f1 rfl S2 H2 ok2 _ E (fun f y5 S5 H5 ok5 st5 lk => ?_) fun c y6 S6 H6 o6 t6 g => e c y6 S6 H6 o6 (s2.trans t6) g
    have s5 := s2.trans st5
    cases f with
    | nx s =>
      obtain ⟨m', hm, iv'⟩ := lk
      exact ⟨m', hm, y5, S5, ok5, s5, iv'⟩
    | ct s =>
      obtain ⟨m', hm, iv'⟩ := lk
      exact ⟨m', hm, y5, S5, ok5, s5, iv'⟩
    | rt v => exact q _ y5 S5 H5 ok5 s5 lk
    | bk s =>
      show wSs X rest s E H5 (flQ (ends Q))
      rw [flQ_ends]
      exact (show Lift K (wSs X rest s) y5 Φ Ψ from lk) S5 H5 ok5 Q E (fun r y6 S6 H6 o6 t6 g => q r y6 S6 H6 o6 (s5.trans t6) g) fun c y6 S6 H6 o6 t6 g => e c y6 S6 H6 o6 (s5.trans t6) g
  | false =>
    refine iteF ?_
    show wSs X rest σ' E H2 (flQ (ends Q))
    rw [flQ_ends]
    exact f2 rfl S2 H2 ok2 Q E (fun r y6 S6 H6 o6 t6 g => q r y6 S6 H6 o6 (s2.trans t6) g) fun c y6 S6 H6 o6 t6 g => e c y6 S6 H6 o6 (s2.trans t6) g

/-! ### comprehensions -/
def F0 : Value → Sy → Prop := fun _ _ => False
theorem ts_nil {Φ : Bool → Sy → Prop} (h : Φ true y) : Lift K (wTs X [] σ) y Φ Ψ := by
  refine Lift.to (T := fun _ H Q => tYes σ H Q) (Lift.ret (r := true) (fun _ _ _ q => q) h) fun E H Q q tk pins s I => (pts_nil (X := X)).run pins s σ H Q I q
theorem ts_one {Φ : Bool → Sy → Prop} {c : Expr} (h : Lift K (wT X c σ) y Φ Ψ) : Lift K (wTs X [c] σ) y Φ Ψ :=
  h.to fun E H Q q tk pins s I => (pts_one (pt_w tk)).run pins s σ H Q I q
/-- the reading of a comprehension -/
def rLc (X : Cx) (tg iter elt : Expr) (ifs : List Expr) (scope : Scope) (vs : List Nat) (σ : L2.St) : TL V := fun E H Q => wI X tg iter σ E H fun J H1 => ∀ D, H1 D = none → ∃ W : Nat → Nat → Hp → Prop, (∃ m, W 0 m (upd H1 D (.lst []))) ∧ ∀ i m H, W i m H →
      (J.stop i H ∧ Q (.ref D) H) ∨ (J.go i H ∧ ∃ Nx : Hp → Prop, (∀ H', Nx H' → ∃ m', m' < m ∧ W (i + 1) m' H') ∧ ∀ x H', J.yld i H x H' →
        (∀ (s : Shared) (H0 : Hp) (C : Addr) (cl : List (Str × Addr)) (fp : List Addr), wG (X.blk s H0 scope (compEnvC scope cl C X.env) fp) tg x (wipe σ vs) E0 H' fun σ2 H2 => wipe σ2 vs = wipe σ vs ∧
          (∀ (s : Shared) (H0 : Hp) (C : Addr) (cl : List (Str × Addr)) (fp : List Addr), wTs (X.blk s H0 scope (compEnvC scope cl C X.env) fp) ifs σ2 E0 H2 fun b H3 =>
            if b = true then (∀ (s : Shared) (H0 : Hp) (C : Addr) (cl : List (Str × Addr)) (fp : List Addr), wE (X.blk s H0 scope (compEnvC scope cl C X.env) fp) elt σ2 E0 H3 fun u H4 => ∃ acc, H4 D = some (.lst acc) ∧ acc.length < sizeLine ∧ Nx (upd H4 D (.lst (acc ++ [u])))) else Nx H3)))
/-- the turns of a comprehension -/
theorem lc_core {Φ : V → Sy → Prop} {tg elt : Expr} {ifs : List Expr} {scope : Scope} {vs : List Nat} {J : It} {es : List Dt} {y1 : Sy} {S1 H1 : Hp} {G : Hp → Prop} {Y : Nat → Hp → V → Hp → Prop} (ok1 : OkS K y1 S1 H1) (wk : SrW K J S1 es G Y) (hz : es.length ≤ 1000000) (Iv : Nat → List Dt → Sy → Prop) (i0 : Iv 0 [] y1)
    (turn : ∀ i d acc y' x, es[i]? = some d → Iv i acc y' → ∀ (s : Shared) (H0 : Hp) (C : Addr) (cl : List (Str × Addr)) (fp : List Addr), Lift K (wG (X.blk s H0 scope (compEnvC scope cl C X.env) fp) tg x (wipe σ vs)) ⟨(x, d) :: y'.F, y'.O⟩ (fun σ2 y2 => wipe σ2 vs = wipe σ vs ∧
        ∀ (s : Shared) (H0 : Hp) (C : Addr) (cl : List (Str × Addr)) (fp : List Addr), Lift K (wTs (X.blk s H0 scope (compEnvC scope cl C X.env) fp) ifs σ2) y2 (fun b y3 =>
          (b = true → ∀ (s : Shared) (H0 : Hp) (C : Addr) (cl : List (Str × Addr)) (fp : List Addr), Lift K (wE (X.blk s H0 scope (compEnvC scope cl C X.env) fp) elt σ2) y3 (fun v y4 => ∃ u, Hs y4.F v u ∧ Iv (i + 1) (acc ++ [u]) y4) F0) ∧ (b = false → Iv (i + 1) acc y3)) F0) F0)
    (done : ∀ acc y', acc.length ≤ es.length → Iv es.length acc y' → ∀ p, Φ (.ref p) ⟨y'.F, (p, .lst acc) :: y'.O⟩) {Q : V → Hp → Prop} (q : ∀ r y' S' H', OkS K y' S' H' → Stp y1.O S1 H1 y'.O S' H' → Φ r y' → Q r H') {D : Addr} (hD : H1 D = none) :
    ∃ W : Nat → Nat → Hp → Prop, (∃ m, W 0 m (upd H1 D (.lst []))) ∧ ∀ i m H, W i m H →
      (J.stop i H ∧ Q (.ref D) H) ∨ (J.go i H ∧ ∃ Nx : Hp → Prop, (∀ H', Nx H' → ∃ m', m' < m ∧ W (i + 1) m' H') ∧ ∀ x H', J.yld i H x H' →
        (∀ (s : Shared) (H0 : Hp) (C : Addr) (cl : List (Str × Addr)) (fp : List Addr), wG (X.blk s H0 scope (compEnvC scope cl C X.env) fp) tg x (wipe σ vs) E0 H' fun σ2 H2 => wipe σ2 vs = wipe σ vs ∧
          (∀ (s : Shared) (H0 : Hp) (C : Addr) (cl : List (Str × Addr)) (fp : List Addr), wTs (X.blk s H0 scope (compEnvC scope cl C X.env) fp) ifs σ2 E0 H2 fun b H3 =>
            if b = true then (∀ (s : Shared) (H0 : Hp) (C : Addr) (cl : List (Str × Addr)) (fp : List Addr), wE (X.blk s H0 scope (compEnvC scope cl C X.env) fp) elt σ2 E0 H3 fun u H4 => ∃ acc, H4 D = some (.lst acc) ∧ acc.length < sizeLine ∧ Nx (upd H4 D (.lst (acc ++ [u])))) else Nx H3))) := by
  obtain ⟨wk, hG, hY⟩ := wk
  obtain ⟨okD, stD⟩ := ok1.newO (u := .lst []) (o := .lst []) hD ⟨[], rfl, .nil⟩
  refine ⟨fun i m H' => m = es.length - i ∧ i ≤ es.length ∧ ∃ acc y' S', acc.length ≤ i ∧ OkS K ⟨y'.F, (D, .lst acc) :: y'.O⟩ S' H' ∧ Stp y1.O S1 H1 ((D, .lst acc) :: y'.O) S' H' ∧ Iv i acc y', ⟨es.length, by simp, Nat.zero_le _, [], y1, S1, Nat.zero_le _, okD, stD, i0⟩, ?_⟩
  rintro i m H' ⟨rfl, hi, acc, y', S', hl, ok', st', iv⟩
  have hGi : G H' := hG _ _ st'.sub ok'.sub
  by_cases hlt : i < es.length
  · refine .inr ⟨wk.goes i H' hlt hGi, fun H'' => ∃ acc y' S', acc.length ≤ i + 1 ∧ OkS K ⟨y'.F, (D, .lst acc) :: y'.O⟩ S' H'' ∧ Stp y1.O S1 H1 ((D, .lst acc) :: y'.O) S' H'' ∧ Iv (i + 1) acc y', fun H'' z => ⟨es.length - (i + 1), by omega, rfl, hlt, z⟩, fun x H2 yl => ?_⟩
    obtain ⟨d, hd⟩ : ∃ d, es[i]? = some d := ⟨_, List.getElem?_eq_getElem hlt⟩
    obtain ⟨sD, oD, hoD, xs, rfl, rD⟩ := ok'.own D _ (List.Mem.head _)
    have ndD : D ∉ dom y'.O ∧ (dom y'.O).Nodup := List.nodup_cons.mp ok'.nd
    -- the state without D
    have okB : OkS K y' S' H' := ⟨ok'.sub, ok'.fac, fun p u m => ok'.own p u (List.mem_cons_of_mem _ m), ndD.2⟩
    have go : ∀ S3 H3, OkS K ⟨(x, d) :: y'.F, y'.O⟩ S3 H3 → Stp y'.O S' H' y'.O S3 H3 → ∀ (s : Shared) (H0 : Hp) (C : Addr) (cl : List (Str × Addr)) (fp : List Addr), wG (X.blk s H0 scope (compEnvC scope cl C X.env) fp) tg x (wipe σ vs) E0 H3 fun σ2 H2 => wipe σ2 vs = wipe σ vs ∧
          (∀ (s : Shared) (H0 : Hp) (C : Addr) (cl : List (Str × Addr)) (fp : List Addr), wTs (X.blk s H0 scope (compEnvC scope cl C X.env) fp) ifs σ2 E0 H2 fun b H3 =>
            if b = true then (∀ (s : Shared) (H0 : Hp) (C : Addr) (cl : List (Str × Addr)) (fp : List Addr), wE (X.blk s H0 scope (compEnvC scope cl C X.env) fp) elt σ2 E0 H3 fun u H4 => ∃ acc, H4 D = some (.lst acc) ∧ acc.length < sizeLine ∧ ∃ acc' y' S', acc'.length ≤ i + 1 ∧ OkS K ⟨y'.F, (D, .lst acc') :: y'.O⟩ S' (upd H4 D (.lst (acc ++ [u]))) ∧ Stp y1.O S1 H1 ((D, .lst acc') :: y'.O) S' (upd H4 D (.lst (acc ++ [u]))) ∧ Iv (i + 1) acc' y')
            else ∃ acc' y' S', acc'.length ≤ i + 1 ∧ OkS K ⟨y'.F, (D, .lst acc') :: y'.O⟩ S' H3 ∧ Stp y1.O S1 H1 ((D, .lst acc') :: y'.O) S' H3 ∧ Iv (i + 1) acc' y') := by
      intro S3 H3 ok3 st3 s0 H0 C0 cl0 fp0
      -- from a state behind the turn's beginning: D stands beside
      have back : ∀ y4 S4 H4, OkS K y4 S4 H4 → Stp y'.O S' H' y4.O S4 H4 → H4 D = some (.lst xs) ∧ S4 D = none ∧ D ∉ dom y4.O := by
        intro y4 S4 H4 ok4 st4
        refine ⟨st4.keep D _ hoD ndD.1, ?_, fun m => ?_⟩
        · cases e4 : S4 D with
          | none => rfl
          | some u =>
            rcases st4.newS D u e4 with ⟨u', q4⟩ | q4 | q4 | ⟨_, q4⟩
            · rw [sD rfl] at q4
              cases q4
            · exact (ndD.1 q4).elim
            · rw [hoD] at q4
              cases q4
            · rw [hoD] at q4
              cases q4
        · rcases st4.newO D m with q4 | q4
          · exact ndD.1 q4
          · rw [hoD] at q4
            cases q4
      have put : ∀ y4 S4 H4 (acc' : List Dt) (xs' : List V), OkS K y4 S4 H4 → Stp y'.O S' H' y4.O S4 H4 → RpA K S4 xs' acc' →
          OkS K ⟨y4.F, (D, .lst acc') :: y4.O⟩ S4 (upd H4 D (.lst xs')) ∧ Stp y1.O S1 H1 ((D, .lst acc') :: y4.O) S4 (upd H4 D (.lst xs')) := by
        intro y4 S4 H4 acc' xs' ok4 st4 r4
        obtain ⟨b1, b2, b3⟩ := back y4 S4 H4 ok4 st4
        have okA : OkS K ⟨y4.F, (D, .raw (.lst xs)) :: y4.O⟩ S4 H4 := ⟨ok4.sub, ok4.fac, fun p u m => by
          rcases List.mem_cons.mp m with e1 | m
          · cases e1
            exact ⟨fun _ => b2, _, b1, rfl⟩
          · exact ok4.own p u m, List.nodup_cons.mpr ⟨b3, ok4.nd⟩⟩
        obtain ⟨okC, stC⟩ := okA.set (u2 := .lst acc') (o2 := .lst xs') ⟨xs', rfl, r4⟩
        refine ⟨okC, st'.trans ?_⟩
        have stA : Stp ((D, OD.lst acc) :: y'.O) S' H' ((D, .raw (.lst xs)) :: y4.O) S4 H4 := by
          refine ⟨fun a o h n => st4.keep a o h fun m => n (List.mem_cons_of_mem _ m), st4.live, st4.sub, fun a o h => ?_, fun p m => ?_⟩
          · rcases st4.newS a o h with z | z | z
            · exact .inl z
            · exact .inr (.inl (List.mem_cons_of_mem _ z))
            · exact .inr (.inr z)
          · rcases List.mem_cons.mp m with z | m
            · rw [z]
              exact .inl (List.mem_cons_self ..)
            · rcases st4.newO p m with z | z
              · exact .inl (List.mem_cons_of_mem _ z)
              · exact .inr z
        exact stA.trans stC
      have keepD : ∀ H4 : Hp, H4 D = some (.lst xs) → upd H4 D (.lst xs) = H4 := fun H4 h4 => by
        funext a
        by_cases ha : a = D
        · rw [ha, upd_same, h4]
        · rw [upd_ne ha]
      have hxs : xs.length < sizeLine := by
        rw [rD.length]
        have : sizeLine = 16777216 := sizeLine_eq
        omega
      refine turn i d acc y' x hd iv s0 H0 C0 cl0 fp0 S3 H3 ok3 _ E0 (fun σ2 y2 S4 H4 ok4 st4 ⟨hw, l2⟩ => ⟨hw, fun s1' H01 C1 cl1 fp1 => ?_⟩) fun _ _ _ _ _ _ f => f
      have s4 := st3.trans st4
      refine l2 s1' H01 C1 cl1 fp1 S4 H4 ok4 _ E0 (fun b y5 S5 H5 ok5 st5 ⟨f1, f2⟩ => ?_) fun _ _ _ _ _ _ f => f
      have s5 := s4.trans st5
      cases b with
      | true =>
        refine iteT fun s2' H02 C2 cl2 fp2 => ?_
        refine f1 rfl s2' H02 C2 cl2 fp2 S5 H5 ok5 _ E0 (fun v y6 S6 H6 ok6 st6 ⟨u, hu, iv6⟩ => ?_) fun _ _ _ _ _ _ f => f
        have s6 := s5.trans st6
        obtain ⟨c1, c2⟩ := put y6 S6 H6 (acc ++ [u]) (xs ++ [v]) ok6 s6 ((rD.mono s6.sub).append (.cons (hu.rp ok6) .nil))
        exact ⟨xs, (back y6 S6 H6 ok6 s6).1, hxs, acc ++ [u], y6, S6, by rw [List.length_append]; show acc.length + 1 ≤ i + 1; omega, c1, c2, iv6⟩
      | false =>
        refine iteF ?_
        obtain ⟨c1, c2⟩ := put y5 S5 H5 acc xs ok5 s5 (rD.mono s5.sub)
        rw [keepD H5 (back y5 S5 H5 ok5 s5).1] at c1 c2
        exact ⟨acc, y5, S5, by omega, c1, c2, f2 rfl⟩
    obtain ⟨S3, ok3, st3⟩ := hY i H' x H2 d y' S' hd st'.sub okB (wk.yields i H' x H2 hlt hGi yl)
    exact go S3 H2 ok3 st3
  · have ei : i = es.length := by omega
    subst ei
    exact .inl ⟨wk.stops H' hGi, q _ _ S' H' ok' st' (done acc y' hl iv D)⟩
theorem lc_raw {Φ : V → Sy → Prop} {tg iter elt : Expr} {ifs : List Expr} {scope : Scope} {vs : List Nat}
    (h : Lift K (wI X tg iter σ) y (fun J y1 => ∃ es, Sr K J y1 es ∧ es.length ≤ 1000000 ∧ ∃ Iv : Nat → List Dt → Sy → Prop, Iv 0 [] y1 ∧
      (∀ i d acc y' x, es[i]? = some d → Iv i acc y' → ∀ (s : Shared) (H0 : Hp) (C : Addr) (cl : List (Str × Addr)) (fp : List Addr), Lift K (wG (X.blk s H0 scope (compEnvC scope cl C X.env) fp) tg x (wipe σ vs)) ⟨(x, d) :: y'.F, y'.O⟩ (fun σ2 y2 => wipe σ2 vs = wipe σ vs ∧
        ∀ (s : Shared) (H0 : Hp) (C : Addr) (cl : List (Str × Addr)) (fp : List Addr), Lift K (wTs (X.blk s H0 scope (compEnvC scope cl C X.env) fp) ifs σ2) y2 (fun b y3 =>
          (b = true → ∀ (s : Shared) (H0 : Hp) (C : Addr) (cl : List (Str × Addr)) (fp : List Addr), Lift K (wE (X.blk s H0 scope (compEnvC scope cl C X.env) fp) elt σ2) y3 (fun v y4 => ∃ u, Hs y4.F v u ∧ Iv (i + 1) (acc ++ [u]) y4) F0) ∧ (b = false → Iv (i + 1) acc y3)) F0) F0) ∧
      (∀ acc y', acc.length ≤ es.length → Iv es.length acc y' → ∀ p, Φ (.ref p) ⟨y'.F, (p, .lst acc) :: y'.O⟩)) Ψ) : Lift K (rLc X tg iter elt ifs scope vs σ) y Φ Ψ := by
  refine Lift.bind (T1 := wI X tg iter σ) (T2 := fun J E H Q => ∀ D, H D = none → ∃ W : Nat → Nat → Hp → Prop, (∃ m, W 0 m (upd H D (.lst []))) ∧ ∀ i m H, W i m H →
      (J.stop i H ∧ Q (.ref D) H) ∨ (J.go i H ∧ ∃ Nx : Hp → Prop, (∀ H', Nx H' → ∃ m', m' < m ∧ W (i + 1) m' H') ∧ ∀ x H', J.yld i H x H' →
        (∀ (s : Shared) (H0 : Hp) (C : Addr) (cl : List (Str × Addr)) (fp : List Addr), wG (X.blk s H0 scope (compEnvC scope cl C X.env) fp) tg x (wipe σ vs) E0 H' fun σ2 H2 => wipe σ2 vs = wipe σ vs ∧
          (∀ (s : Shared) (H0 : Hp) (C : Addr) (cl : List (Str × Addr)) (fp : List Addr), wTs (X.blk s H0 scope (compEnvC scope cl C X.env) fp) ifs σ2 E0 H2 fun b H3 =>
            if b = true then (∀ (s : Shared) (H0 : Hp) (C : Addr) (cl : List (Str × Addr)) (fp : List Addr), wE (X.blk s H0 scope (compEnvC scope cl C X.env) fp) elt σ2 E0 H3 fun u H4 => ∃ acc, H4 D = some (.lst acc) ∧ acc.length < sizeLine ∧ Nx (upd H4 D (.lst (acc ++ [u])))) else Nx H3))))
    (fun _ _ _ q => q) (h.mono (fun J y1 ⟨es, sr, hz, Iv, i0, turn, done⟩ => ?_) fun _ _ q => q)
  intro S1 H1 ok1 Q E q e D hD
  obtain ⟨G, Y, wk⟩ := sr.walks ok1
  exact lc_core ok1 wk hz Iv i0 turn done q hD
end
end Yl

namespace Yl
open PySem PySem.Spec PyProof.Rows L2

section
variable {P : Program} {w : World} {K : PySem.W.Frag} {mg : Str → Option Value} {base : Heap} {k : Nat} {N : List Str} {sc : Scope} {vb lb : List Bool} {gs : List Str} {X : Cx} {y : Sy} {σ : L2.St} {Ψ : Value → Sy → Prop} {pos : Pos} {rest : List Stmt}

/-- fewer facts behind -/
theorem Lift.weak {α : Type} {T : TL α} {Φ : α → Sy → Prop} (h : Lift K T y (fun r z => ∃ F2, (∀ e, e ∈ F2 → e ∈ z.F) ∧ Φ r ⟨F2, z.O⟩) Ψ) : Lift K T y Φ Ψ := by
  intro S H ok Q E q e
  refine h S H ok Q E (fun r y' S' H' ok' st' ⟨F2, hF, f⟩ => ?_) e
  exact q r ⟨F2, y'.O⟩ S' H' ⟨ok'.sub, fun v d m => ok'.fac v d (hF _ m), ok'.own, ok'.nd⟩ st' f
/-- from a function: the state behind in a chosen form -/
theorem Lift.use {α : Type} {T : TL α} {Φ Φ' : α → Sy → Prop} {Ψ' : Value → Sy → Prop} (h : Lift K T y Φ' Ψ') (f : ∀ r z, Φ' r z → Φ r z) (g : ∀ c z, Ψ' c z → Ψ c z) : Lift K T y Φ Ψ := h.mono f g

/-! ### comprehensions -/
theorem tk0 {X : Cx} : Tk X E0 := takes0
theorem wE_lc {tg iter elt : Expr} {ifs : List Expr} {scope : Scope} {own : List (Str × Nat)} (C : Cn P w K mg base k N sc vb lb gs X) (ok : BlkOk N sc scope own) (hs : ∀ x, foldedSetIterable iter X.env x = pure x) (E : XK) (H : Hp) (Q : VK)
    (q : rLc X tg iter elt ifs scope (own.map (·.2)) σ E H Q) : wE X (.ListComp elt [⟨tg, iter, ifs, 0⟩] scope pos) σ E H Q := by
  intro tk pins s I
  have okX : BlkOk X.N X.env.scope scope own := by
    rw [C.hN, C.hsc]
    exact ok
  refine (pe_lc (own := own) (wi := fun σ H Q => wI X tg iter σ E H Q)
    (g := fun v σ H Q => ∀ (s : Shared) (H0 : Hp) (C : Addr) (cl : List (Str × Addr)) (fp : List Addr), wG (X.blk s H0 scope (compEnvC scope cl C X.env) fp) tg v σ E0 H Q)
    (tt := fun σ H Q => ∀ (s : Shared) (H0 : Hp) (C : Addr) (cl : List (Str × Addr)) (fp : List Addr), wTs (X.blk s H0 scope (compEnvC scope cl C X.env) fp) ifs σ E0 H Q)
    (te := fun σ H Q => ∀ (s : Shared) (H0 : Hp) (C : Addr) (cl : List (Str × Addr)) (fp : List Addr), wE (X.blk s H0 scope (compEnvC scope cl C X.env) fp) elt σ E0 H Q)
    C.calm C.nd (pi_w tk) okX (fun s0 H0 C0 cl fp => ⟨fun pins s σ H v u Q I r h => h s0 H0 C0 cl fp tk0 pins s u I r⟩) (fun s0 H0 C0 cl fp => ⟨fun pins s σ H Q I h => h s0 H0 C0 cl fp tk0 pins s I⟩)
    (fun s0 H0 C0 cl fp => ⟨fun pins s σ H Q I h => h s0 H0 C0 cl fp tk0 pins s I⟩) hs).run pins s σ H Q I q
theorem wS_lc {i : Nat} {x : Str} {tg iter elt : Expr} {ifs : List Expr} {scope : Scope} {own : List (Str × Nat)} {py spos : Pos} (C : Cn P w K mg base k N sc vb lb gs X) (h1 : N[i]? = some x) (hyl : sc.names.lookup x = some .local) (ok : BlkOk N sc scope own) (hs : ∀ x, foldedSetIterable iter X.env x = pure x)
    (hl : (py.line == pos.line) = true) (hn : (scope.names.any fun (n, k) => n == x && (k == .local || k == .cell)) = false) (E : XK) (H : Hp) (Q : Fl → Hp → Prop)
    (q : rLc X tg iter elt ifs scope (own.map (·.2)) σ E H fun v H1 => Q (.nx (σ.set i (some v))) H1) : wS X (.Assign [.Name x py] (.ListComp elt [⟨tg, iter, ifs, 0⟩] scope pos) spos) σ E H Q := by
  intro tk pins s I
  have okX : BlkOk X.N X.env.scope scope own := by
    rw [C.hN, C.hsc]
    exact ok
  have hy : X.env.scope.names.lookup x = some .local := by
    rw [C.hsc]
    exact hyl
  refine (ps_setLc (i := i) (own := own) (wi := fun σ H Q => wI X tg iter σ E H Q)
    (g := fun v σ H Q => ∀ (s : Shared) (H0 : Hp) (C : Addr) (cl : List (Str × Addr)) (fp : List Addr), wG (X.blk s H0 scope (compEnvC scope cl C X.env) fp) tg v σ E0 H Q)
    (tt := fun σ H Q => ∀ (s : Shared) (H0 : Hp) (C : Addr) (cl : List (Str × Addr)) (fp : List Addr), wTs (X.blk s H0 scope (compEnvC scope cl C X.env) fp) ifs σ E0 H Q)
    (te := fun σ H Q => ∀ (s : Shared) (H0 : Hp) (C : Addr) (cl : List (Str × Addr)) (fp : List Addr), wE (X.blk s H0 scope (compEnvC scope cl C X.env) fp) elt σ E0 H Q)
    C.calm C.nd (by rw [C.hN]; exact h1) hy (sw_true (by first | exact I.ok.kind | rfl) hy hl hn) (pi_w tk) okX (fun s0 H0 C0 cl fp => ⟨fun pins s σ H v u Q I r h => h s0 H0 C0 cl fp tk0 pins s u I r⟩) (fun s0 H0 C0 cl fp => ⟨fun pins s σ H Q I h => h s0 H0 C0 cl fp tk0 pins s I⟩)
    (fun s0 H0 C0 cl fp => ⟨fun pins s σ H Q I h => h s0 H0 C0 cl fp tk0 pins s I⟩) hs).run pins s σ H (ends Q) I q
/-- [elt for tg in iter if ..] -/
theorem l_lc {Φ : V → Sy → Prop} {tg iter elt : Expr} {ifs : List Expr} {scope : Scope} {own : List (Str × Nat)} {vb' lb' : List Bool} {gs' : List Str} (C : Cn P w K mg base k N sc vb lb gs X) (ok : blkC N sc scope own = true) (ck : chkB (relS scope sc) N vb' lb' gs' = true) (hs : ∀ x, foldedSetIterable iter X.env x = pure x)
    (h : Lift K (wI X tg iter σ) y (fun J y1 => ∃ es, Sr K J y1 es ∧ es.length ≤ 1000000 ∧ ∃ Iv : Nat → List Dt → Sy → Prop, Iv 0 [] y1 ∧
      (∀ i d acc y' x, es[i]? = some d → Iv i acc y' → ∀ X1, Cn P w K mg base k N (relS scope sc) vb' lb' gs' X1 → Lift K (wG X1 tg x (wipe σ (own.map (·.2)))) ⟨(x, d) :: y'.F, y'.O⟩ (fun σ2 y2 => wipe σ2 (own.map (·.2)) = wipe σ (own.map (·.2)) ∧
        ∀ X2, Cn P w K mg base k N (relS scope sc) vb' lb' gs' X2 → Lift K (wTs X2 ifs σ2) y2 (fun b y3 =>
          (b = true → ∀ X3, Cn P w K mg base k N (relS scope sc) vb' lb' gs' X3 → Lift K (wE X3 elt σ2) y3 (fun v y4 => ∃ u, Hs y4.F v u ∧ Iv (i + 1) (acc ++ [u]) y4) F0) ∧ (b = false → Iv (i + 1) acc y3)) F0) F0) ∧
      (∀ acc y', acc.length ≤ es.length → Iv es.length acc y' → ∀ p, Φ (.ref p) ⟨y'.F, (p, .lst acc) :: y'.O⟩)) Ψ) : Lift K (wE X (.ListComp elt [⟨tg, iter, ifs, 0⟩] scope pos) σ) y Φ Ψ := by
  refine Lift.to (lc_raw (vs := own.map (·.2)) (h.mono (fun J y1 ⟨es, sr, hz, Iv, i0, turn, done⟩ => ⟨es, sr, hz, Iv, i0, fun i d acc y' x hd iv s H0 C0 cl fp => ?_, done⟩) fun _ _ q => q)) (wE_lc C (blkOk_by ok) hs)
  refine (turn i d acc y' x hd iv _ (C.blk ck s H0 C0 cl fp)).mono (fun σ2 y2 ⟨hw, f⟩ => ⟨hw, fun s1 H1 C1 cl1 fp1 => ?_⟩) fun _ _ q => q
  refine (f _ (C.blk ck s1 H1 C1 cl1 fp1)).mono (fun b y3 ⟨f1, f2⟩ => ⟨fun hb s2 H2 C2 cl2 fp2 => f1 hb _ (C.blk ck s2 H2 C2 cl2 fp2), f2⟩) fun _ _ q => q
/-- name = [elt for ..] -/
theorem s_lci {Φ : Fl → Sy → Prop} {x : Str} {tg iter elt : Expr} {ifs : List Expr} {scope : Scope} {own : List (Str × Nat)} {vb' lb' : List Bool} {gs' : List Str} {py spos : Pos} (i : Nat) (C : Cn P w K mg base k N sc vb lb gs X) (h1 : N[i]? = some x) (hyl : locL sc x = true) (ok : blkC N sc scope own = true) (ck : chkB (relS scope sc) N vb' lb' gs' = true)
    (hl : (py.line == pos.line) = true) (hn : (scope.names.any fun (n, k) => n == x && (k == .local || k == .cell)) = false) (hs : ∀ x, foldedSetIterable iter X.env x = pure x)
    (h : Lift K (wI X tg iter σ) y (fun J y1 => ∃ es, Sr K J y1 es ∧ es.length ≤ 1000000 ∧ ∃ Iv : Nat → List Dt → Sy → Prop, Iv 0 [] y1 ∧
      (∀ i d acc y' x, es[i]? = some d → Iv i acc y' → ∀ X1, Cn P w K mg base k N (relS scope sc) vb' lb' gs' X1 → Lift K (wG X1 tg x (wipe σ (own.map (·.2)))) ⟨(x, d) :: y'.F, y'.O⟩ (fun σ2 y2 => wipe σ2 (own.map (·.2)) = wipe σ (own.map (·.2)) ∧
        ∀ X2, Cn P w K mg base k N (relS scope sc) vb' lb' gs' X2 → Lift K (wTs X2 ifs σ2) y2 (fun b y3 =>
          (b = true → ∀ X3, Cn P w K mg base k N (relS scope sc) vb' lb' gs' X3 → Lift K (wE X3 elt σ2) y3 (fun v y4 => ∃ u, Hs y4.F v u ∧ Iv (i + 1) (acc ++ [u]) y4) F0) ∧ (b = false → Iv (i + 1) acc y3)) F0) F0) ∧
      (∀ acc y', acc.length ≤ es.length → Iv es.length acc y' → ∀ p, Lift K (wSs X rest (σ.set i (some (.ref p)))) ⟨y'.F, (p, .lst acc) :: y'.O⟩ Φ Ψ)) Ψ) :
    Lift K (wSs X (.Assign [.Name x py] (.ListComp elt [⟨tg, iter, ifs, 0⟩] scope pos) spos :: rest) σ) y Φ Ψ := by
  refine s_cons (Lift.to ?_ (wS_lc (own := own) C h1 (locL_loc hyl) (blkOk_by ok) hs hl hn))
  refine Lift.bind (T1 := rLc X tg iter elt ifs scope (own.map (·.2)) σ) (T2 := fun v _ H Q => Q (Fl.nx (σ.set i (some v))) H) (fun _ _ _ q => q) (lc_raw (vs := own.map (·.2)) (h.mono (fun J y1 ⟨es, sr, hz, Iv, i0, turn, done⟩ => ⟨es, sr, hz, Iv, i0, fun i d acc y' x hd iv s H0 C0 cl fp => ?_, fun acc y' h1 h2 p => Lift.ret (r := Fl.nx _) (fun _ _ _ q => q) (done acc y' h1 h2 p)⟩) fun _ _ q => q))
  refine (turn i d acc y' x hd iv _ (C.blk ck s H0 C0 cl fp)).mono (fun σ2 y2 ⟨hw, f⟩ => ⟨hw, fun s1 H1 C1 cl1 fp1 => ?_⟩) fun _ _ q => q
  refine (f _ (C.blk ck s1 H1 C1 cl1 fp1)).mono (fun b y3 ⟨f1, f2⟩ => ⟨fun hb s2 H2 C2 cl2 fp2 => f1 hb _ (C.blk ck s2 H2 C2 cl2 fp2), f2⟩) fun _ _ q => q

/-! ### built-in functions and methods by name -/
theorem l_callB {Φ : V → Sy → Prop} {x : Str} {p : Pos} {e : Expr} {es : List Expr} {id : String} (C : Cn P w K mg base k N sc vb lb gs X) (hg : x ∈ gs) (hm : mg x = none) (hv : bootBuiltins x = some (.builtin id)) (hn : x ≠ "__name__") (he : starEach (e :: es) X.env = (false, eval e X.env) :: starEach es X.env) (hpl : (backTo pos (starEach es X.env)).any (·.1) = false)
    (h : Lift K (wA X (e :: es) σ) y (fun vs y1 => Lift K (wC X (.builtin id) vs) y1 Φ Ψ) Ψ) : Lift K (wE X (.Call (.Name x p) (e :: es) [] pos) σ) y Φ Ψ :=
  l_of (fun E tk => pe_callB (call_w (E := E)) (C.gl x hg).1 (by rw [C.hm]; exact hm) hv (pa_w tk) hn (C.gl x hg).2 he hpl) (Lift.bind (T1 := wA X (e :: es) σ) (T2 := fun vs => wC X (.builtin id) vs) (fun _ _ _ q => q) h)
theorem l_callTy {Φ : V → Sy → Prop} {x : Str} {p : Pos} {e : Expr} {es : List Expr} {T : String} (C : Cn P w K mg base k N sc vb lb gs X) (hg : x ∈ gs) (hm : mg x = none) (hv : bootBuiltins x = some (.type T)) (hn : x ≠ "__name__") (he : starEach (e :: es) X.env = (false, eval e X.env) :: starEach es X.env) (hpl : (backTo pos (starEach es X.env)).any (·.1) = false)
    (h : Lift K (wA X (e :: es) σ) y (fun vs y1 => Lift K (wC X (.type T) vs) y1 Φ Ψ) Ψ) : Lift K (wE X (.Call (.Name x p) (e :: es) [] pos) σ) y Φ Ψ :=
  l_of (fun E tk => pe_callTy (call_w (E := E)) (C.gl x hg).1 (by rw [C.hm]; exact hm) hv (pa_w tk) hn (C.gl x hg).2 he hpl) (Lift.bind (T1 := wA X (e :: es) σ) (T2 := fun vs => wC X (.type T) vs) (fun _ _ _ q => q) h)
theorem tyL {S H : Hp} (hK : X.K = K) (ok : OkS K y S H) {v : V} {ds : List Dt} (h : Rb y v (.list ds)) : tyV X.K "list" v H := by
  obtain ⟨a, xs, rfl, ha, _⟩ := h.lst ok
  exact .inl ⟨rfl, xs, SqL.of ha⟩
/-- o.append(e) and its like -/
theorem l_methL {Φ : V → Sy → Prop} {o e : Expr} {name : Str} {id : String} {apos : Pos} (C : Cn P w K mg base k N sc vb lb gs X) (slot : Slot "list" name id) (hty : typeOf (.builtin id) = pure (.type "method_descriptor")) (hbase : attributeBase o name X.env (eval o X.env) = eval o X.env)
    (hfew : ((backTo pos (starEach (e :: []) X.env)).all (fun x => !x.1) && (backToKw pos (keywordEach [] X.env)).all (fun x => x.1.isSome) && decide ((e :: []).length + ([] : List Keyword).length + (if ([] : List Keyword).isEmpty then 0 else 1) < 30)) = true) (hline : (apos.endLine == pos.line) = true) (hst : starEach [e] X.env = (false, eval e X.env) :: starEach [] X.env)
    (h : Lift K (wE X o σ) y (fun v y1 => ∃ ds, Rb y1 v (.list ds) ∧ Lift K (wA X [e] σ) y1 (fun us y2 => Lift K (wM X id v us) y2 Φ Ψ) Ψ) Ψ) : Lift K (wE X (.Call (.Attribute o name apos) [e] [] pos) σ) y Φ Ψ := by
  refine l_of (fun E tk => pe_bm PySem.F.plainAttrs_list slot hty (mt_w (E := E)) (pe_w tk) (pa_w tk) hbase hfew hline hst) ?_
  refine Lift.bind (T1 := wE X o σ) (T2 := fun v E H Q => tyV X.K "list" v H ∧ wA X [e] σ E H fun us H2 => wM X id v us E H2 Q) (fun _ _ _ q => q) (h.mono (fun v z ⟨ds, hr, f⟩ => ?_) fun _ _ q => q)
  intro S H ok Q E q e
  exact ⟨tyL C.hK ok hr, (Lift.bind (T := fun E H Q => wA X [_] σ E H fun us H2 => wM X id v us E H2 Q) (T1 := wA X [_] σ) (T2 := fun us => wM X id v us) (fun _ _ _ q => q) f) S H ok Q E q e⟩
theorem l_methL0 {Φ : V → Sy → Prop} {o : Expr} {name : Str} {id : String} {apos : Pos} (C : Cn P w K mg base k N sc vb lb gs X) (slot : Slot "list" name id) (hty : typeOf (.builtin id) = pure (.type "method_descriptor")) (hbase : attributeBase o name X.env (eval o X.env) = eval o X.env) (hline : (apos.endLine == pos.line) = true)
    (h : Lift K (wE X o σ) y (fun v y1 => ∃ ds, Rb y1 v (.list ds) ∧ Lift K (wM X id v []) y1 Φ Ψ) Ψ) : Lift K (wE X (.Call (.Attribute o name apos) [] [] pos) σ) y Φ Ψ := by
  refine l_of (fun E tk => pe_bm0 PySem.F.plainAttrs_list slot hty (mt_w (E := E)) (pe_w tk) hbase hline) ?_
  refine Lift.bind (T1 := wE X o σ) (T2 := fun v E H Q => tyV X.K "list" v H ∧ wM X id v [] E H Q) (fun _ _ _ q => q) (h.mono (fun v z ⟨ds, hr, f⟩ => ?_) fun _ _ q => q)
  intro S H ok Q E q e
  exact ⟨tyL C.hK ok hr, f S H ok Q E q e⟩
theorem m_append {Φ : V → Sy → Prop} {F : List (V × Dt)} {O : List (Addr × OD)} {p : Addr} {ds : List Dt} {u : V} {d : Dt} (hu : Hs F u d) (hz : ds.length ≤ 1000000) (h : Φ .non ⟨F, (p, .lst (ds ++ [d])) :: O⟩) : Lift K (wM X "list.append" (.ref p) [u]) ⟨F, (p, .lst ds) :: O⟩ Φ Ψ := by
  refine m_of (fun pins s σ H x xs v us Q I a b c => mt_append pins s σ H x xs v us Q I a b c) (Lift.raw fun S H ok E Q q => ?_)
  obtain ⟨sp, o, ho, xs, rfl, r⟩ := ok.own p _ (List.Mem.head _)
  obtain ⟨ok2, st⟩ := ok.set (u2 := .lst (ds ++ [d])) (o2 := .lst (xs ++ [u])) ⟨_, rfl, r.append (.cons (hu.rp ok) .nil)⟩
  exact ⟨p, xs, u, rfl, rfl, ho, by rw [r.length]; exact Nat.lt_of_le_of_lt hz (by decide), q _ _ _ _ ok2 st h⟩
theorem m_extend {Φ : V → Sy → Prop} {F : List (V × Dt)} {O : List (Addr × OD)} {p : Addr} {ds es : List Dt} {u : V} (hu : Hs F u (.list es)) (hz : ds.length + es.length ≤ 1000000) (h : Φ .non ⟨F, (p, .lst (ds ++ es)) :: O⟩) : Lift K (wM X "list.extend" (.ref p) [u]) ⟨F, (p, .lst ds) :: O⟩ Φ Ψ := by
  refine m_of (fun pins s σ H x xs v us Q I a b c => mt_extend pins s σ H x xs v us Q I a b c) (Lift.raw fun S H ok E Q q => ?_)
  obtain ⟨sp, o, ho, xs, rfl, r⟩ := ok.own p _ (List.Mem.head _)
  have r2 := hu.rp ok
  cases r2 with
  | @lst b zs _ e2 r2 =>
    obtain ⟨ok2, st⟩ := ok.set (u2 := .lst (ds ++ es)) (o2 := .lst (xs ++ zs)) ⟨_, rfl, r.append r2⟩
    exact ⟨p, b, xs, zs, rfl, rfl, ho, ok.sub _ _ e2, by rw [r.length, r2.length]; exact Nat.le_trans hz (by decide), q _ _ _ _ ok2 st h⟩
theorem RpA.dropLast {S : Hp} : ∀ {vs : List V} {ds : List Dt}, RpA K S vs ds → RpA K S vs.dropLast ds.dropLast
  | _, _, .nil => .nil
  | _, _, .cons q .nil => .nil
  | _, _, .cons q (.cons a b) => .cons q (RpA.dropLast (.cons a b))
theorem m_pop {Φ : V → Sy → Prop} {F : List (V × Dt)} {O : List (Addr × OD)} {p : Addr} {ds : List Dt} {d : Dt} (hd : ds[ds.length - 1]? = some d) (h : ∀ x, Φ x ⟨(x, d) :: F, (p, .lst ds.dropLast) :: O⟩) : Lift K (wM X "list.pop" (.ref p) []) ⟨F, (p, .lst ds) :: O⟩ Φ Ψ := by
  refine m_of (fun pins s σ H x xs v us Q I a b c => mt_pop pins s σ H x xs v us Q I a b c) (Lift.raw fun S H ok E Q q => ?_)
  obtain ⟨sp, o, ho, xs, rfl, r⟩ := ok.own p _ (List.Mem.head _)
  obtain ⟨x, hx, rx⟩ := r.at hd
  obtain ⟨ok2, st⟩ := ok.set (u2 := .lst ds.dropLast) (o2 := .lst xs.dropLast) ⟨_, rfl, RpA.dropLast r⟩
  exact ⟨p, xs, x, rfl, rfl, ho, by rw [r.length]; exact hx, q _ _ _ _ (ok2.fact (v := x) (d := d) rx) st (h x)⟩

/-! ### isinstance -/
def tyN : Dt → String
  | .none => "NoneType"
  | .bool _ => "bool"
  | .int _ => "int"
  | .str _ => "str"
  | .list _ => "list"
  | .tuple _ => "tuple"
  | .dict _ => "dict"
def noScr : Dt → Bool
  | .dict [] => true
  | .dict [(.int _, .int _)] => true
  | .dict [(.str _, .int _)] => true
  | .dict _ => false
  | _ => true
theorem Rb.ty {S H : Hp} (ok : OkS K y S H) {v : V} {d : Dt} (h : Rb y v d) (hn : noScr d = true) : TyX K H v (.type (tyN d)) := by
  cases h with
  | hs h =>
    have r := h.rp ok
    cases r with
    | non => exact .base .non
    | bl b => exact .base (.bl b)
    | int i => exact .base (.int i)
    | str x => exact .base (.str x)
    | lst e r => exact .base (.lst (ok.sub _ _ e))
    | tup e r =>
      rcases e with (e | ⟨o, e⟩) | ⟨o, its, n, e, c, _⟩
      · exact .base (.tup (ok.sub _ _ e))
      · exact .fTuple (ok.sub _ _ e)
      · exact .kTuple e c
    | emp e => exact .base (.dK (ok.sub _ _ e))
    | one e => exact .base (.dK (ok.sub _ _ e))
    | scr q => cases hn
    | dct _ _ _ => cases hn
    | tpk _ => cases hn
    | exc _ _ _ _ => cases hn
  | own m =>
    obtain ⟨_, o, ho, xs, e, r⟩ := ok.own _ _ m
    subst e
    exact .base (.lst ho)
theorem c_isi {Φ : V → Sy → Prop} {v : V} {d : Dt} {T : String} {b : Bool} (h : Rb y v d) (hn : noScr d = true) (hk : kitB (tyN d) T = some b) (hK : X.K = K) (f : Φ (.bl b) y) : Lift K (wC X (.builtin "isinstance") [v, .ty T]) y Φ Ψ := by
  refine c_of call_isi (Lift.raw fun S H ok E Q q => ?_)
  exact ⟨v, .ty T, .type (tyN d), .type T, b, rfl, .ty T, by rw [hK]; exact h.ty ok hn, kit_ty hk, q _ y S H ok (Stp.refl _ _ _) f⟩

/-! ### the text's own defs -/
abbrev RY := List V → Sy → (V → Sy → Prop) → (Value → Sy → Prop) → Prop
def SpY (K : PySem.W.Frag) (n : Nat) (R : RY) : Sp := fun vs H Q E => vs.length = n ∧ ∃ y S Φ Ψ, OkS K y S H ∧ R vs y Φ Ψ ∧ (∀ v y' S' H', OkS K y' S' H' → Stp y.O S H y'.O S' H' → Φ v y' → Q v H') ∧
  (∀ c y' S' H', OkS K y' S' H' → Stp y.O S H y'.O S' H' → Ψ c y' → E c none H')
structure Cal (P : Program) (w : World) (K : PySem.W.Frag) (mg : Str → Option Value) (base : Heap) (x : Str) (j n : Nat) (R : RY) : Prop where
  ex : ∃ f fd ps, FnOk P w K mg base (L2.CX P w) j f fd ps (SpY K n R) ∧ mg x = some (.ref f) ∧ PySem.W.keepIn K (.ref f) = true ∧ Binds K fd ps []
theorem l_call {Φ : V → Sy → Prop} {x : Str} {p : Pos} {e : Expr} {es : List Expr} {j n : Nat} {R : RY} (C : Cn P w K mg base k N sc vb lb gs X) (G : Cal P w K mg base x j n R) (hj : j ≤ k) (hg : x ∈ gs) (he : starEach (e :: es) X.env = (false, eval e X.env) :: starEach es X.env) (hpl : (backTo pos (starEach es X.env)).any (·.1) = false)
    (h : Lift K (wA X (e :: es) σ) y (fun vs y1 => vs.length = n ∧ R vs y1 Φ Ψ) Ψ) : Lift K (wE X (.Call (.Name x p) (e :: es) [] pos) σ) y Φ Ψ := by
  obtain ⟨f, fd, ps, F, hm, hk, hb⟩ := G.ex
  have F' : FnOk X.prog X.w X.K X.mg X.base (L2.CX X.prog X.w) j f fd ps (SpY K n R) := by
    rw [C.hP, C.hw, C.hK, C.hm, C.hb]
    exact F
  refine l_of (fun E tk => pe_call (dvs := []) (ds := []) F' (C.room.mono hj) (C.gl x hg).1 (by rw [C.hm]; exact hm) (by rw [C.hK]; exact hk) (by rw [C.hK]; exact hb) .nil (passes_call tk fun _ _ _ _ h => h) (pa_w tk) (C.gl x hg).2 he hpl) ?_
  refine Lift.bind (T1 := wA X (e :: es) σ) (T2 := fun vs E H Q => SpY K n R (vs ++ []) H Q E) (fun _ _ _ q => q) (h.mono (fun vs z ⟨hl, r⟩ => ?_) fun _ _ q => q)
  intro S H ok Q E q e
  rw [List.append_nil]
  exact ⟨hl, z, S, Φ, Ψ, ok, r, q, e⟩
theorem l_call0 {Φ : V → Sy → Prop} {x : Str} {p : Pos} {j : Nat} {R : RY} (C : Cn P w K mg base k N sc vb lb gs X) (G : Cal P w K mg base x j 0 R) (hj : j ≤ k) (hg : x ∈ gs) (h : R [] y Φ Ψ) : Lift K (wE X (.Call (.Name x p) [] [] pos) σ) y Φ Ψ := by
  obtain ⟨f, fd, ps, F, hm, hk, hb⟩ := G.ex
  have F' : FnOk X.prog X.w X.K X.mg X.base (L2.CX X.prog X.w) j f fd ps (SpY K 0 R) := by
    rw [C.hP, C.hw, C.hK, C.hm, C.hb]
    exact F
  refine l_of (fun E tk => pe_call0 (dvs := []) (ds := []) F' (C.room.mono hj) (C.gl x hg).1 (by rw [C.hm]; exact hm) (by rw [C.hK]; exact hk) (by rw [C.hK]; exact hb) .nil (passes_call tk fun _ _ _ _ h => h) (C.gl x hg).2) ?_
  intro S H ok Q E q e
  exact ⟨rfl, y, S, Φ, Ψ, ok, h, q, e⟩
/-- a def keeps its promise, by its body -/
theorem fn_y {x qual : Str} {st : Stmt} {f : Addr} {fd : FuncData} {N ps : List Str} {vb lb : List Bool} {gs : List Str} {n : Nat} {R : RY} (F : Fun K x qual st f fd) (Sc : FnScope N ps (defScope st)) (hn : ps.length = n) (ck : chkT (defScope st) N vb lb gs = true)
    (body : ∀ X y vs Φ Ψ, Cn P w K mg base k N (defScope st) vb lb gs X → vs.length = n → R vs y Φ Ψ → Lift K (wSs X (defBody st) (start N vs)) y (retK Φ) Ψ) : FnOk P w K mg base (L2.CX P w) (k + 1) f fd ps (SpY K n R) := by
  refine F.okX Sc (fun vs H Q E h => h.1.trans hn.symm) (fun cdv A outer s H vs Q E hr h => ?_)
  obtain ⟨hl, y, S, Φ, Ψ, ok, r, q, e⟩ := h
  have C : Cn P w K mg base k N (defScope st) vb lb gs (cxOf (L2.CX P w) P w K mg base N qual (defScope st) f cdv A outer s H E) := Cn.top rfl rfl rfl rfl rfl rfl rfl Sc.nd rfl rfl hr (passes_of rfl) ck
  have tk : Tk (cxOf (L2.CX P w) P w K mg base N qual (defScope st) f cdv A outer s H E) E := takes_of rfl rfl rfl rfl
  refine ⟨_, pss_w tk, ?_⟩
  refine body _ y vs Φ Ψ C hl r S H ok _ E (fun fl y' S' H' ok' st' g => ?_) e
  cases fl with
  | nx s => exact q _ y' S' H' ok' st' g
  | rt v => exact q _ y' S' H' ok' st' g
  | bk s => exact g.elim
  | ct s => exact g.elim
end
end Yl

namespace Yl
open PySem PySem.Spec PyProof.Rows L2

/-! ### what a piece of syntax is not -/
class NoStar (e : Expr) : Prop where
  h : ∀ es env, starEach (e :: es) env = (false, eval e env) :: starEach es env
class NoSwap (e : Expr) : Prop where
  h : ∀ t l env, swapsWith e t l env = pure false
class NoFold (e : Expr) : Prop where
  h : ∀ env x, foldedSetIterable e env x = pure x
class NoMark (e : Expr) : Prop where
  h : ∀ op, behindInMarks op e = false
class PlainT (e : Expr) : Prop where
  h : ∀ env whole, isTrue e env whole = (do let v ← whole; standAt e.pos; holding [v] (truthy v))
class PlIx (e : Expr) : Prop where
  h : PlainIx e
class NoPair (e : Expr) : Prop where
  h : ∀ ts k p env, swappedStores [.Tuple ts k p] e env = pure none
class NoTar (e : Expr) : Prop where
  h : ∀ es env, assignEach (e :: es) env = (false, assign e env) :: assignEach es env
class SubT (i : Expr) : Prop where
  h : ∀ o pos env v, assign (.Subscript o i pos) env v = (do
      let ov ← holding [v] (eval o env)
      let iv ← holding [v, ov] (eval i env)
      standAt pos
      holding [v, ov, iv] (setItem ov iv v)
      release [v, ov, iv] [])
class NoSuper (e : Expr) : Prop where
  h : ∀ n env, attributeBase e n env (eval e env) = eval e env

instance (x : Str) (p : Pos) : NoStar (.Name x p) := ⟨fun _ _ => rfl⟩
instance (x : Str) (p : Pos) : NoFold (.Name x p) := ⟨fun _ _ => rfl⟩
instance (x : Str) (p : Pos) : NoMark (.Name x p) := ⟨fun _ => rfl⟩
instance (x : Str) (p : Pos) : NoSwap (.Name x p) := ⟨fun _ _ _ => rfl⟩
instance (x : Str) (p : Pos) : PlainT (.Name x p) := ⟨fun _ _ => rfl⟩
instance (x : Str) (p : Pos) : PlIx (.Name x p) := ⟨fun _ _ => rfl⟩
instance (x : Str) (p : Pos) : SubT (.Name x p) := ⟨fun _ _ _ _ => rfl⟩
instance (x : Str) (p : Pos) : NoPair (.Name x p) := ⟨fun _ _ _ _ => rfl⟩
instance (x : Str) (p : Pos) : NoTar (.Name x p) := ⟨fun _ _ => rfl⟩
instance (x : Str) (p : Pos) : NoSuper (.Name x p) := ⟨fun _ _ => rfl⟩
instance (c : Const) (k : Nat) (p : Pos) : NoStar (.Constant c k p) := ⟨fun _ _ => rfl⟩
instance (c : Const) (k : Nat) (p : Pos) : NoFold (.Constant c k p) := ⟨fun _ _ => rfl⟩
instance (c : Const) (k : Nat) (p : Pos) : NoMark (.Constant c k p) := ⟨fun _ => rfl⟩
instance (c : Const) (k : Nat) (p : Pos) : NoSwap (.Constant c k p) := ⟨fun _ _ _ => rfl⟩
instance (c : Const) (k : Nat) (p : Pos) : PlainT (.Constant c k p) := ⟨fun _ _ => rfl⟩
instance (c : Const) (k : Nat) (p : Pos) : PlIx (.Constant c k p) := ⟨fun _ _ => rfl⟩
instance (c : Const) (k : Nat) (p : Pos) : SubT (.Constant c k p) := ⟨fun _ _ _ _ => rfl⟩
instance (c : Const) (k : Nat) (p : Pos) : NoPair (.Constant c k p) := ⟨fun _ _ _ _ => rfl⟩
instance (c : Const) (k : Nat) (p : Pos) : NoSuper (.Constant c k p) := ⟨fun _ _ => rfl⟩
instance (a : Expr) (o : Operator) (b : Expr) (p : Pos) : NoStar (.BinOp a o b p) := ⟨fun _ _ => rfl⟩
instance (a : Expr) (o : Operator) (b : Expr) (p : Pos) : NoFold (.BinOp a o b p) := ⟨fun _ _ => rfl⟩
instance (a : Expr) (o : Operator) (b : Expr) (p : Pos) : NoMark (.BinOp a o b p) := ⟨fun _ => rfl⟩
instance (a : Expr) (o : Operator) (b : Expr) (p : Pos) : NoSwap (.BinOp a o b p) := ⟨fun _ _ _ => rfl⟩
instance (a : Expr) (o : Operator) (b : Expr) (p : Pos) : PlainT (.BinOp a o b p) := ⟨fun _ _ => rfl⟩
instance (a : Expr) (o : Operator) (b : Expr) (p : Pos) : PlIx (.BinOp a o b p) := ⟨fun _ _ => rfl⟩
instance (a : Expr) (o : Operator) (b : Expr) (p : Pos) : SubT (.BinOp a o b p) := ⟨fun _ _ _ _ => rfl⟩
instance (a : Expr) (o : Operator) (b : Expr) (p : Pos) : NoPair (.BinOp a o b p) := ⟨fun _ _ _ _ => rfl⟩
instance (o : UnaryOp) (a : Expr) (p : Pos) : NoStar (.UnaryOp o a p) := ⟨fun _ _ => rfl⟩
instance (o : UnaryOp) (a : Expr) (p : Pos) : NoFold (.UnaryOp o a p) := ⟨fun _ _ => rfl⟩
instance (o : UnaryOp) (a : Expr) (p : Pos) : NoMark (.UnaryOp o a p) := ⟨fun _ => rfl⟩
instance (o : UnaryOp) (a : Expr) (p : Pos) : NoSwap (.UnaryOp o a p) := ⟨fun _ _ _ => rfl⟩
instance (o : UnaryOp) (a : Expr) (p : Pos) : PlIx (.UnaryOp o a p) := ⟨fun _ _ => rfl⟩
instance (o : UnaryOp) (a : Expr) (p : Pos) : SubT (.UnaryOp o a p) := ⟨fun _ _ _ _ => rfl⟩
instance (o : UnaryOp) (a : Expr) (p : Pos) : NoPair (.UnaryOp o a p) := ⟨fun _ _ _ _ => rfl⟩
instance (o : BoolOp) (l : List Expr) (p : Pos) : NoStar (.BoolOp o l p) := ⟨fun _ _ => rfl⟩
instance (o : BoolOp) (l : List Expr) (p : Pos) : NoFold (.BoolOp o l p) := ⟨fun _ _ => rfl⟩
instance (o : BoolOp) (l : List Expr) (p : Pos) : NoMark (.BoolOp o l p) := ⟨fun _ => rfl⟩
instance (o : BoolOp) (l : List Expr) (p : Pos) : NoSwap (.BoolOp o l p) := ⟨fun _ _ _ => rfl⟩
instance (o : BoolOp) (l : List Expr) (p : Pos) : NoPair (.BoolOp o l p) := ⟨fun _ _ _ _ => rfl⟩
instance (a : Expr) (o : List CmpOp) (l : List Expr) (p : Pos) : NoStar (.Compare a o l p) := ⟨fun _ _ => rfl⟩
instance (a : Expr) (o : List CmpOp) (l : List Expr) (p : Pos) : NoFold (.Compare a o l p) := ⟨fun _ _ => rfl⟩
instance (a : Expr) (o : List CmpOp) (l : List Expr) (p : Pos) : NoMark (.Compare a o l p) := ⟨fun _ => rfl⟩
instance (a : Expr) (o : List CmpOp) (l : List Expr) (p : Pos) : NoSwap (.Compare a o l p) := ⟨fun _ _ _ => rfl⟩
instance (a : Expr) (o : List CmpOp) (l : List Expr) (p : Pos) : NoPair (.Compare a o l p) := ⟨fun _ _ _ _ => rfl⟩
instance (f : Expr) (l : List Expr) (kw : List Keyword) (p : Pos) : NoStar (.Call f l kw p) := ⟨fun _ _ => rfl⟩
instance (f : Expr) (l : List Expr) (kw : List Keyword) (p : Pos) : NoFold (.Call f l kw p) := ⟨fun _ _ => rfl⟩
instance (f : Expr) (l : List Expr) (kw : List Keyword) (p : Pos) : NoMark (.Call f l kw p) := ⟨fun _ => rfl⟩
instance (f : Expr) (l : List Expr) (kw : List Keyword) (p : Pos) : NoSwap (.Call f l kw p) := ⟨fun _ _ _ => rfl⟩
instance (f : Expr) (l : List Expr) (kw : List Keyword) (p : Pos) : PlainT (.Call f l kw p) := ⟨fun _ _ => rfl⟩
instance (f : Expr) (l : List Expr) (kw : List Keyword) (p : Pos) : PlIx (.Call f l kw p) := ⟨fun _ _ => rfl⟩
instance (f : Expr) (l : List Expr) (kw : List Keyword) (p : Pos) : SubT (.Call f l kw p) := ⟨fun _ _ _ _ => rfl⟩
instance (f : Expr) (l : List Expr) (kw : List Keyword) (p : Pos) : NoPair (.Call f l kw p) := ⟨fun _ _ _ _ => rfl⟩
instance (a : Expr) (n : Str) (p : Pos) : NoStar (.Attribute a n p) := ⟨fun _ _ => rfl⟩
instance (a : Expr) (n : Str) (p : Pos) : NoFold (.Attribute a n p) := ⟨fun _ _ => rfl⟩
instance (a : Expr) (n : Str) (p : Pos) : NoMark (.Attribute a n p) := ⟨fun _ => rfl⟩
instance (a : Expr) (n : Str) (p : Pos) : NoSwap (.Attribute a n p) := ⟨fun _ _ _ => rfl⟩
instance (a : Expr) (n : Str) (p : Pos) : PlainT (.Attribute a n p) := ⟨fun _ _ => rfl⟩
instance (a : Expr) (n : Str) (p : Pos) : PlIx (.Attribute a n p) := ⟨fun _ _ => rfl⟩
instance (a : Expr) (n : Str) (p : Pos) : SubT (.Attribute a n p) := ⟨fun _ _ _ _ => rfl⟩
instance (a : Expr) (n : Str) (p : Pos) : NoPair (.Attribute a n p) := ⟨fun _ _ _ _ => rfl⟩
instance (a : Expr) (n : Str) (p : Pos) : NoTar (.Attribute a n p) := ⟨fun _ _ => rfl⟩
instance (a : Expr) (n : Str) (p : Pos) : NoSuper (.Attribute a n p) := ⟨fun _ _ => rfl⟩
instance (a b : Expr) (p : Pos) : NoStar (.Subscript a b p) := ⟨fun _ _ => rfl⟩
instance (a b : Expr) (p : Pos) : NoFold (.Subscript a b p) := ⟨fun _ _ => rfl⟩
instance (a b : Expr) (p : Pos) : NoMark (.Subscript a b p) := ⟨fun _ => rfl⟩
instance (a b : Expr) (p : Pos) : NoSwap (.Subscript a b p) := ⟨fun _ _ _ => rfl⟩
instance (a b : Expr) (p : Pos) : PlainT (.Subscript a b p) := ⟨fun _ _ => rfl⟩
instance (a b : Expr) (p : Pos) : PlIx (.Subscript a b p) := ⟨fun _ _ => rfl⟩
instance (a b : Expr) (p : Pos) : SubT (.Subscript a b p) := ⟨fun _ _ _ _ => rfl⟩
instance (a b : Expr) (p : Pos) : NoPair (.Subscript a b p) := ⟨fun _ _ _ _ => rfl⟩
instance (a b : Expr) (p : Pos) : NoTar (.Subscript a b p) := ⟨fun _ _ => rfl⟩
instance (a b : Expr) (p : Pos) : NoSuper (.Subscript a b p) := ⟨fun _ _ => rfl⟩
instance (l : List Expr) (p : Pos) : NoStar (.List l p) := ⟨fun _ _ => rfl⟩
instance (l : List Expr) (p : Pos) : NoFold (.List l p) := ⟨fun _ _ => rfl⟩
instance (l : List Expr) (p : Pos) : NoMark (.List l p) := ⟨fun _ => rfl⟩
instance (l : List Expr) (p : Pos) : NoSwap (.List l p) := ⟨fun _ _ _ => rfl⟩
instance (l : List Expr) (p : Pos) : PlainT (.List l p) := ⟨fun _ _ => rfl⟩
instance (l : List Expr) (p : Pos) : NoPair (.List l p) := ⟨fun _ _ _ _ => rfl⟩
instance (l : List Expr) (k : Nat) (p : Pos) : NoStar (.Tuple l k p) := ⟨fun _ _ => rfl⟩
instance (l : List Expr) (k : Nat) (p : Pos) : NoFold (.Tuple l k p) := ⟨fun _ _ => rfl⟩
instance (l : List Expr) (k : Nat) (p : Pos) : NoMark (.Tuple l k p) := ⟨fun _ => rfl⟩
instance (l : List Expr) (k : Nat) (p : Pos) : NoSwap (.Tuple l k p) := ⟨fun _ _ _ => rfl⟩
instance (l : List Expr) (k : Nat) (p : Pos) : PlainT (.Tuple l k p) := ⟨fun _ _ => rfl⟩
instance (l : List Expr) (k : Nat) (p : Pos) : PlIx (.Tuple l k p) := ⟨fun _ _ => rfl⟩
instance (l : List Expr) (k : Nat) (p : Pos) : SubT (.Tuple l k p) := ⟨fun _ _ _ _ => rfl⟩
instance (l : List Expr) (k : Nat) (p : Pos) : NoTar (.Tuple l k p) := ⟨fun _ _ => rfl⟩
instance (a : List (Option Expr)) (l : List Expr) (p : Pos) : NoStar (.Dict a l p) := ⟨fun _ _ => rfl⟩
instance (a : List (Option Expr)) (l : List Expr) (p : Pos) : NoFold (.Dict a l p) := ⟨fun _ _ => rfl⟩
instance (a : List (Option Expr)) (l : List Expr) (p : Pos) : NoMark (.Dict a l p) := ⟨fun _ => rfl⟩
instance (a : List (Option Expr)) (l : List Expr) (p : Pos) : NoSwap (.Dict a l p) := ⟨fun _ _ _ => rfl⟩
instance (a : List (Option Expr)) (l : List Expr) (p : Pos) : NoPair (.Dict a l p) := ⟨fun _ _ _ _ => rfl⟩
instance (a b c : Expr) (p : Pos) : NoStar (.IfExp a b c p) := ⟨fun _ _ => rfl⟩
instance (a b c : Expr) (p : Pos) : NoFold (.IfExp a b c p) := ⟨fun _ _ => rfl⟩
instance (a b c : Expr) (p : Pos) : NoMark (.IfExp a b c p) := ⟨fun _ => rfl⟩
instance (a b c : Expr) (p : Pos) : NoSwap (.IfExp a b c p) := ⟨fun _ _ _ => rfl⟩
instance (a b c : Expr) (p : Pos) : PlIx (.IfExp a b c p) := ⟨fun _ _ => rfl⟩
instance (a b c : Expr) (p : Pos) : SubT (.IfExp a b c p) := ⟨fun _ _ _ _ => rfl⟩
instance (a b c : Expr) (p : Pos) : NoPair (.IfExp a b c p) := ⟨fun _ _ _ _ => rfl⟩
instance (a : Expr) (g : List Comprehension) (s : Scope) (p : Pos) : NoStar (.ListComp a g s p) := ⟨fun _ _ => rfl⟩
instance (a : Expr) (g : List Comprehension) (s : Scope) (p : Pos) : NoFold (.ListComp a g s p) := ⟨fun _ _ => rfl⟩
instance (a : Expr) (g : List Comprehension) (s : Scope) (p : Pos) : NoMark (.ListComp a g s p) := ⟨fun _ => rfl⟩
instance (a : Expr) (g : List Comprehension) (s : Scope) (p : Pos) : NoPair (.ListComp a g s p) := ⟨fun _ _ _ _ => rfl⟩

class NoStars (es : List Expr) : Prop where
  h : ∀ env, (starEach es env).any (·.1) = false
theorem backTo_any (pos : Pos) (l : List (Bool × Sem Value)) : (backTo pos l).any (·.1) = l.any (·.1) := by
  unfold backTo
  induction l with
  | nil => rfl
  | cons a r ih =>
    rw [List.map_cons, List.any_cons, List.any_cons, ih]
theorem backTo_all (pos : Pos) (l : List (Bool × Sem Value)) : (backTo pos l).all (fun x => !x.1) = l.all (fun x => !x.1) := by
  unfold backTo
  induction l with
  | nil => rfl
  | cons a r ih =>
    rw [List.map_cons, List.all_cons, List.all_cons, ih]
instance : NoStars [] := ⟨fun _ => rfl⟩
instance (e : Expr) (es : List Expr) [a : NoStar e] [b : NoStars es] : NoStars (e :: es) := ⟨fun env => by
  rw [a.h, List.any_cons, b.h]
  rfl⟩
theorem NoStars.b {es : List Expr} [a : NoStars es] (pos : Pos) (env : Env) : (backTo pos (starEach es env)).any (·.1) = false := by
  rw [backTo_any, a.h]

/-! ### names by slot -/
class Lk (x : Str) (N : List Str) (vb : List Bool) (σ : L2.St) (v : outParam V) : Prop where
  h : ∃ i : Nat, N[i]? = some x ∧ vb[i]? = some true ∧ σ[i]? = some (some v)
instance (x : Str) (N : List Str) (vb : List Bool) (σ : L2.St) (v : V) : Lk x (x :: N) (true :: vb) (some v :: σ) v := ⟨0, rfl, rfl, rfl⟩
instance (priority := low) (x a : Str) (N : List Str) (b : Bool) (vb : List Bool) (u : Option V) (σ : L2.St) (v : V) [L : Lk x N vb σ v] : Lk x (a :: N) (b :: vb) (u :: σ) v := ⟨by
  obtain ⟨i, h1, h2, h3⟩ := L.h
  exact ⟨i + 1, by simpa using h1, by simpa using h2, by simpa using h3⟩⟩
class Se (x : Str) (N : List Str) (lb : List Bool) (σ : L2.St) (f : outParam (V → L2.St)) : Prop where
  h : ∃ i : Nat, N[i]? = some x ∧ lb[i]? = some true ∧ ∀ v, σ.set i (some v) = f v
instance (x : Str) (N : List Str) (lb : List Bool) (u : Option V) (σ : L2.St) : Se x (x :: N) (true :: lb) (u :: σ) (fun v => some v :: σ) := ⟨0, rfl, rfl, fun _ => rfl⟩
instance (priority := low) (x a : Str) (N : List Str) (b : Bool) (lb : List Bool) (u : Option V) (σ : L2.St) (f : V → L2.St) [L : Se x N lb σ f] : Se x (a :: N) (b :: lb) (u :: σ) (fun v => u :: f v) := ⟨by
  obtain ⟨i, h1, h2, h3⟩ := L.h
  exact ⟨i + 1, by simpa using h1, by simpa using h2, fun v => by rw [List.set_cons_succ, h3]⟩⟩
class GIn (x : Str) (gs : List Str) : Prop where
  h : x ∈ gs
instance (x : Str) (gs : List Str) : GIn x (x :: gs) := ⟨List.mem_cons_self⟩
instance (priority := low) (x a : Str) (gs : List Str) [h : GIn x gs] : GIn x (a :: gs) := ⟨List.mem_cons_of_mem _ h.h⟩
/-! ### data -/
class Ow (p : Addr) (O : List (Addr × OD)) (ds : outParam (List Dt)) : Prop where
  h : (p, OD.lst ds) ∈ O
instance (p : Addr) (ds : List Dt) (O : List (Addr × OD)) : Ow p ((p, .lst ds) :: O) ds := ⟨List.mem_cons_self⟩
instance (priority := low) (p : Addr) (ds : List Dt) (c : Addr × OD) (O : List (Addr × OD)) [h : Ow p O ds] : Ow p (c :: O) ds := ⟨List.mem_cons_of_mem _ h.h⟩
class Fa (v : V) (F : List (V × Dt)) (d : outParam Dt) : Prop where
  h : (v, d) ∈ F
instance (v : V) (d : Dt) (F : List (V × Dt)) : Fa v ((v, d) :: F) d := ⟨List.mem_cons_self⟩
instance (priority := low) (v : V) (d : Dt) (c : V × Dt) (F : List (V × Dt)) [h : Fa v F d] : Fa v (c :: F) d := ⟨List.mem_cons_of_mem _ h.h⟩
/-- a value that stands, its data -/
class Hc (F : List (V × Dt)) (v : V) (d : outParam Dt) : Prop where
  h : Hs F v d
instance (F : List (V × Dt)) : Hc F .non .none := ⟨.non⟩
instance (F : List (V × Dt)) (b : Bool) : Hc F (.bl b) (.bool b) := ⟨.bl b⟩
instance (F : List (V × Dt)) (i : Int) : Hc F (.int i) (.int i) := ⟨.int i⟩
instance (F : List (V × Dt)) (x : Str) : Hc F (.str x) (.str x) := ⟨.str x⟩
instance (priority := low) (F : List (V × Dt)) (v : V) (d : Dt) [h : Fa v F d] : Hc F v d := ⟨.fact h.h⟩
class HcA (F : List (V × Dt)) (vs : List V) (ds : outParam (List Dt)) : Prop where
  h : HsA F vs ds
instance (F : List (V × Dt)) : HcA F [] [] := ⟨.nil⟩
instance (F : List (V × Dt)) (v : V) (vs : List V) (d : Dt) (ds : List Dt) [a : Hc F v d] [b : HcA F vs ds] : HcA F (v :: vs) (d :: ds) := ⟨.cons a.h b.h⟩
/-- a value that may be read, its data -/
class Rc (F : List (V × Dt)) (O : List (Addr × OD)) (v : V) (d : outParam Dt) : Prop where
  h : Rb ⟨F, O⟩ v d
instance (F : List (V × Dt)) (O : List (Addr × OD)) (p : Addr) (ds : List Dt) [h : Ow p O ds] : Rc F O (.ref p) (.list ds) := ⟨.own h.h⟩
instance (priority := low) (F : List (V × Dt)) (O : List (Addr × OD)) (v : V) (d : Dt) [h : Hc F v d] : Rc F O v d := ⟨.hs h.h⟩

/-! ### one step -/
class Step (g : Prop) (s : outParam Prop) : Prop where
  h : s → g
section
variable {P : Program} {w : World} {K : PySem.W.Frag} {mg : Str → Option Value} {base : Heap} {k : Nat} {N : List Str} {sc : Scope} {vb lb : List Bool} {gs : List Str} {X : Cx} {y : Sy} {σ : L2.St} {Ψ : Value → Sy → Prop} {x : Str} {e a b c : Expr} {es : List Expr} {pos pos' p2 : Pos} {rest : List Stmt} {F : List (V × Dt)} {O : List (Addr × OD)}
instance {v : V} {Φ : V → Sy → Prop} [C : Cn P w K mg base k N sc vb lb gs X] [L : Lk x N vb σ v] : Step (Lift K (wE X (.Name x pos) σ) y Φ Ψ) (Φ v y) := ⟨fun h => by
  obtain ⟨i, h1, h2, h3⟩ := L.h
  exact l_vi i C h1 h2 h3 h⟩
instance {Φ : V → Sy → Prop} {i : Int} {j} : Step (Lift K (wE X (.Constant (.int i) j pos) σ) y Φ Ψ) (Φ (.int i) y) := ⟨l_int⟩
instance {Φ : V → Sy → Prop} {i : Bool} {j} : Step (Lift K (wE X (.Constant (.bool i) j pos) σ) y Φ Ψ) (Φ (.bl i) y) := ⟨l_bl⟩
instance {Φ : V → Sy → Prop} {j} : Step (Lift K (wE X (.Constant .none j pos) σ) y Φ Ψ) (Φ .non y) := ⟨l_non⟩
instance {Φ : V → Sy → Prop} {i : Str} {j} : Step (Lift K (wE X (.Constant (.str i) j pos) σ) y Φ Ψ) (Φ (.str i) y) := ⟨l_str⟩
instance {Φ : V → Sy → Prop} {op : Operator} : Step (Lift K (wE X (.BinOp a op b pos) σ) y Φ Ψ) (Lift K (wE X a σ) y (fun v y1 => Lift K (wE X b σ) y1 (fun u y2 => Lift K (wO X (binaryOp op) v u) y2 Φ Ψ) Ψ) Ψ) := ⟨l_bin⟩
instance {Φ : V → Sy → Prop} : Step (Lift K (wE X (.UnaryOp .USub a pos) σ) y Φ Ψ) (Lift K (wE X a σ) y (fun v y1 => Lift K (wU X (unaryOp .USub) v) y1 Φ Ψ) Ψ) := ⟨l_un⟩
instance {Φ : V → Sy → Prop} : Step (Lift K (wE X (.UnaryOp .Not a pos) σ) y Φ Ψ) (Lift K (wE X a σ) y (asB fun c y1 => Φ (.bl (!c)) y1) Ψ) := ⟨l_not⟩
instance {Φ : V → Sy → Prop} {op : CmpOp} [m : NoMark b] : Step (Lift K (wE X (.Compare a [op] [b] pos) σ) y Φ Ψ) (Lift K (wE X a σ) y (fun v y1 => Lift K (wE X b σ) y1 (fun u y2 => Lift K (wO X (compareOp op) v u) y2 Φ Ψ) Ψ) Ψ) := ⟨l_cmp (m.h _)⟩
instance {Φ : Bool → Sy → Prop} {op : CmpOp} [m : NoMark b] : Step (Lift K (wT X (.Compare a [op] [b] pos) σ) y Φ Ψ) (Lift K (wE X a σ) y (fun v y1 => Lift K (wE X b σ) y1 (fun u y2 => Lift K (wO X (compareOp op) v u) y2 (asB Φ) Ψ) Ψ) Ψ) := ⟨t_cmp (m.h _)⟩
instance {Φ : V → Sy → Prop} {op op' : CmpOp} [m : NoMark c] : Step (Lift K (wE X (.Compare a [op, op'] [b, c] pos) σ) y Φ Ψ) (Lift K (wE X a σ) y (fun v y1 => Lift K (wE X b σ) y1 (fun u y2 => Lift K (wO X (compareOp op) v u) y2 (asB fun d y3 => (d = true → Lift K (wE X c σ) y3 (fun x y4 => Lift K (wO X (compareOp op') u x) y4 Φ Ψ) Ψ) ∧ (d = false → Φ (.bl false) y3)) Ψ) Ψ) Ψ) := ⟨l_chain (show behindInMarks op' c = false from m.h _)⟩
instance {Φ : Bool → Sy → Prop} {op op' : CmpOp} [m : NoMark c] : Step (Lift K (wT X (.Compare a [op, op'] [b, c] pos) σ) y Φ Ψ) (Lift K (wE X a σ) y (fun v y1 => Lift K (wE X b σ) y1 (fun u y2 => Lift K (wO X (compareOp op) v u) y2 (asB fun d y3 => (d = true → Lift K (wE X c σ) y3 (fun x y4 => Lift K (wO X (compareOp op') u x) y4 (asB Φ) Ψ) Ψ) ∧ (d = false → Φ false y3)) Ψ) Ψ) Ψ) := ⟨t_chain (show behindInMarks op' c = false from m.h _)⟩
instance {Φ : Bool → Sy → Prop} : Step (Lift K (wT X (.UnaryOp .Not a pos) σ) y Φ Ψ) (Lift K (wT X a σ) y (fun c y1 => Φ (!c) y1) Ψ) := ⟨t_not⟩
instance {Φ : Bool → Sy → Prop} {op : BoolOp} : Step (Lift K (wT X (.BoolOp op es pos) σ) y Φ Ψ) (Lift K (wW X (.BoolOp op es pos) σ) y Φ Ψ) := ⟨t_w⟩
instance {Φ : Bool → Sy → Prop} : Step (Lift K (wW X (.BoolOp .And (a :: b :: es) pos) σ) y Φ Ψ) (Lift K (wT X a σ) y (fun c y1 => (c = true → Lift K (wW X (.BoolOp .And (b :: es) pos) σ) y1 Φ Ψ) ∧ (c = false → Φ false y1)) Ψ) := ⟨t_and⟩
instance {Φ : Bool → Sy → Prop} : Step (Lift K (wW X (.BoolOp .And [a] pos) σ) y Φ Ψ) (Lift K (wT X a σ) y Φ Ψ) := ⟨t_and1⟩
instance {Φ : Bool → Sy → Prop} : Step (Lift K (wW X (.BoolOp .Or (a :: b :: es) pos) σ) y Φ Ψ) (Lift K (wT X a σ) y (fun c y1 => (c = true → Φ true y1) ∧ (c = false → Lift K (wW X (.BoolOp .Or (b :: es) pos) σ) y1 Φ Ψ)) Ψ) := ⟨t_or⟩
instance {Φ : Bool → Sy → Prop} : Step (Lift K (wW X (.BoolOp .Or [a] pos) σ) y Φ Ψ) (Lift K (wT X a σ) y Φ Ψ) := ⟨t_or1⟩
instance (priority := low) {Φ : Bool → Sy → Prop} [m : PlainT e] : Step (Lift K (wT X e σ) y Φ Ψ) (Lift K (wE X e σ) y (fun v y1 => Lift K (wB X v) y1 Φ Ψ) Ψ) := ⟨t_val (m.h _)⟩
instance {Φ : Bool → Sy → Prop} {b : Bool} : Step (Lift K (wB X (.bl b)) y Φ Ψ) (Φ b y) := ⟨b_bl⟩
instance {Φ : V → Sy → Prop} : Step (Lift K (wE X (.BoolOp .And (a :: b :: es) pos) σ) y Φ Ψ) (Lift K (wE X a σ) y (asB fun c y1 => (c = true → Lift K (wE X (.BoolOp .And (b :: es) pos) σ) y1 Φ Ψ) ∧ (c = false → Φ (.bl false) y1)) Ψ) := ⟨l_and⟩
instance {Φ : V → Sy → Prop} : Step (Lift K (wE X (.BoolOp .Or (a :: b :: es) pos) σ) y Φ Ψ) (Lift K (wE X a σ) y (asB fun c y1 => (c = true → Φ (.bl true) y1) ∧ (c = false → Lift K (wE X (.BoolOp .Or (b :: es) pos) σ) y1 Φ Ψ)) Ψ) := ⟨l_or⟩
instance {Φ : V → Sy → Prop} {op : BoolOp} : Step (Lift K (wE X (.BoolOp op [a] pos) σ) y Φ Ψ) (Lift K (wE X a σ) y Φ Ψ) := ⟨l_one⟩
instance {Φ : V → Sy → Prop} : Step (Lift K (wE X (.IfExp c a b pos) σ) y Φ Ψ) (Lift K (wT X c σ) y (fun d y1 => (d = true → Lift K (wE X a σ) y1 Φ Ψ) ∧ (d = false → Lift K (wE X b σ) y1 Φ Ψ)) Ψ) := ⟨l_if⟩
instance {Φ : Bool → Sy → Prop} {d : Bool} : Step (asB Φ (.bl d) y) (Φ d y) := ⟨asB_mk⟩
instance {Φ : List V → Sy → Prop} : Step (Lift K (wA X [] σ) y Φ Ψ) (Φ [] y) := ⟨a_nil⟩
instance {Φ : List V → Sy → Prop} [m : NoStar e] : Step (Lift K (wA X (e :: es) σ) y Φ Ψ) (Lift K (wE X e σ) y (fun v y1 => Lift K (wA X es σ) y1 (fun vs y2 => Φ (v :: vs) y2) Ψ) Ψ) := ⟨a_cons (m.h _ _)⟩
/-- behind the items of a display -/
def LstK (Φ : V → Sy → Prop) (vs : List V) (y : Sy) : Prop := ∃ ds, HsA y.F vs ds ∧ ds.length ≤ 1000000 ∧ ∀ p, Φ (.ref p) ⟨(.ref p, .list ds) :: y.F, y.O⟩
def TupK (Φ : V → Sy → Prop) (vs : List V) (y : Sy) : Prop := ∃ ds, HsA y.F vs ds ∧ ds.length ≤ 1000000 ∧ ∀ p, Φ (.ref p) ⟨(.ref p, .tuple ds) :: y.F, y.O⟩
theorem l_lstK {Φ : V → Sy → Prop} (h : Lift K (wA X es σ) y (LstK Φ) Ψ) : Lift K (wE X (.List es pos) σ) y Φ Ψ := l_lst h
instance {Φ : V → Sy → Prop} {kk : Nat} : Step (Lift K (wE X (.Tuple es kk pos) σ) y Φ Ψ) (Lift K (wA X es σ) y (TupK Φ) Ψ) := ⟨l_tup⟩
class Few (vs : List V) : Prop where
  h : vs.length ≤ 1000000
theorem HsA.len {F : List (V × Dt)} : ∀ {vs : List V} {ds : List Dt}, HsA F vs ds → ds.length = vs.length
  | _, _, .nil => rfl
  | _, _, .cons _ b => by
    show _ + 1 = _ + 1
    rw [HsA.len b]
class LenN (vs : List V) (n : outParam Nat) : Prop where
  h : vs.length = n
instance : LenN [] 0 := ⟨rfl⟩
instance (v : V) (vs : List V) (n : Nat) [m : LenN vs n] : LenN (v :: vs) (n + 1) := ⟨by rw [List.length_cons, m.h]⟩
instance {Φ : V → Sy → Prop} {vs : List V} {ds : List Dt} [m : HcA F vs ds] : Step (LstK Φ vs ⟨F, O⟩) (vs.length ≤ 1000000 ∧ ∀ p, Φ (.ref p) ⟨(.ref p, .list ds) :: F, O⟩) := ⟨fun h => ⟨ds, m.h, by rw [m.h.len]; exact h.1, h.2⟩⟩
instance {Φ : V → Sy → Prop} {vs : List V} {ds : List Dt} [m : HcA F vs ds] : Step (TupK Φ vs ⟨F, O⟩) (vs.length ≤ 1000000 ∧ ∀ p, Φ (.ref p) ⟨(.ref p, .tuple ds) :: F, O⟩) := ⟨fun h => ⟨ds, m.h, by rw [m.h.len]; exact h.1, h.2⟩⟩
instance {Φ : V → Sy → Prop} [m : PlIx b] : Step (Lift K (wE X (.Subscript a b pos) σ) y Φ Ψ) (Lift K (wE X a σ) y (fun v y1 => Lift K (wE X b σ) y1 (fun u y2 => Lift K (wIx X v u) y2 Φ Ψ) Ψ) Ψ) := ⟨l_ix m.h⟩
instance {Φ : V → Sy → Prop} {lo hi : Option Expr} : Step (Lift K (wE X (.Subscript e (.Slice lo hi none p2) pos) σ) y Φ Ψ) (Lift K (wE X e σ) y (fun v y1 => Lift K (wP X lo σ) y1 (fun l y2 => Lift K (wP X hi σ) y2 (fun u y3 => Lift K (wSl X v l u) y3 Φ Ψ) Ψ) Ψ) Ψ) := ⟨l_slice⟩
instance {Φ : Option Int → Sy → Prop} : Step (Lift K (wP X none σ) y Φ Ψ) (Φ none y) := ⟨p_none⟩
/-- what is wanted of a value that must be an int -/
def asI (Φ : Int → Sy → Prop) : V → Sy → Prop := fun r z => ∃ c, r = .int c ∧ Φ c z
theorem asI_mk {Φ : Int → Sy → Prop} {c : Int} {z : Sy} (h : Φ c z) : asI Φ (.int c) z := ⟨c, rfl, h⟩
instance {Φ : Option Int → Sy → Prop} : Step (Lift K (wP X (some e) σ) y Φ Ψ) (Lift K (wE X e σ) y (asI fun i y1 => Φ (some i) y1) Ψ) := ⟨p_some⟩
instance {Φ : Int → Sy → Prop} {i : Int} : Step (asI Φ (.int i) y) (Φ i y) := ⟨asI_mk⟩
-- operators on ints
instance {Φ : V → Sy → Prop} {i j : Int} : Step (Lift K (wO X (binaryOp .Add) (.int i) (.int j)) y Φ Ψ) (Φ (.int (i + j)) y) := ⟨o_add⟩
instance {Φ : V → Sy → Prop} {i j : Int} : Step (Lift K (wO X (binaryOp .Sub) (.int i) (.int j)) y Φ Ψ) (Φ (.int (i - j)) y) := ⟨o_sub⟩
instance {Φ : V → Sy → Prop} {i j : Int} : Step (Lift K (wO X (inplaceOp .Add) (.int i) (.int j)) y Φ Ψ) (Φ (.int (i + j)) y) := ⟨o_iadd⟩
instance {Φ : V → Sy → Prop} {i j : Int} : Step (Lift K (wO X (inplaceOp .Sub) (.int i) (.int j)) y Φ Ψ) (Φ (.int (i - j)) y) := ⟨o_isub⟩
instance {Φ : V → Sy → Prop} {i j : Int} : Step (Lift K (wO X (compareOp .Lt) (.int i) (.int j)) y Φ Ψ) (Φ (.bl (decide (i < j))) y) := ⟨o_lt⟩
instance {Φ : V → Sy → Prop} {i j : Int} : Step (Lift K (wO X (compareOp .LtE) (.int i) (.int j)) y Φ Ψ) (Φ (.bl (decide (i ≤ j))) y) := ⟨o_le⟩
instance {Φ : V → Sy → Prop} {i j : Int} : Step (Lift K (wO X (compareOp .Gt) (.int i) (.int j)) y Φ Ψ) (Φ (.bl (decide (j < i))) y) := ⟨o_gt⟩
instance {Φ : V → Sy → Prop} {i j : Int} : Step (Lift K (wO X (compareOp .GtE) (.int i) (.int j)) y Φ Ψ) (Φ (.bl (decide (j ≤ i))) y) := ⟨o_ge⟩
instance {Φ : V → Sy → Prop} {i j : Int} : Step (Lift K (wO X (compareOp .Eq) (.int i) (.int j)) y Φ Ψ) (Φ (.bl (decide (i = j))) y) := ⟨o_eq⟩
instance {Φ : V → Sy → Prop} {i j : Int} : Step (Lift K (wO X (compareOp .NotEq) (.int i) (.int j)) y Φ Ψ) (Φ (.bl (!decide (i = j))) y) := ⟨o_ne⟩
instance {Φ : V → Sy → Prop} {i : Int} : Step (Lift K (wU X (unaryOp .USub) (.int i)) y Φ Ψ) (Φ (.int (-i)) y) := ⟨u_neg⟩
instance {Φ : V → Sy → Prop} {v : V} : Step (Lift K (wO X (compareOp .Is) v .non) y Φ Ψ) (Φ (.bl (decide (v = .non))) y) := ⟨o_isN⟩
instance {Φ : V → Sy → Prop} {v : V} : Step (Lift K (wO X (compareOp .IsNot) v .non) y Φ Ψ) (Φ (.bl (!decide (v = .non))) y) := ⟨o_notN⟩
instance {Φ : V → Sy → Prop} {a b : Bool} : Step (Lift K (wO X (compareOp .Is) (.bl a) (.bl b)) y Φ Ψ) (Φ (.bl (decide (a = b))) y) := ⟨o_isB⟩
-- statements
instance {Φ : Fl → Sy → Prop} : Step (Lift K (wSs X [] σ) y Φ Ψ) (Φ (.nx σ) y) := ⟨s_nil⟩
instance {Φ : Fl → Sy → Prop} : Step (Lift K (wSs X (.Return (some e) pos :: rest) σ) y Φ Ψ) (Lift K (wE X e σ) y (fun v y1 => Φ (.rt v) y1) Ψ) := ⟨s_ret⟩
instance {Φ : Fl → Sy → Prop} : Step (Lift K (wSs X (.Return none pos :: rest) σ) y Φ Ψ) (Φ (.rt .non) y) := ⟨s_retN⟩
instance {Φ : Fl → Sy → Prop} : Step (Lift K (wSs X (.Pass pos :: rest) σ) y Φ Ψ) (Lift K (wSs X rest σ) y Φ Ψ) := ⟨s_pass⟩
instance {Φ : Fl → Sy → Prop} : Step (Lift K (wSs X (.Break pos :: rest) σ) y Φ Ψ) (Φ (.bk σ) y) := ⟨s_break⟩
instance {Φ : Fl → Sy → Prop} : Step (Lift K (wSs X (.Continue pos :: rest) σ) y Φ Ψ) (Φ (.ct σ) y) := ⟨s_continue⟩
instance {Φ : Fl → Sy → Prop} {l : List Stmt} : Step (Lift K (wSs X (.If c l [] pos :: rest) σ) y Φ Ψ) (Lift K (wT X c σ) y (fun d y1 => (d = true → Lift K (wSs X l σ) y1 (seqK X K rest Φ Ψ) Ψ) ∧ (d = false → Lift K (wSs X rest σ) y1 Φ Ψ)) Ψ) := ⟨s_if0⟩
instance (priority := low) {Φ : Fl → Sy → Prop} {l l2 : List Stmt} : Step (Lift K (wSs X (.If c l l2 pos :: rest) σ) y Φ Ψ) (Lift K (wT X c σ) y (fun d y1 => (d = true → Lift K (wSs X l σ) y1 (seqK X K rest Φ Ψ) Ψ) ∧ (d = false → Lift K (wSs X l2 σ) y1 (seqK X K rest Φ Ψ) Ψ)) Ψ) := ⟨s_if⟩
instance {Φ : Fl → Sy → Prop} {f : V → L2.St} [C : Cn P w K mg base k N sc vb lb gs X] [L : Se x N lb σ f] [m : NoSwap e] : Step (Lift K (wSs X (.Assign [.Name x pos'] e pos :: rest) σ) y Φ Ψ) (Lift K (wE X e σ) y (fun v y1 => Lift K (wSs X rest (f v)) y1 Φ Ψ) Ψ) := ⟨fun h => by
  obtain ⟨i, h1, h2, h3⟩ := L.h
  refine s_seti i C h1 h2 (m.h _ _ _) (h.mono (fun v y1 q => ?_) fun _ _ q => q)
  rw [h3]
  exact q⟩
instance {Φ : Fl → Sy → Prop} {f : V → L2.St} {v : V} {op : Operator} [C : Cn P w K mg base k N sc vb lb gs X] [L : Se x N lb σ f] [L2 : Lk x N lb σ v] : Step (Lift K (wSs X (.AugAssign (.Name x pos') op e pos :: rest) σ) y Φ Ψ) (Lift K (wE X e σ) y (fun u y1 => Lift K (wO X (inplaceOp op) v u) y1 (fun r y2 => Lift K (wSs X rest (f r)) y2 Φ Ψ) Ψ) Ψ) := ⟨fun h => by
  obtain ⟨i, h1, h2, h3⟩ := L.h
  obtain ⟨j, g1, g2, g3⟩ := L2.h
  have nd := C.nd
  rw [C.hN] at nd
  have e : i = j := nd_ix nd h1 g1
  subst e
  refine s_augi i C h1 h2 g3 (h.mono (fun v y1 q => q.mono (fun u y2 q2 => ?_) fun _ _ q => q) fun _ _ q => q)
  rw [h3]
  exact q2⟩
instance {Φ : Fl → Sy → Prop} [m : NoSwap e] : Step (Lift K (wSs X (.Expr e pos :: rest) σ) y Φ Ψ) (Lift K (wE X e σ) y (fun _ y1 => Lift K (wSs X rest σ) y1 Φ Ψ) Ψ) := ⟨s_expr (m.h _ _ _)⟩
instance {Φ : Fl → Sy → Prop} [m : NoSwap e] : Step (Lift K (wSs X (.Assign [.Subscript a b p2] e pos :: rest) σ) y Φ Ψ) (Lift K (wE X e σ) y (fun v y1 => Lift K (wG X (.Subscript a b p2) v σ) y1 (fun σ2 y2 => Lift K (wSs X rest σ2) y2 Φ Ψ) Ψ) Ψ) := ⟨s_asg (by
  show swapsWith e (some (.Subscript a b p2)) pos.line X.env = pure false
  exact m.h _ _ _) rfl rfl⟩
instance {Φ : Fl → Sy → Prop} {kk : Nat} [m : NoSwap e] [m2 : NoPair e] : Step (Lift K (wSs X (.Assign [.Tuple es kk p2] e pos :: rest) σ) y Φ Ψ) (Lift K (wE X e σ) y (fun v y1 => Lift K (wG X (.Tuple es kk p2) v σ) y1 (fun σ2 y2 => Lift K (wSs X rest σ2) y2 Φ Ψ) Ψ) Ψ) := ⟨s_asg (by
  show swapsWith e (some (.Tuple es kk p2)) pos.line X.env = pure false
  exact m.h _ _ _) (m2.h _ _ _ _) rfl⟩
-- targets
instance {Φ : L2.St → Sy → Prop} {f : V → L2.St} {v : V} [C : Cn P w K mg base k N sc vb lb gs X] [L : Se x N lb σ f] : Step (Lift K (wG X (.Name x pos) v σ) y Φ Ψ) (Φ (f v) y) := ⟨fun h => by
  obtain ⟨i, h1, h2, h3⟩ := L.h
  refine g_ni i C h1 h2 ?_
  rw [h3]
  exact h⟩
instance {Φ : L2.St → Sy → Prop} : Step (Lift K (wGs X [] [] σ) y Φ Ψ) (Φ σ y) := ⟨gs_nil⟩
instance {Φ : L2.St → Sy → Prop} {v : V} {vs : List V} [m : NoTar e] : Step (Lift K (wGs X (e :: es) (v :: vs) σ) y Φ Ψ) (Lift K (wG X e v σ) y (fun σ1 y1 => Lift K (wGs X es vs σ1) y1 Φ Ψ) Ψ) := ⟨gs_cons (by rw [m.h]; rfl)⟩
instance {Φ : L2.St → Sy → Prop} {v : V} [m : SubT b] : Step (Lift K (wG X (.Subscript a b pos) v σ) y Φ Ψ) (Lift K (wE X a σ) y (fun ov y1 => Lift K (wE X b σ) y1 (fun iv y2 => Lift K (wSt X ov iv v) y2 (fun _ y3 => Φ σ y3) Ψ) Ψ) Ψ) := ⟨g_sub (m.h _ _ _)⟩
-- ends
instance {Φ : Fl → Sy → Prop} : Step (seqK X K rest Φ Ψ (.nx σ) y) (Lift K (wSs X rest σ) y Φ Ψ) := ⟨seqK_nx⟩
instance {Φ : Fl → Sy → Prop} {v : V} : Step (seqK X K rest Φ Ψ (.rt v) y) (Φ (.rt v) y) := ⟨seqK_rt⟩
instance {Φ : V → Sy → Prop} {v : V} : Step (retK Φ (.rt v) y) (Φ v y) := ⟨retK_rt⟩
instance {Φ : V → Sy → Prop} : Step (retK Φ (.nx σ) y) (Φ .non y) := ⟨retK_nx⟩
end
theorem go {g s : Prop} [m : Step g s] (h : s) : g := m.h h
end Yl

namespace Yl
open PySem PySem.Spec PyProof.Rows L2

/-! ### the state behind, in a chosen form -/
class SubF (F2 F : List (V × Dt)) : Prop where
  h : ∀ e, e ∈ F2 → e ∈ F
instance (F : List (V × Dt)) : SubF F F := ⟨fun _ h => h⟩
instance (priority := low) (F2 F : List (V × Dt)) (c : V × Dt) [m : SubF F2 F] : SubF F2 (c :: F) := ⟨fun e h => List.mem_cons_of_mem _ (m.h e h)⟩
class SubO (O2 O : List (Addr × OD)) : Prop where
  h : O2.Sublist O
instance (O : List (Addr × OD)) : SubO O O := ⟨List.Sublist.refl _⟩
instance (priority := low) (O2 O : List (Addr × OD)) (c : Addr × OD) [m : SubO O2 O] : SubO O2 (c :: O) := ⟨.cons _ m.h⟩
instance (priority := low) (O2 O : List (Addr × OD)) (c : Addr × OD) [m : SubO O2 O] : SubO (c :: O2) (c :: O) := ⟨.cons₂ _ m.h⟩
section
variable {K : PySem.W.Frag} {α : Type} {T : TL α} {y : Sy} {Φ : α → Sy → Prop} {Ψ : Value → Sy → Prop}
theorem OkS.less {S H : Hp} {z y2 : Sy} (ok : OkS K z S H) (hF : ∀ e, e ∈ y2.F → e ∈ z.F) (hO : y2.O.Sublist z.O) : OkS K y2 S H :=
  ⟨ok.sub, fun v d m => ok.fac v d (hF _ m), fun p u m => ok.own p u (hO.subset m), ok.nd.sublist (hO.map _)⟩
theorem Stp.less {O O' O2 : List (Addr × OD)} {S H S' H' : Hp} (s : Stp O S H O' S' H') (hO : O2.Sublist O') : Stp O S H O2 S' H' :=
  ⟨s.keep, s.live, s.sub, s.newS, fun p m => s.newO p ((hO.map _).subset m)⟩
theorem Lift.post (h : Lift K T y (fun r z => ∃ y2 : Sy, (∀ e, e ∈ y2.F → e ∈ z.F) ∧ y2.O.Sublist z.O ∧ Φ r y2) Ψ) : Lift K T y Φ Ψ := by
  intro S H ok Q E q e
  exact h S H ok Q E (fun r z S' H' ok' st' ⟨y2, hF, hO, f⟩ => q r y2 S' H' (ok'.less hF hO) (st'.less hO) f) e
/-- all that is owned stands for a while: what neither changes it nor keeps it -/
theorem Lift.still {F : List (V × Dt)} {O : List (Addr × OD)} {Fp : List (V × Dt)} (hp : ∀ v d, (v, d) ∈ Fp → Rb ⟨F, O⟩ v d)
    (h : Lift K T ⟨Fp, []⟩ (fun r z => Φ r ⟨F, O⟩) (fun c z => Ψ c ⟨F, O⟩)) : Lift K T ⟨F, O⟩ Φ Ψ := by
  intro S H ok Q E q e
  obtain ⟨S1, hS1⟩ : ∃ S1 : Hp, ∀ a, S1 a = if a ∈ dom O then H a else S a := ⟨fun a => if a ∈ dom O then H a else S a, fun _ => rfl⟩
  have s1 : Sub S S1 := fun a o h => by
    rw [hS1]
    by_cases ha : a ∈ dom O
    · rw [if_pos ha]
      exact ok.sub a o h
    · rw [if_neg ha]
      exact h
  have s2 : Sub S1 H := fun a o h => by
    rw [hS1] at h
    by_cases ha : a ∈ dom O
    · rw [if_pos ha] at h
      exact h
    · rw [if_neg ha] at h
      exact ok.sub a o h
  have ok1 : OkS K ⟨Fp, []⟩ S1 H := by
    refine ⟨s2, fun v d m => ?_, fun p u m => (nomatch m), List.nodup_nil⟩
    cases hp v d m with
    | hs h => exact (h.rp ok).mono s1
    | @own p ds m2 =>
      obtain ⟨_, o, ho, xs, e1, r⟩ := ok.own p _ m2
      subst e1
      refine .lst ?_ (r.mono s1)
      rw [hS1]
      rw [if_pos (show p ∈ dom O from List.mem_map.mpr ⟨(p, OD.lst ds), m2, rfl⟩)]
      exact ho
  have back : ∀ z S' H', Stp [] S1 H z S' H' → OkS K ⟨F, O⟩ S H' ∧ Stp O S H O S H' := fun z S' H' st =>
    ⟨⟨fun a o h => st.keep a o (ok.sub a o h) (by simp [dom]), ok.fac, fun p u m => by
      obtain ⟨n1, o, ho, r⟩ := ok.own p u m
      exact ⟨n1, o, st.keep p o ho (by simp [dom]), r⟩, ok.nd⟩,
     ⟨fun a o h _ => st.keep a o h (by simp [dom]), st.live, Sub.refl S, fun a o h => .inl ⟨o, h⟩, fun p m => .inl m⟩⟩
  refine h S1 H ok1 Q E (fun r z S' H' ok' st' f => ?_) fun c z S' H' ok' st' f => ?_
  · obtain ⟨b1, b2⟩ := back _ _ _ st'
    exact q r _ S H' b1 b2 f
  · obtain ⟨b1, b2⟩ := back _ _ _ st'
    exact e c _ S H' b1 b2 f
/-- what a def hands back, the state behind in a chosen form -/
def retW (Φ : V → Sy → Prop) : Fl → Sy → Prop
  | .nx _, z => ∃ y2 : Sy, (∀ e, e ∈ y2.F → e ∈ z.F) ∧ y2.O.Sublist z.O ∧ Φ .non y2
  | .rt v, z => ∃ y2 : Sy, (∀ e, e ∈ y2.F → e ∈ z.F) ∧ y2.O.Sublist z.O ∧ Φ v y2
  | _, _ => False
theorem rw_rt {Φ : V → Sy → Prop} {v : V} {F F2 : List (V × Dt)} {O O2 : List (Addr × OD)} [a : SubF F2 F] [b : SubO O2 O] (h : Φ v ⟨F2, O2⟩) : retW Φ (.rt v) ⟨F, O⟩ := ⟨⟨F2, O2⟩, a.h, b.h, h⟩
theorem rw_F {Φ : V → Sy → Prop} {v : V} {F F2 : List (V × Dt)} {O : List (Addr × OD)} [a : SubF F2 F] (h : Φ v ⟨F2, O⟩) : retW Φ (.rt v) ⟨F, O⟩ := ⟨⟨F2, O⟩, a.h, List.Sublist.refl _, h⟩
theorem rw_H {Φ : V → Sy → Prop} {v : V} {F F1 F2 : List (V × Dt)} {O : List (Addr × OD)} (hF : ∀ e, e ∈ F1 → e ∈ F) [a : SubF F2 F1] (h : Φ v ⟨F2, O⟩) : retW Φ (.rt v) ⟨F, O⟩ := ⟨⟨F2, O⟩, fun e m => hF e (a.h e m), List.Sublist.refl _, h⟩
theorem rw_G {Φ : V → Sy → Prop} {v : V} {F F1 F2 : List (V × Dt)} {O : List (Addr × OD)} (hF : ∀ e, e ∈ F2 → e ∈ F1) [a : SubF F1 F] (h : Φ v ⟨F2, O⟩) : retW Φ (.rt v) ⟨F, O⟩ := ⟨⟨F2, O⟩, fun e m => a.h e (hF e m), List.Sublist.refl _, h⟩
theorem rw_nx {Φ : V → Sy → Prop} {σ : L2.St} {F F2 : List (V × Dt)} {O O2 : List (Addr × OD)} [a : SubF F2 F] [b : SubO O2 O] (h : Φ .non ⟨F2, O2⟩) : retW Φ (.nx σ) ⟨F, O⟩ := ⟨⟨F2, O2⟩, a.h, b.h, h⟩
end
theorem fn_w {P : Program} {w : World} {K : PySem.W.Frag} {mg : Str → Option Value} {base : Heap} {k : Nat} {x qual : Str} {st : Stmt} {f : Addr} {fd : FuncData} {N ps : List Str} {vb lb : List Bool} {gs : List Str} {n : Nat} {R : RY} (F : Fun K x qual st f fd) (Sc : FnScope N ps (defScope st)) (hn : ps.length = n) (ck : chkT (defScope st) N vb lb gs = true)
    (body : ∀ X y vs Φ Ψ, Cn P w K mg base k N (defScope st) vb lb gs X → vs.length = n → R vs y Φ Ψ → Lift K (wSs X (defBody st) (start N vs)) y (retW Φ) Ψ) : FnOk P w K mg base (L2.CX P w) (k + 1) f fd ps (SpY K n R) := by
  refine fn_y F Sc hn ck fun X y vs Φ Ψ C hl h => Lift.post ((body X y vs Φ Ψ C hl h).mono (fun f z g => ?_) fun _ _ g => g)
  cases f with
  | nx s => exact g
  | rt v => exact g
  | bk s => exact g.elim
  | ct s => exact g.elim

/-! ### calls by name -/
class Bn (mg : Str → Option Value) (x : Str) : Prop where
  h : mg x = none
class Cl (P : outParam Program) (w : outParam World) (K : outParam PySem.W.Frag) (mg : Str → Option Value) (base : outParam Heap) (x : Str) (k : outParam Nat) (n : outParam Nat) (R : outParam RY) : Prop where
  h : Cal P w K mg base x k n R
section
variable {P : Program} {w : World} {K : PySem.W.Frag} {mg : Str → Option Value} {base : Heap} {k : Nat} {N : List Str} {sc : Scope} {vb lb : List Bool} {gs : List Str} {X : Cx} {y : Sy} {σ : L2.St} {Ψ : Value → Sy → Prop} {x : Str} {e a b c : Expr} {es : List Expr} {p pos pos' p2 : Pos} {rest : List Stmt} {F : List (V × Dt)} {O : List (Addr × OD)} {Φ : V → Sy → Prop}
instance [C : Cn P w K mg base k N sc vb lb gs X] {n : Nat} {R : RY} [G : Cl P w K mg base x k n R] [hg : GIn x gs] [m : NoStar e] [m2 : NoStars es] : Step (Lift K (wE X (.Call (.Name x p) (e :: es) [] pos) σ) y Φ Ψ) (Lift K (wA X (e :: es) σ) y (fun vs y1 => vs.length = n ∧ R vs y1 Φ Ψ) Ψ) :=
  ⟨l_call C G.h (Nat.le_refl _) hg.h (m.h _ _) (NoStars.b _ _)⟩
instance [C : Cn P w K mg base k N sc vb lb gs X] {R : RY} [G : Cl P w K mg base x k 0 R] [hg : GIn x gs] : Step (Lift K (wE X (.Call (.Name x p) [] [] pos) σ) y Φ Ψ) (R [] y Φ Ψ) := ⟨l_call0 C G.h (Nat.le_refl _) hg.h⟩
/-- a list and what is done with it behind: it stands -/
theorem Step.stand {v : V} {Φ2 : Sy → Prop} {F : List (V × Dt)} {O : List (Addr × OD)} (h : Φ2 ⟨F, O⟩) : Φ2 ⟨F, O⟩ := h

theorem bb_len : bootBuiltins ("len" : Str) = some (.builtin "len") := by first | rfl | decide +kernel
instance [C : Cn P w K mg base k N sc vb lb gs X] [bn : Bn mg "len"] [hg : GIn "len" gs] [m : NoStar e] [m2 : NoStars es] : Step (Lift K (wE X (.Call (.Name "len" p) (e :: es) [] pos) σ) y Φ Ψ) (Lift K (wA X (e :: es) σ) y (fun vs y1 => Lift K (wC X (.builtin "len") vs) y1 Φ Ψ) Ψ) := ⟨l_callB C hg.h bn.h bb_len (by decide) (m.h _ _) (NoStars.b _ _)⟩
theorem bb_isinstance : bootBuiltins ("isinstance" : Str) = some (.builtin "isinstance") := by first | rfl | decide +kernel
instance [C : Cn P w K mg base k N sc vb lb gs X] [bn : Bn mg "isinstance"] [hg : GIn "isinstance" gs] [m : NoStar e] [m2 : NoStars es] : Step (Lift K (wE X (.Call (.Name "isinstance" p) (e :: es) [] pos) σ) y Φ Ψ) (Lift K (wA X (e :: es) σ) y (fun vs y1 => Lift K (wC X (.builtin "isinstance") vs) y1 Φ Ψ) Ψ) := ⟨l_callB C hg.h bn.h bb_isinstance (by decide) (m.h _ _) (NoStars.b _ _)⟩
theorem bb_abs : bootBuiltins ("abs" : Str) = some (.builtin "abs") := by first | rfl | decide +kernel
instance [C : Cn P w K mg base k N sc vb lb gs X] [bn : Bn mg "abs"] [hg : GIn "abs" gs] [m : NoStar e] [m2 : NoStars es] : Step (Lift K (wE X (.Call (.Name "abs" p) (e :: es) [] pos) σ) y Φ Ψ) (Lift K (wA X (e :: es) σ) y (fun vs y1 => Lift K (wC X (.builtin "abs") vs) y1 Φ Ψ) Ψ) := ⟨l_callB C hg.h bn.h bb_abs (by decide) (m.h _ _) (NoStars.b _ _)⟩
theorem bb_max : bootBuiltins ("max" : Str) = some (.builtin "max") := by first | rfl | decide +kernel
instance [C : Cn P w K mg base k N sc vb lb gs X] [bn : Bn mg "max"] [hg : GIn "max" gs] [m : NoStar e] [m2 : NoStars es] : Step (Lift K (wE X (.Call (.Name "max" p) (e :: es) [] pos) σ) y Φ Ψ) (Lift K (wA X (e :: es) σ) y (fun vs y1 => Lift K (wC X (.builtin "max") vs) y1 Φ Ψ) Ψ) := ⟨l_callB C hg.h bn.h bb_max (by decide) (m.h _ _) (NoStars.b _ _)⟩
theorem bb_min : bootBuiltins ("min" : Str) = some (.builtin "min") := by first | rfl | decide +kernel
instance [C : Cn P w K mg base k N sc vb lb gs X] [bn : Bn mg "min"] [hg : GIn "min" gs] [m : NoStar e] [m2 : NoStars es] : Step (Lift K (wE X (.Call (.Name "min" p) (e :: es) [] pos) σ) y Φ Ψ) (Lift K (wA X (e :: es) σ) y (fun vs y1 => Lift K (wC X (.builtin "min") vs) y1 Φ Ψ) Ψ) := ⟨l_callB C hg.h bn.h bb_min (by decide) (m.h _ _) (NoStars.b _ _)⟩
theorem bb_sum : bootBuiltins ("sum" : Str) = some (.builtin "sum") := by first | rfl | decide +kernel
instance [C : Cn P w K mg base k N sc vb lb gs X] [bn : Bn mg "sum"] [hg : GIn "sum" gs] [m : NoStar e] [m2 : NoStars es] : Step (Lift K (wE X (.Call (.Name "sum" p) (e :: es) [] pos) σ) y Φ Ψ) (Lift K (wA X (e :: es) σ) y (fun vs y1 => Lift K (wC X (.builtin "sum") vs) y1 Φ Ψ) Ψ) := ⟨l_callB C hg.h bn.h bb_sum (by decide) (m.h _ _) (NoStars.b _ _)⟩
theorem bb_sorted : bootBuiltins ("sorted" : Str) = some (.builtin "sorted") := by first | rfl | decide +kernel
instance [C : Cn P w K mg base k N sc vb lb gs X] [bn : Bn mg "sorted"] [hg : GIn "sorted" gs] [m : NoStar e] [m2 : NoStars es] : Step (Lift K (wE X (.Call (.Name "sorted" p) (e :: es) [] pos) σ) y Φ Ψ) (Lift K (wA X (e :: es) σ) y (fun vs y1 => Lift K (wC X (.builtin "sorted") vs) y1 Φ Ψ) Ψ) := ⟨l_callB C hg.h bn.h bb_sorted (by decide) (m.h _ _) (NoStars.b _ _)⟩
theorem bb_int : bootBuiltins ("int" : Str) = some (.type "int") := by first | rfl | decide +kernel
instance [C : Cn P w K mg base k N sc vb lb gs X] [bn : Bn mg "int"] [hg : GIn "int" gs] [m : NoStar e] [m2 : NoStars es] : Step (Lift K (wE X (.Call (.Name "int" p) (e :: es) [] pos) σ) y Φ Ψ) (Lift K (wA X (e :: es) σ) y (fun vs y1 => Lift K (wC X (.type "int") vs) y1 Φ Ψ) Ψ) := ⟨l_callTy C hg.h bn.h bb_int (by decide) (m.h _ _) (NoStars.b _ _)⟩
instance [C : Cn P w K mg base k N sc vb lb gs X] [bn : Bn mg "int"] [hg : GIn "int" gs] : Step (Lift K (wE X (.Name "int" pos) σ) y Φ Ψ) (Φ (.ty "int") y) := ⟨l_bltn C hg.h bn.h bb_int (by decide) rfl⟩
theorem bb_list : bootBuiltins ("list" : Str) = some (.type "list") := by first | rfl | decide +kernel
instance [C : Cn P w K mg base k N sc vb lb gs X] [bn : Bn mg "list"] [hg : GIn "list" gs] [m : NoStar e] [m2 : NoStars es] : Step (Lift K (wE X (.Call (.Name "list" p) (e :: es) [] pos) σ) y Φ Ψ) (Lift K (wA X (e :: es) σ) y (fun vs y1 => Lift K (wC X (.type "list") vs) y1 Φ Ψ) Ψ) := ⟨l_callTy C hg.h bn.h bb_list (by decide) (m.h _ _) (NoStars.b _ _)⟩
instance [C : Cn P w K mg base k N sc vb lb gs X] [bn : Bn mg "list"] [hg : GIn "list" gs] : Step (Lift K (wE X (.Name "list" pos) σ) y Φ Ψ) (Φ (.ty "list") y) := ⟨l_bltn C hg.h bn.h bb_list (by decide) rfl⟩
theorem bb_tuple : bootBuiltins ("tuple" : Str) = some (.type "tuple") := by first | rfl | decide +kernel
instance [C : Cn P w K mg base k N sc vb lb gs X] [bn : Bn mg "tuple"] [hg : GIn "tuple" gs] [m : NoStar e] [m2 : NoStars es] : Step (Lift K (wE X (.Call (.Name "tuple" p) (e :: es) [] pos) σ) y Φ Ψ) (Lift K (wA X (e :: es) σ) y (fun vs y1 => Lift K (wC X (.type "tuple") vs) y1 Φ Ψ) Ψ) := ⟨l_callTy C hg.h bn.h bb_tuple (by decide) (m.h _ _) (NoStars.b _ _)⟩
instance [C : Cn P w K mg base k N sc vb lb gs X] [bn : Bn mg "tuple"] [hg : GIn "tuple" gs] : Step (Lift K (wE X (.Name "tuple" pos) σ) y Φ Ψ) (Φ (.ty "tuple") y) := ⟨l_bltn C hg.h bn.h bb_tuple (by decide) rfl⟩
theorem bb_str : bootBuiltins ("str" : Str) = some (.type "str") := by first | rfl | decide +kernel
instance [C : Cn P w K mg base k N sc vb lb gs X] [bn : Bn mg "str"] [hg : GIn "str" gs] [m : NoStar e] [m2 : NoStars es] : Step (Lift K (wE X (.Call (.Name "str" p) (e :: es) [] pos) σ) y Φ Ψ) (Lift K (wA X (e :: es) σ) y (fun vs y1 => Lift K (wC X (.type "str") vs) y1 Φ Ψ) Ψ) := ⟨l_callTy C hg.h bn.h bb_str (by decide) (m.h _ _) (NoStars.b _ _)⟩
instance [C : Cn P w K mg base k N sc vb lb gs X] [bn : Bn mg "str"] [hg : GIn "str" gs] : Step (Lift K (wE X (.Name "str" pos) σ) y Φ Ψ) (Φ (.ty "str") y) := ⟨l_bltn C hg.h bn.h bb_str (by decide) rfl⟩
theorem bb_bool : bootBuiltins ("bool" : Str) = some (.type "bool") := by first | rfl | decide +kernel
instance [C : Cn P w K mg base k N sc vb lb gs X] [bn : Bn mg "bool"] [hg : GIn "bool" gs] [m : NoStar e] [m2 : NoStars es] : Step (Lift K (wE X (.Call (.Name "bool" p) (e :: es) [] pos) σ) y Φ Ψ) (Lift K (wA X (e :: es) σ) y (fun vs y1 => Lift K (wC X (.type "bool") vs) y1 Φ Ψ) Ψ) := ⟨l_callTy C hg.h bn.h bb_bool (by decide) (m.h _ _) (NoStars.b _ _)⟩
instance [C : Cn P w K mg base k N sc vb lb gs X] [bn : Bn mg "bool"] [hg : GIn "bool" gs] : Step (Lift K (wE X (.Name "bool" pos) σ) y Φ Ψ) (Φ (.ty "bool") y) := ⟨l_bltn C hg.h bn.h bb_bool (by decide) rfl⟩

instance [C : Cn P w K mg base k N sc vb lb gs X] {v : V} {ds : List Dt} [r : Rc F O v (.list ds)] : Step (Lift K (wC X (.builtin "len") [v]) ⟨F, O⟩ Φ Ψ) (Φ (.int (ds.length : Nat)) ⟨F, O⟩) := ⟨c_lenL r.h C.hK⟩
instance [C : Cn P w K mg base k N sc vb lb gs X] {v : V} {ds : List Dt} [r : Rc F O v (.tuple ds)] : Step (Lift K (wC X (.builtin "len") [v]) ⟨F, O⟩ Φ Ψ) (Φ (.int (ds.length : Nat)) ⟨F, O⟩) := ⟨c_lenT r.h C.hK⟩
instance [C : Cn P w K mg base k N sc vb lb gs X] {v : V} {ns : List Int} [r : Rc F O v (scrD ns)] : Step (Lift K (wC X (.builtin "len") [v]) ⟨F, O⟩ Φ Ψ) (Φ (.int (ns.length : Nat)) ⟨F, O⟩) := ⟨c_lenS r.h C.hK⟩
instance [C : Cn P w K mg base k N sc vb lb gs X] {i j : Int} : Step (Lift K (wC X (.builtin "max") [.int i, .int j]) y Φ Ψ) (Φ (.int (max i j)) y) := ⟨c_max C.calm⟩
instance [C : Cn P w K mg base k N sc vb lb gs X] {i j : Int} : Step (Lift K (wC X (.builtin "min") [.int i, .int j]) y Φ Ψ) (Φ (.int (min i j)) y) := ⟨c_min C.calm⟩
instance {i : Int} : Step (Lift K (wC X (.builtin "abs") [.int i]) y Φ Ψ) (Φ (.int (if i < 0 then -i else i)) y) := ⟨c_abs⟩
instance {b : Bool} : Step (Lift K (wC X (.type "int") [.bl b]) y Φ Ψ) (Φ (.int (if b then 1 else 0)) y) := ⟨c_intB⟩
/-- what is wanted of a new list -/
def NewL (Φ : V → Sy → Prop) (ds : List Dt) (y : Sy) : Prop := ∀ p, Φ (.ref p) ⟨y.F, (p, .lst ds) :: y.O⟩
instance [C : Cn P w K mg base k N sc vb lb gs X] {v : V} {ds : List Dt} [r : Rc F O v (.list ds)] : Step (Lift K (wC X (.type "list") [v]) ⟨F, O⟩ Φ Ψ) (NewL Φ ds ⟨F, O⟩) := ⟨c_listL r.h C.hK⟩
instance [C : Cn P w K mg base k N sc vb lb gs X] {v : V} {ds : List Dt} [r : Rc F O v (.tuple ds)] : Step (Lift K (wC X (.type "list") [v]) ⟨F, O⟩ Φ Ψ) (NewL Φ ds ⟨F, O⟩) := ⟨c_listT r.h C.hK⟩
class PowOk (i j : Int) (r : outParam Int) : Prop where
  c : CPow i j
  h : i ^ j.toNat = r
instance {i j r : Int} [m : PowOk i j r] : Step (Lift K (wO X (binaryOp .Pow) (.int i) (.int j)) y Φ Ψ) (Φ (.int r) y) := ⟨fun h => o_pow m.c (by rw [m.h]; exact h)⟩
instance : PowOk 10 3 1000 := ⟨⟨by decide, by decide, by decide⟩, by decide⟩
instance : PowOk 10 4 10000 := ⟨⟨by decide, by decide, by decide⟩, by decide⟩
instance : PowOk 10 5 100000 := ⟨⟨by decide, by decide, by decide⟩, by decide⟩
instance : PowOk 10 6 1000000 := ⟨⟨by decide, by decide, by decide⟩, by decide⟩
instance : PowOk 10 7 10000000 := ⟨⟨by decide, by decide, by decide⟩, by decide⟩
instance : PowOk 10 8 100000000 := ⟨⟨by decide, by decide, by decide⟩, by decide⟩
instance : PowOk 10 9 1000000000 := ⟨⟨by decide, by decide, by decide⟩, by decide⟩
instance : PowOk 10 10 10000000000 := ⟨⟨by decide, by decide, by decide⟩, by decide⟩
instance : PowOk 10 11 100000000000 := ⟨⟨by decide, by decide, by decide⟩, by decide⟩
instance : PowOk 10 12 1000000000000 := ⟨⟨by decide, by decide, by decide⟩, by decide⟩
instance : PowOk 10 13 10000000000000 := ⟨⟨by decide, by decide, by decide⟩, by decide⟩
instance : PowOk 10 14 100000000000000 := ⟨⟨by decide, by decide, by decide⟩, by decide⟩
instance : PowOk 10 15 1000000000000000 := ⟨⟨by decide, by decide, by decide⟩, by decide⟩
instance : PowOk 10 16 10000000000000000 := ⟨⟨by decide, by decide, by decide⟩, by decide⟩
instance : PowOk 10 17 100000000000000000 := ⟨⟨by decide, by decide, by decide⟩, by decide⟩
instance : PowOk 10 18 1000000000000000000 := ⟨⟨by decide, by decide, by decide⟩, by decide⟩
instance : PowOk 10 20 100000000000000000000 := ⟨⟨by decide, by decide, by decide⟩, by decide⟩
instance : PowOk 10 30 1000000000000000000000000000000 := ⟨⟨by decide, by decide, by decide⟩, by decide⟩
instance : PowOk 10 31 10000000000000000000000000000000 := ⟨⟨by decide, by decide, by decide⟩, by decide⟩
instance : PowOk 10 60 1000000000000000000000000000000000000000000000000000000000000 := ⟨⟨by decide, by decide, by decide⟩, by decide⟩
instance {p : Addr} {v : V} {d x0 : Dt} {l : List Dt} {Φ : Unit → Sy → Prop} [m : Hc F v d] : Step (Lift K (wSt X (.ref p) (.int 0) v) ⟨F, (p, .lst (x0 :: l)) :: O⟩ Φ Ψ) (Φ () ⟨F, (p, .lst (d :: l)) :: O⟩) := ⟨st_lst (ds := x0 :: l) (j := 0) m.h (by unfold ixN; rw [if_pos (by decide), if_pos (by rw [List.length_cons]; omega)]; rfl)⟩
instance {p : Addr} {v : V} {d x0 x1 : Dt} {l : List Dt} {Φ : Unit → Sy → Prop} [m : Hc F v d] : Step (Lift K (wSt X (.ref p) (.int 1) v) ⟨F, (p, .lst (x0 :: x1 :: l)) :: O⟩ Φ Ψ) (Φ () ⟨F, (p, .lst (x0 :: d :: l)) :: O⟩) := ⟨st_lst (ds := x0 :: x1 :: l) (j := 1) m.h (by unfold ixN; rw [if_pos (by decide), if_pos (by rw [List.length_cons, List.length_cons]; omega)]; rfl)⟩
instance {p : Addr} {v : V} {d x0 x1 x2 : Dt} {l : List Dt} {Φ : Unit → Sy → Prop} [m : Hc F v d] : Step (Lift K (wSt X (.ref p) (.int 2) v) ⟨F, (p, .lst (x0 :: x1 :: x2 :: l)) :: O⟩ Φ Ψ) (Φ () ⟨F, (p, .lst (x0 :: x1 :: d :: l)) :: O⟩) := ⟨st_lst (ds := x0 :: x1 :: x2 :: l) (j := 2) m.h (by unfold ixN; rw [if_pos (by decide), if_pos (by rw [List.length_cons, List.length_cons, List.length_cons]; omega)]; rfl)⟩
class IsT (d : Dt) (T : String) (b : outParam Bool) : Prop where
  n : noScr d = true
  h : kitB (tyN d) T = some b

theorem kt_NoneType_list : kitB "NoneType" "list" = some false := by decide +kernel
instance : IsT .none "list" false := ⟨rfl, kt_NoneType_list⟩
theorem kt_NoneType_tuple : kitB "NoneType" "tuple" = some false := by decide +kernel
instance : IsT .none "tuple" false := ⟨rfl, kt_NoneType_tuple⟩
theorem kt_NoneType_int : kitB "NoneType" "int" = some false := by decide +kernel
instance : IsT .none "int" false := ⟨rfl, kt_NoneType_int⟩
theorem kt_NoneType_bool : kitB "NoneType" "bool" = some false := by decide +kernel
instance : IsT .none "bool" false := ⟨rfl, kt_NoneType_bool⟩
theorem kt_NoneType_str : kitB "NoneType" "str" = some false := by decide +kernel
instance : IsT .none "str" false := ⟨rfl, kt_NoneType_str⟩
theorem kt_bool_list : kitB "bool" "list" = some false := by decide +kernel
instance (z : Bool) : IsT (.bool z) "list" false := ⟨rfl, kt_bool_list⟩
theorem kt_bool_tuple : kitB "bool" "tuple" = some false := by decide +kernel
instance (z : Bool) : IsT (.bool z) "tuple" false := ⟨rfl, kt_bool_tuple⟩
theorem kt_bool_int : kitB "bool" "int" = some true := by decide +kernel
instance (z : Bool) : IsT (.bool z) "int" true := ⟨rfl, kt_bool_int⟩
theorem kt_bool_bool : kitB "bool" "bool" = some true := by decide +kernel
instance (z : Bool) : IsT (.bool z) "bool" true := ⟨rfl, kt_bool_bool⟩
theorem kt_bool_str : kitB "bool" "str" = some false := by decide +kernel
instance (z : Bool) : IsT (.bool z) "str" false := ⟨rfl, kt_bool_str⟩
theorem kt_int_list : kitB "int" "list" = some false := by decide +kernel
instance (z : Int) : IsT (.int z) "list" false := ⟨rfl, kt_int_list⟩
theorem kt_int_tuple : kitB "int" "tuple" = some false := by decide +kernel
instance (z : Int) : IsT (.int z) "tuple" false := ⟨rfl, kt_int_tuple⟩
theorem kt_int_int : kitB "int" "int" = some true := by decide +kernel
instance (z : Int) : IsT (.int z) "int" true := ⟨rfl, kt_int_int⟩
theorem kt_int_bool : kitB "int" "bool" = some false := by decide +kernel
instance (z : Int) : IsT (.int z) "bool" false := ⟨rfl, kt_int_bool⟩
theorem kt_int_str : kitB "int" "str" = some false := by decide +kernel
instance (z : Int) : IsT (.int z) "str" false := ⟨rfl, kt_int_str⟩
theorem kt_str_list : kitB "str" "list" = some false := by decide +kernel
instance (z : Str) : IsT (.str z) "list" false := ⟨rfl, kt_str_list⟩
theorem kt_str_tuple : kitB "str" "tuple" = some false := by decide +kernel
instance (z : Str) : IsT (.str z) "tuple" false := ⟨rfl, kt_str_tuple⟩
theorem kt_str_int : kitB "str" "int" = some false := by decide +kernel
instance (z : Str) : IsT (.str z) "int" false := ⟨rfl, kt_str_int⟩
theorem kt_str_bool : kitB "str" "bool" = some false := by decide +kernel
instance (z : Str) : IsT (.str z) "bool" false := ⟨rfl, kt_str_bool⟩
theorem kt_str_str : kitB "str" "str" = some true := by decide +kernel
instance (z : Str) : IsT (.str z) "str" true := ⟨rfl, kt_str_str⟩
theorem kt_list_list : kitB "list" "list" = some true := by decide +kernel
instance (z : List Dt) : IsT (.list z) "list" true := ⟨rfl, kt_list_list⟩
theorem kt_list_tuple : kitB "list" "tuple" = some false := by decide +kernel
instance (z : List Dt) : IsT (.list z) "tuple" false := ⟨rfl, kt_list_tuple⟩
theorem kt_list_int : kitB "list" "int" = some false := by decide +kernel
instance (z : List Dt) : IsT (.list z) "int" false := ⟨rfl, kt_list_int⟩
theorem kt_list_bool : kitB "list" "bool" = some false := by decide +kernel
instance (z : List Dt) : IsT (.list z) "bool" false := ⟨rfl, kt_list_bool⟩
theorem kt_list_str : kitB "list" "str" = some false := by decide +kernel
instance (z : List Dt) : IsT (.list z) "str" false := ⟨rfl, kt_list_str⟩
theorem kt_tuple_list : kitB "tuple" "list" = some false := by decide +kernel
instance (z : List Dt) : IsT (.tuple z) "list" false := ⟨rfl, kt_tuple_list⟩
theorem kt_tuple_tuple : kitB "tuple" "tuple" = some true := by decide +kernel
instance (z : List Dt) : IsT (.tuple z) "tuple" true := ⟨rfl, kt_tuple_tuple⟩
theorem kt_tuple_int : kitB "tuple" "int" = some false := by decide +kernel
instance (z : List Dt) : IsT (.tuple z) "int" false := ⟨rfl, kt_tuple_int⟩
theorem kt_tuple_bool : kitB "tuple" "bool" = some false := by decide +kernel
instance (z : List Dt) : IsT (.tuple z) "bool" false := ⟨rfl, kt_tuple_bool⟩
theorem kt_tuple_str : kitB "tuple" "str" = some false := by decide +kernel
instance (z : List Dt) : IsT (.tuple z) "str" false := ⟨rfl, kt_tuple_str⟩
theorem kt_dict_list : kitB "dict" "list" = some false := by decide +kernel
instance : IsT (.dict []) "list" false := ⟨rfl, kt_dict_list⟩
theorem kt_dict_tuple : kitB "dict" "tuple" = some false := by decide +kernel
instance : IsT (.dict []) "tuple" false := ⟨rfl, kt_dict_tuple⟩
theorem kt_dict_int : kitB "dict" "int" = some false := by decide +kernel
instance : IsT (.dict []) "int" false := ⟨rfl, kt_dict_int⟩
theorem kt_dict_bool : kitB "dict" "bool" = some false := by decide +kernel
instance : IsT (.dict []) "bool" false := ⟨rfl, kt_dict_bool⟩
theorem kt_dict_str : kitB "dict" "str" = some false := by decide +kernel
instance : IsT (.dict []) "str" false := ⟨rfl, kt_dict_str⟩

instance [C : Cn P w K mg base k N sc vb lb gs X] {v : V} {d : Dt} {T : String} {b : Bool} [r : Rc F O v d] [i : IsT d T b] : Step (Lift K (wC X (.builtin "isinstance") [v, .ty T]) ⟨F, O⟩ Φ Ψ) (Φ (.bl b) ⟨F, O⟩) := ⟨c_isi r.h i.n i.h C.hK⟩
end

/-! ### walks by name -/
section
variable {P : Program} {w : World} {K : PySem.W.Frag} {mg : Str → Option Value} {base : Heap} {k : Nat} {N : List Str} {sc : Scope} {vb lb : List Bool} {gs : List Str} {X : Cx} {y : Sy} {σ : L2.St} {Ψ : Value → Sy → Prop} {x : Str} {e a b c tg iter : Expr} {es : List Expr} {p pos pos' p2 : Pos} {rest : List Stmt} {F : List (V × Dt)} {O : List (Addr × OD)} {Φ : It → Sy → Prop}
def Rng1 (K : PySem.W.Frag) (Φ : It → Sy → Prop) (vs : List V) (y : Sy) : Prop := ∃ j : Int, vs = [.int j] ∧ j ≤ 1000000 ∧ -1000000 ≤ j ∧ ∀ J, Sr K J y (rngD 0 j.toNat) → Φ J y
def Rng2 (K : PySem.W.Frag) (Φ : It → Sy → Prop) (vs : List V) (y : Sy) : Prop := ∃ i j : Int, vs = [.int i, .int j] ∧ (-(2 ^ 62) ≤ i ∧ i < 2 ^ 62 ∧ -(2 ^ 62) ≤ j ∧ j < 2 ^ 62) ∧ ∀ J, Sr K J y (rngD i (j - i).toNat) → Φ J y
instance [C : Cn P w K mg base k N sc vb lb gs X] [bn : Bn mg "range"] [hg : GIn "range" gs] [m : NoStar a] : Step (Lift K (wI X tg (.Call (.Name "range" p) [a] [] pos) σ) y Φ Ψ) (Lift K (wA X [a] σ) y (Rng1 K Φ) Ψ) := ⟨i_range1 C hg.h bn.h (m.h _ _)⟩
instance [C : Cn P w K mg base k N sc vb lb gs X] [bn : Bn mg "range"] [hg : GIn "range" gs] [m : NoStar a] [m2 : NoStar b] : Step (Lift K (wI X tg (.Call (.Name "range" p) [a, b] [] pos) σ) y Φ Ψ) (Lift K (wA X [a, b] σ) y (Rng2 K Φ) Ψ) := ⟨i_range2 C hg.h bn.h (by rw [m.h, m2.h]; rfl) (m2.h _ _)⟩
instance {j : Int} : Step (Rng1 K Φ [.int j] y) (j ≤ 1000000 ∧ -1000000 ≤ j ∧ ∀ J, Sr K J y (rngD 0 j.toNat) → Φ J y) := ⟨fun h => ⟨j, rfl, h⟩⟩
instance {i j : Int} : Step (Rng2 K Φ [.int i, .int j] y) ((-(2 ^ 62) ≤ i ∧ i < 2 ^ 62 ∧ -(2 ^ 62) ≤ j ∧ j < 2 ^ 62) ∧ ∀ J, Sr K J y (rngD i (j - i).toNat) → Φ J y) := ⟨fun h => ⟨i, j, rfl, h⟩⟩
def SeqL (K : PySem.W.Frag) (Φ : It → Sy → Prop) (v : V) (y : Sy) : Prop := ∃ ds, Hs y.F v (.list ds) ∧ ∀ J, Sr K J y ds → Φ J y
def SeqT (K : PySem.W.Frag) (Φ : It → Sy → Prop) (v : V) (y : Sy) : Prop := ∃ ds, Hs y.F v (.tuple ds) ∧ ∀ J, Sr K J y ds → Φ J y
instance (priority := low) [C : Cn P w K mg base k N sc vb lb gs X] : Step (Lift K (wI X tg iter σ) y Φ Ψ) (Lift K (wE X iter σ) y (SeqL K Φ) Ψ) := ⟨i_list C.hK⟩
instance [C : Cn P w K mg base k N sc vb lb gs X] {kk : Nat} : Step (Lift K (wI X tg (.Tuple es kk pos) σ) y Φ Ψ) (Lift K (wE X (.Tuple es kk pos) σ) y (SeqT K Φ) Ψ) := ⟨i_tup C.hK⟩
instance {v : V} {ds : List Dt} [m : Hc F v (.list ds)] : Step (SeqL K Φ v ⟨F, O⟩) (∀ J, Sr K J ⟨F, O⟩ ds → Φ J ⟨F, O⟩) := ⟨fun h => ⟨ds, m.h, h⟩⟩
instance {v : V} {ds : List Dt} [m : Hc F v (.tuple ds)] : Step (SeqT K Φ v ⟨F, O⟩) (∀ J, Sr K J ⟨F, O⟩ ds → Φ J ⟨F, O⟩) := ⟨fun h => ⟨ds, m.h, h⟩⟩
def ZipK (K : PySem.W.Frag) (Φ : It → Sy → Prop) (vs : List V) (y : Sy) : Prop := ∃ v u ds es, vs = [v, u] ∧ Hs y.F v (.list ds) ∧ Hs y.F u (.list es) ∧ ∀ J, Sr K J y (zipD ds es) → Φ J y
def EnuK (K : PySem.W.Frag) (Φ : It → Sy → Prop) (vs : List V) (y : Sy) : Prop := ∃ v ds, vs = [v] ∧ Hs y.F v (.list ds) ∧ ∀ J, Sr K J y (enumD ds) → Φ J y
instance [C : Cn P w K mg base k N sc vb lb gs X] [bn : Bn mg "zip"] [hg : GIn "zip" gs] [m : NoStar a] [m2 : NoStar b] {kk : Nat} : Step (Lift K (wI X (.Tuple es kk p2) (.Call (.Name "zip" p) [a, b] [] pos) σ) y Φ Ψ) (Lift K (wA X [a, b] σ) y (ZipK K Φ) Ψ) := ⟨i_zip C hg.h bn.h (m.h _ _) (NoStars.b _ _)⟩
instance [C : Cn P w K mg base k N sc vb lb gs X] [bn : Bn mg "enumerate"] [hg : GIn "enumerate" gs] [m : NoStar a] {kk : Nat} : Step (Lift K (wI X (.Tuple es kk p2) (.Call (.Name "enumerate" p) [a] [] pos) σ) y Φ Ψ) (Lift K (wA X [a] σ) y (EnuK K Φ) Ψ) := ⟨i_enum C hg.h bn.h (m.h _ _)⟩
instance {v u : V} {ds es : List Dt} [m : Hc F v (.list ds)] [m2 : Hc F u (.list es)] : Step (ZipK K Φ [v, u] ⟨F, O⟩) (∀ J, Sr K J ⟨F, O⟩ (zipD ds es) → Φ J ⟨F, O⟩) := ⟨fun h => ⟨v, u, ds, es, rfl, m.h, m2.h, h⟩⟩
instance {v : V} {ds : List Dt} [m : Hc F v (.list ds)] : Step (EnuK K Φ [v] ⟨F, O⟩) (∀ J, Sr K J ⟨F, O⟩ (enumD ds) → Φ J ⟨F, O⟩) := ⟨fun h => ⟨v, ds, rfl, m.h, h⟩⟩
end
section
variable {P : Program} {w : World} {K : PySem.W.Frag} {mg : Str → Option Value} {base : Heap} {k : Nat} {N : List Str} {sc : Scope} {vb lb : List Bool} {gs : List Str} {X : Cx} {y : Sy} {σ : L2.St} {Ψ : Value → Sy → Prop} {rest : List Stmt} {F : List (V × Dt)} {O : List (Addr × OD)} {e a : Expr} {pos p2 : Pos}
instance {Iv : L2.St → Sy → Prop} {Φ : Fl → Sy → Prop} : Step (loopK X K Iv rest Φ Ψ (.nx σ) y) (Iv σ y) := ⟨fun h => h⟩
instance {Iv : L2.St → Sy → Prop} {Φ : Fl → Sy → Prop} : Step (loopK X K Iv rest Φ Ψ (.ct σ) y) (Iv σ y) := ⟨fun h => h⟩
instance {Iv : L2.St → Sy → Prop} {Φ : Fl → Sy → Prop} : Step (loopK X K Iv rest Φ Ψ (.bk σ) y) (Lift K (wSs X rest σ) y Φ Ψ) := ⟨fun h => h⟩
instance {Iv : L2.St → Sy → Prop} {Φ : Fl → Sy → Prop} {v : V} : Step (loopK X K Iv rest Φ Ψ (.rt v) y) (Φ (.rt v) y) := ⟨fun h => h⟩
instance {Φ : Fl → Sy → Prop} : Step (seqK X K rest Φ Ψ (.bk σ) y) (Φ (.bk σ) y) := ⟨fun h => h⟩
instance {Φ : Fl → Sy → Prop} : Step (seqK X K rest Φ Ψ (.ct σ) y) (Φ (.ct σ) y) := ⟨fun h => h⟩
instance {Φ : Bool → Sy → Prop} : Step (Lift K (wTs X [] σ) y Φ Ψ) (Φ true y) := ⟨ts_nil⟩
instance {Φ : Bool → Sy → Prop} : Step (Lift K (wTs X [e] σ) y Φ Ψ) (Lift K (wT X e σ) y Φ Ψ) := ⟨ts_one⟩
instance [C : Cn P w K mg base k N sc vb lb gs X] {v : V} {ds : List Dt} {lo hi : Option Int} {Φ : V → Sy → Prop} [r : Rc F O v (.list ds)] : Step (Lift K (wSl X v lo hi) ⟨F, O⟩ Φ Ψ) (∀ p, Φ (.ref p) ⟨(.ref p, .list (cutG ds lo hi)) :: F, O⟩) := ⟨sl_lst r.h C.hK⟩
/-- xs.append(e) -/
def AppK (K : PySem.W.Frag) (X : Cx) (e : Expr) (σ : L2.St) (id : String) (Φ : V → Sy → Prop) (Ψ : Value → Sy → Prop) (v : V) (y : Sy) : Prop := ∃ ds, Rb y v (.list ds) ∧ Lift K (wA X [e] σ) y (fun us y2 => Lift K (wM X id v us) y2 Φ Ψ) Ψ
instance [C : Cn P w K mg base k N sc vb lb gs X] {Φ : V → Sy → Prop} [m : NoStar e] [m2 : NoSuper a] {l c el ec c' el' ec' : Nat} : Step (Lift K (wE X (.Call (.Attribute a "append" ⟨l, c, el, ec⟩) [e] [] ⟨el, c', el', ec'⟩) σ) y Φ Ψ) (Lift K (wE X a σ) y (AppK K X e σ "list.append" Φ Ψ) Ψ) := ⟨l_methL C PySem.F.slot_list_append PySem.F.type_list_append (m2.h _ _) (by
    rw [backTo_all, m.h]
    rfl) (by show (el == el) = true; exact beq_self_eq_true _) (m.h _ _)⟩
instance {v : V} {ds : List Dt} [r : Rc F O v (.list ds)] {id : String} {Φ : V → Sy → Prop} : Step (AppK K X e σ id Φ Ψ v ⟨F, O⟩) (Lift K (wA X [e] σ) ⟨F, O⟩ (fun us y2 => Lift K (wM X id v us) y2 Φ Ψ) Ψ) := ⟨fun h => ⟨ds, r.h, h⟩⟩
class Sm (n : Nat) (vs : List V) : Prop where
  h : vs.length ≤ n
instance (n : Nat) : Sm n [] := ⟨Nat.zero_le _⟩
instance (n : Nat) (v : V) (vs : List V) [m : Sm n vs] : Sm (n + 1) (v :: vs) := ⟨Nat.succ_le_succ m.h⟩
def LstO (Φ : V → Sy → Prop) (vs : List V) (y : Sy) : Prop := ∃ ds, HsA y.F vs ds ∧ ds.length ≤ 1000000 ∧ ∀ p, Φ (.ref p) ⟨y.F, (p, .lst ds) :: y.O⟩
theorem l_lstOK {es : List Expr} {Φ : V → Sy → Prop} (h : Lift K (wA X es σ) y (LstO Φ) Ψ) : Lift K (wE X (.List es pos) σ) y Φ Ψ := l_lstO h
instance (priority := high) {Φ : V → Sy → Prop} {vs : List V} {ds : List Dt} [m : HcA F vs ds] [s : Sm 64 vs] : Step (LstK Φ vs ⟨F, O⟩) (∀ p, Φ (.ref p) ⟨(.ref p, .list ds) :: F, O⟩) := ⟨fun h => ⟨ds, m.h, by rw [m.h.len]; exact Nat.le_trans s.h (by decide), h⟩⟩
instance (priority := high) {Φ : V → Sy → Prop} {vs : List V} {ds : List Dt} [m : HcA F vs ds] [s : Sm 64 vs] : Step (TupK Φ vs ⟨F, O⟩) (∀ p, Φ (.ref p) ⟨(.ref p, .tuple ds) :: F, O⟩) := ⟨fun h => ⟨ds, m.h, by rw [m.h.len]; exact Nat.le_trans s.h (by decide), h⟩⟩
instance (priority := high) {Φ : V → Sy → Prop} {vs : List V} {ds : List Dt} [m : HcA F vs ds] [s : Sm 64 vs] : Step (LstO Φ vs ⟨F, O⟩) (∀ p, Φ (.ref p) ⟨F, (p, .lst ds) :: O⟩) := ⟨fun h => ⟨ds, m.h, by rw [m.h.len]; exact Nat.le_trans s.h (by decide), h⟩⟩
end

/-! ### == of data -/
def intsD (ns : List Int) : Dt := .list (ns.map .int)
theorem plain_ints : ∀ ns : List Int, plainD.plainA (ns.map PyData.int) = true
  | [] => rfl
  | _ :: r => by
    show (plainD (.int _) && plainD.plainA (r.map PyData.int)) = true
    rw [plain_ints r]
    rfl
theorem eqv_ints : ∀ ns ms : List Int, PyData.eqvAll (ns.map PyData.int) (ms.map PyData.int) = decide (ns = ms)
  | [], [] => by rfl
  | [], _ :: _ => by
    rw [decide_eq_false (by simp)]
    rfl
  | _ :: _, [] => by
    rw [decide_eq_false (by simp)]
    rfl
  | n :: r, m :: t => by
    show (PyData.eqv (.int n) (.int m) && PyData.eqvAll (r.map PyData.int) (t.map PyData.int)) = _
    rw [eqv_ints r t]
    show ((n == m) && _) = _
    by_cases h : n = m
    · subst h
      simp
    · simp [h]
end Yl

namespace Yl
open PySem PySem.Spec PyProof.Rows L2
/-- what a comprehension asks of what it goes through -/
def LcB (P : Program) (w : World) (K : PySem.W.Frag) (mg : Str → Option Value) (base : Heap) (k : Nat) (N : List Str) (sc : Scope) (vb lb : List Bool) (gs : List Str) (tg : Expr) (ifs : List Expr) (elt : Expr) (σw : L2.St) (vs : List Nat) (Φ : V → Sy → Prop) (J : It) (y1 : Sy) : Prop :=
  ∃ es, Sr K J y1 es ∧ es.length ≤ 1000000 ∧ ∃ Iv : Nat → List Dt → Sy → Prop, Iv 0 [] y1 ∧
      (∀ i d acc y' x, es[i]? = some d → Iv i acc y' → ∀ X1, Cn P w K mg base k N sc vb lb gs X1 → Lift K (wG X1 tg x σw) ⟨(x, d) :: y'.F, y'.O⟩ (fun σ2 y2 => wipe σ2 vs = σw ∧
        ∀ X2, Cn P w K mg base k N sc vb lb gs X2 → Lift K (wTs X2 ifs σ2) y2 (fun b y3 =>
          (b = true → ∀ X3, Cn P w K mg base k N sc vb lb gs X3 → Lift K (wE X3 elt σ2) y3 (fun v y4 => ∃ u, Hs y4.F v u ∧ Iv (i + 1) (acc ++ [u]) y4) F0) ∧ (b = false → Iv (i + 1) acc y3)) F0) F0) ∧
      (∀ acc y', acc.length ≤ es.length → Iv es.length acc y' → ∀ p, Φ (.ref p) ⟨y'.F, (p, .lst acc) :: y'.O⟩)
/-- the slots of a block's own names, forgotten -/
class SetN (j : Nat) (σ : L2.St) (σ' : outParam L2.St) : Prop where
  h : σ.set j none = σ'
instance (u : Option V) (σ : L2.St) : SetN 0 (u :: σ) (none :: σ) := ⟨rfl⟩
instance (j : Nat) (u : Option V) (σ σ' : L2.St) [m : SetN j σ σ'] : SetN (j + 1) (u :: σ) (u :: σ') := ⟨by rw [List.set_cons_succ, m.h]⟩
class Wi (vs : List Nat) (σ : L2.St) (σ' : outParam L2.St) : Prop where
  h : wipe σ vs = σ'
instance (σ : L2.St) : Wi [] σ σ := ⟨rfl⟩
instance (j : Nat) (vs : List Nat) (σ σ1 σ2 : L2.St) [a : Wi vs σ σ1] [b : SetN j σ1 σ2] : Wi (j :: vs) σ σ2 := ⟨by
  show (wipe σ vs).set j none = σ2
  rw [a.h, b.h]⟩
section
variable {P : Program} {w : World} {K : PySem.W.Frag} {mg : Str → Option Value} {base : Heap} {k : Nat} {N : List Str} {sc : Scope} {vb lb : List Bool} {gs : List Str} {X : Cx} {y : Sy} {σ σw : L2.St} {Ψ : Value → Sy → Prop} {pos : Pos} {rest : List Stmt} {F : List (V × Dt)} {O : List (Addr × OD)}
theorem l_lcB {Φ : V → Sy → Prop} {tg iter elt : Expr} {ifs : List Expr} {scope : Scope} (own : List (Str × Nat)) (vs : List Nat) (vb' lb' : List Bool) (gs' : List Str) (C : Cn P w K mg base k N sc vb lb gs X) (hv : own.map (·.2) = vs) (ok : blkC N sc scope own = true) (ck : chkB (relS scope sc) N vb' lb' gs' = true) [nf : NoFold iter] [wi : Wi vs σ σw]
    (h : Lift K (wI X tg iter σ) y (LcB P w K mg base k N (relS scope sc) vb' lb' gs' tg ifs elt σw vs Φ) Ψ) : Lift K (wE X (.ListComp elt [⟨tg, iter, ifs, 0⟩] scope pos) σ) y Φ Ψ := by
  subst hv
  refine l_lc C ok ck (nf.h _) (h.mono (fun J y1 q => ?_) fun _ _ q => q)
  unfold LcB at q
  rw [← wi.h] at q
  exact q
theorem s_lcB {Φ : Fl → Sy → Prop} {x : Str} {tg iter elt : Expr} {ifs : List Expr} {scope : Scope} {py spos : Pos} {f : V → L2.St} (own : List (Str × Nat)) (vs : List Nat) (vb' lb' : List Bool) (gs' : List Str) (C : Cn P w K mg base k N sc vb lb gs X) (hyl : locL sc x = true) (hv : own.map (·.2) = vs) (ok : blkC N sc scope own = true) (ck : chkB (relS scope sc) N vb' lb' gs' = true)
    (hl : (py.line == pos.line) = true) (hn : (scope.names.any fun (n, k) => n == x && (k == .local || k == .cell)) = false) [L : Se x N lb σ f] [nf : NoFold iter] [wi : Wi vs σ σw]
    (h : Lift K (wI X tg iter σ) y (LcB P w K mg base k N (relS scope sc) vb' lb' gs' tg ifs elt σw vs (fun v y1 => Lift K (wSs X rest (f v)) y1 Φ Ψ)) Ψ) :
    Lift K (wSs X (.Assign [.Name x py] (.ListComp elt [⟨tg, iter, ifs, 0⟩] scope pos) spos :: rest) σ) y Φ Ψ := by
  subst hv
  obtain ⟨i, h1, _, h3⟩ := L.h
  refine s_lci i C h1 hyl ok ck hl hn (nf.h _) (h.mono (fun J y1 q => ?_) fun _ _ q => q)
  unfold LcB at q
  rw [← wi.h] at q
  rw [show (fun v y1 => Lift K (wSs X rest (f v)) y1 Φ Ψ) = fun v y1 => Lift K (wSs X rest (σ.set i (some v))) y1 Φ Ψ from funext fun v => by rw [h3]] at q
  exact q
/-- drawn ints: the pool at p turns, each item an int with A -/
theorem lcb_draw {tg elt : Expr} {vs : List Nat} {Φ : V → Sy → Prop} {J : It} {es : List Dt} {p : Addr} (A : Int → Prop) (B : Int) (c : Int) {u0 : OD}
    (sr : Sr K J ⟨F, (p, u0) :: O⟩ es) (hz : es.length ≤ 1000000) (Pl : Int → OD → Prop) (h0 : Pl c u0)
    (turn : ∀ i d x c' u, es[i]? = some d → c ≤ c' → c' ≤ c + B * (i : Nat) → Pl c' u → ∀ X1, Cn P w K mg base k N sc vb lb gs X1 → Lift K (wG X1 tg x σw) ⟨(x, d) :: F, (p, u) :: O⟩ (fun σ2 y2 => wipe σ2 vs = σw ∧
      ∀ X3, Cn P w K mg base k N sc vb lb gs X3 → Lift K (wE X3 elt σ2) y2 (fun v y4 => ∃ n c2 u2, v = .int n ∧ A n ∧ y4.O = (p, u2) :: O ∧ (∀ e, e ∈ F → e ∈ y4.F) ∧ c' ≤ c2 ∧ c2 ≤ c' + B ∧ Pl c2 u2) F0) F0)
    (done : ∀ (ns : List Int) c' u F' q, ns.length = es.length → (∀ n ∈ ns, A n) → c ≤ c' → c' ≤ c + B * (es.length : Nat) → Pl c' u → (∀ e, e ∈ F → e ∈ F') → Φ (.ref q) ⟨F', (q, .lst (ns.map .int)) :: (p, u) :: O⟩) :
    LcB P w K mg base k N sc vb lb gs tg [] elt σw vs Φ J ⟨F, (p, u0) :: O⟩ := by
  refine ⟨es, sr, hz, fun i acc y' => ∃ (ns : List Int) (c' : Int) (u : OD), acc = ns.map .int ∧ ns.length = i ∧ (∀ n ∈ ns, A n) ∧ c ≤ c' ∧ c' ≤ c + B * (i : Nat) ∧ Pl c' u ∧ y'.O = (p, u) :: O ∧ ∀ e, e ∈ F → e ∈ y'.F,
    ⟨[], c, u0, rfl, rfl, (fun n hn => nomatch hn), Int.le_refl _, by simp, h0, rfl, fun _ h => h⟩, ?_, ?_⟩
  · rintro i d acc ⟨F', O'⟩ x hd ⟨ns, c', u, rfl, hl, hA, g1, g2, hP, hO, hF⟩ X1 C1
    cases hO
    refine Lift.forget (F2 := (x, d) :: F) (fun e h => ?_) ((turn i d x c' u hd g1 g2 hP X1 C1).mono (fun σ2 y2 ⟨hw, f⟩ => ⟨hw, fun X2 C2 => ?_⟩) fun _ _ z => z)
    · rcases List.mem_cons.mp h with h | h
      · rw [h]
        exact List.mem_cons_self
      · exact List.mem_cons_of_mem _ (hF _ h)
    · refine ts_nil ⟨fun _ X3 C3 => (f X3 C3).mono (fun v y4 ⟨n, c2, u2, e1, hA2, hO2, hF2, k1, k2, hP2⟩ => ?_) (fun _ _ z => z), fun h => (by cases h)⟩
      subst e1
      refine ⟨.int n, .int n, ns ++ [n], c2, u2, by rw [List.map_append]; rfl, by rw [List.length_append, hl]; rfl, fun m hm => ?_, by omega, ?_, hP2, hO2, hF2⟩
      · rcases List.mem_append.mp hm with hm | hm
        · exact hA m hm
        · cases List.mem_singleton.mp hm
          exact hA2
      · rw [Int.natCast_add, Int.mul_add]
        show c2 ≤ c + (B * (i : Nat) + B * 1)
        omega
  · rintro acc ⟨F', O'⟩ hl ⟨ns, c', u, rfl, hl2, hA, g1, g2, hP, hO, hF⟩ q
    cases hO
    exact done ns c' u F' q hl2 hA g1 g2 hP hF
/-- pure items, some left out -/
theorem lcb_pure {tg elt : Expr} {ifs : List Expr} {vs : List Nat} {Φ : V → Sy → Prop} {J : It} {es : List Dt} (f : Dt → Bool) (g : Dt → Dt) (sr : Sr K J ⟨F, O⟩ es) (hz : es.length ≤ 1000000)
    (turn : ∀ (i : Nat) d x, es[i]? = some d → ∀ X1, Cn P w K mg base k N sc vb lb gs X1 → Lift K (wG X1 tg x σw) ⟨(x, d) :: F, O⟩ (fun σ2 y2 => wipe σ2 vs = σw ∧
      ∀ X2, Cn P w K mg base k N sc vb lb gs X2 → Lift K (wTs X2 ifs σ2) y2 (fun b y3 => b = f d ∧ (b = true → ∀ X3, Cn P w K mg base k N sc vb lb gs X3 → Lift K (wE X3 elt σ2) y3 (fun v y4 => Hs y4.F v (g d) ∧ y4.O = O ∧ ∀ e, e ∈ F → e ∈ y4.F) F0) ∧ (b = false → y3.O = O ∧ ∀ e, e ∈ F → e ∈ y3.F)) F0) F0)
    (done : ∀ F' q, (∀ e, e ∈ F → e ∈ F') → Φ (.ref q) ⟨F', (q, .lst ((es.filter f).map g)) :: O⟩) :
    LcB P w K mg base k N sc vb lb gs tg ifs elt σw vs Φ J ⟨F, O⟩ := by
  refine ⟨es, sr, hz, fun i acc y' => acc = ((es.take i).filter f).map g ∧ y'.O = O ∧ ∀ e, e ∈ F → e ∈ y'.F, ⟨by simp, rfl, fun _ h => h⟩, ?_, ?_⟩
  · rintro i d acc ⟨F', O'⟩ x hd ⟨rfl, hO, hF⟩ X1 C1
    cases hO
    have ht : es.take (i + 1) = es.take i ++ [d] := by
      rw [List.take_add_one, hd]
      rfl
    refine Lift.forget (F2 := (x, d) :: F) (fun e h => ?_) ((turn i d x hd X1 C1).mono (fun σ2 y2 ⟨hw, f1⟩ => ⟨hw, fun X2 C2 => ?_⟩) fun _ _ z => z)
    · rcases List.mem_cons.mp h with h | h
      · rw [h]
        exact List.mem_cons_self
      · exact List.mem_cons_of_mem _ (hF _ h)
    · refine (f1 X2 C2).mono (fun b y3 ⟨hb, f2, f3⟩ => ⟨fun e X3 C3 => (f2 e X3 C3).mono (fun v y4 ⟨h1, h2, h3⟩ => ⟨g d, h1, ?_, h2, h3⟩) (fun _ _ z => z), fun e => ⟨?_, f3 e⟩⟩) fun _ _ z => z
      · rw [ht, List.filter_append, List.map_append, List.filter_cons, if_pos (by rw [← hb]; exact e)]
        rfl
      · rw [ht, List.filter_append, List.map_append, List.filter_cons, if_neg (by rw [← hb, e]; decide)]
        show _ = _ ++ []
        rw [List.append_nil]
  · rintro acc ⟨F', O'⟩ hl ⟨rfl, hO, hF⟩ q
    cases hO
    rw [List.take_length]
    exact done F' q hF
/-! ### picking ints -/
class Ints (ds : List Dt) (ns : outParam (List Int)) : Prop where
  h : ds = ns.map .int
instance : Ints [] [] := ⟨rfl⟩
instance (n : Int) (ds : List Dt) (ns : List Int) [m : Ints ds ns] : Ints (.int n :: ds) (n :: ns) := ⟨by rw [m.h]; rfl⟩
instance (priority := high) (ns : List Int) : Ints (ns.map PyData.int) ns := ⟨rfl⟩
theorem atI_some {α : Type} {l : List α} {i : Int} (h0 : 0 ≤ i) (h1 : i < l.length) : ∃ v, atI l i = some v ∧ l[i.toNat]? = some v := by
  have h : i.toNat < l.length := by omega
  refine ⟨l[i.toNat], ?_, List.getElem?_eq_getElem h⟩
  have := atI_nat (List.getElem?_eq_getElem h)
  rwa [show ((i.toNat : Nat) : Int) = i by omega] at this
theorem ix_pick {Φ : V → Sy → Prop} {v : V} {ds : List Dt} {ns : List Int} {i : Int} [r : Rc F O v (.list ds)] [m : Ints ds ns] [C : Cn P w K mg base k N sc vb lb gs X] (h0 : 0 ≤ i) (h1 : i < ns.length) (h : ∀ n ∈ ns, ns[i.toNat]? = some n → Φ (.int n) ⟨F, O⟩) : Lift K (wIx X v (.int i)) ⟨F, O⟩ Φ Ψ := by
  obtain ⟨n, e1, e2⟩ := atI_some h0 h1
  refine ix_lstI r.h ?_ C.hK (h n (List.mem_of_getElem? e2) e2)
  rw [m.h, atI_map, e1]
  rfl
theorem ix_last {Φ : V → Sy → Prop} {v : V} {ds : List Dt} {ns : List Int} {n : Int} [r : Rc F O v (.list ds)] [m : Ints ds (ns ++ [n])] [C : Cn P w K mg base k N sc vb lb gs X] (h : Φ (.int n) ⟨F, O⟩) : Lift K (wIx X v (.int (-1))) ⟨F, O⟩ Φ Ψ := by
  refine ix_lstI r.h ?_ C.hK h
  rw [m.h, List.map_append]
  exact atI_last _ _
theorem st_int {Φ : Unit → Sy → Prop} {p : Addr} {ns : List Int} {i n : Int} (h0 : 0 ≤ i) (h1 : i < ns.length) (h : Φ () ⟨F, (p, .lst ((ns.set i.toNat n).map .int)) :: O⟩) : Lift K (wSt X (.ref p) (.int i) (.int n)) ⟨F, (p, .lst (ns.map .int)) :: O⟩ Φ Ψ := by
  refine st_lst (.int n) (j := i.toNat) ?_ (by rw [← List.map_set]; exact h)
  unfold ixN
  rw [if_pos h0, if_pos (by rw [List.length_map]; exact h1)]
theorem rep_int (n : Nat) (x : Int) : (List.replicate n [PyData.int x]).flatten = (List.replicate n x).map .int := by
  induction n with
  | zero => rfl
  | succ n ih =>
    rw [List.replicate_succ, List.flatten_cons, ih, List.replicate_succ]
    rfl
/-! ### in a tuple of ints; from behind -/
theorem inV_ints (i : Int) : ∀ ns : List Int, inV (.int i) (ns.map V.int) = ns.contains i
  | [] => rfl
  | n :: r => by
    have ih := inV_ints i r
    unfold inV at ih ⊢
    rw [List.map_cons, List.any_cons, ih, List.contains_cons]
    show ((n == i) || _) = ((i == n) || _)
    rw [BEq.comm]
theorem flat_ints : ∀ ns : List Int, (ns.map V.int).all flatV = true
  | [] => rfl
  | n :: r => by
    rw [List.map_cons, List.all_cons, flat_ints r]
    rfl
instance {Φ : V → Sy → Prop} {v : V} {ds : List Dt} {ns : List Int} {i : Int} [r : Rc F O v (.tuple ds)] [m : Ints ds ns] [C : Cn P w K mg base k N sc vb lb gs X] : Step (Lift K (wO X (compareOp .In) (.int i) v) ⟨F, O⟩ Φ Ψ) (Φ (.bl (ns.contains i)) ⟨F, O⟩) := ⟨fun h => by
  refine o_of op_in_seq (Lift.raw fun S H ok E Q q => ?_)
  obtain ⟨a, xs, rfl, ha, rr⟩ := r.h.tup ok
  rw [m.h] at rr
  cases rr.ints_inv
  refine ⟨a, _, rfl, .inr (by rw [C.hK]; exact ha), rfl, flat_ints ns, ?_⟩
  show Q (.bl (inV (.int i) (ns.map V.int))) H
  rw [inV_ints]
  exact q _ _ S H ok (Stp.refl _ _ _) h⟩
theorem RpA.reverse {S : Hp} : ∀ {vs : List V} {ds : List Dt}, RpA K S vs ds → RpA K S vs.reverse ds.reverse
  | _, _, .nil => .nil
  | _, _, .cons q r => by
    rw [List.reverse_cons, List.reverse_cons]
    exact (RpA.reverse r).append (.cons q .nil)
theorem l_rev {Φ : V → Sy → Prop} {e : Expr} {kk : Nat} {p1 p2 p3 : Pos} (hK : X.K = K) (h : Lift K (wE X e σ) y (fun v y1 => ∃ ds, Rb y1 v (.list ds) ∧ ∀ p, Φ (.ref p) ⟨(.ref p, .list ds.reverse) :: y1.F, y1.O⟩) Ψ) :
    Lift K (wE X (.Subscript e (.Slice none none (some (.UnaryOp .USub (.Constant (.int 1) kk p1) p2)) p3) pos) σ) y Φ Ψ := by
  refine l_of (fun E tk => pe_revL (pe_w tk)) (Lift.bind (T1 := wE X e σ) (T2 := fun v _ H Q => ∃ a xs, v = .ref a ∧ SqL X.K H a xs ∧ ∀ p, H p = none → Q (.ref p) (upd H p (.lst xs.reverse))) (fun _ _ _ q => q) (h.mono (fun v z ⟨ds, hr, k⟩ => Lift.raw fun S H ok E Q q => ?_) fun _ _ q => q))
  obtain ⟨a, xs, rfl, ha, r⟩ := hr.lst ok
  refine ⟨a, xs, rfl, SqL.of ha, fun p hp => ?_⟩
  obtain ⟨ok2, st⟩ := ok.new (o := .lst xs.reverse) hp (.lst upd_same ((RpA.reverse r).mono (ok.sub.new hp)))
  exact q _ _ _ _ ok2 st (k p)
def RevK (Φ : V → Sy → Prop) (v : V) (y : Sy) : Prop := ∃ ds, Rb y v (.list ds) ∧ ∀ p, Φ (.ref p) ⟨(.ref p, .list ds.reverse) :: y.F, y.O⟩
instance [C : Cn P w K mg base k N sc vb lb gs X] {Φ : V → Sy → Prop} {e : Expr} {kk : Nat} {p1 p2 p3 : Pos} : Step (Lift K (wE X (.Subscript e (.Slice none none (some (.UnaryOp .USub (.Constant (.int 1) kk p1) p2)) p3) pos) σ) y Φ Ψ) (Lift K (wE X e σ) y (RevK Φ) Ψ) := ⟨l_rev C.hK⟩
instance {Φ : V → Sy → Prop} {v : V} {ds : List Dt} [r : Rc F O v (.list ds)] : Step (RevK Φ v ⟨F, O⟩) (∀ p, Φ (.ref p) ⟨(.ref p, .list ds.reverse) :: F, O⟩) := ⟨fun h => ⟨ds, r.h, h⟩⟩
end
end Yl

namespace Yl
open PySem PySem.Spec PyProof.Rows L2

/-! ### a constant of the module -/
class Gv (mg : Str → Option Value) (x : Str) (v : outParam V) : Prop where
  h : ∃ u, mg x = some u ∧ RelV v u
/-! ### what stands for a while, by its names -/
class RcA (F : List (V × Dt)) (O : List (Addr × OD)) (vs : List V) (Fp : outParam (List (V × Dt))) : Prop where
  h : ∀ v d, (v, d) ∈ Fp → Rb ⟨F, O⟩ v d
instance (F : List (V × Dt)) (O : List (Addr × OD)) : RcA F O [] [] := ⟨fun _ _ m => (nomatch m)⟩
instance (F : List (V × Dt)) (O : List (Addr × OD)) (v : V) (vs : List V) (d : Dt) (Fp : List (V × Dt)) [a : Rc F O v d] [b : RcA F O vs Fp] : RcA F O (v :: vs) ((v, d) :: Fp) := ⟨fun u e m => by
  rcases List.mem_cons.mp m with m | m
  · cases m
    exact a.h
  · exact b.h u e m⟩
theorem still_at {K : PySem.W.Frag} {α : Type} {T : TL α} {F : List (V × Dt)} {O : List (Addr × OD)} {Φ : α → Sy → Prop} {Ψ : Value → Sy → Prop} (vs : List V) {Fp : List (V × Dt)} [m : RcA F O vs Fp]
    (h : Lift K T ⟨Fp, []⟩ (fun r z => Φ r ⟨F, O⟩) (fun c z => Ψ c ⟨F, O⟩)) : Lift K T ⟨F, O⟩ Φ Ψ := Lift.still m.h h
section
variable {P : Program} {w : World} {K : PySem.W.Frag} {mg : Str → Option Value} {base : Heap} {k : Nat} {N : List Str} {sc : Scope} {vb lb : List Bool} {gs : List Str} {X : Cx} {y : Sy} {σ σw : L2.St} {Ψ : Value → Sy → Prop} {pos : Pos} {rest : List Stmt} {F : List (V × Dt)} {O : List (Addr × OD)} {x : Str}
instance (priority := low) {Φ : V → Sy → Prop} {v : V} [C : Cn P w K mg base k N sc vb lb gs X] [g : GIn x gs] [m : Gv mg x v] : Step (Lift K (wE X (.Name x pos) σ) y Φ Ψ) (Φ v y) := ⟨fun h => by
  obtain ⟨u, h1, h2⟩ := m.h
  exact l_glob C g.h h1 h2 h⟩
theorem Hs.fa {ds : List Dt} {v : V} (h : Hs F v (.list ds)) : Fa v F (.list ds) := by
  cases h with
  | fact m => exact ⟨m⟩
theorem Hs.faT {ds : List Dt} {v : V} (h : Hs F v (.tuple ds)) : Fa v F (.tuple ds) := by
  cases h with
  | fact m => exact ⟨m⟩
theorem Hs.faS {ns : List Int} {v : V} (h : Hs F v (scrD ns)) : Fa v F (scrD ns) := by
  cases h with
  | fact m => exact ⟨m⟩
theorem rw_HO {Φ : V → Sy → Prop} {v : V} {F F1 F2 : List (V × Dt)} {O O2 : List (Addr × OD)} (hF : ∀ e, e ∈ F1 → e ∈ F) [a : SubF F2 F1] [b : SubO O2 O] (h : Φ v ⟨F2, O2⟩) : retW Φ (.rt v) ⟨F, O⟩ := ⟨⟨F2, O2⟩, fun e m => hF e (a.h e m), b.h, h⟩
instance {Φ : V → Sy → Prop} {ds : List Dt} : Step (NewL Φ ds ⟨F, O⟩) (∀ p, Φ (.ref p) ⟨F, (p, .lst ds) :: O⟩) := ⟨fun h => h⟩
/-! ### what is told of a truth value -/
instance {A B : Prop} : Step ((true = true → A) ∧ (true = false → B)) A := ⟨fun h => ⟨fun _ => h, fun e => nomatch e⟩⟩
instance {A B : Prop} : Step ((false = true → A) ∧ (false = false → B)) B := ⟨fun h => ⟨(fun e => nomatch e), fun _ => h⟩⟩
instance {A B : Prop} : Step (((!true) = true → A) ∧ ((!true) = false → B)) B := ⟨fun h => ⟨(fun e => nomatch e), fun _ => h⟩⟩
instance {A B : Prop} : Step (((!false) = true → A) ∧ ((!false) = false → B)) A := ⟨fun h => ⟨fun _ => h, fun e => nomatch e⟩⟩
theorem yes {p A B : Prop} [Decidable p] (h : p) (a : A) : (decide p = true → A) ∧ (decide p = false → B) := ⟨fun _ => a, fun e => absurd h (of_decide_eq_false e)⟩
theorem no {p A B : Prop} [Decidable p] (h : ¬p) (b : B) : (decide p = true → A) ∧ (decide p = false → B) := ⟨fun e => absurd (of_decide_eq_true e) h, fun _ => b⟩
theorem nyes {p A B : Prop} [Decidable p] (h : p) (b : B) : ((!decide p) = true → A) ∧ ((!decide p) = false → B) := by
  rw [decide_eq_true h]
  exact ⟨(fun e => nomatch e), fun _ => b⟩
theorem nno {p A B : Prop} [Decidable p] (h : ¬p) (a : A) : ((!decide p) = true → A) ∧ ((!decide p) = false → B) := by
  rw [decide_eq_false h]
  exact ⟨fun _ => a, fun e => nomatch e⟩
/-- if .. : return False, never taken -/
theorem if_false {Φ : Fl → Sy → Prop} {c : Expr} {l : List Stmt} (vs : List V) {Fp : List (V × Dt)} [m : RcA F O vs Fp] (h : Lift K (wT X c σ) ⟨Fp, []⟩ (fun r _ => r = false) Yl.F0) (b : Lift K (wSs X rest σ) ⟨F, O⟩ Φ Ψ) : Lift K (wSs X (.If c l [] pos :: rest) σ) ⟨F, O⟩ Φ Ψ := by
  refine s_if0 (still_at vs (h.mono (fun r z e => ?_) fun _ _ z => z.elim))
  subst e
  exact ⟨(fun e => nomatch e), fun _ => b⟩
/-! ### == of lists of ints -/
theorem lay_ints : ∀ ns : List Int, PyData.canLayAll0 (ns.map PyData.int) = true
  | [] => by simp [PyData.canLayAll0]
  | n :: r => by
    have := lay_ints r
    simp [PyData.canLayAll0, PyData.canLay0] at this ⊢
    exact this
theorem deep_ints : ∀ ns : List Int, PyData.depthAll (ns.map PyData.int) = 0
  | [] => by simp [PyData.depthAll]
  | n :: r => by
    have := deep_ints r
    simp [PyData.depthAll, PyData.depth] at this ⊢
    exact this
theorem shaped_ints (ns : List Int) : SeqAt.shaped (.list (ns.map .int)) = true := by
  have h1 : PyData.canLay0 (.list (ns.map PyData.int)) = true := by
    rw [PyData.canLay0]
    exact lay_ints ns
  have h2 : PyData.depth (.list (ns.map PyData.int)) = 1 := by
    rw [PyData.depth, deep_ints]
  unfold SeqAt.shaped
  rw [h1, h2]
  rfl
theorem Cn.unl (C : Cn P w K mg base k N sc vb lb gs X) : X.A.units + 64 < cLine := C.room.units
instance {Φ : V → Sy → Prop} {v u : V} {ds es : List Dt} {ns ms : List Int} [C : Cn P w K mg base k N sc vb lb gs X] [r : Rc F O v (.list ds)] [s : Rc F O u (.list es)] [m : Ints ds ns] [t : Ints es ms] : Step (Lift K (wO X (compareOp .Eq) v u) ⟨F, O⟩ Φ Ψ) (Φ (.bl (decide (ns = ms))) ⟨F, O⟩) := ⟨fun h => by
  have e1 := m.h
  have e2 := t.h
  refine o_eqD r.h s.h (by rw [e1]; exact plain_ints ns) (by rw [e2]; exact plain_ints ms) (by rw [e1]; exact shaped_ints ns) (by rw [e2]; exact shaped_ints ms) C.unl C.hK ?_
  rw [e1, e2]
  show Φ (.bl (PyData.eqvAll _ _)) _
  rw [eqv_ints]
  exact h⟩
instance {Φ : V → Sy → Prop} {v u : V} {ds es : List Dt} {ns ms : List Int} [C : Cn P w K mg base k N sc vb lb gs X] [r : Rc F O v (.list ds)] [s : Rc F O u (.list es)] [m : Ints ds ns] [t : Ints es ms] : Step (Lift K (wO X (compareOp .NotEq) v u) ⟨F, O⟩ Φ Ψ) (Φ (.bl (!decide (ns = ms))) ⟨F, O⟩) := ⟨fun h => by
  have e1 := m.h
  have e2 := t.h
  refine o_neD r.h s.h (by rw [e1]; exact plain_ints ns) (by rw [e2]; exact plain_ints ms) (by rw [e1]; exact shaped_ints ns) (by rw [e2]; exact shaped_ints ms) C.unl C.hK ?_
  rw [e1, e2]
  show Φ (.bl (!PyData.eqvAll _ _)) _
  rw [eqv_ints]
  exact h⟩
instance (priority := high) {Φ : V → Sy → Prop} {v u : V} {ds es : List Dt} {ns : List Int} [C : Cn P w K mg base k N sc vb lb gs X] [r : Rc F O v (.list ds)] [s : Rc F O u (.list es)] [m : Ints ds ns] [t : Ints es ns] : Step (Lift K (wO X (compareOp .Eq) v u) ⟨F, O⟩ Φ Ψ) (Φ (.bl true) ⟨F, O⟩) := ⟨fun h => by
  refine go ?_
  rw [decide_eq_true rfl]
  exact h⟩
instance (priority := high) {Φ : V → Sy → Prop} {v u : V} {ds es : List Dt} {ns : List Int} [C : Cn P w K mg base k N sc vb lb gs X] [r : Rc F O v (.list ds)] [s : Rc F O u (.list es)] [m : Ints ds ns] [t : Ints es ns] : Step (Lift K (wO X (compareOp .NotEq) v u) ⟨F, O⟩ Φ Ψ) (Φ (.bl false) ⟨F, O⟩) := ⟨fun h => by
  refine go ?_
  rw [decide_eq_true rfl]
  exact h⟩
/-! ### a pair taken apart -/
class Tr2 (e1 e2 : Expr) : Prop where
  h1 : ∀ env, (assignEach [e1, e2] env).length = 2
  h2 : ∀ env, (assignEach [e1, e2] env).findIdx? (·.1) = none
instance {a b : Str} {p q : Pos} : Tr2 (.Name a p) (.Name b q) := ⟨fun _ => rfl, fun _ => rfl⟩
theorem g_pair {Φ : L2.St → Sy → Prop} {e1 e2 : Expr} {kk : Nat} {v : V} {i j : Int} (C : Cn P w K mg base k N sc vb lb gs X) [t : Tr2 e1 e2] (r : Rb ⟨F, O⟩ v (.tuple [.int i, .int j])) (h : ∀ F', (∀ e, e ∈ F → e ∈ F') → Lift K (wGs X [e1, e2] [.int i, .int j] σ) ⟨F', O⟩ Φ Ψ) : Lift K (wG X (.Tuple [e1, e2] kk pos) v σ) ⟨F, O⟩ Φ Ψ := by
  refine g_tup2 C r (t.h1 _) (t.h2 _) fun x1 x2 => ?_
  refine Lift.isInt (n := i) (.fact List.mem_cons_self) fun e => ?_
  refine Lift.isInt (n := j) (.fact (List.mem_cons_of_mem _ List.mem_cons_self)) fun e2 => ?_
  subst e
  subst e2
  exact h _ fun e m => List.mem_cons_of_mem _ (List.mem_cons_of_mem _ m)
/-! ### a comprehension whose items are told beforehand -/
theorem lcb_to {tg elt : Expr} {vs : List Nat} {Φ : V → Sy → Prop} {J : It} {es : List Dt} (rs : List Dt) (hr : rs.length = es.length) (sr : Sr K J ⟨F, O⟩ es) (hz : es.length ≤ 1000000)
    (turn : ∀ (i : Nat) d r x, es[i]? = some d → rs[i]? = some r → ∀ X1, Cn P w K mg base k N sc vb lb gs X1 → Lift K (wG X1 tg x σw) ⟨(x, d) :: F, O⟩ (fun σ2 y2 => wipe σ2 vs = σw ∧
      ∀ X3, Cn P w K mg base k N sc vb lb gs X3 → Lift K (wE X3 elt σ2) y2 (fun v y4 => Hs y4.F v r ∧ y4.O = O ∧ ∀ e, e ∈ F → e ∈ y4.F) F0) F0)
    (done : ∀ F' q, (∀ e, e ∈ F → e ∈ F') → Φ (.ref q) ⟨F', (q, .lst rs) :: O⟩) :
    LcB P w K mg base k N sc vb lb gs tg [] elt σw vs Φ J ⟨F, O⟩ := by
  refine ⟨es, sr, hz, fun i acc y' => acc = rs.take i ∧ y'.O = O ∧ ∀ e, e ∈ F → e ∈ y'.F, ⟨by simp, rfl, fun _ h => h⟩, ?_, ?_⟩
  · rintro i d acc ⟨F', O'⟩ x hd ⟨rfl, hO, hF⟩ X1 C1
    cases hO
    have hi : i < rs.length := by
      rw [hr]
      exact (List.getElem?_eq_some_iff.mp hd).1
    refine Lift.forget (F2 := (x, d) :: F) (fun e h => ?_) ((turn i d rs[i] x hd (List.getElem?_eq_getElem hi) X1 C1).mono (fun σ2 y2 ⟨hw, f⟩ => ⟨hw, fun X2 C2 => ?_⟩) fun _ _ z => z)
    · rcases List.mem_cons.mp h with h | h
      · rw [h]
        exact List.mem_cons_self
      · exact List.mem_cons_of_mem _ (hF _ h)
    · refine ts_nil ⟨fun _ X3 C3 => (f X3 C3).mono (fun v y4 ⟨h1, h2, h3⟩ => ⟨_, h1, ?_, h2, h3⟩) (fun _ _ z => z), fun h => (by cases h)⟩
      rw [List.take_add_one, List.getElem?_eq_getElem hi]
      rfl
  · rintro acc ⟨F', O'⟩ hl ⟨rfl, hO, hF⟩ q
    cases hO
    rw [← hr, List.take_length]
    exact done F' q hF
end
/-! ### slices by hand -/
theorem cut1 {α : Type} (xs : List α) : cutG xs (some 1) none = xs.drop 1 := by
  unfold cutG
  cases xs with
  | nil => simp
  | cons a r =>
    have e1 : HT.sIx (a :: r).length 0 (some 1) = 1 := by
      simp [HT.sIx]
      try omega
    have e2 : HT.sIx (a :: r).length (a :: r).length none = (a :: r).length := rfl
    rw [e1, e2, List.take_of_length_le]
    first
      | (rw [List.length_drop]; exact Nat.le_refl _)
      | simp
/-! ### differences -/
def dif (ns : List Int) : List Int := List.zipWith (fun a b => b - a) ns (ns.drop 1)
theorem dif_len (ns : List Int) : (dif ns).length = ns.length - 1 := by
  unfold dif
  rw [List.length_zipWith, List.length_drop]
  omega
theorem dif_at {ns : List Int} {i : Nat} (h : i + 1 < ns.length) : (dif ns)[i]? = some (ns[i + 1] - ns[i]) := by
  unfold dif
  rw [List.getElem?_zipWith, List.getElem?_drop, Nat.add_comm 1 i, List.getElem?_eq_getElem h, List.getElem?_eq_getElem (by omega)]
theorem dif2_at {ns : List Int} {i : Nat} (h : i + 2 < ns.length) : (dif (dif ns))[i]? = some (ns[i] - 2 * ns[i + 1] + ns[i + 2]) := by
  have h1 : i + 1 < (dif ns).length := by
    rw [dif_len]
    omega
  have e1 := dif_at (ns := ns) (i := i + 1) (by omega)
  have e2 := dif_at (ns := ns) (i := i) (by omega)
  rw [List.getElem?_eq_getElem h1] at e1
  rw [List.getElem?_eq_getElem (by omega)] at e2
  rw [dif_at h1, Option.some.inj e1, Option.some.inj e2]
  have e3 : ns[i + 1 + 1] = ns[i + 2] := rfl
  rw [e3]
  congr 1
  omega
theorem pick_eq {ms : List Int} {e n : Int} {m : Nat} (h : ms[e.toNat]? = some n) (em : e = (m : Nat)) (hm : m < ms.length) : n = ms[m] := by
  subst em
  rw [Int.toNat_natCast, List.getElem?_eq_getElem hm] at h
  exact (Option.some.inj h).symm
theorem zip_at {ns ms : List Int} {i : Nat} {d : Dt} (h : (zipD (ns.map .int) (ms.map .int))[i]? = some d) : ∃ a b, ns[i]? = some a ∧ ms[i]? = some b ∧ d = .tuple [.int a, .int b] := by
  unfold zipD at h
  rw [List.getElem?_zipWith, List.getElem?_map, List.getElem?_map] at h
  cases h1 : ns[i]? with
  | none =>
    rw [h1] at h
    cases h
  | some a =>
    cases h2 : ms[i]? with
    | none =>
      rw [h1, h2] at h
      cases h
    | some b =>
      rw [h1, h2] at h
      cases h
      exact ⟨a, b, rfl, rfl, rfl⟩
theorem zipD_len (ds es : List Dt) : (zipD ds es).length = min ds.length es.length := by
  unfold zipD
  rw [List.length_zipWith]
end Yl

namespace Yl
open PySem PySem.Spec PyProof.Rows L2
section
variable {P : Program} {w : World} {K : PySem.W.Frag} {mg : Str → Option Value} {base : Heap}
theorem Cal.up {x : Str} {j k n : Nat} {R : RY} (G : Cal P w K mg base x j n R) (h : j ≤ k) : Cal P w K mg base x k n R := by
  obtain ⟨f, fd, ps, a, b, c, d⟩ := G.ex
  exact ⟨f, fd, ps, a.mono h, b, c, d⟩
/-- a def of the written part, by its promise -/
theorem Cl.of {x : Str} {st : Stmt} {f : Addr} {fd : FuncData} {ps : List Str} {j n : Nat} {R : RY} (hm : mg x = some (.ref f)) (F : Fun K x x st f fd) (b : Binds K fd ps []) (ok : FnOk P w K mg base (L2.CX P w) j f fd ps (SpY K n R)) {k : Nat} (h : j ≤ k) : Cl P w K mg base x k n R :=
  ⟨Cal.up ⟨f, fd, ps, ok, hm, F.kp, b⟩ h⟩
theorem Gv.int {x : Str} {i : Int} {u : Value} (h : mg x = some u) (r : RelV (.int i) u) : Gv mg x (.int i) := ⟨u, h, r⟩
/-- a law's promise at its start -/
theorem law_start {R : RY} {H : Hp} {a : Addr} {ns : List Int} (h : SqL K H a (ns.map V.int)) (r : R [.ref a] ⟨[(.ref a, scrD ns)], []⟩ (fun v _ => v = .bl true) (fun _ _ => False)) : SpY K 1 R [.ref a] H (fun v _ => v = .bl true) fun _ _ _ => False := by
  refine ⟨rfl, ⟨[(.ref a, scrD ns)], []⟩, H, _, _, ⟨Sub.refl H, fun v d m => ?_, fun p u m => (nomatch m), List.nodup_nil⟩, r, fun v y' S' H' _ _ q => q, fun c y' S' H' _ _ q => q⟩
  cases List.mem_singleton.mp m
  exact .scr h
end
end Yl

namespace Yl
open PySem PySem.Spec PyProof.Rows L2
/-! ### slices of ints -/
theorem cut_map {α β : Type} (f : α → β) (xs : List α) (lo hi : Option Int) : cutG (xs.map f) lo hi = (cutG xs lo hi).map f := by
  unfold cutG
  rw [List.length_map, ← List.map_drop, ← List.map_take]
theorem cut_hi {α : Type} (xs : List α) {i : Int} (h0 : 0 ≤ i) : cutG xs none (some i) = xs.take i.toNat := by
  obtain ⟨n, rfl⟩ : ∃ n : Nat, i = n := ⟨i.toNat, by omega⟩
  unfold cutG
  rw [HT.sIx_nat, HT.sIx_none, Int.toNat_natCast]
  simp [List.take_eq_take_iff]
theorem cut_lo {α : Type} (xs : List α) {i : Int} (h0 : 0 ≤ i) : cutG xs (some i) none = xs.drop i.toNat := by
  obtain ⟨n, rfl⟩ : ∃ n : Nat, i = n := ⟨i.toNat, by omega⟩
  unfold cutG
  rw [HT.sIx_nat, HT.sIx_none, Int.toNat_natCast, List.take_of_length_le (by rw [List.length_drop]; exact Nat.le_refl _)]
  by_cases h : n ≤ xs.length
  · rw [Nat.min_eq_left h]
  · rw [List.drop_of_length_le (by omega), List.drop_of_length_le (by omega)]
theorem cut_both {α : Type} (xs : List α) {i j : Int} (h0 : 0 ≤ i) (h1 : i ≤ j) (h2 : j ≤ xs.length) : cutG xs (some i) (some j) = (xs.drop i.toNat).take (j - i).toNat := by
  obtain ⟨n, rfl⟩ : ∃ n : Nat, i = n := ⟨i.toNat, by omega⟩
  obtain ⟨m, rfl⟩ : ∃ n : Nat, j = n := ⟨j.toNat, by omega⟩
  unfold cutG
  rw [HT.sIx_nat, HT.sIx_nat, Int.toNat_natCast, Nat.min_eq_left (by omega), Nat.min_eq_left (by omega)]
  congr 1
  omega
instance (ds : List Dt) (ns : List Int) (lo hi : Option Int) [m : Ints ds ns] : Ints (cutG ds lo hi) (cutG ns lo hi) := ⟨by rw [m.h, cut_map]⟩
instance (ds es : List Dt) (ns ms : List Int) [m : Ints ds ns] [t : Ints es ms] : Ints (ds ++ es) (ns ++ ms) := ⟨by rw [m.h, t.h, List.map_append]⟩
instance (ds : List Dt) (ns : List Int) [m : Ints ds ns] : Ints ds.reverse ns.reverse := ⟨by rw [m.h, List.map_reverse]⟩
section
variable {P : Program} {w : World} {K : PySem.W.Frag} {mg : Str → Option Value} {base : Heap} {k : Nat} {N : List Str} {sc : Scope} {vb lb : List Bool} {gs : List Str} {X : Cx} {y : Sy} {σ σw : L2.St} {Ψ : Value → Sy → Prop} {pos : Pos} {rest : List Stmt} {F : List (V × Dt)} {O : List (Addr × OD)} {x : Str}
instance {Φ : V → Sy → Prop} {v u : V} {ds es : List Dt} [r : Rc F O v (.list ds)] [s : Rc F O u (.list es)] : Step (Lift K (wO X (binaryOp .Add) v u) ⟨F, O⟩ Φ Ψ) (ds.length + es.length ≤ 1000000 ∧ ∀ p, Φ (.ref p) ⟨(.ref p, .list (ds ++ es)) :: F, O⟩) := ⟨fun h => o_cat r.h s.h h.1 h.2⟩
theorem hs_ints {v : V} {ds : List Dt} {ns : List Int} [a : Fa v F (.list ds)] [m : Ints ds ns] : Hs F v (.list (ns.map .int)) := .fact (by rw [← m.h]; exact a.h)
theorem eqv_bl (a b : Bool) : PyData.eqv (.bool a) (.bool b) = decide (a = b) := by
  cases a <;> cases b <;> rfl
theorem shaped_bl (a : Bool) : SeqAt.shaped (.bool a) = true := by
  cases a <;> decide +kernel
instance {Φ : V → Sy → Prop} {a b : Bool} [C : Cn P w K mg base k N sc vb lb gs X] : Step (Lift K (wO X (compareOp .Eq) (.bl a) (.bl b)) y Φ Ψ) (Φ (.bl (decide (a = b))) y) := ⟨fun h => o_eqD (.hs (.bl a)) (.hs (.bl b)) rfl rfl (shaped_bl a) (shaped_bl b) C.unl C.hK (by rw [eqv_bl]; exact h)⟩
instance {Φ : V → Sy → Prop} {a b : Bool} [C : Cn P w K mg base k N sc vb lb gs X] : Step (Lift K (wO X (compareOp .NotEq) (.bl a) (.bl b)) y Φ Ψ) (Φ (.bl (!decide (a = b))) y) := ⟨fun h => o_neD (.hs (.bl a)) (.hs (.bl b)) rfl rfl (shaped_bl a) (shaped_bl b) C.unl C.hK (by rw [eqv_bl]; exact h)⟩
end
theorem enum_at {ns : List Int} {i : Nat} {d : Dt} (h : (enumD (ns.map .int))[i]? = some d) : ∃ a, ns[i]? = some a ∧ d = .tuple [.int (i : Nat), .int a] := by
  unfold enumD at h
  rw [List.getElem?_mapIdx, List.getElem?_map] at h
  cases h1 : ns[i]? with
  | none =>
    rw [h1] at h
    cases h
  | some a =>
    rw [h1] at h
    cases h
    exact ⟨a, rfl, rfl⟩
theorem enumD_len (ds : List Dt) : (enumD ds).length = ds.length := by
  unfold enumD
  rw [List.length_mapIdx]
/-! ### the places that are wrong -/
def wrP (bs : List Int) : Nat → List Int
  | 0 => []
  | i + 1 => wrP bs i ++ (if bs.getD i 0 < 0 then [(i : Int) + 1] else [])
theorem wrP_pre (bs : List Int) (m : Nat) : ∀ d, ∃ t, wrP bs (m + d) = wrP bs m ++ t
  | 0 => ⟨[], by simp⟩
  | d + 1 => by
    obtain ⟨t, ht⟩ := wrP_pre bs m d
    refine ⟨t ++ (if bs.getD (m + d) 0 < 0 then [((m + d : Nat) : Int) + 1] else []), ?_⟩
    show wrP bs (m + d) ++ _ = _
    rw [ht, List.append_assoc]
    rfl
/-- the first that is wrong -/
def fwr (bs : List Int) : Option Int := (wrP bs bs.length).head?
theorem fwr_at {bs : List Int} {i : Nat} {b : Int} (h : wrP bs i = []) (e : bs[i]? = some b) (hb : b < 0) : fwr bs = some ((i : Int) + 1) := by
  have hi := (List.getElem?_eq_some_iff.mp e).1
  obtain ⟨t, ht⟩ := wrP_pre bs (i + 1) (bs.length - (i + 1))
  rw [show i + 1 + (bs.length - (i + 1)) = bs.length by omega] at ht
  have h2 : wrP bs (i + 1) = [(i : Int) + 1] := by
    show wrP bs i ++ _ = _
    rw [h, List.getD_eq_getElem?_getD, e]
    show [] ++ (if b < 0 then _ else _) = _
    rw [if_pos hb]
    rfl
  unfold fwr
  rw [ht, h2]
  rfl
theorem wrP_step {bs : List Int} {i : Nat} {b : Int} (e : bs[i]? = some b) : wrP bs (i + 1) = wrP bs i ++ (if b < 0 then [(i : Int) + 1] else []) := by
  show wrP bs i ++ _ = _
  rw [List.getD_eq_getElem?_getD, e]
  rfl
def vOp : Option Int → V
  | none => .non
  | some n => .int n
end Yl

namespace Yl
open PySem PySem.Spec PyProof.Rows L2
/-! ### a, b = e1, e2 -/
theorem sw_names {x1 x2 : Str} {a b : Expr} {px py pt pt2 : Pos} {kt k2 : Nat} {env : Env} (hk : env.blockKind = .function) (h1 : env.kindOf x1 = some .local) (h2 : env.kindOf x2 = some .local) (hl : (py.line == px.line) = true) (hxy : (x1 == x2) = false)
    (hst : ([a, b].any fun | .Starred .. => true | _ => false) = false) (hf : [a, b].all (foldedForSure 8) = false) (hc : [a, b].all (constantsAlone 8) = false) :
    swappedStores [.Tuple [.Name x1 px, .Name x2 py] kt pt] (.Tuple [a, b] k2 pt2) env = pure (some [x1, x2]) := by
  have hyx : (x2 == x1) = false := by
    rw [BEq.comm]
    exact hxy
  have hl2 : py.line = px.line := by simpa using hl
  have e2 : (List.eraseDups [x1, x2]).length = 2 := by
    simp [List.eraseDups, List.eraseDupsBy, List.eraseDupsBy.loop, hxy, hyx]
  unfold swappedStores
  simp only [List.length_cons, List.length_nil, hk, hst, hf, hc]
  simp [h1, h2, hl2, Expr.pos, List.filterMap_cons, e2]
  intro h
  exfalso
  simp only [List.any_cons, List.any_nil, Bool.or_false, Bool.or_eq_false_iff] at hst
  rcases h with h | h
  · exact absurd (hst.1.symm.trans h) (by decide)
  · exact absurd (hst.2.symm.trans h) (by decide)
section
variable {P : Program} {w : World} {K : PySem.W.Frag} {mg : Str → Option Value} {base : Heap} {k : Nat} {N : List Str} {sc : Scope} {vb lb : List Bool} {gs : List Str} {X : Cx} {y : Sy} {σ : L2.St} {Ψ : Value → Sy → Prop} {pos : Pos} {rest : List Stmt}
def PairK (X : Cx) (K : PySem.W.Frag) (σ2 : V → V → L2.St) (rest : List Stmt) (Φ : Fl → Sy → Prop) (Ψ : Value → Sy → Prop) (vs : List V) (y : Sy) : Prop := ∃ v u, vs = [v, u] ∧ Lift K (wSs X rest (σ2 v u)) y Φ Ψ
instance {σ2 : V → V → L2.St} {Φ : Fl → Sy → Prop} {v u : V} : Step (PairK X K σ2 rest Φ Ψ [v, u] y) (Lift K (wSs X rest (σ2 v u)) y Φ Ψ) := ⟨fun h => ⟨v, u, rfl, h⟩⟩
theorem s_par {Φ : Fl → Sy → Prop} {x1 x2 : Str} {a b : Expr} {px py pt pt2 : Pos} {kt k2 : Nat} (i j : Nat) (σ2 : V → V → L2.St) (C : Cn P w K mg base k N sc vb lb gs X) (h1 : N[i]? = some x1) (h2 : N[j]? = some x2) (hij : i ≠ j) (hx : locL sc x1 = true) (hy : locL sc x2 = true) (hl : (py.line == px.line) = true) (hxy : (x1 == x2) = false)
    (hst : ([a, b].any fun | .Starred .. => true | _ => false) = false) (hf : [a, b].all (foldedForSure 8) = false) (hc : [a, b].all (constantsAlone 8) = false) (hsw : ∀ env, swapsWithSole [.Tuple [.Name x1 px, .Name x2 py] kt pt] (.Tuple [a, b] k2 pt2) pos.line env = pure false)
    (hσ : ∀ v u, (σ.set i (some v)).set j (some u) = σ2 v u) (h : Lift K (wA X [a, b] σ) y (PairK X K σ2 rest Φ Ψ) Ψ) :
    Lift K (wSs X (.Assign [.Tuple [.Name x1 px, .Name x2 py] kt pt] (.Tuple [a, b] k2 pt2) pos :: rest) σ) y Φ Ψ := by
  have e1 : X.env.scope.names.lookup x1 = some .local := by
    rw [C.hsc]
    exact locL_loc hx
  have e2 : X.env.scope.names.lookup x2 = some .local := by
    rw [C.hsc]
    exact locL_loc hy
  refine s_cons (Lift.to (T := fun E H Q => wA X [a, b] σ E H fun vs H1 => ∃ v u, vs = [v, u] ∧ Q (.nx ((σ.set i (some v)).set j (some u))) H1) ?_ fun E H Q q tk pins s I => ?_)
  · refine Lift.bind (T1 := wA X [a, b] σ) (T2 := fun vs _ H Q => ∃ v u, vs = [v, u] ∧ Q (Fl.nx ((σ.set i (some v)).set j (some u))) H) (fun _ _ _ q => q) (h.mono (fun vs z ⟨v, u, e, f⟩ => ?_) fun _ _ q => q)
    refine Lift.ret (r := Fl.nx (σ2 v u)) (fun E H Q q => ⟨v, u, e, by rw [hσ]; exact q⟩) f
  · have hb : X.env.blockKind = .function := by
      unfold Env.blockKind
      rw [I.ok.kind]
      rfl
    exact (ps_par (i := i) (j := j) C.calm C.nd (by rw [C.hN]; exact h1) (by rw [C.hN]; exact h2) hij e1 e2 (pa_w tk) (sw_names hb e1 e2 hl hxy hst hf hc) (hsw _)).run pins s σ H (ends Q) I q
/-! ### % by a number of either sign -/
theorem o_modN {Φ : V → Sy → Prop} {i j : Int} (c : j ≠ 0) (h : Φ (.int (i.fmod j)) y) : Lift K (wO X (binaryOp .Mod) (.int i) (.int j)) y Φ Ψ := o_of op_modN (Lift.ret (fun _ _ _ q => ⟨i, j, rfl, rfl, c, q⟩) h)
end
/-! ### greatest common divisors -/
theorem gcd_fmod (a b : Int) : Int.gcd b (a.fmod b) = Int.gcd a b := by
  have h : a.fmod b = a - b * (a.fdiv b) := by
    have := Int.mul_fdiv_add_fmod a b
    omega
  rw [h, Int.gcd_comm a b]
  simp [Int.gcd_sub_mul_left_right, Int.gcd_sub_mul_right_right]
theorem fmod_lt {a b : Int} (h : b ≠ 0) : (a.fmod b).natAbs < b.natAbs := by
  rcases Int.lt_or_gt_of_ne h with h | h
  · have h0 : 0 < -b := by omega
    have h1 := Int.fmod_nonneg_of_pos (-a) h0
    have h2 := Int.fmod_lt_of_pos (-a) h0
    rw [Int.neg_fmod_neg] at h1 h2
    omega
  · have h1 := Int.fmod_nonneg_of_pos a h
    have h2 := Int.fmod_lt_of_pos a h
    omega
/-- a fraction in least terms, its lower part above 0 -/
def frT (a b : Int) : Int := a / (Int.gcd a b : Nat)
def frB (a b : Int) : Int := b / (Int.gcd a b : Nat)
abbrev frD (a b : Int) : Dt := .tuple [.int (frT a b), .int (frB a b)]
end Yl

namespace Yl
open PySem PySem.Spec PyProof.Rows L2
/-! ### longer chains of comparisons, as tests -/
def wCh (X : Cx) (pos : Pos) (v : V) (ops : List CmpOp) (es : List Expr) (σ : L2.St) : TL Bool := fun E H Q => Tk X E → ∀ (pins : List (Addr × Obj)) (s : Shared) (u : Value), Inv X pins σ H s → RelV v u → wpAny (model X.prog X.w) X.A (testChain pos u ops (evalEach es X.env)) (TP X pins σ Q) X.xe s
section
variable {P : Program} {w : World} {K : PySem.W.Frag} {mg : Str → Option Value} {base : Heap} {k : Nat} {N : List Str} {sc : Scope} {vb lb : List Bool} {gs : List Str} {X : Cx} {y : Sy} {σ : L2.St} {Ψ : Value → Sy → Prop} {pos : Pos} {rest : List Stmt} {F : List (V × Dt)} {O : List (Addr × OD)} {x : Str}
theorem ch_last {Φ : Bool → Sy → Prop} {v : V} {op : CmpOp} {e : Expr} (h : Lift K (wE X e σ) y (fun u y1 => Lift K (wO X (compareOp op) v u) y1 (asB Φ) Ψ) Ψ) : Lift K (wCh X pos v [op] [e] σ) y Φ Ψ := by
  refine Lift.bind (T1 := wE X e σ) (T2 := fun u E H Q => wO X (compareOp op) v u E H fun r H2 => ∃ d, r = .bl d ∧ Q d H2) (fun E H Q q tk pins s u I r => ?_) (h.mono (fun u z f => Lift.asB (T := wO X (compareOp op) v u) (fun _ _ _ q => q) f) fun _ _ q => q)
  refine test_last (thn (q tk pins s I) fun c s1 ⟨x1, H1, I1, r1, q1⟩ => thn (q1 pins s1 σ u c I1 r r1) fun d s2 ⟨x2, H2, I2, r2, d2, e2, q2⟩ => ?_)
  subst e2
  cases r2
  exact wpAny_truthy_bool ⟨H2, I2, q2⟩
theorem ch_link {Φ : Bool → Sy → Prop} {v : V} {op op' : CmpOp} {ops : List CmpOp} {e e' : Expr} {es : List Expr} (h : Lift K (wE X e σ) y (fun u y1 => Lift K (wO X (compareOp op) v u) y1 (asB fun d y2 => (d = true → Lift K (wCh X pos u (op' :: ops) (e' :: es) σ) y2 Φ Ψ) ∧ (d = false → Φ false y2)) Ψ) Ψ) :
    Lift K (wCh X pos v (op :: op' :: ops) (e :: e' :: es) σ) y Φ Ψ := by
  refine Lift.bind (T1 := wE X e σ) (T2 := fun u E H Q => wO X (compareOp op) v u E H fun r H2 => ∃ d, r = .bl d ∧ (if d = true then wCh X pos u (op' :: ops) (e' :: es) σ E H2 Q else Q false H2)) (fun E H Q q tk pins s u I r => ?_) (h.mono (fun u z f => ?_) fun _ _ q => q)
  · refine test_link (thn (q tk pins s I) fun c s1 ⟨x1, H1, I1, r1, q1⟩ => thn (q1 pins s1 σ u c I1 r r1) fun d s2 ⟨x2, H2, I2, r2, d2, e2, q2⟩ => ?_)
    subst e2
    cases r2
    refine wpAny_truthy_bool ?_
    cases d2 with
    | false => exact ite_ff ⟨H2, I2, q2⟩
    | true => exact ite_tt (q2 tk pins s2 c I2 r1)
  · refine Lift.bind (T1 := wO X (compareOp op) v u) (T2 := fun r E H Q => ∃ d, r = .bl d ∧ (if d = true then wCh X pos u (op' :: ops) (e' :: es) σ E H Q else Q false H)) (fun _ _ _ q => q) (f.mono (fun r z3 ⟨d, e, f1, f2⟩ => ?_) fun _ _ q => q)
    subst e
    cases d with
    | true => exact Lift.to (f1 rfl) fun _ _ _ q => ⟨true, rfl, q⟩
    | false => exact Lift.ret (r := false) (fun _ _ _ q => ⟨false, rfl, q⟩) (f2 rfl)
class NoMarks (ops : List CmpOp) (es : List Expr) : Prop where
  h : lastMarks ops es = false
instance (op : CmpOp) (e : Expr) [m : NoMark e] : NoMarks [op] [e] := ⟨m.h op⟩
instance (op op' : CmpOp) (ops : List CmpOp) (e e' : Expr) (es : List Expr) [m : NoMarks (op' :: ops) (e' :: es)] : NoMarks (op :: op' :: ops) (e :: e' :: es) := ⟨m.h⟩
theorem t_chN {Φ : Bool → Sy → Prop} {a : Expr} {op op' : CmpOp} {ops : List CmpOp} {e e' : Expr} {es : List Expr} (hm : lastMarks (op :: op' :: ops) (e :: e' :: es) = false) (h : Lift K (wE X a σ) y (fun v y1 => Lift K (wCh X pos v (op :: op' :: ops) (e :: e' :: es) σ) y1 Φ Ψ) Ψ) :
    Lift K (wT X (.Compare a (op :: op' :: ops) (e :: e' :: es) pos) σ) y Φ Ψ := by
  refine Lift.bind (T1 := wE X a σ) (T2 := fun v => wCh X pos v (op :: op' :: ops) (e :: e' :: es) σ) (fun E H Q q tk pins s I => ?_) h
  exact isTrue_chain (thn (q tk pins s I) fun v s1 ⟨x1, H1, I1, r1, q1⟩ => q1 tk pins s1 v I1 r1) hm
instance {Φ : Bool → Sy → Prop} {v : V} {op : CmpOp} {e : Expr} : Step (Lift K (wCh X pos v [op] [e] σ) y Φ Ψ) (Lift K (wE X e σ) y (fun u y1 => Lift K (wO X (compareOp op) v u) y1 (asB Φ) Ψ) Ψ) := ⟨ch_last⟩
instance {Φ : Bool → Sy → Prop} {v : V} {op op' : CmpOp} {ops : List CmpOp} {e e' : Expr} {es : List Expr} : Step (Lift K (wCh X pos v (op :: op' :: ops) (e :: e' :: es) σ) y Φ Ψ) (Lift K (wE X e σ) y (fun u y1 => Lift K (wO X (compareOp op) v u) y1 (asB fun d y2 => (d = true → Lift K (wCh X pos u (op' :: ops) (e' :: es) σ) y2 Φ Ψ) ∧ (d = false → Φ false y2)) Ψ) Ψ) := ⟨ch_link⟩
instance (priority := low) {Φ : Bool → Sy → Prop} {a : Expr} {op op' : CmpOp} {ops : List CmpOp} {e e' : Expr} {es : List Expr} [m : NoMarks (op :: op' :: ops) (e :: e' :: es)] : Step (Lift K (wT X (.Compare a (op :: op' :: ops) (e :: e' :: es) pos) σ) y Φ Ψ) (Lift K (wE X a σ) y (fun v y1 => Lift K (wCh X pos v (op :: op' :: ops) (e :: e' :: es) σ) y1 Φ Ψ) Ψ) := ⟨t_chN m.h⟩
/-! ### three taken apart -/
class Tr3 (e1 e2 e3 : Expr) : Prop where
  h1 : ∀ env, (assignEach [e1, e2, e3] env).length = 3
  h2 : ∀ env, (assignEach [e1, e2, e3] env).findIdx? (·.1) = none
instance {a b c : Str} {p q r : Pos} : Tr3 (.Name a p) (.Name b q) (.Name c r) := ⟨fun _ => rfl, fun _ => rfl⟩
theorem g_three {Φ : L2.St → Sy → Prop} {e1 e2 e3 : Expr} {kk : Nat} {v : V} {i j l : Int} (C : Cn P w K mg base k N sc vb lb gs X) [t : Tr3 e1 e2 e3] (r : Rb ⟨F, O⟩ v (.tuple [.int i, .int j, .int l])) (h : Lift K (wGs X [e1, e2, e3] [.int i, .int j, .int l] σ) ⟨F, O⟩ Φ Ψ) : Lift K (wG X (.Tuple [e1, e2, e3] kk pos) v σ) ⟨F, O⟩ Φ Ψ := by
  refine g_tup3 C r (t.h1 _) (t.h2 _) fun x1 x2 x3 => ?_
  refine Lift.isInt (n := i) (.fact List.mem_cons_self) fun e => ?_
  refine Lift.isInt (n := j) (.fact (List.mem_cons_of_mem _ List.mem_cons_self)) fun e2 => ?_
  refine Lift.isInt (n := l) (.fact (List.mem_cons_of_mem _ (List.mem_cons_of_mem _ List.mem_cons_self))) fun e3 => ?_
  subst e
  subst e2
  subst e3
  exact Lift.forget (F2 := F) (fun e m => List.mem_cons_of_mem _ (List.mem_cons_of_mem _ (List.mem_cons_of_mem _ m))) h
theorem g_two {Φ : L2.St → Sy → Prop} {e1 e2 : Expr} {kk : Nat} {v : V} {i j : Int} (C : Cn P w K mg base k N sc vb lb gs X) [t : Tr2 e1 e2] (r : Rb ⟨F, O⟩ v (.tuple [.int i, .int j])) (h : Lift K (wGs X [e1, e2] [.int i, .int j] σ) ⟨F, O⟩ Φ Ψ) : Lift K (wG X (.Tuple [e1, e2] kk pos) v σ) ⟨F, O⟩ Φ Ψ :=
  g_pair C r fun F' hF => Lift.forget (F2 := F) hF h
/-! ### == of tuples of ints -/
theorem shapedT_ints (ns : List Int) : SeqAt.shaped (.tuple (ns.map .int)) = true := by
  have h1 : PyData.canLay0 (.tuple (ns.map PyData.int)) = true := by
    rw [PyData.canLay0]
    exact lay_ints ns
  have h2 : PyData.depth (.tuple (ns.map PyData.int)) = 1 := by
    rw [PyData.depth, deep_ints]
  unfold SeqAt.shaped
  rw [h1, h2]
  rfl
instance {Φ : V → Sy → Prop} {v u : V} {ds es : List Dt} {ns ms : List Int} [C : Cn P w K mg base k N sc vb lb gs X] [r : Rc F O v (.tuple ds)] [s : Rc F O u (.tuple es)] [m : Ints ds ns] [t : Ints es ms] : Step (Lift K (wO X (compareOp .Eq) v u) ⟨F, O⟩ Φ Ψ) (Φ (.bl (decide (ns = ms))) ⟨F, O⟩) := ⟨fun h => by
  have e1 := m.h
  have e2 := t.h
  refine o_eqD r.h s.h (by rw [e1]; exact plain_ints ns) (by rw [e2]; exact plain_ints ms) (by rw [e1]; exact shapedT_ints ns) (by rw [e2]; exact shapedT_ints ms) C.unl C.hK ?_
  rw [e1, e2]
  show Φ (.bl (PyData.eqvAll _ _)) _
  rw [eqv_ints]
  exact h⟩
instance {Φ : V → Sy → Prop} {v u : V} {ds es : List Dt} {ns ms : List Int} [C : Cn P w K mg base k N sc vb lb gs X] [r : Rc F O v (.tuple ds)] [s : Rc F O u (.tuple es)] [m : Ints ds ns] [t : Ints es ms] : Step (Lift K (wO X (compareOp .NotEq) v u) ⟨F, O⟩ Φ Ψ) (Φ (.bl (!decide (ns = ms))) ⟨F, O⟩) := ⟨fun h => by
  have e1 := m.h
  have e2 := t.h
  refine o_neD r.h s.h (by rw [e1]; exact plain_ints ns) (by rw [e2]; exact plain_ints ms) (by rw [e1]; exact shapedT_ints ns) (by rw [e2]; exact shapedT_ints ms) C.unl C.hK ?_
  rw [e1, e2]
  show Φ (.bl (!PyData.eqvAll _ _)) _
  rw [eqv_ints]
  exact h⟩
instance (priority := high) {Φ : V → Sy → Prop} {v u : V} {ds es : List Dt} {ns : List Int} [C : Cn P w K mg base k N sc vb lb gs X] [r : Rc F O v (.tuple ds)] [s : Rc F O u (.tuple es)] [m : Ints ds ns] [t : Ints es ns] : Step (Lift K (wO X (compareOp .NotEq) v u) ⟨F, O⟩ Φ Ψ) (Φ (.bl false) ⟨F, O⟩) := ⟨fun h => by
  refine go ?_
  rw [decide_eq_true rfl]
  exact h⟩
instance (priority := high) {Φ : V → Sy → Prop} {v u : V} {ds es : List Dt} {ns : List Int} [C : Cn P w K mg base k N sc vb lb gs X] [r : Rc F O v (.tuple ds)] [s : Rc F O u (.tuple es)] [m : Ints ds ns] [t : Ints es ns] : Step (Lift K (wO X (compareOp .Eq) v u) ⟨F, O⟩ Φ Ψ) (Φ (.bl true) ⟨F, O⟩) := ⟨fun h => by
  refine go ?_
  rw [decide_eq_true rfl]
  exact h⟩
/-! ### what is new is handed back -/
theorem rw_new {Φ : V → Sy → Prop} {v : V} {d : Dt} {F F2 : List (V × Dt)} {O O2 : List (Addr × OD)} (h : Φ v ⟨(v, d) :: F2, O2⟩) [m : Fa v F d] [a : SubF F2 F] [b : SubO O2 O] : retW Φ (.rt v) ⟨F, O⟩ := ⟨⟨(v, d) :: F2, O2⟩, fun e g => by
  rcases List.mem_cons.mp g with g | g
  · rw [g]
    exact m.h
  · exact a.h e g, b.h, h⟩
end
end Yl

namespace Yl
open PySem PySem.Spec PyProof.Rows L2
/-! ### fractions in least terms -/
theorem gcd_pos {a b : Int} (h : 0 < b) : 0 < (Int.gcd a b : Int) := by
  have := Int.gcd_pos_of_ne_zero_right a (show b ≠ 0 by omega)
  omega
theorem frT_mul {a b : Int} : frT a b * (Int.gcd a b : Nat) = a := Int.ediv_mul_cancel (Int.gcd_dvd_left ..)
theorem frB_mul {a b : Int} : frB a b * (Int.gcd a b : Nat) = b := Int.ediv_mul_cancel (Int.gcd_dvd_right ..)
theorem frB_pos {a b : Int} (h : 0 < b) : 0 < frB a b := by
  have h1 := gcd_pos (a := a) h
  have h2 := frB_mul (a := a) (b := b)
  refine Int.pos_of_mul_pos_right ?_ h1
  rw [Int.mul_comm, h2]
  exact h
theorem fr_val {a b : Int} : frT a b * b = a * frB a b := by
  have h1 := frT_mul (a := a) (b := b)
  have h2 := frB_mul (a := a) (b := b)
  generalize frT a b = t at *
  generalize frB a b = u at *
  generalize ((Int.gcd a b : Nat) : Int) = g at *
  rw [← h1, ← h2]
  simp only [Int.mul_comm, Int.mul_left_comm, Int.mul_assoc]
theorem fr_scale {g a b : Int} (hg : 0 < g) : frD (g * a) (g * b) = frD a b := by
  have e : ((Int.gcd (g * a) (g * b) : Nat) : Int) = g * (Int.gcd a b : Nat) := by
    rw [Int.gcd_mul_left, Int.natCast_mul]
    congr 1
    omega
  unfold frD frT frB
  rw [e, Int.mul_ediv_mul_of_pos _ _ hg, Int.mul_ediv_mul_of_pos _ _ hg]
theorem fr_eq {a b c d : Int} (hb : 0 < b) (hd : 0 < d) (h : a * d = c * b) : frD a b = frD c d := by
  rw [← fr_scale (a := a) (b := b) hd, ← fr_scale (a := c) (b := d) hb, Int.mul_comm d a, h, Int.mul_comm c b, Int.mul_comm d b]
theorem frT_abs {a b : Int} (h : 0 < b) : (frT a b).natAbs ≤ a.natAbs := by
  have h1 := gcd_pos (a := a) h
  have h2 := frT_mul (a := a) (b := b)
  have h3 : a.natAbs = (frT a b).natAbs * ((Int.gcd a b : Nat) : Int).natAbs := by
    rw [← Int.natAbs_mul, h2]
  rw [h3]
  exact Nat.le_mul_of_pos_right _ (by omega)
theorem frB_le {a b : Int} (h : 0 < b) : frB a b ≤ b := by
  have h1 := gcd_pos (a := a) h
  have h2 := frB_mul (a := a) (b := b)
  have h3 := frB_pos (a := a) h
  rw [← h2]
  have : frB a b * 1 ≤ frB a b * (Int.gcd a b : Nat) := Int.mul_le_mul_of_nonneg_left (by omega) (by omega)
  rw [h2] at this
  rw [h2]
  omega
theorem fr_sign {a b : Int} (h : 0 < b) : (frT a b ≤ 0 ↔ a ≤ 0) := by
  have h1 := gcd_pos (a := a) h
  have h2 := frT_mul (a := a) (b := b)
  constructor
  · intro h3
    rw [← h2]
    exact Int.mul_nonpos_of_nonpos_of_nonneg h3 (by omega)
  · intro h3
    refine Int.not_lt.mp fun h4 => ?_
    have := Int.mul_pos h4 h1
    omega
/-! ### extend -/
section
variable {P : Program} {w : World} {K : PySem.W.Frag} {mg : Str → Option Value} {base : Heap} {k : Nat} {N : List Str} {sc : Scope} {vb lb : List Bool} {gs : List Str} {X : Cx} {y : Sy} {σ : L2.St} {Ψ : Value → Sy → Prop} {e a : Expr}
instance [C : Cn P w K mg base k N sc vb lb gs X] {Φ : V → Sy → Prop} [m : NoStar e] [m2 : NoSuper a] {l c el ec c' el' ec' : Nat} : Step (Lift K (wE X (.Call (.Attribute a "extend" ⟨l, c, el, ec⟩) [e] [] ⟨el, c', el', ec'⟩) σ) y Φ Ψ) (Lift K (wE X a σ) y (AppK K X e σ "list.extend" Φ Ψ) Ψ) := ⟨l_methL C PySem.F.slot_list_extend PySem.F.type_list_extend (m2.h _ _) (by
    rw [backTo_all, m.h]
    rfl) (by show (el == el) = true; exact beq_self_eq_true _) (m.h _ _)⟩
end
theorem gcd_emod {c d : Int} (h : 0 ≤ d) : Int.gcd d (c % d) = Int.gcd c d := by
  rw [← Int.fmod_eq_emod_of_nonneg c h, gcd_fmod]
theorem gcd_absl {a b c : Int} (h : c.natAbs = a.natAbs) : Int.gcd c b = Int.gcd a b := by
  unfold Int.gcd
  rw [h]
theorem ints_at {es : List Dt} {ns : List Int} {i : Nat} {d : Dt} [m : Ints es ns] (h : es[i]? = some d) : ∃ n, ns[i]? = some n ∧ d = .int n := by
  rw [m.h, List.getElem?_map] at h
  obtain ⟨n, h1, h2⟩ := Option.map_eq_some_iff.mp h
  exact ⟨n, h1, h2.symm⟩
end Yl

namespace Yl
open PySem PySem.Spec PyProof.Rows L2
/-! ### the lower corners of points in the plane -/
/-- how far p lies above the line through a and b, times b - a -/
def Yd (f : Int → Int) (a b p : Int) : Int := f p * (b - a) - (f a * (b - p) + f b * (p - a))
theorem yd_a (f : Int → Int) (a b : Int) : Yd f a b a = 0 := by unfold Yd; grind
theorem yd_b (f : Int → Int) (a b : Int) : Yd f a b b = 0 := by unfold Yd; grind
theorem nn_of {x y z : Int} (h : 0 < x) (h2 : 0 ≤ y) (h3 : x * z = y) : 0 ≤ z := by
  subst h3
  exact Int.nonneg_of_mul_nonneg_right h2 h
theorem sum_nn {a b c d : Int} (h1 : 0 ≤ a) (h2 : 0 ≤ b) (h3 : 0 ≤ c) (h4 : 0 ≤ d) : 0 ≤ a * b + c * d :=
  Int.add_nonneg (Int.mul_nonneg h1 h2) (Int.mul_nonneg h3 h4)
section
variable {f : Int → Int} {s u t q p : Int}
/-- t popped: a point behind t -/
theorem pop_hi (h1 : u < t) (h2 : t < q) (hp : p ≤ q) (c : Yd f u t q ≤ 0) (h : 0 ≤ Yd f t q p) : 0 ≤ Yd f u q p :=
  nn_of (x := q - t) (y := (q - u) * Yd f t q p + (q - p) * (0 - Yd f u t q)) (by omega) (sum_nn (by omega) h (by omega) (by omega)) (by unfold Yd; grind)
/-- t popped: a point between u and t -/
theorem pop_lo (h1 : u < t) (h2 : t < q) (hp : u ≤ p) (c : Yd f u t q ≤ 0) (h : 0 ≤ Yd f u t p) : 0 ≤ Yd f u q p :=
  nn_of (x := t - u) (y := (q - u) * Yd f u t p + (p - u) * (0 - Yd f u t q)) (by omega) (sum_nn (by omega) h (by omega) (by omega)) (by unfold Yd; grind)
/-- q put on t: a point ahead of t -/
theorem put_lo (h1 : u < t) (h2 : t < q) (hp : p ≤ t) (c : 0 ≤ Yd f u t q) (h : 0 ≤ Yd f u t p) : 0 ≤ Yd f t q p :=
  nn_of (x := t - u) (y := (q - t) * Yd f u t p + (t - p) * Yd f u t q) (by omega) (sum_nn (by omega) h (by omega) c) (by unfold Yd; grind)
/-- an edge further down is below q too -/
theorem put_edge (h0 : s < u) (h1 : u < t) (h2 : t < q) (c : 0 ≤ Yd f s u t) (h : 0 ≤ Yd f u t q) : 0 ≤ Yd f s u q :=
  nn_of (x := t - u) (y := (u - s) * Yd f u t q + (q - u) * Yd f s u t) (by omega) (sum_nn (by omega) h (by omega) c) (by unfold Yd; grind)
end
/-- corners, the last first, of the points 0 .. n -/
def Hull (f : Int → Int) (n : Int) : List Int → Prop
  | [] => False
  | [t] => t = 0
  | t :: u :: r => 0 ≤ u ∧ u < t ∧ (∀ p, 0 ≤ p → p ≤ n → 0 ≤ Yd f u t p) ∧ (∀ s, r.head? = some s → 0 < Yd f s u t) ∧ Hull f n (u :: r)
theorem Hull.nn {f : Int → Int} {n t : Int} {r : List Int} (h : Hull f n (t :: r)) : 0 ≤ t := by
  cases r with
  | nil =>
    have h : t = 0 := h
    omega
  | cons u r =>
    have h1 := h.1
    have h2 := h.2.1
    omega
/-- one point more -/
theorem Hull.more {f : Int → Int} {n q : Int} (hq : q = n + 1) : ∀ {r : List Int} {t : Int}, t ≤ n → Hull f n (t :: r) → (∀ u, r.head? = some u → 0 ≤ Yd f u t q) → Hull f q (t :: r)
  | [], t, ht, h, hu => h
  | u :: r, t, ht, h, hu => by
    obtain ⟨h0, h1, h2, h3, h4⟩ := h
    have hq2 := hu u rfl
    refine ⟨h0, h1, fun p hp hp2 => ?_, h3, Hull.more hq (by omega) h4 fun s hs => ?_⟩
    · by_cases e : p ≤ n
      · exact h2 p hp e
      · have e : p = q := by omega
        subst e
        exact hq2
    · cases r with
      | nil => cases hs
      | cons s' r =>
        cases hs
        exact put_edge h4.2.1 h1 (by omega) (Int.le_of_lt (h3 _ rfl)) hq2
/-- q put on the stack -/
theorem Hull.put {f : Int → Int} {n q t : Int} {r : List Int} (hq : q = n + 1) (ht : t ≤ n) (h : Hull f n (t :: r)) (hc : ∀ p, t ≤ p → p ≤ q → 0 ≤ Yd f t q p) (hs : ∀ u, r.head? = some u → 0 < Yd f u t q) : Hull f q (q :: t :: r) := by
  refine ⟨h.nn, by omega, fun p hp hp2 => ?_, hs, h.more hq ht fun u hu => Int.le_of_lt (hs u hu)⟩
  by_cases e : t ≤ p
  · exact hc p e hp2
  · cases r with
    | nil =>
      have h : t = 0 := h
      omega
    | cons u r =>
      exact put_lo h.2.1 (by omega) (by omega) (Int.le_of_lt (hs u rfl)) (h.2.2.1 p hp (by omega))
/-- t popped -/
theorem Hull.pop {f : Int → Int} {n q t u : Int} {r : List Int} (hq : q = n + 1) (ht : t ≤ n) (h : Hull f n (t :: u :: r)) (hc : ∀ p, t ≤ p → p ≤ q → 0 ≤ Yd f t q p) (c : Yd f u t q ≤ 0) : Hull f n (u :: r) ∧ u ≤ n ∧ ∀ p, u ≤ p → p ≤ q → 0 ≤ Yd f u q p := by
  refine ⟨h.2.2.2.2, by have := h.2.1; omega, fun p hp hp2 => ?_⟩
  by_cases e : t ≤ p
  · exact pop_hi h.2.1 (by omega) hp2 c (hc p e hp2)
  · exact pop_lo h.2.1 (by omega) hp c (h.2.2.1 p (by have := h.1; omega) (by omega))
/-- the edge above a point -/
theorem Hull.edge {f : Int → Int} {n : Int} : ∀ {r : List Int} {t : Int}, Hull f n (t :: r) → ∀ p, 0 ≤ p → p ≤ t → (t = 0) ∨ ∃ a b, 0 ≤ a ∧ a < b ∧ b ≤ t ∧ a ≤ p ∧ p ≤ b ∧ ∀ p, 0 ≤ p → p ≤ n → 0 ≤ Yd f a b p
  | [], t, h, p, hp, hp2 => .inl h
  | u :: r, t, h, p, hp, hp2 => by
    by_cases e : u ≤ p
    · exact .inr ⟨u, t, h.1, h.2.1, Int.le_refl _, e, hp2, h.2.2.1⟩
    · rcases Hull.edge h.2.2.2.2 p hp (by omega) with e2 | ⟨a, b, h0, h1, h2, h3, h4, h5⟩
      · omega
      · exact .inr ⟨a, b, h0, h1, by have := h.2.1; omega, h3, h4, h5⟩
/-! ### from behind; pop -/
section
variable {P : Program} {w : World} {K : PySem.W.Frag} {mg : Str → Option Value} {base : Heap} {k : Nat} {N : List Str} {sc : Scope} {vb lb : List Bool} {gs : List Str} {X : Cx} {y : Sy} {σ : L2.St} {Ψ : Value → Sy → Prop} {e a : Expr} {F : List (V × Dt)} {O : List (Addr × OD)}
theorem ix_back {Φ : V → Sy → Prop} {v : V} {ds : List Dt} {rs : List Int} {i x : Int} [r : Rc F O v (.list ds)] [C : Cn P w K mg base k N sc vb lb gs X] (n : Nat) (hi : i = -((n : Nat) : Int) - 1) (hd : ds = rs.reverse.map .int) (hx : rs[n]? = some x) (h : Φ (.int x) ⟨F, O⟩) : Lift K (wIx X v (.int i)) ⟨F, O⟩ Φ Ψ := by
  have hn := (List.getElem?_eq_some_iff.mp hx).1
  refine ix_lstI (r.h) ?_ C.hK h
  rw [hd, atI_map]
  have e : atI rs.reverse i = some x := by
    have e2 : ixN rs.reverse.length i = some (rs.length - 1 - n) := by
      unfold ixN
      rw [List.length_reverse, if_neg (by omega), if_pos (by omega)]
      congr 1
      omega
    unfold atI
    rw [e2]
    show rs.reverse[rs.length - 1 - n]? = some x
    rw [List.getElem?_reverse (by omega), show rs.length - 1 - (rs.length - 1 - n) = n by omega]
    exact hx
  rw [e]
  rfl
def PopK (K : PySem.W.Frag) (X : Cx) (id : String) (Φ : V → Sy → Prop) (Ψ : Value → Sy → Prop) (v : V) (y : Sy) : Prop := ∃ ds, Rb y v (.list ds) ∧ Lift K (wM X id v []) y Φ Ψ
instance [C : Cn P w K mg base k N sc vb lb gs X] {Φ : V → Sy → Prop} [m2 : NoSuper a] {l c el ec c' el' ec' : Nat} : Step (Lift K (wE X (.Call (.Attribute a "pop" ⟨l, c, el, ec⟩) [] [] ⟨el, c', el', ec'⟩) σ) y Φ Ψ) (Lift K (wE X a σ) y (PopK K X "list.pop" Φ Ψ) Ψ) := ⟨l_methL0 C PySem.F.slot_list_pop PySem.F.type_list_pop (m2.h _ _) (by show (el == el) = true; exact beq_self_eq_true _)⟩
instance {v : V} {ds : List Dt} [r : Rc F O v (.list ds)] {id : String} {Φ : V → Sy → Prop} : Step (PopK K X id Φ Ψ v ⟨F, O⟩) (Lift K (wM X id v []) ⟨F, O⟩ Φ Ψ) := ⟨fun h => ⟨ds, r.h, h⟩⟩
end
end Yl

namespace Yl
open PySem PySem.Spec PyProof.Rows L2
/-! ### the greatest row below, place by place -/
def lnV (f : Int → Int) (a b p : Int) : Int := f a * (b - a) + (f b - f a) * (p - a)
theorem yd_ln (f : Int → Int) (a b p : Int) : Yd f a b p = f p * (b - a) - lnV f a b p := by unfold Yd lnV; grind
/-- a line below all places -/
def Sup (f : Int → Int) (n a b : Int) : Prop := 0 ≤ a ∧ a < b ∧ b < n ∧ ∀ q, 0 ≤ q → q < n → lnV f a b q ≤ f q * (b - a)
def Low (f : Int → Int) (n p t u : Int) : Prop := (n = 1 ∧ t = f 0 ∧ u = 1) ∨ ∃ a b, Sup f n a b ∧ a ≤ p ∧ p ≤ b ∧ t = frT (lnV f a b p) (b - a) ∧ u = frB (lnV f a b p) (b - a)
theorem le_cancel {x a b : Int} (h : 0 < x) (h2 : x * a ≤ x * b) : a ≤ b := Int.le_of_mul_le_mul_left h2 h
theorem eq_cancel {x a b : Int} (h : 0 < x) (h2 : x * a = x * b) : a = b := Int.eq_of_mul_eq_mul_left (by omega) h2
theorem gcd_one (a : Int) : Int.gcd a 1 = 1 := by simp [Int.gcd]
theorem frT_one (a : Int) : frT a 1 = a := by
  unfold frT
  rw [gcd_one]
  simp
theorem frB_one (a : Int) : frB a 1 = 1 := by
  unfold frB
  rw [gcd_one]
  simp
theorem fr_parts {a b c d : Int} (hb : 0 < b) (hd : 0 < d) (h : a * d = c * b) : frT a b = frT c d ∧ frB a b = frB c d := by
  have := fr_eq hb hd h
  injection this with h1
  injection h1 with h2 h3
  injection h2 with h2
  injection h3 with h3 h4
  injection h3 with h3
  exact ⟨h2, h3⟩
section
variable {f : Int → Int} {n p t u : Int}
theorem Low.form (h : Low f n p t u) : ∃ x y, 0 < y ∧ t = frT x y ∧ u = frB x y := by
  rcases h with ⟨h0, h1, h2⟩ | ⟨a, b, hS, h1, h2, h3, h4⟩
  · exact ⟨f 0, 1, by decide, by rw [frT_one]; exact h1, by rw [frB_one]; exact h2⟩
  · exact ⟨_, _, by have := hS.2.1; omega, h3, h4⟩
theorem Low.pos (h : Low f n p t u) : 0 < u := by
  obtain ⟨x, y, h1, rfl, rfl⟩ := h.form
  exact frB_pos h1
theorem Low.own (h : Low f n p t u) (h0 : 0 ≤ p) (h1 : p < n) : t ≤ f p * u := by
  have hu := h.pos
  rcases h with ⟨e0, e1, e2⟩ | ⟨a, b, ⟨s0, s1, s2, s3⟩, a1, a2, rfl, rfl⟩
  · have e : p = 0 := by omega
    subst e
    subst e1
    subst e2
    omega
  · refine le_cancel (x := b - a) (by omega) ?_
    rw [Int.mul_comm _ (frT _ _), fr_val]
    have h2 := Int.mul_le_mul_of_nonneg_right (s3 p h0 h1) (Int.le_of_lt hu)
    grind
theorem Low.line (h : Low f n p t u) {i k : Int} (h0 : 0 ≤ i) (h1 : i ≤ p) (h2 : p ≤ k) (h3 : k < n) : t * (k - i) ≤ (f i * (k - p) + f k * (p - i)) * u := by
  have hu := h.pos
  rcases h with ⟨e0, e1, e2⟩ | ⟨a, b, ⟨s0, s1, s2, s3⟩, a1, a2, rfl, rfl⟩
  · have e : p = 0 := by omega
    subst e
    have e : k = 0 := by omega
    subst e
    have e : i = 0 := by omega
    subst e
    simp
  · refine le_cancel (x := b - a) (by omega) ?_
    have e : (b - a) * (frT (lnV f a b p) (b - a) * (k - i)) = lnV f a b p * (k - i) * frB (lnV f a b p) (b - a) := by
      have := fr_val (a := lnV f a b p) (b := b - a)
      grind
    rw [e, ← Int.mul_assoc]
    refine Int.mul_le_mul_of_nonneg_right ?_ (Int.le_of_lt hu)
    have h4 := Int.mul_le_mul_of_nonneg_right (s3 i h0 (by omega)) (show 0 ≤ k - p by omega)
    have h5 := Int.mul_le_mul_of_nonneg_right (s3 k (by omega) h3) (show 0 ≤ p - i by omega)
    have e2 : lnV f a b p * (k - i) = lnV f a b i * (k - p) + lnV f a b k * (p - i) := by unfold lnV; grind
    have e3 : (b - a) * (f i * (k - p) + f k * (p - i)) = f i * (b - a) * (k - p) + f k * (b - a) * (p - i) := by grind
    rw [e2, e3]
    omega
theorem Low.is (h : Low f n p t u) (h0 : 0 ≤ p) (h1 : p < n) : (t = f p ∧ u = 1) ∨ ∃ i k, 0 ≤ i ∧ i < p ∧ p < k ∧ k < n ∧ t * (k - i) = (f i * (k - p) + f k * (p - i)) * u := by
  rcases h with ⟨e0, e1, e2⟩ | ⟨a, b, ⟨s0, s1, s2, s3⟩, a1, a2, rfl, rfl⟩
  · have e : p = 0 := by omega
    subst e
    exact .inl ⟨e1, e2⟩
  · by_cases ea : p = a
    · left
      have := fr_parts (a := lnV f a b p) (b := b - a) (c := f p) (d := 1) (by omega) (by decide) (by subst ea; unfold lnV; grind)
      rw [this.1, this.2, frT_one, frB_one]
      exact ⟨rfl, rfl⟩
    · by_cases eb : p = b
      · left
        have := fr_parts (a := lnV f a b p) (b := b - a) (c := f p) (d := 1) (by omega) (by decide) (by subst eb; unfold lnV; grind)
        rw [this.1, this.2, frT_one, frB_one]
        exact ⟨rfl, rfl⟩
      · right
        refine ⟨a, b, s0, by omega, by omega, s2, ?_⟩
        rw [fr_val]
        congr 1
        unfold lnV
        grind
theorem fr_uniq {x y x' y' : Int} (h : 0 < y) (h' : 0 < y') (e : frT x y * frB x' y' = frT x' y' * frB x y) : frT x y = frT x' y' ∧ frB x y = frB x' y' := by
  refine fr_parts h h' ?_
  have e1 := frT_mul (a := x) (b := y)
  have e2 := frB_mul (a := x) (b := y)
  have e3 := frT_mul (a := x') (b := y')
  have e4 := frB_mul (a := x') (b := y')
  generalize frT x y = T at *
  generalize frB x y = B at *
  generalize frT x' y' = T' at *
  generalize frB x' y' = B' at *
  generalize ((Int.gcd x y : Nat) : Int) = g at *
  generalize ((Int.gcd x' y' : Nat) : Int) = g' at *
  rw [← e1, ← e2, ← e3, ← e4]
  grind
/-- what is below a number and all lines about it, and is one of them, is the least -/
theorem Low.le {t' u' : Int} (h : Low f n p t u) (h0 : 0 ≤ p) (h1 : p < n) (hu : 0 < u') (h2 : t' ≤ f p * u') (h3 : ∀ i k, 0 ≤ i → i < p → p < k → k < n → t' * (k - i) ≤ (f i * (k - p) + f k * (p - i)) * u') : t' * u ≤ t * u' := by
  have hp := h.pos
  rcases h.is h0 h1 with ⟨rfl, rfl⟩ | ⟨i, k, a0, a1, a2, a3, e⟩
  · rw [Int.mul_one]
    exact h2
  · refine le_cancel (x := k - i) (by omega) ?_
    have h4 := Int.mul_le_mul_of_nonneg_right (h3 i k a0 a1 a2 a3) (Int.le_of_lt hp)
    have e5 : (k - i) * (t * u') = (f i * (k - p) + f k * (p - i)) * u' * u := by grind
    rw [e5]
    have e6 : (k - i) * (t' * u) = t' * (k - i) * u := by grind
    rw [e6]
    exact h4
theorem Low.uniq {t' u' : Int} (h : Low f n p t u) (h' : Low f n p t' u') (h0 : 0 ≤ p) (h1 : p < n) : t = t' ∧ u = u' := by
  have a1 := h.le h0 h1 h'.pos (h'.own h0 h1) fun i k a b c d => h'.line a (by omega) (by omega) d
  have a2 := h'.le h0 h1 h.pos (h.own h0 h1) fun i k a b c d => h.line a (by omega) (by omega) d
  obtain ⟨x, y, hy, rfl, rfl⟩ := h.form
  obtain ⟨x', y', hy', rfl, rfl⟩ := h'.form
  exact fr_uniq hy hy' (by omega)
/-- a place that touches -/
def Tch (f : Int → Int) (n p : Int) : Prop := ∀ i k, 0 ≤ i → i < p → p < k → k < n → f p * (k - i) ≤ f i * (k - p) + f k * (p - i)
theorem Low.tch (h : Low f n p t u) (h0 : 0 ≤ p) (h1 : p < n) : (t = f p ∧ u = 1) ↔ Tch f n p := by
  constructor
  · rintro ⟨rfl, rfl⟩ i k a b c d
    have := h.line a (show i ≤ p by omega) (show p ≤ k by omega) d
    rwa [Int.mul_one] at this
  · intro hT
    have a1 := h.own h0 h1
    have a2 := h.le h0 h1 (t' := f p) (u' := 1) (by decide) (by omega) fun i k a b c d => by
      rw [Int.mul_one]
      exact hT i k a b c d
    obtain ⟨x, y, hy, rfl, rfl⟩ := h.form
    have := fr_uniq (x := x) (y := y) (x' := f p) (y' := 1) hy (by decide) (by rw [frT_one, frB_one]; omega)
    rwa [frT_one, frB_one] at this
end
/-! ### the least of a number and all lines about it -/
structure Mn (f : Int → Int) (n p t u : Int) : Prop where
  form : ∃ x y, 0 < y ∧ t = frT x y ∧ u = frB x y
  own : t ≤ f p * u
  line : ∀ i k, 0 ≤ i → i < p → p < k → k < n → t * (k - i) ≤ (f i * (k - p) + f k * (p - i)) * u
  att : t = f p * u ∨ ∃ i k, 0 ≤ i ∧ i < p ∧ p < k ∧ k < n ∧ t * (k - i) = (f i * (k - p) + f k * (p - i)) * u
section
variable {f : Int → Int} {n p t u : Int}
theorem Low.mn (h : Low f n p t u) (h0 : 0 ≤ p) (h1 : p < n) : Mn f n p t u := ⟨h.form, h.own h0 h1, fun i k a b c d => h.line a (by omega) (by omega) d, by
  rcases h.is h0 h1 with ⟨rfl, rfl⟩ | e
  · exact .inl (by omega)
  · exact .inr e⟩
theorem Mn.pos (h : Mn f n p t u) : 0 < u := by
  obtain ⟨x, y, h1, rfl, rfl⟩ := h.form
  exact frB_pos h1
theorem Mn.le {t' u' : Int} (h : Mn f n p t u) (hu : 0 < u') (h2 : t' ≤ f p * u') (h3 : ∀ i k, 0 ≤ i → i < p → p < k → k < n → t' * (k - i) ≤ (f i * (k - p) + f k * (p - i)) * u') : t' * u ≤ t * u' := by
  have hp := h.pos
  rcases h.att with e | ⟨i, k, a0, a1, a2, a3, e⟩
  · rw [e]
    have := Int.mul_le_mul_of_nonneg_right h2 (Int.le_of_lt hp)
    have e6 : f p * u * u' = f p * u' * u := by grind
    rw [e6]
    exact this
  · refine le_cancel (x := k - i) (by omega) ?_
    have h4 := Int.mul_le_mul_of_nonneg_right (h3 i k a0 a1 a2 a3) (Int.le_of_lt hp)
    have e5 : (k - i) * (t * u') = (f i * (k - p) + f k * (p - i)) * u' * u := by grind
    rw [e5]
    have e6 : (k - i) * (t' * u) = t' * (k - i) * u := by grind
    rw [e6]
    exact h4
theorem Mn.uniq {t' u' : Int} (h : Mn f n p t u) (h' : Mn f n p t' u') : t = t' ∧ u = u' := by
  have a1 := h.le h'.pos h'.own h'.line
  have a2 := h'.le h.pos h.own h.line
  obtain ⟨x, y, hy, rfl, rfl⟩ := h.form
  obtain ⟨x', y', hy', rfl, rfl⟩ := h'.form
  exact fr_uniq hy hy' (by omega)
end
/-! ### rows of fractions -/
def prD (bs : List (Int × Int)) : List Dt := bs.map fun x => .tuple [.int x.1, .int x.2]
def Lows (f : Int → Int) (n : Int) (bs : List (Int × Int)) : Prop := ∀ (p : Nat) x, bs[p]? = some x → Low f n (p : Nat) x.1 x.2
theorem prD_len (bs : List (Int × Int)) : (prD bs).length = bs.length := by
  unfold prD
  rw [List.length_map]
theorem prD_app (bs cs : List (Int × Int)) : prD (bs ++ cs) = prD bs ++ prD cs := by
  unfold prD
  rw [List.map_append]
theorem prD_at {bs : List (Int × Int)} {i : Nat} {d : Dt} (h : (prD bs)[i]? = some d) : ∃ x, bs[i]? = some x ∧ d = .tuple [.int x.1, .int x.2] := by
  unfold prD at h
  rw [List.getElem?_map] at h
  obtain ⟨x, h1, h2⟩ := Option.map_eq_some_iff.mp h
  exact ⟨x, h1, h2.symm⟩
theorem zipP_at {bs cs : List (Int × Int)} {i : Nat} {d : Dt} (h : (zipD (prD bs) (prD cs))[i]? = some d) : ∃ z x, bs[i]? = some z ∧ cs[i]? = some x ∧ d = .tuple [.tuple [.int z.1, .int z.2], .tuple [.int x.1, .int x.2]] := by
  unfold zipD prD at h
  rw [List.getElem?_zipWith, List.getElem?_map, List.getElem?_map] at h
  cases h1 : bs[i]? with
  | none =>
    rw [h1] at h
    cases h
  | some a =>
    cases h2 : cs[i]? with
    | none =>
      rw [h1, h2] at h
      cases h
    | some b =>
      rw [h1, h2] at h
      cases h
      exact ⟨a, b, rfl, rfl, rfl⟩
theorem zipIP_at {ns : List Int} {cs : List (Int × Int)} {i : Nat} {d : Dt} (h : (zipD (ns.map .int) (prD cs))[i]? = some d) : ∃ z x, ns[i]? = some z ∧ cs[i]? = some x ∧ d = .tuple [.int z, .tuple [.int x.1, .int x.2]] := by
  unfold zipD prD at h
  rw [List.getElem?_zipWith, List.getElem?_map, List.getElem?_map] at h
  cases h1 : ns[i]? with
  | none =>
    rw [h1] at h
    cases h
  | some a =>
    cases h2 : cs[i]? with
    | none =>
      rw [h1, h2] at h
      cases h
    | some b =>
      rw [h1, h2] at h
      cases h
      exact ⟨a, b, rfl, rfl, rfl⟩
section
variable {P : Program} {w : World} {K : PySem.W.Frag} {mg : Str → Option Value} {base : Heap} {k : Nat} {N : List Str} {sc : Scope} {vb lb : List Bool} {gs : List Str} {X : Cx} {y : Sy} {σ : L2.St} {Ψ : Value → Sy → Prop} {pos : Pos} {F : List (V × Dt)} {O : List (Addr × OD)}
theorem g_twoD {Φ : L2.St → Sy → Prop} {e1 e2 : Expr} {kk : Nat} {v : V} {d1 d2 : Dt} (C : Cn P w K mg base k N sc vb lb gs X) [t : Tr2 e1 e2] (r : Rb ⟨F, O⟩ v (.tuple [d1, d2])) (h : ∀ x1 x2, Lift K (wGs X [e1, e2] [x1, x2] σ) ⟨(x1, d1) :: (x2, d2) :: F, O⟩ Φ Ψ) : Lift K (wG X (.Tuple [e1, e2] kk pos) v σ) ⟨F, O⟩ Φ Ψ := g_tup2 C r (t.h1 _) (t.h2 _) h
theorem ix_pr {Φ : V → Sy → Prop} {v : V} {bs : List (Int × Int)} {i : Int} [r : Rc F O v (.list (prD bs))] [C : Cn P w K mg base k N sc vb lb gs X] (h0 : 0 ≤ i) (h1 : i < bs.length) (h : ∀ x z, bs[i.toNat]? = some z → Φ x ⟨(x, .tuple [.int z.1, .int z.2]) :: F, O⟩) : Lift K (wIx X v (.int i)) ⟨F, O⟩ Φ Ψ := by
  obtain ⟨n, e1, e2⟩ := atI_some h0 h1
  refine ix_lst (d := .tuple [.int n.1, .int n.2]) r.h ?_ C.hK fun x => h x n e2
  unfold prD
  rw [atI_map, e1]
  rfl
end
theorem Lows.uniq {f : Int → Int} {n : Nat} {bs cs : List (Int × Int)} (h : Lows f n bs) (h' : Lows f n cs) (hb : bs.length = n) (hc : cs.length = n) : bs = cs := by
  refine List.ext_getElem (by omega) fun i h1 h2 => ?_
  have a := h i _ (List.getElem?_eq_getElem h1)
  have b := h' i _ (List.getElem?_eq_getElem h2)
  obtain ⟨e1, e2⟩ := a.uniq b (by omega) (by omega)
  exact Prod.ext e1 e2
/-- the fractions of one stretch -/
def segL (f : Int → Int) (a b : Int) : List (Int × Int) := (List.range (b - a).toNat).map fun l => (frT (lnV f a b (a + 1 + (l : Nat))) (b - a), frB (lnV f a b (a + 1 + (l : Nat))) (b - a))
theorem segL_len (f : Int → Int) (a b : Int) : (segL f a b).length = (b - a).toNat := by
  unfold segL
  rw [List.length_map, List.length_range]
theorem segL_at {f : Int → Int} {a b : Int} {l : Nat} {x : Int × Int} (h : (segL f a b)[l]? = some x) : a + 1 + (l : Nat) ≤ b ∧ x = (frT (lnV f a b (a + 1 + (l : Nat))) (b - a), frB (lnV f a b (a + 1 + (l : Nat))) (b - a)) := by
  have hl := (List.getElem?_eq_some_iff.mp h).1
  rw [segL_len] at hl
  unfold segL at h
  rw [List.getElem?_map, List.getElem?_range hl] at h
  cases h
  exact ⟨by omega, rfl⟩
theorem Lows.seg {f : Int → Int} {n : Nat} {bs : List (Int × Int)} {a b : Int} (h : Lows f n bs) (hS : Sup f n a b) (hl : (bs.length : Int) = a + 1) : Lows f n (bs ++ segL f a b) := by
  intro p x hx
  by_cases c : p < bs.length
  · rw [List.getElem?_append_left c] at hx
    exact h p x hx
  · rw [List.getElem?_append_right (by omega)] at hx
    obtain ⟨h1, rfl⟩ := segL_at hx
    rw [show a + 1 + ((p - bs.length : Nat) : Int) = (p : Nat) by omega] at h1 ⊢
    exact .inr ⟨a, b, hS, by omega, h1, rfl, rfl⟩
theorem Hull.asc {f : Int → Int} {n : Int} : ∀ {rs : List Int} {t : Int}, t ≤ n → Hull f n (t :: rs) → (t :: rs).reverse[0]? = some 0 ∧ ∀ (m : Nat) u v, (t :: rs).reverse[m]? = some u → (t :: rs).reverse[m + 1]? = some v → Sup f (n + 1) u v
  | [], t, ht, h => by
    have h : t = 0 := h
    subst h
    exact ⟨rfl, fun m u v h1 h2 => by simp at h2⟩
  | s :: r, t, ht, h => by
    obtain ⟨h0, h1, h2, h3, h4⟩ := h
    obtain ⟨i1, i2⟩ := Hull.asc (by omega) h4
    have hl : (s :: r).reverse.length = r.length + 1 := by rw [List.length_reverse, List.length_cons]
    rw [List.reverse_cons]
    refine ⟨by rw [List.getElem?_append_left (by omega)]; exact i1, fun m u v e1 e2 => ?_⟩
    by_cases e : m + 1 < r.length + 1
    · rw [List.getElem?_append_left (by omega)] at e1 e2
      exact i2 m u v e1 e2
    · have hm := (List.getElem?_eq_some_iff.mp e2).1
      rw [List.length_append, hl] at hm
      have hm : m = r.length := by
        have : [t].length = 1 := rfl
        omega
      subst hm
      rw [List.getElem?_append_left (by omega)] at e1
      rw [List.getElem?_append_right (by omega), hl, Nat.sub_self] at e2
      have e3 : (s :: r).reverse[r.length]? = some s := by
        rw [List.getElem?_reverse (by rw [List.length_cons]; omega), List.length_cons, show r.length + 1 - 1 - r.length = 0 by omega]
        rfl
      cases e1.symm.trans e3
      cases e2
      refine ⟨h0, h1, by omega, fun q hq hq2 => ?_⟩
      have := h2 q hq (by omega)
      rw [yd_ln] at this
      omega
theorem Hull.low0 {f : Int → Int} {n : Nat} {rs : List Int} {t : Int} (hn : 1 ≤ n) (ht : t = (n : Nat) - 1) (h : Hull f ((n : Nat) - 1) (t :: rs)) : Lows f n [(f 0, 1)] := by
  intro p x hx
  have hp := (List.getElem?_eq_some_iff.mp hx).1
  have hp : p = 0 := by
    have : [(f 0, (1 : Int))].length = 1 := rfl
    omega
  subst hp
  cases hx
  rcases h.edge 0 (by omega) (by omega) with e | ⟨a, b, h0, h1, h2, h3, h4, h5⟩
  · exact .inl ⟨by omega, rfl, rfl⟩
  · have e : a = 0 := by omega
    subst e
    refine .inr ⟨0, b, ⟨by decide, h1, by omega, fun q hq hq2 => ?_⟩, by decide, by omega, ?_⟩
    · have := h5 q hq (by omega)
      rw [yd_ln] at this
      omega
    · have e := fr_parts (a := lnV f 0 b (0 : Nat)) (b := b - 0) (c := f 0) (d := 1) (by omega) (by decide) (by unfold lnV; grind)
      rw [e.1, e.2, frT_one, frB_one]
      exact ⟨rfl, rfl⟩
theorem fr_le {t u c d : Int} (hu : 0 < u) (h : t * c ≤ d * u) : frT t u * c ≤ d * frB t u := by
  refine le_cancel hu ?_
  have hb := frB_pos (a := t) hu
  have h2 := Int.mul_le_mul_of_nonneg_right h (Int.le_of_lt hb)
  have h3 := fr_val (a := t) (b := u)
  have e1 : u * (frT t u * c) = t * c * frB t u := by grind
  have e2 : u * (d * frB t u) = d * u * frB t u := by grind
  rw [e1, e2]
  exact h2
theorem fr_att {t u c d : Int} (hu : 0 < u) (h : t * c = d * u) : frT t u * c = d * frB t u := by
  refine eq_cancel hu ?_
  have h3 := fr_val (a := t) (b := u)
  have e1 : u * (frT t u * c) = t * c * frB t u := by grind
  rw [e1, h]
  grind
theorem Mn.of {f : Int → Int} {n p t u : Int} (hu : 0 < u) (h1 : t ≤ f p * u) (h2 : ∀ i k, 0 ≤ i → i < p → p < k → k < n → t * (k - i) ≤ (f i * (k - p) + f k * (p - i)) * u)
    (h3 : t = f p * u ∨ ∃ i k, 0 ≤ i ∧ i < p ∧ p < k ∧ k < n ∧ t * (k - i) = (f i * (k - p) + f k * (p - i)) * u) : Mn f n p (frT t u) (frB t u) where
  form := ⟨t, u, hu, rfl, rfl⟩
  own := by
    have := fr_le (t := t) (c := 1) (d := f p) hu (by rw [Int.mul_one]; exact h1)
    rwa [Int.mul_one] at this
  line := fun i k a b c d => fr_le hu (h2 i k a b c d)
  att := by
    rcases h3 with h3 | ⟨i, k, a, b, c, d, e⟩
    · have := fr_att (t := t) (c := 1) (d := f p) hu (by rw [Int.mul_one]; exact h3)
      rw [Int.mul_one] at this
      exact .inl this
    · exact .inr ⟨i, k, a, b, c, d, fr_att hu e⟩
/-- the least so far -/
structure Bst (f : Int → Int) (n j : Int) (A : Int → Int → Prop) (t u : Int) : Prop where
  pos : 0 < u
  le : u ≤ n
  siz : t.natAbs < 2 ^ 210
  own : t ≤ f j * u
  line : ∀ i k, 0 ≤ i → i < j → j < k → k < n → A i k → t * (k - i) ≤ (f i * (k - j) + f k * (j - i)) * u
  att : t = f j * u ∨ ∃ i k, 0 ≤ i ∧ i < j ∧ j < k ∧ k < n ∧ t * (k - i) = (f i * (k - j) + f k * (j - i)) * u
theorem Bst.mono {f : Int → Int} {n j t u : Int} {A B : Int → Int → Prop} (h : Bst f n j A t u) (hAB : ∀ i k, 0 ≤ i → i < j → j < k → k < n → B i k → A i k) : Bst f n j B t u := ⟨h.pos, h.le, h.siz, h.own, fun i k a b c d e => h.line i k a b c d (hAB i k a b c d e), h.att⟩
/-- one line more: not less -/
theorem Bst.keep {f : Int → Int} {n j t u i k : Int} {A : Int → Int → Prop} (h : Bst f n j A t u) (c : t * (k - i) ≤ (f i * (k - j) + f k * (j - i)) * u) : Bst f n j (fun i' k' => A i' k' ∨ i' = i ∧ k' = k) t u := ⟨h.pos, h.le, h.siz, h.own, fun i' k' a b c1 d e => by
  rcases e with e | ⟨rfl, rfl⟩
  · exact h.line i' k' a b c1 d e
  · exact c, h.att⟩
theorem mul_chain {a b c d e g : Int} (hb : 0 < b) (hd : 0 < d) (h1 : a * d ≤ c * b) (hg : 0 < g) (h2 : c * g ≤ e * d) : a * g ≤ e * b := by
  refine le_cancel hd ?_
  have h3 := Int.mul_le_mul_of_nonneg_right h1 (Int.le_of_lt hg)
  have h4 := Int.mul_le_mul_of_nonneg_right h2 (Int.le_of_lt hb)
  have e1 : d * (a * g) = a * d * g := by grind
  have e2 : d * (e * b) = e * d * b := by grind
  have e3 : c * b * g = c * g * b := by grind
  rw [e1, e2]
  rw [e3] at h3
  exact Int.le_trans h3 h4
/-- one line more: less -/
theorem Bst.put {f : Int → Int} {n j t u i k : Int} {A : Int → Int → Prop} (h : Bst f n j A t u) (h0 : 0 ≤ i) (h1 : i < j) (h2 : j < k) (h3 : k < n) (hs : (f i * (k - j) + f k * (j - i)).natAbs < 2 ^ 210) (c : (f i * (k - j) + f k * (j - i)) * u ≤ t * (k - i)) : Bst f n j (fun i' k' => A i' k' ∨ i' = i ∧ k' = k) (f i * (k - j) + f k * (j - i)) (k - i) := ⟨by omega, by omega, hs, by
  have := mul_chain (a := f i * (k - j) + f k * (j - i)) (b := k - i) (c := t) (d := u) (e := f j) (g := 1) (by omega) h.pos c (by decide) (by rw [Int.mul_one]; exact h.own)
  rwa [Int.mul_one] at this, fun i' k' a b c1 d e => by
  rcases e with e | ⟨rfl, rfl⟩
  · exact mul_chain (by omega) h.pos c (by omega) (h.line i' k' a b c1 d e)
  · exact Int.le_refl _, .inr ⟨i, k, h0, h1, h2, h3, rfl⟩⟩
theorem Bst.mn {f : Int → Int} {n j t u : Int} {A : Int → Int → Prop} (h : Bst f n j A t u) (hA : ∀ i k, 0 ≤ i → i < j → j < k → k < n → A i k) : Mn f n j (frT t u) (frB t u) := Mn.of h.pos h.own (fun i k a b c d => h.line i k a b c d (hA i k a b c d)) h.att
/-- the least, place by place -/
def Mns (f : Int → Int) (n : Int) (bs : List (Int × Int)) : Prop := ∀ (p : Nat) x, bs[p]? = some x → Mn f n (p : Nat) x.1 x.2
theorem Lows.mns {f : Int → Int} {n : Nat} {bs : List (Int × Int)} (h : Lows f n bs) (hb : bs.length ≤ n) : Mns f n bs := fun p x hx => (h p x hx).mn (by omega) (by have := (List.getElem?_eq_some_iff.mp hx).1; omega)
theorem Mns.uniq {f : Int → Int} {n : Int} {bs cs : List (Int × Int)} (h : Mns f n bs) (h' : Mns f n cs) (hb : bs.length = cs.length) : bs = cs := by
  refine List.ext_getElem hb fun i h1 h2 => ?_
  obtain ⟨e1, e2⟩ := (h i _ (List.getElem?_eq_getElem h1)).uniq (h' i _ (List.getElem?_eq_getElem h2))
  exact Prod.ext e1 e2
end Yl

namespace Yl
open PySem PySem.Spec PyProof.Rows L2
/-! ### lists of fractions -/
class Prs (ds : List Dt) (bs : outParam (List (Int × Int))) : Prop where
  h : ds = prD bs
instance : Prs [] [] := ⟨rfl⟩
instance (a b : Int) (ds : List Dt) (bs : List (Int × Int)) [m : Prs ds bs] : Prs (.tuple [.int a, .int b] :: ds) ((a, b) :: bs) := ⟨by rw [m.h]; rfl⟩
instance (priority := high) (bs : List (Int × Int)) : Prs (prD bs) bs := ⟨rfl⟩
instance (ds es : List Dt) (ns ms : List (Int × Int)) [m : Prs ds ns] [t : Prs es ms] : Prs (ds ++ es) (ns ++ ms) := ⟨by rw [m.h, t.h, prD_app]⟩
instance (ds : List Dt) (ns : List (Int × Int)) [m : Prs ds ns] : Prs ds.reverse ns.reverse := ⟨by rw [m.h]; unfold prD; rw [List.map_reverse]⟩
instance (ds : List Dt) (ns : List (Int × Int)) (lo hi : Option Int) [m : Prs ds ns] : Prs (cutG ds lo hi) (cutG ns lo hi) := ⟨by rw [m.h]; unfold prD; rw [cut_map]⟩
theorem lay_prs : ∀ bs : List (Int × Int), PyData.canLayAll0 (prD bs) = true
  | [] => by simp [prD, PyData.canLayAll0]
  | x :: r => by
    have := lay_prs r
    simp [prD, PyData.canLayAll0, PyData.canLay0] at this ⊢
    exact this
theorem deep_prs : ∀ bs : List (Int × Int), PyData.depthAll (prD bs) ≤ 1
  | [] => by simp [prD, PyData.depthAll]
  | x :: r => by
    have := deep_prs r
    simp [prD, PyData.depthAll, PyData.depth] at this ⊢
    omega
theorem shaped_prs (bs : List (Int × Int)) : SeqAt.shaped (.list (prD bs)) = true := by
  have h1 : PyData.canLay0 (.list (prD bs)) = true := by
    rw [PyData.canLay0]
    exact lay_prs bs
  have h2 : PyData.depth (.list (prD bs)) ≤ 64 := by
    have := deep_prs bs
    rw [PyData.depth]
    omega
  unfold SeqAt.shaped
  rw [h1, decide_eq_true h2]
  rfl
theorem plain_prs : ∀ bs : List (Int × Int), plainD.plainA (prD bs) = true
  | [] => rfl
  | x :: r => by
    show (plainD (.tuple [.int x.1, .int x.2]) && plainD.plainA (prD r)) = true
    rw [plain_prs r]
    rfl
theorem eqv_prs : ∀ bs cs : List (Int × Int), PyData.eqvAll (prD bs) (prD cs) = decide (bs = cs)
  | [], [] => by rfl
  | [], _ :: _ => by
    rw [decide_eq_false (by simp)]
    rfl
  | _ :: _, [] => by
    rw [decide_eq_false (by simp)]
    rfl
  | x :: r, z :: t => by
    show (PyData.eqv (.tuple ([x.1, x.2].map .int)) (.tuple ([z.1, z.2].map .int)) && PyData.eqvAll (prD r) (prD t)) = _
    rw [eqv_prs r t]
    show (PyData.eqvAll _ _ && _) = _
    rw [eqv_ints]
    by_cases h1 : x = z
    · subst h1
      simp
    · rw [decide_eq_false (show ¬[x.1, x.2] = [z.1, z.2] from fun e => h1 (by injection e with e1 e2; injection e2 with e2; exact Prod.ext e1 e2)), decide_eq_false (show ¬x :: r = z :: t from fun e => h1 (by injection e))]
      rfl
section
variable {P : Program} {w : World} {K : PySem.W.Frag} {mg : Str → Option Value} {base : Heap} {k : Nat} {N : List Str} {sc : Scope} {vb lb : List Bool} {gs : List Str} {X : Cx} {y : Sy} {σ : L2.St} {Ψ : Value → Sy → Prop} {e a : Expr} {F : List (V × Dt)} {O : List (Addr × OD)}
instance (priority := low) {Φ : V → Sy → Prop} {v u : V} {ds es : List Dt} {ns ms : List (Int × Int)} [C : Cn P w K mg base k N sc vb lb gs X] [r : Rc F O v (.list ds)] [s : Rc F O u (.list es)] [m : Prs ds ns] [t : Prs es ms] : Step (Lift K (wO X (compareOp .Eq) v u) ⟨F, O⟩ Φ Ψ) (Φ (.bl (decide (ns = ms))) ⟨F, O⟩) := ⟨fun h => by
  have e1 := m.h
  have e2 := t.h
  refine o_eqD r.h s.h (by rw [e1]; exact plain_prs ns) (by rw [e2]; exact plain_prs ms) (by rw [e1]; exact shaped_prs ns) (by rw [e2]; exact shaped_prs ms) C.unl C.hK ?_
  rw [e1, e2]
  show Φ (.bl (PyData.eqvAll _ _)) _
  rw [eqv_prs]
  exact h⟩
instance (priority := low) {Φ : V → Sy → Prop} {v u : V} {ds es : List Dt} {ns ms : List (Int × Int)} [C : Cn P w K mg base k N sc vb lb gs X] [r : Rc F O v (.list ds)] [s : Rc F O u (.list es)] [m : Prs ds ns] [t : Prs es ms] : Step (Lift K (wO X (compareOp .NotEq) v u) ⟨F, O⟩ Φ Ψ) (Φ (.bl (!decide (ns = ms))) ⟨F, O⟩) := ⟨fun h => by
  have e1 := m.h
  have e2 := t.h
  refine o_neD r.h s.h (by rw [e1]; exact plain_prs ns) (by rw [e2]; exact plain_prs ms) (by rw [e1]; exact shaped_prs ns) (by rw [e2]; exact shaped_prs ms) C.unl C.hK ?_
  rw [e1, e2]
  show Φ (.bl (!PyData.eqvAll _ _)) _
  rw [eqv_prs]
  exact h⟩
/-! ### reverse -/
theorem m_rev {Φ : V → Sy → Prop} {F : List (V × Dt)} {O : List (Addr × OD)} {p : Addr} {ds : List Dt} (h : Φ .non ⟨F, (p, .lst ds.reverse) :: O⟩) : Lift K (wM X "list.reverse" (.ref p) []) ⟨F, (p, .lst ds) :: O⟩ Φ Ψ := by
  refine m_of (fun pins s σ H x xs v us Q I a b c => mt_reverse pins s σ H x xs v us Q I a b c) (Lift.raw fun S H ok E Q q => ?_)
  obtain ⟨sp, o, ho, xs, rfl, r⟩ := ok.own p _ (List.Mem.head _)
  obtain ⟨ok2, st⟩ := ok.set (u2 := .lst ds.reverse) (o2 := .lst xs.reverse) ⟨_, rfl, RpA.reverse r⟩
  exact ⟨p, xs, rfl, rfl, ho, q _ _ _ _ ok2 st h⟩
instance [C : Cn P w K mg base k N sc vb lb gs X] {Φ : V → Sy → Prop} [m2 : NoSuper a] {l c el ec c' el' ec' : Nat} : Step (Lift K (wE X (.Call (.Attribute a "reverse" ⟨l, c, el, ec⟩) [] [] ⟨el, c', el', ec'⟩) σ) y Φ Ψ) (Lift K (wE X a σ) y (PopK K X "list.reverse" Φ Ψ) Ψ) := ⟨l_methL0 C PySem.F.slot_list_reverse PySem.F.type_list_reverse (m2.h _ _) (by show (el == el) = true; exact beq_self_eq_true _)⟩
instance {Φ : V → Sy → Prop} {p : Addr} {ds : List Dt} : Step (Lift K (wM X "list.reverse" (.ref p) []) ⟨F, (p, .lst ds) :: O⟩ Φ Ψ) (Φ .non ⟨F, (p, .lst ds.reverse) :: O⟩) := ⟨m_rev⟩
end
/-! ### given rows -/
def rowF (ns : List Int) (i : Int) : Int := ns.getD i.toNat 0
def chkLow (ns : List Int) (p : Nat) (x e : Int × Int) : Bool := decide (0 ≤ e.1) && decide (e.1 < e.2) && decide (e.2 < (ns.length : Int)) && decide (e.1 ≤ (p : Int)) && decide ((p : Int) ≤ e.2) && decide (x.1 = frT (lnV (rowF ns) e.1 e.2 p) (e.2 - e.1)) && decide (x.2 = frB (lnV (rowF ns) e.1 e.2 p) (e.2 - e.1)) &&
  (List.range ns.length).all fun q => decide (lnV (rowF ns) e.1 e.2 (q : Nat) ≤ rowF ns (q : Nat) * (e.2 - e.1))
theorem low_chk {ns : List Int} {p : Nat} {x : Int × Int} (e : Int × Int) (h : chkLow ns p x e = true) : Low (rowF ns) ns.length (p : Nat) x.1 x.2 := by
  unfold chkLow at h
  simp only [Bool.and_eq_true, decide_eq_true_eq, List.all_eq_true, List.mem_range] at h
  obtain ⟨⟨⟨⟨⟨⟨⟨h1, h2⟩, h3⟩, h4⟩, h5⟩, h6⟩, h7⟩, h8⟩ := h
  refine .inr ⟨e.1, e.2, ⟨h1, h2, h3, fun q a b => ?_⟩, h4, h5, h6, h7⟩
  have := h8 q.toNat (by omega)
  rwa [show ((q.toNat : Nat) : Int) = q by omega] at this
end Yl

namespace Yl
open PySem PySem.Spec PyProof.Rows L2
/-! ### half of the most that three places show -/
def hg (f : Int → Int) (i j k : Int) : Int := f j * (k - i) - (f i * (k - j) + f k * (j - i))
structure Hf (f : Int → Int) (i j k a b : Int) : Prop where
  form : ∃ x y, 0 < y ∧ a = frT x y ∧ b = frB x y
  nn : 0 ≤ a
  up : hg f i j k * b ≤ a * (2 * (k - i))
  att : a = 0 ∨ hg f i j k * b = a * (2 * (k - i))
structure Mgs (f : Int → Int) (n : Int) (A : Int → Int → Int → Prop) (t u : Int) : Prop where
  form : ∃ x y, 0 < y ∧ t = frT x y ∧ u = frB x y
  nn : 0 ≤ t
  up : ∀ i j k, 0 ≤ i → i < j → j < k → k < n → A i j k → hg f i j k * u ≤ t * (2 * (k - i))
  att : t = 0 ∨ ∃ i j k, 0 ≤ i ∧ i < j ∧ j < k ∧ k < n ∧ hg f i j k * u = t * (2 * (k - i))
def Mg (f : Int → Int) (n t u : Int) : Prop := Mgs f n (fun _ _ _ => True) t u
theorem form_pos {t u : Int} (h : ∃ x y, 0 < y ∧ t = frT x y ∧ u = frB x y) : 0 < u := by
  obtain ⟨x, y, h1, rfl, rfl⟩ := h
  exact frB_pos h1
theorem form_uniq {t u t' u' : Int} (h : ∃ x y, 0 < y ∧ t = frT x y ∧ u = frB x y) (h' : ∃ x y, 0 < y ∧ t' = frT x y ∧ u' = frB x y) (e : t * u' = t' * u) : t = t' ∧ u = u' := by
  obtain ⟨x, y, hy, rfl, rfl⟩ := h
  obtain ⟨x', y', hy', rfl, rfl⟩ := h'
  exact fr_uniq hy hy' e
theorem form_fr {x y : Int} (h : 0 < y) : ∃ x' y', 0 < y' ∧ frT x y = frT x' y' ∧ frB x y = frB x' y' := ⟨x, y, h, rfl, rfl⟩
section
variable {f : Int → Int} {n i j k a b t u : Int} {A B : Int → Int → Int → Prop}
theorem Mgs.start : Mgs f n (fun _ _ _ => False) 0 1 := ⟨⟨0, 1, by decide, by decide, by decide⟩, Int.le_refl _, fun _ _ _ _ _ _ _ h => h.elim, .inl rfl⟩
theorem Mgs.mono (h : Mgs f n A t u) (hAB : ∀ i j k, 0 ≤ i → i < j → j < k → k < n → B i j k → A i j k) : Mgs f n B t u := ⟨h.form, h.nn, fun i j k a b c d e => h.up i j k a b c d (hAB i j k a b c d e), h.att⟩
theorem Mgs.put (h : Mgs f n A t u) (hf : Hf f i j k a b) (h0 : 0 ≤ i) (h1 : i < j) (h2 : j < k) (h3 : k < n) (c : t * b ≤ a * u) : Mgs f n (fun i' j' k' => A i' j' k' ∨ i' = i ∧ j' = j ∧ k' = k) a b where
  form := hf.form
  nn := hf.nn
  up := fun i' j' k' a0 a1 a2 a3 e => by
    rcases e with e | ⟨rfl, rfl, rfl⟩
    · exact mul_chain (by omega) (form_pos h.form) (h.up i' j' k' a0 a1 a2 a3 e) (form_pos hf.form) c
    · exact hf.up
  att := by
    rcases hf.att with e | e
    · exact .inl e
    · exact .inr ⟨i, j, k, h0, h1, h2, h3, e⟩
theorem Mgs.keep (h : Mgs f n A t u) (hf : Hf f i j k a b) (h4 : i < k) (c : a * u ≤ t * b) : Mgs f n (fun i' j' k' => A i' j' k' ∨ i' = i ∧ j' = j ∧ k' = k) t u where
  form := h.form
  nn := h.nn
  up := fun i' j' k' a0 a1 a2 a3 e => by
    rcases e with e | ⟨rfl, rfl, rfl⟩
    · exact h.up i' j' k' a0 a1 a2 a3 e
    · exact mul_chain (by omega) (form_pos hf.form) hf.up (form_pos h.form) c
  att := h.att
theorem Mg.le {t' u' : Int} (h : Mg f n t u) (h' : Mg f n t' u') : t * u' ≤ t' * u := by
  have hu := form_pos h.form
  rcases h.att with e | ⟨i, j, k, a0, a1, a2, a3, e⟩
  · rw [e, Int.zero_mul]
    exact Int.mul_nonneg h'.nn (Int.le_of_lt hu)
  · have h2 := Int.mul_le_mul_of_nonneg_right (h'.up i j k a0 a1 a2 a3 trivial) (Int.le_of_lt hu)
    refine le_cancel (x := 2 * (k - i)) (by omega) ?_
    have e1 : 2 * (k - i) * (t * u') = hg f i j k * u * u' := by grind
    have e2 : 2 * (k - i) * (t' * u) = t' * (2 * (k - i)) * u := by grind
    rw [e1, e2]
    have e3 : hg f i j k * u' * u = hg f i j k * u * u' := by grind
    rw [e3] at h2
    exact h2
theorem Mg.uniq {t' u' : Int} (h : Mg f n t u) (h' : Mg f n t' u') : t = t' ∧ u = u' := form_uniq h.form h'.form (Int.le_antisymm (h.le h') (h'.le h))
/-- how far a number is above what is below it -/
def Gp (f : Int → Int) (n p : Int) (g : Int × Int) : Prop := ∃ t u, Mn f n p t u ∧ 0 < g.2 ∧ g.1 * u = (f p * u - t) * g.2
theorem Gp.nn {p : Int} {g : Int × Int} (h : Gp f n p g) : 0 ≤ g.1 := by
  obtain ⟨t, u, hM, h1, h2⟩ := h
  have hu := hM.pos
  have h3 := hM.own
  refine le_cancel hu ?_
  rw [Int.mul_zero, Int.mul_comm, h2]
  exact Int.mul_nonneg (by omega) (Int.le_of_lt h1)
theorem Gp.up {g : Int × Int} (h : Gp f n j g) (h0 : 0 ≤ i) (h1 : i < j) (h2 : j < k) (h3 : k < n) : hg f i j k * g.2 ≤ g.1 * (k - i) := by
  obtain ⟨t, u, hM, hg2, e⟩ := h
  have hu := hM.pos
  refine le_cancel hu ?_
  have h4 := Int.mul_le_mul_of_nonneg_right (hM.line i k h0 h1 h2 h3) (Int.le_of_lt hg2)
  have e1 : u * (g.1 * (k - i)) = (f j * u - t) * g.2 * (k - i) := by grind
  rw [e1]
  unfold hg
  have e2 : u * ((f j * (k - i) - (f i * (k - j) + f k * (j - i))) * g.2) = f j * (k - i) * u * g.2 - (f i * (k - j) + f k * (j - i)) * u * g.2 := by grind
  have e3 : (f j * u - t) * g.2 * (k - i) = f j * (k - i) * u * g.2 - t * (k - i) * g.2 := by grind
  rw [e2, e3]
  omega
theorem Mg.of {z : Int × Int} {p : Int} (h0 : 0 ≤ p) (h1 : p < n) (hz : Gp f n p z) (hm : ∀ q, 0 ≤ q → q < n → ∃ g, Gp f n q g ∧ g.1 * z.2 ≤ z.1 * g.2) : Mg f n (frT z.1 (2 * z.2)) (frB z.1 (2 * z.2)) := by
  have hnn := hz.nn
  obtain ⟨t, u, hM, hz2, e⟩ := hz
  have hb := frB_pos (a := z.1) (b := 2 * z.2) (by omega)
  have hv := fr_val (a := z.1) (b := 2 * z.2)
  refine ⟨form_fr (by omega), ?_, fun i j k a0 a1 a2 a3 _ => ?_, ?_⟩
  · refine le_cancel (x := 2 * z.2) (by omega) ?_
    rw [Int.mul_zero, Int.mul_comm, hv]
    exact Int.mul_nonneg hnn (Int.le_of_lt hb)
  · obtain ⟨g, hg1, hg2⟩ := hm j (by omega) (by omega)
    have hgp : 0 < g.2 := by
      obtain ⟨_, _, _, a, _⟩ := hg1
      exact a
    have h5 := mul_chain (a := hg f i j k) (b := k - i) (c := g.1) (d := g.2) (e := z.1) (g := z.2) (by omega) hgp (hg1.up a0 a1 a2 a3) hz2 hg2
    refine le_cancel (x := z.2) hz2 ?_
    have h6 := Int.mul_le_mul_of_nonneg_right h5 (Int.le_of_lt hb)
    have e1 : z.2 * (hg f i j k * frB z.1 (2 * z.2)) = hg f i j k * z.2 * frB z.1 (2 * z.2) := by grind
    have e2 : z.2 * (frT z.1 (2 * z.2) * (2 * (k - i))) = z.1 * (k - i) * frB z.1 (2 * z.2) := by grind
    rw [e1, e2]
    exact h6
  · have hu := hM.pos
    rcases hM.att with e1 | ⟨i, k, a0, a1, a2, a3, e1⟩
    · left
      have e2 : z.1 = 0 := by
        refine eq_cancel hu ?_
        rw [Int.mul_zero, Int.mul_comm, e, e1, Int.sub_self, Int.zero_mul]
      refine eq_cancel (x := 2 * z.2) (by omega) ?_
      rw [Int.mul_zero, Int.mul_comm, hv, e2, Int.zero_mul]
    · right
      refine ⟨i, p, k, a0, a1, a2, a3, ?_⟩
      have e2 : hg f i p k * z.2 = z.1 * (k - i) := by
        refine eq_cancel hu ?_
        have e3 : u * (z.1 * (k - i)) = (f p * u - t) * z.2 * (k - i) := by grind
        rw [e3]
        unfold hg
        grind
      refine eq_cancel (x := z.2) hz2 ?_
      have e4 : z.2 * (hg f i p k * frB z.1 (2 * z.2)) = z.1 * (k - i) * frB z.1 (2 * z.2) := by grind
      rw [e4]
      grind
end
/-! ### the gaps, place by place -/
def gapP (n : Int) (x : Int × Int) : Int × Int := (frT (n * x.2 - x.1 * 1) (1 * x.2), frB (n * x.2 - x.1 * 1) (1 * x.2))
def gapL (ns : List Int) (bs : List (Int × Int)) : List (Int × Int) := List.zipWith gapP ns bs
theorem gapL_at {ns : List Int} {bs : List (Int × Int)} {i : Nat} {g : Int × Int} (h : (gapL ns bs)[i]? = some g) : ∃ n x, ns[i]? = some n ∧ bs[i]? = some x ∧ g = gapP n x := by
  unfold gapL at h
  rw [List.getElem?_zipWith] at h
  cases h1 : ns[i]? with
  | none =>
    rw [h1] at h
    cases h
  | some a =>
    cases h2 : bs[i]? with
    | none =>
      rw [h1, h2] at h
      cases h
    | some b =>
      rw [h1, h2] at h
      cases h
      exact ⟨a, b, rfl, rfl, rfl⟩
theorem gapP_gp {f : Int → Int} {n p t u : Int} (h : Mn f n p t u) : Gp f n p (gapP (f p) (t, u)) := by
  have hu := h.pos
  refine ⟨t, u, h, frB_pos (by show 0 < 1 * u; omega), ?_⟩
  have := fr_val (a := f p * u - t * 1) (b := 1 * u)
  show frT (f p * u - t * 1) (1 * u) * u = (f p * u - t) * frB (f p * u - t * 1) (1 * u)
  generalize frT (f p * u - t * 1) (1 * u) = T at *
  generalize frB (f p * u - t * 1) (1 * u) = B at *
  grind
/-! ### all three places, in order -/
def rowT (i j m : Int) : List (Int × Int × Int) := (List.range (m - (j + 1)).toNat).map fun l => (i, j, j + 1 + (l : Nat))
def thI (i m : Int) (c : Nat) : List (Int × Int × Int) := (List.range c).flatMap fun l => rowT i (i + 1 + (l : Nat)) m
def thA (m : Int) (c : Nat) : List (Int × Int × Int) := (List.range c).flatMap fun i => thI (i : Nat) m (m - ((i : Nat) + 1)).toNat
theorem thI_step (i m : Int) (c : Nat) : thI i m (c + 1) = thI i m c ++ rowT i (i + 1 + (c : Nat)) m := by
  unfold thI
  rw [List.range_succ, List.flatMap_append, List.flatMap_singleton]
theorem thA_step (m : Int) (c : Nat) : thA m (c + 1) = thA m c ++ thI (c : Nat) m (m - ((c : Nat) + 1)).toNat := by
  unfold thA
  rw [List.range_succ, List.flatMap_append, List.flatMap_singleton]
theorem rowT_mem {i j m : Int} {x : Int × Int × Int} : x ∈ rowT i j m ↔ x.1 = i ∧ x.2.1 = j ∧ j < x.2.2 ∧ x.2.2 < m := by
  unfold rowT
  rw [List.mem_map]
  constructor
  · rintro ⟨l, hl, rfl⟩
    have := List.mem_range.mp hl
    exact ⟨rfl, rfl, by show j < j + 1 + (l : Nat); omega, by show j + 1 + (l : Nat) < m; omega⟩
  · rintro ⟨h1, h2, h3, h4⟩
    refine ⟨(x.2.2 - (j + 1)).toNat, List.mem_range.mpr (by omega), ?_⟩
    rw [← h1, ← h2]
    refine Prod.ext rfl (Prod.ext rfl ?_)
    show x.2.1 + 1 + _ = x.2.2
    omega
theorem thA_mem {m : Int} {x : Int × Int × Int} : x ∈ thA m m.toNat ↔ 0 ≤ x.1 ∧ x.1 < x.2.1 ∧ x.2.1 < x.2.2 ∧ x.2.2 < m := by
  unfold thA
  rw [List.mem_flatMap]
  constructor
  · rintro ⟨i, hi, hx⟩
    unfold thI at hx
    rw [List.mem_flatMap] at hx
    obtain ⟨l, hl, hx⟩ := hx
    obtain ⟨h1, h2, h3, h4⟩ := rowT_mem.mp hx
    have := List.mem_range.mp hi
    omega
  · rintro ⟨h0, h1, h2, h3⟩
    refine ⟨x.1.toNat, List.mem_range.mpr (by omega), ?_⟩
    unfold thI
    rw [List.mem_flatMap]
    exact ⟨(x.2.1 - (x.1 + 1)).toNat, List.mem_range.mpr (by omega), rowT_mem.mpr ⟨by omega, by omega, by omega, h3⟩⟩
def thD (x : Int × Int × Int) : Dt := .tuple [.int x.1, .int x.2.1, .int x.2.2]
end Yl

namespace Yl
open PySem PySem.Spec PyProof.Rows L2
section
variable {K : PySem.W.Frag} {α : Type} {T : TL α} {y : Sy} {Φ : α → Sy → Prop} {Ψ : Value → Sy → Prop}
/-- steps of the state behind all -/
theorem Lift.after (h : Lift K T y (fun r z => Lift K (fun _ H Q => Q r H) z Φ Ψ) Ψ) : Lift K T y Φ Ψ := Lift.bind (T1 := T) (T2 := fun r _ H Q => Q r H) (fun _ _ _ q => q) h
theorem Lift.now {r : α} (h : Φ r y) : Lift K (fun _ H Q => Q r H) y Φ Ψ := Lift.ret (r := r) (fun _ _ _ q => q) h
theorem Lift.isRefT {T : TL α} {v : V} {ds : List Dt} (m : Hs y.F v (.tuple ds)) (h : ∀ a, v = .ref a → Lift K T y Φ Ψ) : Lift K T y Φ Ψ := by
  intro S H ok Q E q e
  have r := m.rp ok
  cases r with
  | tup _ _ => exact h _ rfl S H ok Q E q e
end
/-! ### a or b, as a value -/
section
variable {P : Program} {w : World} {K : PySem.W.Frag} {mg : Str → Option Value} {base : Heap} {k : Nat} {N : List Str} {sc : Scope} {vb lb : List Bool} {gs : List Str} {X : Cx} {y : Sy} {σ : L2.St} {Ψ : Value → Sy → Prop} {a b : Expr} {rest : List Expr} {pos : Pos} {F : List (V × Dt)} {O : List (Addr × OD)}
theorem l_orT {Φ : V → Sy → Prop} (h : Lift K (wE X a σ) y (fun v y1 => Lift K (wB X v) y1 (fun c y2 => (c = true → Φ v y2) ∧ (c = false → Lift K (wE X (.BoolOp .Or (b :: rest) pos) σ) y2 Φ Ψ)) Ψ) Ψ) : Lift K (wE X (.BoolOp .Or (a :: b :: rest) pos) σ) y Φ Ψ := by
  refine Lift.bind (T1 := wE X a σ) (T2 := fun v E H Q => wB X v E H fun c H2 => if c = true then Q v H2 else wE X (.BoolOp .Or (b :: rest) pos) σ E H2 Q) (fun E H Q q tk pins s I => ?_) (h.mono (fun v z f => ?_) fun _ _ q => q)
  · refine BoolOp_or (thn (q tk pins s I) fun v s1 ⟨x1, H1, I1, r1, q1⟩ => thn (q1 pins s1 σ v I1 r1) fun c s2 ⟨H2, I2, q2⟩ => ?_)
    cases c with
    | true => exact ⟨x1, H2, I2, r1, q2⟩
    | false => exact q2 tk pins s2 I2
  · refine Lift.bind (T1 := wB X v) (T2 := fun c E H Q => if c = true then Q v H else wE X (.BoolOp .Or (b :: rest) pos) σ E H Q) (fun _ _ _ q => q) (f.mono (fun c z3 f1 => ?_) fun _ _ q => q)
    cases c with
    | true => exact Lift.ret (r := v) (fun _ _ _ q => q) (f1.1 rfl)
    | false => exact Lift.to (f1.2 rfl) fun _ _ _ q => q
theorem RpA.empty {S : Hp} {xs : List V} {ds : List Dt} (r : RpA K S xs ds) : xs.isEmpty = ds.isEmpty := by
  cases r <;> rfl
theorem b_tup {Φ : Bool → Sy → Prop} {v : V} {ds : List Dt} (hK : X.K = K) (r : Rb ⟨F, O⟩ v (.tuple ds)) (h : Φ (!ds.isEmpty) ⟨F, O⟩) : Lift K (wB X v) ⟨F, O⟩ Φ Ψ := b_of tru_ok (Lift.raw fun S H ok E Q q => by
  obtain ⟨a, xs, rfl, ha, rr⟩ := r.tup ok
  exact ⟨!ds.isEmpty, .inr (.inl ⟨xs, by rw [hK]; exact ha, by rw [RpA.empty rr]⟩), q _ _ S H ok (Stp.refl _ _ _) h⟩)
theorem b_lst {Φ : Bool → Sy → Prop} {v : V} {ds : List Dt} (hK : X.K = K) (r : Rb ⟨F, O⟩ v (.list ds)) (h : Φ (!ds.isEmpty) ⟨F, O⟩) : Lift K (wB X v) ⟨F, O⟩ Φ Ψ := b_of tru_ok (Lift.raw fun S H ok E Q q => by
  obtain ⟨a, xs, rfl, ha, rr⟩ := r.lst ok
  exact ⟨!ds.isEmpty, .inl ⟨xs, SqL.of ha, by rw [RpA.empty rr]⟩, q _ _ S H ok (Stp.refl _ _ _) h⟩)
instance {Φ : Bool → Sy → Prop} : Step (Lift K (wB X .non) y Φ Ψ) (Φ false y) := ⟨fun h => b_of tru_ok (Lift.ret (r := false) (fun _ _ _ q => ⟨false, rfl, q⟩) h)⟩
instance {Φ : Bool → Sy → Prop} {i : Int} : Step (Lift K (wB X (.int i)) y Φ Ψ) (Φ (i != 0) y) := ⟨fun h => b_of tru_ok (Lift.ret (r := (i != 0)) (fun _ _ _ q => ⟨_, rfl, q⟩) h)⟩
instance [C : Cn P w K mg base k N sc vb lb gs X] {Φ : Bool → Sy → Prop} {v : V} {ds : List Dt} [r : Rc F O v (.tuple ds)] : Step (Lift K (wB X v) ⟨F, O⟩ Φ Ψ) (Φ (!ds.isEmpty) ⟨F, O⟩) := ⟨b_tup C.hK r.h⟩
instance [C : Cn P w K mg base k N sc vb lb gs X] {Φ : Bool → Sy → Prop} {v : V} {ds : List Dt} [r : Rc F O v (.list ds)] : Step (Lift K (wB X v) ⟨F, O⟩ Φ Ψ) (Φ (!ds.isEmpty) ⟨F, O⟩) := ⟨b_lst C.hK r.h⟩
end
end Yl

namespace Yl
open PySem PySem.Spec PyProof.Rows L2
/-! ### xs[i] op= e -/
def wGt (X : Cx) (o i : V) : TL V := fun E H Q => ∀ (pins : List (Addr × Obj)) (s : Shared) (σ : L2.St) (v u : Value), Inv X pins σ H s → RelV o v → RelV i u → wpAny (model X.prog X.w) X.A (getItem v u) (EP X pins σ Q) X.xe s
section
variable {P : Program} {w : World} {K : PySem.W.Frag} {mg : Str → Option Value} {base : Heap} {k : Nat} {N : List Str} {sc : Scope} {vb lb : List Bool} {gs : List Str} {X : Cx} {y : Sy} {σ : L2.St} {Ψ : Value → Sy → Prop} {pos tpos : Pos} {rest : List Stmt} {F : List (V × Dt)} {O : List (Addr × OD)} {E : XK}
theorem gt_w : PGet X (fun o i H Q => wGt X o i E H Q) := fun pins s σ _ o i ov iv _ I a b q => q pins s σ ov iv I a b
theorem gt_int {Φ : V → Sy → Prop} {p : Addr} {ns : List Int} {i n : Int} (h0 : 0 ≤ i) (hz : ns.length ≤ 1000000) (hn : ns[i.toNat]? = some n) (h : Φ (.int n) ⟨F, (p, .lst (ns.map .int)) :: O⟩) : Lift K (wGt X (.ref p) (.int i)) ⟨F, (p, .lst (ns.map .int)) :: O⟩ Φ Ψ := by
  refine Lift.to (T := fun E H Q => ∃ xs, H p = some (.lst xs) ∧ xs.length ≤ 1000000 ∧ xs[i.toNat]? = some (.int n) ∧ Q (.int n) H) (Lift.raw fun S H ok E Q q => ?_) fun E H Q ⟨xs, hH, hl, hx, q⟩ pins s σ v u I ra ri => ?_
  · obtain ⟨sp, o, ho, xs, rfl, r⟩ := ok.own p _ (List.Mem.head _)
    obtain ⟨x, hx, rx⟩ := r.at (i := i.toNat) (d := .int n) (by rw [List.getElem?_map, hn]; rfl)
    cases rx
    exact ⟨xs, ho, by rw [r.length, List.length_map]; exact hz, hx, q _ _ S H ok (Stp.refl _ _ _) h⟩
  · cases ra
    obtain ⟨t, rfl⟩ := ri
    obtain ⟨its, r, pl, hz⟩ := I.list (SqL.of (K := X.K) hH)
    obtain ⟨w, ew, rw'⟩ := r.get hx
    have hi := (List.getElem?_eq_some_iff.mp hx).1
    exact wpAny_getItem_list pl.isList h0 (by omega) (by simpa using ew) ⟨.int n, H, I, rw', q⟩
theorem s_augs {Φ : Fl → Sy → Prop} {o i e : Expr} {op : Operator}
    (ha : ∀ ov iv new, augStore i ov iv new = (do holding [new, ov, iv] (setItem ov iv new); release [new, ov, iv] []; pure .next))
    (h : Lift K (wE X o σ) y (fun ov y1 => Lift K (wE X i σ) y1 (fun iv y2 => Lift K (wGt X ov iv) y2 (fun x y3 => Lift K (wE X e σ) y3 (fun v y4 => Lift K (wO X (inplaceOp op) x v) y4 (fun r y5 => Lift K (wSt X ov iv r) y5 (fun _ y6 => Lift K (wSs X rest σ) y6 Φ Ψ) Ψ) Ψ) Ψ) Ψ) Ψ) Ψ) :
    Lift K (wSs X (.AugAssign (.Subscript o i tpos) op e pos :: rest) σ) y Φ Ψ := by
  refine s_cons (s_of (fun E tk => ps_augS (pe_w tk) (pe_w tk) (gt_w (E := E)) (pe_w tk) (fun pins s σ H x y v u Q I r q h => op_w (E := E) pins s σ H x y v u Q I r q h) (set_w (E := E)) ha) ?_)
  refine Lift.bind (T1 := wE X o σ) (T2 := fun ov E H Q => wE X i σ E H fun iv H2 => wGt X ov iv E H2 fun x H3 => wE X e σ E H3 fun v H4 => wO X (inplaceOp op) x v E H4 fun r H5 => wSt X ov iv r E H5 fun _ H6 => Q (.nx σ) H6) (fun _ _ _ q => q) (h.mono (fun ov z f => ?_) fun _ _ q => q)
  refine Lift.bind (T1 := wE X i σ) (T2 := fun iv E H Q => wGt X ov iv E H fun x H3 => wE X e σ E H3 fun v H4 => wO X (inplaceOp op) x v E H4 fun r H5 => wSt X ov iv r E H5 fun _ H6 => Q (.nx σ) H6) (fun _ _ _ q => q) (f.mono (fun iv z f => ?_) fun _ _ q => q)
  refine Lift.bind (T1 := wGt X ov iv) (T2 := fun x E H Q => wE X e σ E H fun v H4 => wO X (inplaceOp op) x v E H4 fun r H5 => wSt X ov iv r E H5 fun _ H6 => Q (.nx σ) H6) (fun _ _ _ q => q) (f.mono (fun x z f => ?_) fun _ _ q => q)
  refine Lift.bind (T1 := wE X e σ) (T2 := fun v E H Q => wO X (inplaceOp op) x v E H fun r H5 => wSt X ov iv r E H5 fun _ H6 => Q (.nx σ) H6) (fun _ _ _ q => q) (f.mono (fun v z f => ?_) fun _ _ q => q)
  refine Lift.bind (T1 := wO X (inplaceOp op) x v) (T2 := fun r E H Q => wSt X ov iv r E H fun _ H6 => Q (.nx σ) H6) (fun _ _ _ q => q) (f.mono (fun r z f => ?_) fun _ _ q => q)
  exact Lift.bind (T1 := wSt X ov iv r) (T2 := fun _ E H Q => Q (.nx σ) H) (fun _ _ _ q => q) (f.mono (fun _ z f => Lift.ret (r := .nx σ) (fun _ _ _ q => q) f) fun _ _ q => q)
class AugOk (i : Expr) : Prop where
  h : ∀ ov iv new, augStore i ov iv new = (do holding [new, ov, iv] (setItem ov iv new); release [new, ov, iv] []; pure .next)
instance (x : Str) (p : Pos) : AugOk (.Name x p) := ⟨fun _ _ _ => rfl⟩
instance (f : Expr) (a : List Expr) (b : List Keyword) (p : Pos) : AugOk (.Call f a b p) := ⟨fun _ _ _ => rfl⟩
instance {Φ : Fl → Sy → Prop} {o i e : Expr} {op : Operator} [m : AugOk i] : Step (Lift K (wSs X (.AugAssign (.Subscript o i tpos) op e pos :: rest) σ) y Φ Ψ) (Lift K (wE X o σ) y (fun ov y1 => Lift K (wE X i σ) y1 (fun iv y2 => Lift K (wGt X ov iv) y2 (fun x y3 => Lift K (wE X e σ) y3 (fun v y4 => Lift K (wO X (inplaceOp op) x v) y4 (fun r y5 => Lift K (wSt X ov iv r) y5 (fun _ y6 => Lift K (wSs X rest σ) y6 Φ Ψ) Ψ) Ψ) Ψ) Ψ) Ψ) Ψ) := ⟨s_augs m.h⟩
/-! ### int(..) -/
instance {Φ : V → Sy → Prop} {b : Bool} : Step (Lift K (wC X (.type "int") [.bl b]) y Φ Ψ) (Φ (.int (if b then 1 else 0)) y) := ⟨fun h => c_of call_int1 (Lift.ret (r := .int (if b then 1 else 0)) (fun _ _ _ q => .inr ⟨b, rfl, q⟩) h)⟩
instance {Φ : V → Sy → Prop} {i : Int} : Step (Lift K (wC X (.type "int") [.int i]) y Φ Ψ) (Φ (.int i) y) := ⟨fun h => c_of call_int1 (Lift.ret (r := .int i) (fun _ _ _ q => .inl ⟨i, rfl, q⟩) h)⟩
end
end Yl

namespace Yl
open PySem PySem.Spec PyProof.Rows L2
/-! ### lists of lists of ints -/
def nsD (nss : List (List Int)) : List Dt := nss.map fun ns => .list (ns.map .int)
class Lss (ds : List Dt) (nss : outParam (List (List Int))) : Prop where
  h : ds = nsD nss
instance : Lss [] [] := ⟨rfl⟩
instance (es ds : List Dt) (ns : List Int) (nss : List (List Int)) [i : Ints es ns] [m : Lss ds nss] : Lss (.list es :: ds) (ns :: nss) := ⟨by rw [m.h, i.h]; rfl⟩
instance (priority := high) (nss : List (List Int)) : Lss (nsD nss) nss := ⟨rfl⟩
instance (ds es : List Dt) (ns ms : List (List Int)) [m : Lss ds ns] [t : Lss es ms] : Lss (ds ++ es) (ns ++ ms) := ⟨by rw [m.h, t.h]; unfold nsD; rw [List.map_append]⟩
theorem lay_nss : ∀ bs : List (List Int), PyData.canLayAll0 (nsD bs) = true
  | [] => by simp [nsD, PyData.canLayAll0]
  | x :: r => by
    have h1 := lay_nss r
    have h2 := lay_ints x
    unfold nsD at h1 ⊢
    rw [List.map_cons]
    simp only [PyData.canLayAll0, PyData.canLay0, h1, h2]
    rfl
theorem deep_nss : ∀ bs : List (List Int), PyData.depthAll (nsD bs) ≤ 1
  | [] => by simp [nsD, PyData.depthAll]
  | x :: r => by
    have h1 := deep_nss r
    have h2 := deep_ints x
    unfold nsD at h1 ⊢
    rw [List.map_cons]
    simp only [PyData.depthAll, PyData.depth, h2]
    omega
theorem shaped_nss (bs : List (List Int)) : SeqAt.shaped (.list (nsD bs)) = true := by
  have h1 : PyData.canLay0 (.list (nsD bs)) = true := by
    rw [PyData.canLay0]
    exact lay_nss bs
  have h2 : PyData.depth (.list (nsD bs)) ≤ 64 := by
    have := deep_nss bs
    rw [PyData.depth]
    omega
  unfold SeqAt.shaped
  rw [h1, decide_eq_true h2]
  rfl
theorem plain_nss : ∀ bs : List (List Int), plainD.plainA (nsD bs) = true
  | [] => rfl
  | x :: r => by
    show (plainD.plainA (x.map .int) && plainD.plainA (nsD r)) = true
    rw [plain_nss r, plain_ints]
    rfl
theorem eqv_nss : ∀ bs cs : List (List Int), PyData.eqvAll (nsD bs) (nsD cs) = decide (bs = cs)
  | [], [] => by rfl
  | [], _ :: _ => by
    rw [decide_eq_false (by simp)]
    rfl
  | _ :: _, [] => by
    rw [decide_eq_false (by simp)]
    rfl
  | x :: r, z :: t => by
    show (PyData.eqvAll (x.map .int) (z.map .int) && PyData.eqvAll (nsD r) (nsD t)) = _
    rw [eqv_nss r t, eqv_ints]
    by_cases h1 : x = z
    · subst h1
      simp
    · rw [decide_eq_false h1, decide_eq_false (show ¬x :: r = z :: t from fun e => h1 (by injection e))]
      rfl
section
variable {P : Program} {w : World} {K : PySem.W.Frag} {mg : Str → Option Value} {base : Heap} {k : Nat} {N : List Str} {sc : Scope} {vb lb : List Bool} {gs : List Str} {X : Cx} {y : Sy} {σ σw : L2.St} {Ψ : Value → Sy → Prop} {a : Expr} {pos p p2 : Pos} {F : List (V × Dt)} {O : List (Addr × OD)}
instance (priority := low) {Φ : V → Sy → Prop} {v u : V} {ds es : List Dt} {ns ms : List (List Int)} [C : Cn P w K mg base k N sc vb lb gs X] [r : Rc F O v (.list ds)] [s : Rc F O u (.list es)] [m : Lss ds ns] [t : Lss es ms] : Step (Lift K (wO X (compareOp .Eq) v u) ⟨F, O⟩ Φ Ψ) (Φ (.bl (decide (ns = ms))) ⟨F, O⟩) := ⟨fun h => by
  have e1 := m.h
  have e2 := t.h
  refine o_eqD r.h s.h (by rw [e1]; exact plain_nss ns) (by rw [e2]; exact plain_nss ms) (by rw [e1]; exact shaped_nss ns) (by rw [e2]; exact shaped_nss ms) C.unl C.hK ?_
  rw [e1, e2]
  show Φ (.bl (PyData.eqvAll _ _)) _
  rw [eqv_nss]
  exact h⟩
instance (priority := low) {Φ : V → Sy → Prop} {v u : V} {ds es : List Dt} {ns ms : List (List Int)} [C : Cn P w K mg base k N sc vb lb gs X] [r : Rc F O v (.list ds)] [s : Rc F O u (.list es)] [m : Lss ds ns] [t : Lss es ms] : Step (Lift K (wO X (compareOp .NotEq) v u) ⟨F, O⟩ Φ Ψ) (Φ (.bl (!decide (ns = ms))) ⟨F, O⟩) := ⟨fun h => by
  have e1 := m.h
  have e2 := t.h
  refine o_neD r.h s.h (by rw [e1]; exact plain_nss ns) (by rw [e2]; exact plain_nss ms) (by rw [e1]; exact shaped_nss ns) (by rw [e2]; exact shaped_nss ms) C.unl C.hK ?_
  rw [e1, e2]
  show Φ (.bl (!PyData.eqvAll _ _)) _
  rw [eqv_nss]
  exact h⟩
/-! ### three taken from a list -/
theorem g_lst3 {Φ : L2.St → Sy → Prop} {e1 e2 e3 : Expr} {kk : Nat} {v : V} {d1 d2 d3 : Dt} (C : Cn P w K mg base k N sc vb lb gs X) [t : Tr3 e1 e2 e3] (hd : Rb y v (.list [d1, d2, d3]))
    (h : ∀ x1 x2 x3, Lift K (wGs X [e1, e2, e3] [x1, x2, x3] σ) ⟨(x1, d1) :: (x2, d2) :: (x3, d3) :: y.F, y.O⟩ Φ Ψ) : Lift K (wG X (.Tuple [e1, e2, e3] kk pos) v σ) y Φ Ψ := by
  refine g_of (fun E tk => pg_lst C.calm (pgs_w tk) (t.h1 _) (t.h2 _)) ?_
  intro S H ok Q E q e
  obtain ⟨a, xs, rfl, ha, r⟩ := hd.lst ok
  cases r with
  | @cons x1 _ _ _ r1 r =>
    cases r with
    | @cons x2 _ _ _ r2 r =>
      cases r with
      | @cons x3 _ _ _ r3 r =>
        cases r
        refine ⟨a, [x1, x2, x3], rfl, SqL.of ha, rfl, ?_⟩
        have ok2 := ((ok.fact (y := y) r3).fact (v := x2) (d := d2) r2).fact (v := x1) (d := d1) r1
        exact h x1 x2 x3 S H ok2 Q E (fun s y' S' H' o t f => q s y' S' H' o t f) fun c y' S' H' o t f => e c y' S' H' o t f
theorem g_threeL {Φ : L2.St → Sy → Prop} {e1 e2 e3 : Expr} {kk : Nat} {v : V} {i j l : Int} (C : Cn P w K mg base k N sc vb lb gs X) [t : Tr3 e1 e2 e3] (r : Rb ⟨F, O⟩ v (.list [.int i, .int j, .int l])) (h : Lift K (wGs X [e1, e2, e3] [.int i, .int j, .int l] σ) ⟨F, O⟩ Φ Ψ) : Lift K (wG X (.Tuple [e1, e2, e3] kk pos) v σ) ⟨F, O⟩ Φ Ψ := by
  refine g_lst3 C r fun x1 x2 x3 => ?_
  refine Lift.isInt (n := i) (.fact List.mem_cons_self) fun e => ?_
  refine Lift.isInt (n := j) (.fact (List.mem_cons_of_mem _ List.mem_cons_self)) fun e2 => ?_
  refine Lift.isInt (n := l) (.fact (List.mem_cons_of_mem _ (List.mem_cons_of_mem _ List.mem_cons_self))) fun e3 => ?_
  subst e
  subst e2
  subst e3
  exact Lift.forget (F2 := F) (fun e m => List.mem_cons_of_mem _ (List.mem_cons_of_mem _ (List.mem_cons_of_mem _ m))) h
theorem g_lst2 {Φ : L2.St → Sy → Prop} {e1 e2 : Expr} {kk : Nat} {v : V} {d1 d2 : Dt} (C : Cn P w K mg base k N sc vb lb gs X) [t : Tr2 e1 e2] (hd : Rb y v (.list [d1, d2]))
    (h : ∀ x1 x2, Lift K (wGs X [e1, e2] [x1, x2] σ) ⟨(x1, d1) :: (x2, d2) :: y.F, y.O⟩ Φ Ψ) : Lift K (wG X (.Tuple [e1, e2] kk pos) v σ) y Φ Ψ := by
  refine g_of (fun E tk => pg_lst C.calm (pgs_w tk) (t.h1 _) (t.h2 _)) ?_
  intro S H ok Q E q e
  obtain ⟨a, xs, rfl, ha, r⟩ := hd.lst ok
  cases r with
  | @cons x1 _ _ _ r1 r =>
    cases r with
    | @cons x2 _ _ _ r2 r =>
      cases r
      refine ⟨a, [x1, x2], rfl, SqL.of ha, rfl, ?_⟩
      have ok2 := (ok.fact (y := y) r2).fact (v := x1) (d := d1) r1
      exact h x1 x2 S H ok2 Q E (fun s y' S' H' o t f => q s y' S' H' o t f) fun c y' S' H' o t f => e c y' S' H' o t f
theorem g_twoL {Φ : L2.St → Sy → Prop} {e1 e2 : Expr} {kk : Nat} {v : V} {i j : Int} (C : Cn P w K mg base k N sc vb lb gs X) [t : Tr2 e1 e2] (r : Rb ⟨F, O⟩ v (.list [.int i, .int j])) (h : Lift K (wGs X [e1, e2] [.int i, .int j] σ) ⟨F, O⟩ Φ Ψ) : Lift K (wG X (.Tuple [e1, e2] kk pos) v σ) ⟨F, O⟩ Φ Ψ := by
  refine g_lst2 C r fun x1 x2 => ?_
  refine Lift.isInt (n := i) (.fact List.mem_cons_self) fun e => ?_
  refine Lift.isInt (n := j) (.fact (List.mem_cons_of_mem _ List.mem_cons_self)) fun e2 => ?_
  subst e
  subst e2
  exact Lift.forget (F2 := F) (fun e m => List.mem_cons_of_mem _ (List.mem_cons_of_mem _ m)) h
/-! ### list(range(n)) -/
theorem RpA_rg {S : Hp} (n : Nat) (f : Nat → Int) : RpA K S ((List.range n).map fun i => V.int (f i)) ((List.range n).map fun i => PyData.int (f i)) := by
  generalize List.range n = l
  induction l with
  | nil => exact .nil
  | cons a r ih => exact .cons (.int _) ih
def LrgK (Φ : V → Sy → Prop) (v : V) (y : Sy) : Prop := ∃ n : Int, v = .int n ∧ 0 ≤ n ∧ n ≤ 1000000 ∧ ∀ q, Φ (.ref q) ⟨y.F, (q, .lst (rngD 0 n.toNat)) :: y.O⟩
theorem l_listRg {Φ : V → Sy → Prop} [C : Cn P w K mg base k N sc vb lb gs X] [b1 : Bn mg "list"] [b2 : Bn mg "range"] [h1 : GIn "list" gs] [h2 : GIn "range" gs] [m : NoStar a] {pr p p3 : Pos}
    (h : Lift K (wE X a σ) y (LrgK Φ) Ψ) : Lift K (wE X (.Call (.Name "list" p) [.Call (.Name "range" p2) [a] [] pr] [] p3) σ) y Φ Ψ := by
  refine l_of (fun E tk => pe_listRg C.calm (C.gl _ h1.h).1 (by rw [C.hm]; exact b1.h) (prg_1 (C.gl _ h2.h).1 (by rw [C.hm]; exact b2.h) (pe_w tk) (m.h _ _)) rfl) ?_
  refine Lift.bind (T1 := wE X a σ) (T2 := fun v _ H Q => ∃ n, v = .int n ∧ RgOk 0 n ∧ ∀ q, H q = none → Q (.ref q) (upd H q (.lst (rgV 0 n)))) (fun _ _ _ q => q) (h.mono (fun v z ⟨n, e, h1, h2, f⟩ => Lift.raw fun S H ok E Q q => ?_) fun _ _ q => q)
  refine ⟨n, e, RgOk.of_le (by decide) (by omega) (by decide) h1, fun p hp => ?_⟩
  obtain ⟨ok2, st⟩ := ok.newO (o := .lst (rgV 0 n)) (u := .lst (rngD 0 n.toNat)) hp ⟨_, rfl, by
    unfold rgV rngD
    rw [show (n - 0).toNat = n.toNat by omega]
    exact RpA_rg _ _⟩
  exact q _ _ _ _ ok2 st (f p)
instance (priority := high) {Φ : V → Sy → Prop} [C : Cn P w K mg base k N sc vb lb gs X] [b1 : Bn mg "list"] [b2 : Bn mg "range"] [h1 : GIn "list" gs] [h2 : GIn "range" gs] [m : NoStar a] {pr p3 : Pos} : Step (Lift K (wE X (.Call (.Name "list" p) [.Call (.Name "range" p2) [a] [] pr] [] p3) σ) y Φ Ψ) (Lift K (wE X a σ) y (LrgK Φ) Ψ) := ⟨l_listRg⟩
instance {Φ : V → Sy → Prop} {n : Int} : Step (LrgK Φ (.int n) y) (0 ≤ n ∧ n ≤ 1000000 ∧ ∀ q, Φ (.ref q) ⟨y.F, (q, .lst (rngD 0 n.toNat)) :: y.O⟩) := ⟨fun h => ⟨n, rfl, h⟩⟩
/-! ### a comprehension that draws, some left out -/
theorem lcb_st {tg elt : Expr} {ifs : List Expr} {vs : List Nat} {Φ : V → Sy → Prop} {J : It} {es : List Dt} {p : Addr} (Q : Nat → List Dt → OD → Prop) {u0 : OD}
    (sr : Sr K J ⟨F, (p, u0) :: O⟩ es) (hz : es.length ≤ 1000000) (h0 : Q 0 [] u0)
    (turn : ∀ i d x acc u, es[i]? = some d → Q i acc u → ∀ X1, Cn P w K mg base k N sc vb lb gs X1 → Lift K (wG X1 tg x σw) ⟨(x, d) :: F, (p, u) :: O⟩ (fun σ2 y2 => wipe σ2 vs = σw ∧
      ∀ X2, Cn P w K mg base k N sc vb lb gs X2 → Lift K (wTs X2 ifs σ2) y2 (fun b y3 => (b = true → ∀ X3, Cn P w K mg base k N sc vb lb gs X3 → Lift K (wE X3 elt σ2) y3 (fun v y4 => ∃ e u2, Hs y4.F v e ∧ y4.O = (p, u2) :: O ∧ (∀ e, e ∈ F → e ∈ y4.F) ∧ Q (i + 1) (acc ++ [e]) u2) F0) ∧
        (b = false → ∃ u2, y3.O = (p, u2) :: O ∧ (∀ e, e ∈ F → e ∈ y3.F) ∧ Q (i + 1) acc u2)) F0) F0)
    (done : ∀ acc u F' q, acc.length ≤ es.length → Q es.length acc u → (∀ e, e ∈ F → e ∈ F') → Φ (.ref q) ⟨F', (q, .lst acc) :: (p, u) :: O⟩) :
    LcB P w K mg base k N sc vb lb gs tg ifs elt σw vs Φ J ⟨F, (p, u0) :: O⟩ := by
  refine ⟨es, sr, hz, fun i acc y' => ∃ u, Q i acc u ∧ y'.O = (p, u) :: O ∧ ∀ e, e ∈ F → e ∈ y'.F, ⟨u0, h0, rfl, fun _ h => h⟩, ?_, ?_⟩
  · rintro i d acc ⟨F', O'⟩ x hd ⟨u, hQ, hO, hF⟩ X1 C1
    cases hO
    refine Lift.forget (F2 := (x, d) :: F) (fun e h => ?_) ((turn i d x acc u hd hQ X1 C1).mono (fun σ2 y2 ⟨hw, f1⟩ => ⟨hw, fun X2 C2 => ?_⟩) fun _ _ z => z)
    · rcases List.mem_cons.mp h with h | h
      · rw [h]
        exact List.mem_cons_self
      · exact List.mem_cons_of_mem _ (hF _ h)
    · refine (f1 X2 C2).mono (fun b y3 ⟨f2, f3⟩ => ⟨fun e X3 C3 => (f2 e X3 C3).mono (fun v y4 ⟨e, u2, h1, h2, h3, h4⟩ => ⟨e, h1, u2, h4, h2, h3⟩) (fun _ _ z => z), fun e => ?_⟩) fun _ _ z => z
      obtain ⟨u2, h1, h2, h3⟩ := f3 e
      exact ⟨u2, h3, h1, h2⟩
  · rintro acc ⟨F', O'⟩ hl ⟨u, hQ, hO, hF⟩ q
    cases hO
    exact done acc u F' q hl hQ hF
end
end Yl

namespace Yl
open PySem PySem.Spec PyProof.Rows L2
/-! ### a constant tuple of texts of the module -/
class GvS (K : PySem.W.Frag) (mg : Str → Option Value) (x : Str) (zs : outParam (List Str)) : Prop where
  h : ∃ a, mg x = some (.ref a) ∧ ∀ H, SqT K H a (zs.map V.str)
theorem GvS.of {K : PySem.W.Frag} {mg : Str → Option Value} {x : Str} {zs : List Str} {a : Addr} {o : Obj} {its : Array Value} {n : Nat} (hm : mg x = some (.ref a)) (hl : K.lookup a = some o) (hc : o.cls = .type "tuple") (hd : o.data = .seq its n) (hz : its.size ≤ sizeLine) (hv : Vals (zs.map V.str) its.toList) : GvS K mg x zs := ⟨a, hm, fun H => .inr ⟨o, its, n, hl, hc, hd, hz, hv⟩⟩
theorem few_line {n : Nat} (h : n ≤ 1000) : n ≤ sizeLine := by
  rw [sizeLine_eq]
  omega
theorem RpA_strs {K : PySem.W.Frag} {S : Hp} : ∀ zs : List Str, RpA K S (zs.map V.str) (zs.map PyData.str)
  | [] => .nil
  | z :: r => .cons (.str z) (RpA_strs r)
/-! ### data that is equal to itself -/
class Pln (d : Dt) (n : outParam Nat) : Prop where
  h1 : plainD d = true
  h2 : PyData.canLay0 d = true
  h3 : PyData.depth d ≤ n
  h4 : PyData.eqv d d = true
class PlnA (ds : List Dt) (n : outParam Nat) : Prop where
  h1 : plainD.plainA ds = true
  h2 : PyData.canLayAll0 ds = true
  h3 : PyData.depthAll ds ≤ n
  h4 : PyData.eqvAll ds ds = true
instance (i : Int) : Pln (.int i) 0 := ⟨rfl, by simp [PyData.canLay0], by simp [PyData.depth], by show (i == i) = true; exact beq_self_eq_true _⟩
instance : PlnA [] 0 := ⟨rfl, by simp [PyData.canLayAll0], by simp [PyData.depthAll], rfl⟩
instance (d : Dt) (ds : List Dt) (n m : Nat) [a : Pln d n] [b : PlnA ds m] : PlnA (d :: ds) (max n m) := ⟨by
  show (plainD d && plainD.plainA ds) = true
  rw [a.h1, b.h1]
  rfl, by simp [PyData.canLayAll0, a.h2, b.h2], by
  have h1 := a.h3
  have h2 := b.h3
  simp only [PyData.depthAll]
  omega, by
  show (PyData.eqv d d && PyData.eqvAll ds ds) = true
  rw [a.h4, b.h4]
  rfl⟩
instance (priority := high) (ns : List Int) : PlnA (ns.map .int) 0 := ⟨plain_ints ns, lay_ints ns, Nat.le_of_eq (deep_ints ns), by rw [eqv_ints, decide_eq_true rfl]⟩
instance (priority := high) (bs : List (Int × Int)) : PlnA (prD bs) 1 := ⟨plain_prs bs, lay_prs bs, deep_prs bs, by rw [eqv_prs, decide_eq_true rfl]⟩
instance (ds : List Dt) (n : Nat) [a : PlnA ds n] : Pln (.list ds) (n + 1) := ⟨a.h1, by rw [PyData.canLay0]; exact a.h2, by rw [PyData.depth]; have := a.h3; omega, a.h4⟩
instance (ds : List Dt) (n : Nat) [a : PlnA ds n] : Pln (.tuple ds) (n + 1) := ⟨a.h1, by rw [PyData.canLay0]; exact a.h2, by rw [PyData.depth]; have := a.h3; omega, a.h4⟩
theorem Pln.shaped {d : Dt} {n : Nat} [a : Pln d n] (h : n ≤ 64) : SeqAt.shaped d = true := by
  unfold SeqAt.shaped
  rw [a.h2, decide_eq_true (Nat.le_trans a.h3 h)]
  rfl
section
variable {P : Program} {w : World} {K : PySem.W.Frag} {mg : Str → Option Value} {base : Heap} {k : Nat} {N : List Str} {sc : Scope} {vb lb : List Bool} {gs : List Str} {X : Cx} {y : Sy} {σ : L2.St} {Ψ : Value → Sy → Prop} {a : Expr} {pos : Pos} {F : List (V × Dt)} {O : List (Addr × OD)} {x : Str}
theorem l_globT {Φ : V → Sy → Prop} {zs : List Str} [C : Cn P w K mg base k N sc vb lb gs X] [g : GIn x gs] [m : GvS K mg x zs] (h : ∀ a, Φ (.ref a) ⟨(.ref a, .tuple (zs.map .str)) :: F, O⟩) : Lift K (wE X (.Name x pos) σ) ⟨F, O⟩ Φ Ψ := by
  obtain ⟨a, h1, h2⟩ := m.h
  refine Lift.pre (y2 := ⟨(.ref a, .tuple (zs.map .str)) :: F, O⟩) (fun S H ok => ⟨S, ⟨ok.sub, fun v d m => ?_, ok.own, ok.nd⟩, Stp.refl _ _ _⟩) (l_glob C g.h h1 (v := .ref a) rfl (h a))
  rcases List.mem_cons.mp m with e | m
  · cases e
    exact .tup (h2 S) (RpA_strs zs)
  · exact ok.fac v d m
instance (priority := low) {Φ : V → Sy → Prop} {zs : List Str} [C : Cn P w K mg base k N sc vb lb gs X] [g : GIn x gs] [m : GvS K mg x zs] : Step (Lift K (wE X (.Name x pos) σ) ⟨F, O⟩ Φ Ψ) (∀ a, Φ (.ref a) ⟨(.ref a, .tuple (zs.map .str)) :: F, O⟩) := ⟨l_globT⟩
/-! ### texts -/
theorem shaped_st {z : Str} (h : PyData.strOk z = true) : SeqAt.shaped (.str z) = true := by
  unfold SeqAt.shaped
  simp [PyData.canLay0, PyData.depth, h]
instance {Φ : V → Sy → Prop} {a b : Str} [C : Cn P w K mg base k N sc vb lb gs X] : Step (Lift K (wO X (compareOp .Eq) (.str a) (.str b)) y Φ Ψ) (PyData.strOk a = true ∧ PyData.strOk b = true ∧ Φ (.bl (decide (a = b))) y) := ⟨fun ⟨h1, h2, h⟩ => o_eqD (.hs (.str a)) (.hs (.str b)) rfl rfl (shaped_st h1) (shaped_st h2) C.unl C.hK (by
  have e : PyData.eqv (.str a) (.str b) = decide (a = b) := by
    show (a == b) = _
    by_cases h : a = b
    · rw [h]
      simp
    · rw [decide_eq_false h]
      exact beq_eq_false_iff_ne.mpr h
  rw [e]
  exact h)⟩
theorem inV_strs (i : Str) : ∀ ns : List Str, inV (.str i) (ns.map V.str) = ns.contains i
  | [] => rfl
  | n :: r => by
    have ih := inV_strs i r
    unfold inV at ih ⊢
    rw [List.map_cons, List.any_cons, ih, List.contains_cons]
    show ((n == i) || _) = ((i == n) || _)
    rw [BEq.comm]
theorem flat_strs : ∀ ns : List Str, (ns.map V.str).all flatV = true
  | [] => rfl
  | n :: r => by
    rw [List.map_cons, List.all_cons, flat_strs r]
    rfl
theorem RpA.strs_inv {S : Hp} : ∀ {xs : List V} {zs : List Str}, RpA K S xs (zs.map .str) → xs = zs.map V.str
  | _, [], .nil => rfl
  | _, z :: r, .cons a b => by
    cases a
    rw [RpA.strs_inv b]
    rfl
instance {Φ : V → Sy → Prop} {v : V} {zs : List Str} {i : Str} [r : Rc F O v (.tuple (zs.map .str))] [C : Cn P w K mg base k N sc vb lb gs X] : Step (Lift K (wO X (compareOp .NotIn) (.str i) v) ⟨F, O⟩ Φ Ψ) (Φ (.bl (!zs.contains i)) ⟨F, O⟩) := ⟨fun h => by
  refine o_of op_notIn_seq (Lift.raw fun S H ok E Q q => ?_)
  obtain ⟨a, xs, rfl, ha, rr⟩ := r.h.tup ok
  cases RpA.strs_inv rr
  refine ⟨a, _, rfl, .inr (by rw [C.hK]; exact ha), rfl, flat_strs zs, ?_⟩
  show Q (.bl (!inV (.str i) (zs.map V.str))) H
  rw [inV_strs]
  exact q _ _ S H ok (Stp.refl _ _ _) h⟩
/-! ### sum, max -/
theorem c_sum {Φ : V → Sy → Prop} {v : V} {ns : List Int} (hc : X.calm = true) (hK : X.K = K) (r : Rb y v (.list (ns.map .int))) (h : Φ (.int ns.sum) y) : Lift K (wC X (.builtin "sum") [v]) y Φ Ψ := by
  refine c_of (cr_sum hc) (Lift.raw fun S H ok E Q q => ?_)
  obtain ⟨a, xs, rfl, ha, rr⟩ := r.lst ok
  cases rr.ints_inv
  exact ⟨a, ns, rfl, SqL.of ha, q _ _ S H ok (Stp.refl _ _ _) h⟩
theorem c_maxL {Φ : V → Sy → Prop} {v : V} {ns : List Int} (hc : X.calm = true) (r : Rb y v (.list (ns.map .int))) (hn : 0 < ns.length) (h : ∀ m, m ∈ ns → (∀ z, z ∈ ns → z ≤ m) → Φ (.int m) y) : Lift K (wC X (.builtin "max") [v]) y Φ Ψ := by
  refine c_of (cr_max hc) (Lift.raw fun S H ok E Q q => ?_)
  obtain ⟨a, xs, rfl, ha, rr⟩ := r.lst ok
  cases rr.ints_inv
  exact ⟨a, ns, rfl, SqL.of ha, hn, fun m h1 h2 => q _ _ S H ok (Stp.refl _ _ _) (h m h1 h2)⟩
instance (priority := low) {Φ : V → Sy → Prop} {v : V} {ds : List Dt} {ns : List Int} [C : Cn P w K mg base k N sc vb lb gs X] [r : Rc F O v (.list ds)] [m : Ints ds ns] : Step (Lift K (wC X (.builtin "sum") [v]) ⟨F, O⟩ Φ Ψ) (Φ (.int ns.sum) ⟨F, O⟩) := ⟨fun h => c_sum C.calm C.hK (by rw [← m.h]; exact r.h) h⟩
/-! ### the same data -/
instance (priority := 50) {Φ : V → Sy → Prop} {v u : V} {ds : List Dt} {n : Nat} [C : Cn P w K mg base k N sc vb lb gs X] [r : Rc F O v (.list ds)] [s : Rc F O u (.list ds)] [m : PlnA ds n] : Step (Lift K (wO X (compareOp .NotEq) v u) ⟨F, O⟩ Φ Ψ) (n ≤ 60 ∧ Φ (.bl false) ⟨F, O⟩) := ⟨fun ⟨hn, h⟩ => by
  have : Pln (.list ds) (n + 1) := inferInstance
  refine o_neD r.h s.h this.h1 this.h1 (Pln.shaped (n := n + 1) (by omega)) (Pln.shaped (n := n + 1) (by omega)) C.unl C.hK ?_
  rw [this.h4]
  exact h⟩
end
end Yl

namespace Yl
open PySem PySem.Spec PyProof.Rows L2
/-! ### what is below, of several rows -/
section
variable {f g h : Int → Int} {n m p t u t' u' : Int}
theorem Mn.mono (hf : Mn f n p t u) (hg : Mn g n p t' u') (h0 : 0 ≤ p) (h1 : p < n) (hfg : ∀ q, 0 ≤ q → q < n → f q ≤ g q) : t * u' ≤ t' * u := by
  have hu := hf.pos
  refine hg.le hu ?_ fun i k a0 a1 a2 a3 => ?_
  · exact Int.le_trans hf.own (Int.mul_le_mul_of_nonneg_right (hfg p h0 h1) (Int.le_of_lt hu))
  · refine Int.le_trans (hf.line i k a0 a1 a2 a3) (Int.mul_le_mul_of_nonneg_right ?_ (Int.le_of_lt hu))
    have e1 := Int.mul_le_mul_of_nonneg_right (hfg i a0 (by omega)) (show 0 ≤ k - p by omega)
    have e2 := Int.mul_le_mul_of_nonneg_right (hfg k (by omega) a3) (show 0 ≤ p - i by omega)
    omega
theorem Mn.add {t3 u3 : Int} (hf : Mn f n p t u) (hg : Mn g n p t' u') (hh : Mn h n p t3 u3) (h0 : 0 ≤ p) (h1 : p < n) (e : ∀ q, 0 ≤ q → q < n → h q = f q + g q) : (t * u' + t' * u) * u3 ≤ t3 * (u * u') := by
  have hu := hf.pos
  have hu' := hg.pos
  refine hh.le (Int.mul_pos hu hu') ?_ fun i k a0 a1 a2 a3 => ?_
  · rw [e p h0 h1]
    have e1 := Int.mul_le_mul_of_nonneg_right hf.own (Int.le_of_lt hu')
    have e2 := Int.mul_le_mul_of_nonneg_right hg.own (Int.le_of_lt hu)
    have e3 : (f p + g p) * (u * u') = f p * u * u' + g p * u' * u := by grind
    omega
  · rw [e i a0 (by omega), e k (by omega) a3]
    have e1 := Int.mul_le_mul_of_nonneg_right (hf.line i k a0 a1 a2 a3) (Int.le_of_lt hu')
    have e2 := Int.mul_le_mul_of_nonneg_right (hg.line i k a0 a1 a2 a3) (Int.le_of_lt hu)
    have e3 : (t * u' + t' * u) * (k - i) = t * (k - i) * u' + t' * (k - i) * u := by grind
    have e4 : ((f i + g i) * (k - p) + (f k + g k) * (p - i)) * (u * u') = (f i * (k - p) + f k * (p - i)) * u * u' + (g i * (k - p) + g k * (p - i)) * u' * u := by grind
    omega
/-- a stretch of a row -/
theorem Mn.part {b : Int} (hf : Mn f n (b + p) t u) (hg : Mn g m p t' u') (hb : 0 ≤ b) (hm : b + m ≤ n) (h0 : 0 ≤ p) (h1 : p < m) (e : ∀ q, 0 ≤ q → q < m → g q = f (b + q)) : t * u' ≤ t' * u := by
  have hu := hf.pos
  refine hg.le hu ?_ fun i k a0 a1 a2 a3 => ?_
  · rw [e p h0 h1]
    exact hf.own
  · rw [e i a0 (by omega), e k (by omega) a3]
    have := hf.line (b + i) (b + k) (by omega) (by omega) (by omega) (by omega)
    rwa [show b + k - (b + i) = k - i by omega, show b + k - (b + p) = k - p by omega, show b + p - (b + i) = p - i by omega] at this
/-- a line put to a row -/
theorem Mn.put {r s : Int} (hf : Mn f n p t u) (hg : Mn g n p t' u') (h0 : 0 ≤ p) (h1 : p < n) (e : ∀ q, 0 ≤ q → q < n → g q = f q + (r * q + s)) : t' = frT (t + (r * p + s) * u) u ∧ u' = frB (t + (r * p + s) * u) u := by
  have hu := hf.pos
  refine hg.uniq (Mn.of hu ?_ (fun i k a0 a1 a2 a3 => ?_) ?_)
  · rw [e p h0 h1]
    have := hf.own
    have e1 : (f p + (r * p + s)) * u = f p * u + (r * p + s) * u := by grind
    omega
  · rw [e i a0 (by omega), e k (by omega) a3]
    have := hf.line i k a0 a1 a2 a3
    have e1 : (t + (r * p + s) * u) * (k - i) = t * (k - i) + (r * p + s) * u * (k - i) := by grind
    have e2 : ((f i + (r * i + s)) * (k - p) + (f k + (r * k + s)) * (p - i)) * u = (f i * (k - p) + f k * (p - i)) * u + (r * p + s) * u * (k - i) := by grind
    omega
  · rcases hf.att with a | ⟨i, k, a0, a1, a2, a3, a⟩
    · left
      rw [e p h0 h1, a]
      grind
    · right
      refine ⟨i, k, a0, a1, a2, a3, ?_⟩
      rw [e i a0 (by omega), e k (by omega) a3]
      have e1 : (t + (r * p + s) * u) * (k - i) = t * (k - i) + (r * p + s) * u * (k - i) := by grind
      rw [e1, a]
      grind
theorem form_one {a : Int} (hf : ∃ x y, 0 < y ∧ t = frT x y ∧ u = frB x y) (e : t = a * u) : t = a ∧ u = 1 := form_uniq hf (t' := a) (u' := 1) ⟨a, 1, by decide, (frT_one _).symm, (frB_one _).symm⟩ (by rw [e]; omega)
/-- the last place, and the first -/
theorem Mn.last (hf : Mn f n p t u) (hp : p = n - 1) : t = f p ∧ u = 1 := by
  rcases hf.att with e | ⟨i, k, a0, a1, a2, a3, e⟩
  · exact form_one hf.form e
  · omega
theorem Mn.first (hf : Mn f n p t u) (hp : p = 0) : t = f p ∧ u = 1 := by
  rcases hf.att with e | ⟨i, k, a0, a1, a2, a3, e⟩
  · exact form_one hf.form e
  · omega
/-- a line below a row is below what is told -/
theorem Mn.ge {a b : Int} (hf : Mn f n p t u) (h0 : 0 ≤ p) (h1 : p < n) (hS : Sup f n a b) : lnV f a b p * u ≤ t * (b - a) := by
  obtain ⟨s0, s1, s2, s3⟩ := hS
  refine hf.le (t' := lnV f a b p) (u' := b - a) (by omega) (s3 p h0 h1) fun i k a0 a1 a2 a3 => ?_
  have e1 := Int.mul_le_mul_of_nonneg_right (s3 i a0 (by omega)) (show 0 ≤ k - p by omega)
  have e2 := Int.mul_le_mul_of_nonneg_right (s3 k (by omega) a3) (show 0 ≤ p - i by omega)
  have e3 : lnV f a b p * (k - i) = lnV f a b i * (k - p) + lnV f a b k * (p - i) := by unfold lnV; grind
  have e4 : (f i * (k - p) + f k * (p - i)) * (b - a) = f i * (b - a) * (k - p) + f k * (b - a) * (p - i) := by grind
  omega
/-- what is told bends one way -/
theorem Low.conv {i k t1 u1 t2 u2 : Int} (hp : Low f n p t u) (hi : Mn f n i t1 u1) (hk : Mn f n k t2 u2) (h0 : 0 ≤ i) (h1 : i < p) (h2 : p < k) (h3 : k < n) : t * (k - i) * u1 * u2 ≤ (t1 * u2 * (k - p) + t2 * u1 * (p - i)) * u := by
  have hu := hp.pos
  have hu1 := hi.pos
  have hu2 := hk.pos
  rcases hp with ⟨e0, _, _⟩ | ⟨a, b, hS, a1, a2, rfl, rfl⟩
  · omega
  · have g1 := hi.ge h0 (by omega) hS
    have g2 := hk.ge (by omega) h3 hS
    have hv := fr_val (a := lnV f a b p) (b := b - a)
    have hd : 0 < b - a := by have := hS.2.1; omega
    generalize frT (lnV f a b p) (b - a) = T at *
    generalize frB (lnV f a b p) (b - a) = U at *
    refine le_cancel hd ?_
    have e3 : lnV f a b p * (k - i) = lnV f a b i * (k - p) + lnV f a b k * (p - i) := by unfold lnV; grind
    have g3 := Int.mul_le_mul_of_nonneg_right g1 (Int.le_of_lt (Int.mul_pos (Int.mul_pos (show 0 < k - p by omega) hu2) hu))
    have g4 := Int.mul_le_mul_of_nonneg_right g2 (Int.le_of_lt (Int.mul_pos (Int.mul_pos (show 0 < p - i by omega) hu1) hu))
    generalize lnV f a b p = Lp at *
    generalize lnV f a b i = Li at *
    generalize lnV f a b k = Lk at *
    have e1 : (b - a) * (T * (k - i) * u1 * u2) = Li * u1 * ((k - p) * u2 * U) + Lk * u2 * ((p - i) * u1 * U) := by
      have e5 : (b - a) * (T * (k - i) * u1 * u2) = T * (b - a) * (k - i) * u1 * u2 := by grind
      rw [e5, hv]
      have e6 : Lp * U * (k - i) * u1 * u2 = Lp * (k - i) * U * u1 * u2 := by grind
      rw [e6, e3]
      grind
    have e2 : (b - a) * ((t1 * u2 * (k - p) + t2 * u1 * (p - i)) * U) = t1 * (b - a) * ((k - p) * u2 * U) + t2 * (b - a) * ((p - i) * u1 * U) := by grind
    rw [e1, e2]
    omega
end
end Yl

namespace Yl
open PySem PySem.Spec PyProof.Rows L2
section
variable {P : Program} {w : World} {K : PySem.W.Frag} {mg : Str → Option Value} {base : Heap} {k : Nat} {N : List Str} {sc : Scope} {vb lb : List Bool} {gs : List Str} {X : Cx} {y : Sy} {σ : L2.St} {Ψ : Value → Sy → Prop} {pos : Pos} {F : List (V × Dt)} {O : List (Addr × OD)}
/-! ### in a list of ints -/
theorem o_inL {Φ : V → Sy → Prop} {v : V} {ns : List Int} {i : Int} (C : Cn P w K mg base k N sc vb lb gs X) (r : Rb ⟨F, O⟩ v (.list (ns.map .int))) (h : Φ (.bl (ns.contains i)) ⟨F, O⟩) : Lift K (wO X (compareOp .In) (.int i) v) ⟨F, O⟩ Φ Ψ := by
  refine o_of op_in_seq (Lift.raw fun S H ok E Q q => ?_)
  obtain ⟨a, xs, rfl, ha, rr⟩ := r.lst ok
  cases rr.ints_inv
  refine ⟨a, _, rfl, .inl (SqL.of ha), rfl, flat_ints ns, ?_⟩
  show Q (.bl (inV (.int i) (ns.map V.int))) H
  rw [inV_ints]
  exact q _ _ S H ok (Stp.refl _ _ _) h
theorem o_notInL {Φ : V → Sy → Prop} {v : V} {ns : List Int} {i : Int} (C : Cn P w K mg base k N sc vb lb gs X) (r : Rb ⟨F, O⟩ v (.list (ns.map .int))) (h : Φ (.bl (!ns.contains i)) ⟨F, O⟩) : Lift K (wO X (compareOp .NotIn) (.int i) v) ⟨F, O⟩ Φ Ψ := by
  refine o_of op_notIn_seq (Lift.raw fun S H ok E Q q => ?_)
  obtain ⟨a, xs, rfl, ha, rr⟩ := r.lst ok
  cases rr.ints_inv
  refine ⟨a, _, rfl, .inl (SqL.of ha), rfl, flat_ints ns, ?_⟩
  show Q (.bl (!inV (.int i) (ns.map V.int))) H
  rw [inV_ints]
  exact q _ _ S H ok (Stp.refl _ _ _) h
instance {Φ : V → Sy → Prop} {v : V} {ds : List Dt} {ns : List Int} {i : Int} [r : Rc F O v (.list ds)] [m : Ints ds ns] [C : Cn P w K mg base k N sc vb lb gs X] : Step (Lift K (wO X (compareOp .In) (.int i) v) ⟨F, O⟩ Φ Ψ) (Φ (.bl (ns.contains i)) ⟨F, O⟩) := ⟨fun h => o_inL C (by rw [← m.h]; exact r.h) h⟩
instance {Φ : V → Sy → Prop} {v : V} {ds : List Dt} {ns : List Int} {i : Int} [r : Rc F O v (.list ds)] [m : Ints ds ns] [C : Cn P w K mg base k N sc vb lb gs X] : Step (Lift K (wO X (compareOp .NotIn) (.int i) v) ⟨F, O⟩ Φ Ψ) (Φ (.bl (!ns.contains i)) ⟨F, O⟩) := ⟨fun h => o_notInL C (by rw [← m.h]; exact r.h) h⟩
/-- if .. : something that may set names, and on from there -/
theorem s_ifJ {Φ : Fl → Sy → Prop} {c : Expr} {l rest : List Stmt} (I : L2.St → Sy → Prop) (h : Lift K (wT X c σ) y (fun b z => (b = true → Lift K (wSs X l σ) z (fun f z2 => ∃ σ', f = .nx σ' ∧ I σ' z2) Ψ) ∧ (b = false → I σ z)) Ψ) (cont : ∀ σ' z, I σ' z → Lift K (wSs X rest σ') z Φ Ψ) : Lift K (wSs X (.If c l [] pos :: rest) σ) y Φ Ψ := by
  refine s_if0 (h.mono (fun b z ⟨h1, h2⟩ => ⟨fun e => (h1 e).mono (fun f z2 ⟨σ', ef, i⟩ => ?_) fun _ _ q => q, fun e => cont σ z (h2 e)⟩) fun _ _ q => q)
  subst ef
  exact cont σ' z2 i
/-- name = [..], where the name is read in another comprehension -/
theorem s_asgC {Φ : Fl → Sy → Prop} {x : Str} {elt : Expr} {cs : List Comprehension} {scope : Scope} {py spos : Pos} {rest : List Stmt} {f : V → L2.St} (C : Cn P w K mg base k N sc vb lb gs X) (hyc : (sc.names.lookup x == some .cell) = true) [L : Se x N lb σ f]
    (h : Lift K (wE X (.ListComp elt cs scope pos) σ) y (fun v y1 => Lift K (wSs X rest (f v)) y1 Φ Ψ) Ψ) : Lift K (wSs X (.Assign [.Name x py] (.ListComp elt cs scope pos) spos :: rest) σ) y Φ Ψ := by
  obtain ⟨i, h1, h2, h3⟩ := L.h
  rw [show (fun v y1 => Lift K (wSs X rest (f v)) y1 Φ Ψ) = fun v y1 => Lift K (wSs X rest (σ.set i (some v))) y1 Φ Ψ from funext fun v => by rw [h3]] at h
  refine s_seti i C h1 h2 ?_ h
  have ky : X.env.kindOf x = some .cell := by
    show X.env.scope.names.lookup x = _
    rw [C.hsc]
    exact beq_iff_eq.mp hyc
  unfold swapsWith
  simp only [ky]
  have e : (some NameKind.cell == some NameKind.local) = false := by decide
  rw [e]
  simp
end
/-! ### rows that bend one way -/
def Cnv (f : Int → Int) (n : Int) : Prop := ∀ q, 0 ≤ q → q + 2 < n → 2 * f (q + 1) ≤ f q + f (q + 2)
section
variable {f g : Int → Int} {n p a b t u : Int}
theorem Cnv.mono (h : Cnv f n) {q : Int} (h0 : 0 ≤ q) : ∀ m : Nat, q + (m : Nat) + 1 < n → f (q + 1) - f q ≤ f (q + (m : Nat) + 1) - f (q + (m : Nat))
  | 0, _ => by
    rw [show q + ((0 : Nat) : Int) = q by omega]
    exact Int.le_refl _
  | m + 1, h1 => by
    have ih := Cnv.mono h h0 m (by omega)
    have := h (q + (m : Nat)) (by omega) (by omega)
    rw [show q + ((m + 1 : Nat) : Int) = q + (m : Nat) + 1 by omega, show q + (m : Nat) + 1 + 1 = q + (m : Nat) + 2 by omega]
    omega
theorem Cnv.up (h : Cnv f n) {q : Int} (h0 : 0 ≤ q) : ∀ m : Nat, q + 1 + (m : Nat) < n → f (q + 1) + (f (q + 1) - f q) * (m : Nat) ≤ f (q + 1 + (m : Nat))
  | 0, _ => by
    rw [show q + 1 + ((0 : Nat) : Int) = q + 1 by omega]
    simp
  | m + 1, h1 => by
    have ih := Cnv.up h h0 m (by omega)
    have := h.mono h0 (m + 1) (by omega)
    rw [show q + ((m + 1 : Nat) : Int) + 1 = q + 1 + ((m + 1 : Nat) : Int) by omega, show q + ((m + 1 : Nat) : Int) = q + 1 + (m : Nat) by omega] at this
    have e : (f (q + 1) - f q) * ((m + 1 : Nat) : Int) = (f (q + 1) - f q) * (m : Nat) + (f (q + 1) - f q) := by
      rw [Int.natCast_succ, Int.mul_add, Int.mul_one]
    omega
theorem Cnv.down (h : Cnv f n) {q : Int} (h1 : q + 1 < n) : ∀ m : Nat, 0 ≤ q + 1 - (m : Nat) → f (q + 1) - (f (q + 1) - f q) * (m : Nat) ≤ f (q + 1 - (m : Nat))
  | 0, _ => by
    rw [show q + 1 - ((0 : Nat) : Int) = q + 1 by omega]
    simp
  | m + 1, h2 => by
    have ih := Cnv.down h h1 m (by omega)
    have := h.mono (q := q - (m : Nat)) (by omega) m (by omega)
    rw [show q - (m : Nat) + (m : Nat) = q by omega] at this
    rw [show q + 1 - ((m + 1 : Nat) : Int) = q - (m : Nat) by omega]
    rw [show q + 1 - (m : Nat) = q - (m : Nat) + 1 by omega] at ih
    have e : (f (q + 1) - f q) * ((m + 1 : Nat) : Int) = (f (q + 1) - f q) * (m : Nat) + (f (q + 1) - f q) := by
      rw [Int.natCast_succ, Int.mul_add, Int.mul_one]
    omega
theorem Cnv.tch (h : Cnv f n) : Tch f n p := by
  intro i k h0 h1 h2 h3
  have e1 := h.up (q := p - 1) (by omega) (k - p).toNat (by omega)
  have e2 := h.down (q := p - 1) (by omega) (p - i).toNat (by omega)
  rw [show p - 1 + 1 = p by omega, show ((k - p).toNat : Int) = k - p by omega, show p + (k - p) = k by omega] at e1
  rw [show p - 1 + 1 = p by omega, show ((p - i).toNat : Int) = p - i by omega, show p - (p - i) = i by omega] at e2
  have e3 := Int.mul_le_mul_of_nonneg_right e1 (show 0 ≤ p - i by omega)
  have e4 := Int.mul_le_mul_of_nonneg_right e2 (show 0 ≤ k - p by omega)
  have e5 : f p * (k - i) = (f p + (f p - f (p - 1)) * (k - p)) * (p - i) + (f p - (f p - f (p - 1)) * (p - i)) * (k - p) := by grind
  omega
theorem Cnv.of (h : ∀ p, 0 ≤ p → p < n → Tch f n p) : Cnv f n := fun q h0 h1 => by
  have := h (q + 1) (by omega) (by omega) q (q + 2) h0 (by omega) (by omega) h1
  rw [show q + 2 - q = 2 by omega, show q + 2 - (q + 1) = 1 by omega, show q + 1 - q = 1 by omega] at this
  omega
/-! ### a line below all places -/
theorem Sup.tchq (h : Sup f n a b) {q : Int} (h0 : 0 ≤ q) (h1 : q < n) (e : lnV f a b q = f q * (b - a)) : Tch f n q := by
  intro i k a0 a1 a2 a3
  obtain ⟨s0, s1, s2, s3⟩ := h
  refine le_cancel (x := b - a) (by omega) ?_
  have e1 := Int.mul_le_mul_of_nonneg_right (s3 i a0 (by omega)) (show 0 ≤ k - q by omega)
  have e2 := Int.mul_le_mul_of_nonneg_right (s3 k (by omega) a3) (show 0 ≤ q - i by omega)
  have e3 : lnV f a b q * (k - i) = lnV f a b i * (k - q) + lnV f a b k * (q - i) := by unfold lnV; grind
  have e4 : (b - a) * (f q * (k - i)) = f q * (b - a) * (k - i) := by grind
  have e5 : (b - a) * (f i * (k - q) + f k * (q - i)) = f i * (b - a) * (k - q) + f k * (b - a) * (q - i) := by grind
  rw [e4, e5, ← e, e3]
  omega
theorem Sup.tchl (h : Sup f n a b) : Tch f n a := h.tchq h.1 (by have := h.2.1; have := h.2.2.1; omega) (by unfold lnV; grind)
theorem Sup.tchr (h : Sup f n a b) : Tch f n b := h.tchq (by have := h.1; have := h.2.1; omega) h.2.2.1 (by unfold lnV; grind)
/-- a place that does not touch lies inside a line -/
theorem Low.inn (h : Low f n p t u) (h0 : 0 ≤ p) (h1 : p < n) (hT : ¬ Tch f n p) : ∃ a b, Sup f n a b ∧ a ≤ p - 1 ∧ p + 1 ≤ b := by
  rcases h with ⟨e, _, _⟩ | ⟨a, b, hS, ha, hb, _, _⟩
  · exact absurd (fun i k a0 a1 a2 a3 => by omega) hT
  · refine ⟨a, b, hS, ?_, ?_⟩
    · by_cases c : p = a
      · exact absurd (c ▸ hS.tchl) hT
      · omega
    · by_cases c : p = b
      · exact absurd (c ▸ hS.tchr) hT
      · omega
theorem edge_v {q : Int} (hS : Sup f n a b) (h0 : 0 ≤ q) (h1 : q < n) (ha : a ≤ q) (hb : q ≤ b) (hM : Mn f n q t u) : t * (b - a) = lnV f a b q * u := by
  have hLow : Low f n q (frT (lnV f a b q) (b - a)) (frB (lnV f a b q) (b - a)) := .inr ⟨a, b, hS, ha, hb, rfl, rfl⟩
  obtain ⟨e1, e2⟩ := hM.uniq (hLow.mn h0 h1)
  rw [e1, e2]
  exact fr_val
theorem str_eq {x y z : Int × Int} (hS : Sup f n a b) (ha : a ≤ p - 1) (hb : p + 1 ≤ b) (hx : Mn f n (p - 1) x.1 x.2) (hy : Mn f n p y.1 y.2) (hz : Mn f n (p + 1) z.1 z.2) :
    frT (x.1 * z.2 + z.1 * x.2) (x.2 * z.2) = frT (y.1 * y.2 + y.1 * y.2) (y.2 * y.2) ∧ frB (x.1 * z.2 + z.1 * x.2) (x.2 * z.2) = frB (y.1 * y.2 + y.1 * y.2) (y.2 * y.2) := by
  obtain ⟨s0, s1, s2, s3⟩ := id hS
  have e1 := edge_v hS (by omega) (by omega) ha (by omega) hx
  have e2 := edge_v hS (by omega) (by omega) (by omega) (by omega) hy
  have e3 := edge_v hS (by omega) (by omega) (by omega) hb hz
  have px := hx.pos
  have py := hy.pos
  have pz := hz.pos
  refine fr_parts (Int.mul_pos px pz) (Int.mul_pos py py) ?_
  have e4 : lnV f a b (p - 1) + lnV f a b (p + 1) = 2 * lnV f a b p := by unfold lnV; grind
  refine eq_cancel (x := b - a) (by omega) ?_
  have a1 : (b - a) * ((x.1 * z.2 + z.1 * x.2) * (y.2 * y.2)) = (x.1 * (b - a) * z.2 + z.1 * (b - a) * x.2) * (y.2 * y.2) := by grind
  have a2 : (b - a) * ((y.1 * y.2 + y.1 * y.2) * (x.2 * z.2)) = 2 * (y.1 * (b - a)) * y.2 * (x.2 * z.2) := by grind
  rw [a1, a2, e1, e2, e3]
  have a3 : (lnV f a b (p - 1) * x.2 * z.2 + lnV f a b (p + 1) * z.2 * x.2) * (y.2 * y.2) = (lnV f a b (p - 1) + lnV f a b (p + 1)) * (x.2 * z.2) * (y.2 * y.2) := by grind
  rw [a3, e4]
  grind
/-! ### otherwise -/
theorem Mn.times {t' u' c : Int} (hf : Mn f n p t u) (hg : Mn g n p t' u') (hc : 0 < c) (h0 : 0 ≤ p) (h1 : p < n) (e : ∀ q, 0 ≤ q → q < n → g q = c * f q) : t' = frT (c * t) u ∧ u' = frB (c * t) u := by
  have hu := hf.pos
  refine hg.uniq (Mn.of hu ?_ (fun i k a0 a1 a2 a3 => ?_) ?_)
  · rw [e p h0 h1, Int.mul_assoc]
    exact Int.mul_le_mul_of_nonneg_left hf.own (by omega)
  · rw [e i a0 (by omega), e k (by omega) a3]
    have := Int.mul_le_mul_of_nonneg_left (hf.line i k a0 a1 a2 a3) (show 0 ≤ c by omega)
    have e1 : c * t * (k - i) = c * (t * (k - i)) := by grind
    have e2 : (c * f i * (k - p) + c * f k * (p - i)) * u = c * ((f i * (k - p) + f k * (p - i)) * u) := by grind
    omega
  · rcases hf.att with a | ⟨i, k, a0, a1, a2, a3, a⟩
    · left
      rw [e p h0 h1, a]
      grind
    · right
      refine ⟨i, k, a0, a1, a2, a3, ?_⟩
      rw [e i a0 (by omega), e k (by omega) a3]
      have e1 : c * t * (k - i) = c * (t * (k - i)) := by grind
      rw [e1, a]
      grind
theorem Tch.times {c : Int} (hc : 0 < c) (h0 : 0 ≤ p) (h1 : p < n) (e : ∀ q, 0 ≤ q → q < n → g q = c * f q) : Tch g n p ↔ Tch f n p := by
  have key : ∀ i k, 0 ≤ i → i < p → p < k → k < n → (g p * (k - i) ≤ g i * (k - p) + g k * (p - i) ↔ f p * (k - i) ≤ f i * (k - p) + f k * (p - i)) := fun i k a0 a1 a2 a3 => by
    rw [e p h0 h1, e i a0 (by omega), e k (by omega) a3]
    have e1 : c * f p * (k - i) = c * (f p * (k - i)) := by grind
    have e2 : c * f i * (k - p) + c * f k * (p - i) = c * (f i * (k - p) + f k * (p - i)) := by grind
    rw [e1, e2]
    exact ⟨fun h => le_cancel hc h, fun h => Int.mul_le_mul_of_nonneg_left h (by omega)⟩
  exact ⟨fun h i k a0 a1 a2 a3 => (key i k a0 a1 a2 a3).mp (h i k a0 a1 a2 a3), fun h i k a0 a1 a2 a3 => (key i k a0 a1 a2 a3).mpr (h i k a0 a1 a2 a3)⟩
/-- turned about -/
theorem Mn.rev (hf : Mn f n (n - 1 - p) t u) (h0 : 0 ≤ p) (h1 : p < n) (e : ∀ q, 0 ≤ q → q < n → g q = f (n - 1 - q)) : Mn g n p t u where
  form := hf.form
  own := by
    rw [e p h0 h1]
    exact hf.own
  line := fun i k a0 a1 a2 a3 => by
    rw [e i a0 (by omega), e k (by omega) a3]
    have := hf.line (n - 1 - k) (n - 1 - i) (by omega) (by omega) (by omega) (by omega)
    rw [show n - 1 - i - (n - 1 - k) = k - i by omega, show n - 1 - i - (n - 1 - p) = p - i by omega, show n - 1 - p - (n - 1 - k) = k - p by omega] at this
    rw [Int.add_comm]
    exact this
  att := by
    rcases hf.att with a | ⟨i, k, a0, a1, a2, a3, a⟩
    · left
      rw [e p h0 h1]
      exact a
    · right
      refine ⟨n - 1 - k, n - 1 - i, by omega, by omega, by omega, by omega, ?_⟩
      rw [e _ (by omega) (by omega), e _ (by omega) (by omega), show n - 1 - (n - 1 - k) = k by omega, show n - 1 - (n - 1 - i) = i by omega]
      rw [show n - 1 - i - (n - 1 - k) = k - i by omega, show n - 1 - i - p = n - 1 - p - i by omega, show p - (n - 1 - k) = k - (n - 1 - p) by omega, Int.add_comm]
      exact a
/-- what does not touch is put up -/
theorem Low.up {t' u' : Int} (hf : Low f n p t u) (hg : Mn g n p t' u') (h0 : 0 ≤ p) (h1 : p < n) (hfg : ∀ q, 0 ≤ q → q < n → f q ≤ g q) (hT : ∀ q, 0 ≤ q → q < n → Tch f n q → g q = f q) : t' = t ∧ u' = u := by
  refine (hf.mn h0 h1 |>.uniq ?_) |> fun ⟨x, y⟩ => ⟨x.symm, y.symm⟩
  have hle := (hf.mn h0 h1).mono hg h0 h1 hfg
  refine ⟨hg.form, ?_, ?_, ?_⟩
  · -- t' ≤ f p * u'
    rcases hf with ⟨e0, e1, e2⟩ | ⟨a, b, hS, ha, hb, e1, e2⟩
    · have := hT p h0 h1 fun i k a0 a1 a2 a3 => by omega
      rw [← this]
      exact hg.own
    · by_cases c : p = a
      · rw [← hT p h0 h1 (c ▸ hS.tchl)]
        exact hg.own
      · by_cases c2 : p = b
        · rw [← hT p h0 h1 (c2 ▸ hS.tchr)]
          exact hg.own
        · have s := hg.line a b hS.1 (by omega) (by omega) hS.2.2.1
          rw [hT a hS.1 (by omega) hS.tchl, hT b (by omega) hS.2.2.1 hS.tchr] at s
          have s3 := hS.2.2.2 p h0 h1
          have hu := hg.pos
          have hd : 0 < b - a := by have := hS.2.1; omega
          refine le_cancel hd ?_
          have s4 := Int.mul_le_mul_of_nonneg_right s3 (Int.le_of_lt hu)
          have e5 : f a * (b - p) + f b * (p - a) = lnV f a b p := by unfold lnV; grind
          rw [e5] at s
          have e6 : (b - a) * (f p * u') = f p * (b - a) * u' := by grind
          rw [e6, Int.mul_comm]
          omega
  · intro i k a0 a1 a2 a3
    rcases hf with ⟨e0, e1, e2⟩ | ⟨a, b, hS, ha, hb, e1, e2⟩
    · omega
    · -- the line through a b
      have hu := hg.pos
      have hd : 0 < b - a := by have := hS.2.1; omega
      have key : t' * (b - a) ≤ lnV f a b p * u' := by
        by_cases c : p = a
        · have o := hg.own
          rw [hT p h0 h1 (c ▸ hS.tchl)] at o
          have := Int.mul_le_mul_of_nonneg_right o (Int.le_of_lt hd)
          have e5 : lnV f a b p = f p * (b - a) := by subst c; unfold lnV; grind
          rw [e5]
          have e6 : f p * u' * (b - a) = f p * (b - a) * u' := by grind
          omega
        · by_cases c2 : p = b
          · have o := hg.own
            rw [hT p h0 h1 (c2 ▸ hS.tchr)] at o
            have := Int.mul_le_mul_of_nonneg_right o (Int.le_of_lt hd)
            have e5 : lnV f a b p = f p * (b - a) := by subst c2; unfold lnV; grind
            rw [e5]
            have e6 : f p * u' * (b - a) = f p * (b - a) * u' := by grind
            omega
          · have s := hg.line a b hS.1 (by omega) (by omega) hS.2.2.1
            rw [hT a hS.1 (by omega) hS.tchl, hT b (by omega) hS.2.2.1 hS.tchr] at s
            have e5 : f a * (b - p) + f b * (p - a) = lnV f a b p := by unfold lnV; grind
            rw [e5] at s
            exact s
      refine le_cancel hd ?_
      have g1 := Int.mul_le_mul_of_nonneg_right (hS.2.2.2 i a0 (by omega)) (show 0 ≤ k - p by omega)
      have g2 := Int.mul_le_mul_of_nonneg_right (hS.2.2.2 k (by omega) a3) (show 0 ≤ p - i by omega)
      have e3 : lnV f a b p * (k - i) = lnV f a b i * (k - p) + lnV f a b k * (p - i) := by unfold lnV; grind
      have g3 := Int.mul_le_mul_of_nonneg_right key (show 0 ≤ k - i by omega)
      have g4 : lnV f a b p * (k - i) ≤ f i * (b - a) * (k - p) + f k * (b - a) * (p - i) := by omega
      have g5 := Int.mul_le_mul_of_nonneg_right g4 (Int.le_of_lt hu)
      have e6 : (b - a) * (t' * (k - i)) = t' * (b - a) * (k - i) := by grind
      have e7 : (b - a) * ((f i * (k - p) + f k * (p - i)) * u') = (f i * (b - a) * (k - p) + f k * (b - a) * (p - i)) * u' := by grind
      have e8 : lnV f a b p * u' * (k - i) = lnV f a b p * (k - i) * u' := by grind
      rw [e6, e7]
      omega
  · rcases hf with ⟨e0, e1, e2⟩ | ⟨a, b, hS, ha, hb, e1, e2⟩
    · rcases hg.att with e | ⟨i, k, a0, a1, a2, a3, e⟩
      · left
        rw [← hT p h0 h1 fun i k a0 a1 a2 a3 => by omega]
        exact e
      · omega
    · have hu := hg.pos
      have hd : 0 < b - a := by have := hS.2.1; omega
      have key2 : lnV f a b p * u' ≤ t' * (b - a) := by
        rw [e1, e2] at hle
        have hv := fr_val (a := lnV f a b p) (b := b - a)
        have hb2 := frB_pos (a := lnV f a b p) hd
        refine le_cancel hb2 ?_
        have g1 := Int.mul_le_mul_of_nonneg_right hle (Int.le_of_lt hd)
        have e5 : frB (lnV f a b p) (b - a) * (lnV f a b p * u') = lnV f a b p * frB (lnV f a b p) (b - a) * u' := by grind
        have e6 : frB (lnV f a b p) (b - a) * (t' * (b - a)) = t' * frB (lnV f a b p) (b - a) * (b - a) := by grind
        rw [e5, e6, ← hv]
        have e7 : frT (lnV f a b p) (b - a) * (b - a) * u' = frT (lnV f a b p) (b - a) * u' * (b - a) := by grind
        rw [e7]
        exact g1
      by_cases c : p = a
      · left
        have o := hg.own
        rw [hT p h0 h1 (c ▸ hS.tchl)] at o
        have e5 : lnV f a b p = f p * (b - a) := by subst c; unfold lnV; grind
        rw [e5] at key2
        have : (b - a) * (f p * u') ≤ (b - a) * t' := by
          have e6 : (b - a) * (f p * u') = f p * (b - a) * u' := by grind
          rw [e6, Int.mul_comm (b - a) t']
          exact key2
        have := le_cancel hd this
        omega
      · by_cases c2 : p = b
        · left
          have o := hg.own
          rw [hT p h0 h1 (c2 ▸ hS.tchr)] at o
          have e5 : lnV f a b p = f p * (b - a) := by subst c2; unfold lnV; grind
          rw [e5] at key2
          have : (b - a) * (f p * u') ≤ (b - a) * t' := by
            have e6 : (b - a) * (f p * u') = f p * (b - a) * u' := by grind
            rw [e6, Int.mul_comm (b - a) t']
            exact key2
          have := le_cancel hd this
          omega
        · right
          refine ⟨a, b, hS.1, by omega, by omega, hS.2.2.1, ?_⟩
          have s := hg.line a b hS.1 (by omega) (by omega) hS.2.2.1
          rw [hT a hS.1 (by omega) hS.tchl, hT b (by omega) hS.2.2.1 hS.tchr] at s
          have e5 : f a * (b - p) + f b * (p - a) = lnV f a b p := by unfold lnV; grind
          rw [e5] at s ⊢
          omega
/-- and the same places touch -/
theorem Low.upT {t' u' : Int} (hf : Low f n p t u) (hg : Low g n p t' u') (h0 : 0 ≤ p) (h1 : p < n) (hfg : ∀ q, 0 ≤ q → q < n → f q ≤ g q) (hT : ∀ q, 0 ≤ q → q < n → Tch f n q → g q = f q) : Tch g n p ↔ Tch f n p := by
  obtain ⟨e1, e2⟩ := hf.up (hg.mn h0 h1) h0 h1 hfg hT
  constructor
  · intro h
    obtain ⟨a1, a2⟩ := (hg.tch h0 h1).mpr h
    have o := hf.own h0 h1
    rw [← e1, ← e2, a1, a2, Int.mul_one] at o
    have := hfg p h0 h1
    exact (hf.tch h0 h1).mp ⟨by omega, by omega⟩
  · intro h
    obtain ⟨a1, a2⟩ := (hf.tch h0 h1).mpr h
    exact (hg.tch h0 h1).mp ⟨by rw [e1, a1, hT p h0 h1 h], by rw [e2, a2]⟩
/-- a row that bends one way, put down, is below what is told -/
theorem Low.ge {G : Int → Int} {B M : Int} (hf : Low f n p t u) (h0 : 0 ≤ p) (h1 : p < n) (hB : 0 < B) (hG : Cnv G n) (hle : ∀ q, 0 ≤ q → q < n → G q - f q * B ≤ M) : (G p - M) * u ≤ t * B := by
  refine (hf.mn h0 h1).le (t' := G p - M) (u' := B) hB (by have := hle p h0 h1; omega) fun i k a0 a1 a2 a3 => ?_
  have e1 := hG.tch (p := p) i k a0 a1 a2 a3
  have e2 := Int.mul_le_mul_of_nonneg_right (hle i a0 (by omega)) (show 0 ≤ k - p by omega)
  have e3 := Int.mul_le_mul_of_nonneg_right (hle k (by omega) a3) (show 0 ≤ p - i by omega)
  have e4 : (G i - f i * B) * (k - p) = G i * (k - p) - f i * (k - p) * B := by grind
  have e5 : (G k - f k * B) * (p - i) = G k * (p - i) - f k * (p - i) * B := by grind
  have e6 : (f i * (k - p) + f k * (p - i)) * B = f i * (k - p) * B + f k * (p - i) * B := by grind
  have e7 : (G p - M) * (k - i) = G p * (k - i) - (M * (k - p) + M * (p - i)) := by grind
  omega
end
end Yl

namespace Yl
open PySem PySem.Spec PyProof.Rows L2
section
variable {P : Program} {w : World} {K : PySem.W.Frag} {mg : Str → Option Value} {base : Heap} {k : Nat} {N : List Str} {sc : Scope} {vb lb : List Bool} {gs : List Str} {X : Cx} {y : Sy} {σ : L2.St} {Ψ : Value → Sy → Prop} {pos : Pos} {F : List (V × Dt)} {O : List (Addr × OD)}
/-! ### a list of owned lists -/
theorem l_lstR {Φ : V → Sy → Prop} {es : List Expr} (h : Lift K (wA X es σ) y (fun vs y1 => vs.length ≤ 1000000 ∧ ∀ p, Φ (.ref p) ⟨y1.F, (p, .raw (.lst vs)) :: y1.O⟩) Ψ) : Lift K (wE X (.List es pos) σ) y Φ Ψ := by
  refine l_of (fun E tk => pe_lst (pa_w tk)) (Lift.bind (T1 := wA X es σ) (T2 := fun xs _ H Q => xs.length ≤ sizeLine ∧ ∀ p, H p = none → Q (.ref p) (upd H p (.lst xs))) (fun _ _ _ q => q) (h.mono (fun vs z ⟨hz, k⟩ => Lift.raw fun S H ok E Q q => ?_) fun _ _ q => q))
  refine ⟨Nat.le_trans hz (by decide), fun p hp => ?_⟩
  obtain ⟨ok2, st⟩ := ok.newO (o := .lst vs) (u := .raw (.lst vs)) hp rfl
  exact q _ _ _ _ ok2 st (k p)
theorem ix_raw {Φ : V → Sy → Prop} {p : Addr} {vs : List V} {i : Int} {v : V} (m : (p, OD.raw (.lst vs)) ∈ O) (e : atI vs i = some v) (h : Φ v ⟨F, O⟩) : Lift K (wIx X (.ref p) (.int i)) ⟨F, O⟩ Φ Ψ := by
  refine ix_of ix_list (Lift.raw fun S H ok E Q q => ?_)
  obtain ⟨_, o, ho, e2⟩ := ok.own p (.raw (.lst vs)) m
  cases e2
  exact ⟨p, vs, i, v, rfl, rfl, SqL.of ho, e, q v _ S H ok (Stp.refl _ _ _) h⟩
end
end Yl

namespace Yl
open PySem PySem.Spec PyProof.Rows L2
/-! ### zip of three lists -/
def Itz3 (K : PySem.W.Frag) (a b c : Addr) : It :=
  ⟨fun i H => ∃ (xs ys zs : List V) (x y z : V), SqL K H a xs ∧ SqL K H b ys ∧ SqL K H c zs ∧ xs[i]? = some x ∧ ys[i]? = some y ∧ zs[i]? = some z,
    fun i H v H' => ∃ T x y z, v = .ref T ∧ H T = none ∧ H' = upd H T (.tup [x, y, z]) ∧ (∀ xs, SqL K H a xs → xs[i]? = some x) ∧ (∀ ys, SqL K H b ys → ys[i]? = some y) ∧ ∀ zs, SqL K H c zs → zs[i]? = some z,
    fun i H => ∃ xs ys zs : List V, SqL K H a xs ∧ SqL K H b ys ∧ SqL K H c zs ∧ i ≤ xs.length ∧ i ≤ ys.length ∧ i ≤ zs.length ∧ (i = xs.length ∨ i = ys.length ∨ i = zs.length)⟩
theorem turn_zip3 {P : Program} {w : World} {K : PySem.W.Frag} {elts : List Expr} {kk : Nat} {tpos : Pos} {a b c z TI TO i1 i2 i3 : Addr} (D : ZipSep3 z TI TO i1 i2 i3 [i1, a] [i2, b] [i3, c]) (n1 : a ≠ i1) (n2 : b ≠ i2) (n3 : c ≠ i3) :
    Turn P w K (.Tuple elts kk tpos) (Itz3 K a b c) [z, TI, TO, i1, i2, i3] z (fun i h => IsZip h z TI TO .none ∧ IsTupOf3 h TI (.ref i1) (.ref i2) (.ref i3) ∧ (∃ x y u, IsTupOf3 h TO x y u) ∧ h.IsListIter i1 a i ∧ h.IsListIter i2 b i ∧ h.IsListIter i3 c i) where
  mem := by simp
  obj := fun i h st c hc => by
    obtain ⟨hz, hTI, ⟨x, y, u, hTO⟩, ⟨o1, e1, _, d1⟩, ⟨o2, e2, _, d2⟩, ⟨o3, e3, _, d3⟩⟩ := st
    have e' : c = z ∨ c = TI ∨ c = TO ∨ c = i1 ∨ c = i2 ∨ c = i3 := by simpa using hc
    rcases e' with q | q | q | q | q | q
    · rw [q]; exact ⟨_, hz, fun v q => nomatch q⟩
    · rw [q]; exact ⟨_, hTI, fun v q => nomatch q⟩
    · rw [q]; exact ⟨_, hTO, fun v q => nomatch q⟩
    · rw [q]; exact ⟨o1, e1, fun v q => by rw [d1] at q; cases q⟩
    · rw [q]; exact ⟨o2, e2, fun v q => by rw [d2] at q; cases q⟩
    · rw [q]; exact ⟨o3, e3, fun v q => by rw [d3] at q; cases q⟩
  keep := fun i h h' st k => by
    obtain ⟨hz, hTI, ⟨x, y, u, hTO⟩, h1, h2, h3⟩ := st
    exact ⟨k z (by simp) _ hz, k TI (by simp) _ hTI, ⟨x, y, u, k TO (by simp) _ hTO⟩, h1.at fun o q => k i1 (by simp) o q, h2.at fun o q => k i2 (by simp) o q, h3.at fun o q => k i3 (by simp) o q⟩
  item := by
    intro X hP hw hK hc i pins s σ H E I hf st hg
    subst hP hw hK
    obtain ⟨hz, hTI, ⟨x0, y0, u0, hTO⟩, h1, h2, h3⟩ := st
    obtain ⟨xs, ys, zs, x, y, u, hqx, hqy, hqz, hx, hy, hu⟩ := hg
    obtain ⟨its, rv, p, _⟩ := I.list hqx
    obtain ⟨its2, rv2, p2, _⟩ := I.list hqy
    obtain ⟨its3, rv3, p3, _⟩ := I.list hqz
    obtain ⟨v1, e1, ru1⟩ := rv.get hx
    obtain ⟨v2, e2, ru2⟩ := rv2.get hy
    obtain ⟨v3, e3, ru3⟩ := rv3.get hu
    have hzl : z < s.heap.objs.size := Heap.lt_size hz
    have hh : X.A.in1.handled = none := I.ok.hd hc
    have hi1 : i < its.toArray.size := by have := (List.getElem?_eq_some_iff.mp e1).1; simpa using this
    have hi2 : i < its2.toArray.size := by have := (List.getElem?_eq_some_iff.mp e2).1; simpa using this
    have hi3 : i < its3.toArray.size := by have := (List.getElem?_eq_some_iff.mp e3).1; simpa using this
    refine wpAny_pyNext_zipD3_item D (Draws.list hh i1 a n1 its.toArray) (Draws.list hh i2 b n2 its2.toArray) (Draws.list hh i3 c n3 its3.toArray) hz hTI hTO ⟨h1, p.isList⟩ ⟨h2, p2.isList⟩ ⟨h3, p3.isList⟩ hi1 hi2 hi3 fun x1 x2 x3 h' tk y1 y2 y3 z' TO' d1 d2 d3 hT hsz hk => ?_
    have x1e : x1 = v1 := by
      have : its[i]? = some x1 := by simpa using y1
      rw [e1] at this
      exact (Option.some.inj this).symm
    have x2e : x2 = v2 := by
      have : its2[i]? = some x2 := by simpa using y2
      rw [e2] at this
      exact (Option.some.inj this).symm
    have x3e : x3 = v3 := by
      have : its3[i]? = some x3 := by simpa using y3
      rw [e3] at this
      exact (Option.some.inj this).symm
    subst x1e
    subst x2e
    subst x3e
    refine ⟨_, rfl, wpAny_letOwnedTupleGo_zip (s := { s with heap := h', toks := tk }) z' fun h'' z'' sb => ?_⟩
    have hT2 : h''.get? s.heap.objs.size = some { cls := .type "tuple", data := .seq #[x1, x2, x3] } := (sb.2 _ (Nat.ne_of_gt hzl)).trans hT
    have new : ObjOk X.prog X.w (upd H s.heap.objs.size (.tup [x, y, u])) h'' s.heap.objs.size (.tup [x, y, u]) :=
      ⟨by show 3 ≤ sizeLine; decide, [x1, x2, x3], .cons ru1 (.cons ru2 (.cons ru3 .nil)), ⟨_, hT2, rfl, _, rfl⟩⟩
    have I1 : Inv X pins σ (upd H s.heap.objs.size (.tup [x, y, u])) { s with heap := h'', toks := tk } :=
      I.turnedNew (t' := tk) (ch := [z, TI, TO, i1, i2, i3]) (fun c o hb q => (sb.2 c (fun q' => hb (by simp [q']))).trans (hk c o (fun q' => hb (by simp [q'])) (fun q' => hb (by simp [q'])) (fun q' => hb (by simp [q'])) (fun q' => hb (by simp [q'])) (fun q' => hb (by simp [q'])) q)) hf (Nat.le_refl _) new
    refine ⟨.ref s.heap.objs.size, _, I1, rfl, ⟨_, x, y, u, rfl, I.hok.fresh (Nat.le_refl _), rfl, fun l hl => by rw [I.list_inj hl hqx]; exact hx, fun l hl => by rw [I.list_inj hl hqy]; exact hy, fun l hl => by rw [I.list_inj hl hqz]; exact hu⟩, ⟨z'', ?_, ⟨x1, x2, x3, ?_⟩, ?_, ?_, ?_⟩, fun c hcm => ?_⟩
    · exact (sb.2 _ D.TIz).trans (hk _ _ D.TIz D.TITO D.TIi1 D.TIi2 D.TIi3 hTI)
    · exact (sb.2 _ D.TOz).trans TO'
    · exact d1.1.at fun o q => (sb.2 _ (Ne.symm D.zi1)).trans q
    · exact d2.1.at fun o q => (sb.2 _ (Ne.symm D.zi2)).trans q
    · exact d3.1.at fun o q => (sb.2 _ (Ne.symm D.zi3)).trans q
    · have hlt : c < s.heap.objs.size := by
        have e' : c = z ∨ c = TI ∨ c = TO ∨ c = i1 ∨ c = i2 ∨ c = i3 := by simpa using hcm
        rcases e' with q | q | q | q | q | q
        · rw [q]; exact hzl
        · rw [q]; exact Heap.lt_size hTI
        · rw [q]; exact Heap.lt_size hTO
        · rw [q]; obtain ⟨_, e1, _⟩ := h1; exact Heap.lt_size e1
        · rw [q]; obtain ⟨_, e2, _⟩ := h2; exact Heap.lt_size e2
        · rw [q]; obtain ⟨_, e3, _⟩ := h3; exact Heap.lt_size e3
      rw [upd_ne (Nat.ne_of_lt hlt)]
      exact (hf c hcm).1
  done := by
    intro X hP hw hK hc i pins s σ H E I hf st hg
    subst hP hw hK
    obtain ⟨hz, hTI, ⟨x0, y0, u0, hTO⟩, h1, h2, h3⟩ := st
    obtain ⟨xs, ys, zs, hqx, hqy, hqz, l1, l2, l3, hend⟩ := hg
    obtain ⟨its, rv, p, _⟩ := I.list hqx
    obtain ⟨its2, rv2, p2, _⟩ := I.list hqy
    obtain ⟨its3, rv3, p3, _⟩ := I.list hqz
    have m1 := rv.length
    have m2 := rv2.length
    have m3 := rv3.length
    have hh : X.A.in1.handled = none := I.ok.hd hc
    have q1 : its.toArray.size = xs.length := by simp [m1]
    have q2 : its2.toArray.size = ys.length := by simp [m2]
    have q3 : its3.toArray.size = zs.length := by simp [m3]
    exact wpAny_pyNext_zipD3_end D (Draws.list hh i1 a n1 its.toArray) (Draws.list hh i2 b n2 its2.toArray) (Draws.list hh i3 c n3 its3.toArray) hz hTI hTO ⟨h1, p.isList⟩ ⟨h2, p2.isList⟩ ⟨h3, p3.isList⟩ (by omega) (by omega) (by omega) (by omega) fun h' tk hk => ⟨rfl, I.turnedL (t' := tk) (ch := [z, TI, TO, i1, i2, i3]) (fun c o hb q =>
      hk c o (fun q' => hb (by simp [q'])) (fun q' => hb (by simp [q'])) (fun q' => hb (by simp [q'])) (fun q' => hb (by simp [q'])) (fun q' => hb (by simp [q'])) q) hf⟩
  self := fun A i s Q E st h => wpAny_pyIter_zip st.1 h
def iZip3 (K : PySem.W.Frag) (ta : TA) : TI := fun σ H R => ta σ H fun vs H1 => ∃ a b c xs ys zs, vs = [.ref a, .ref b, .ref c] ∧ SqL K H1 a xs ∧ SqL K H1 b ys ∧ SqL K H1 c zs ∧ R (Itz3 K a b c) H1
theorem pi_zip3 {X : Cx} {e e2 e3 : Expr} {ta : TA} {p pos tpos : Pos} {elts : List Expr} {kk : Nat} (hg : Gl X "zip") (hm : X.mg "zip" = none) (ha : PA X [e, e2, e3] ta)
    (hs : starEach [e, e2, e3] X.env = (false, eval e X.env) :: starEach [e2, e3] X.env) (hpl : (backTo pos (starEach [e2, e3] X.env)).any (·.1) = false) :
    PI X (.Tuple elts kk tpos) (.Call (.Name "zip" p) [e, e2, e3] [] pos) (iZip3 X.K ta) := by
  refine ⟨fun pins s σ H R I h => ?_⟩
  refine Call_ (ld_blt I hg hm PyProof.Rows.boot_zip (PyProof.Rows.callWith_type1 (thn (ha.run pos pins s σ H _ I h) fun us s1 ⟨vs, H1, I1, r1, q1⟩ => ?_) hs hpl))
  obtain ⟨a, b, c, xs, ys, zs, ex, hqx, hqy, hqz, q⟩ := q1
  subst ex
  cases r1 with
  | cons r rr =>
    cases rr with
    | cons r' rr =>
      cases rr with
      | cons r'' rr =>
        cases rr
        cases r
        cases r'
        cases r''
        obtain ⟨its, rv, p1, _⟩ := I1.list hqx
        obtain ⟨its2, rv2, p2, _⟩ := I1.list hqy
        obtain ⟨its3, rv3, p3, _⟩ := I1.list hqz
        have la : a < s1.heap.objs.size := p1.lt
        have lb : b < s1.heap.objs.size := p2.lt
        have lc : c < s1.heap.objs.size := p3.lt
        refine zip_begins3 (begins_list a its.toArray) (begins_list b its2.toArray) (begins_list c its3.toArray) p1.isList p2.isList p3.isList fun h' hz hTI hTO g1 g2 g3 hsz hk => wpAny_pyIter_zip hz ?_
        have I2 : Inv X pins σ H1 { s1 with heap := h' } := I1.kept (t' := s1.toks) hk
        have D := zip_sep3 (N := s1.heap.objs.size) (fp1 := [a]) (fp2 := [b]) (fp3 := [c]) (fun x hx => by rw [List.mem_singleton.mp hx]; exact la) (fun x hx => by rw [List.mem_singleton.mp hx]; exact lb) (fun x hx => by rw [List.mem_singleton.mp hx]; exact lc)
        refine ⟨s1.heap.objs.size + 5, [s1.heap.objs.size + 5, s1.heap.objs.size + 3, s1.heap.objs.size + 4, s1.heap.objs.size, s1.heap.objs.size + 1, s1.heap.objs.size + 2], _, _, H1, rfl, I2, turn_zip3 D (Nat.ne_of_lt la) (Nat.ne_of_lt (Nat.lt_succ_of_lt lb)) (Nat.ne_of_lt (Nat.lt_succ_of_lt (Nat.lt_succ_of_lt lc))), ⟨hz, hTI, ⟨_, _, _, hTO⟩, ⟨_, g1, rfl, rfl⟩, ⟨_, g2, rfl, rfl⟩, ⟨_, g3, rfl, rfl⟩⟩, fun c hcm => ?_, q⟩
        have e' : c = s1.heap.objs.size + 5 ∨ c = s1.heap.objs.size + 3 ∨ c = s1.heap.objs.size + 4 ∨ c = s1.heap.objs.size ∨ c = s1.heap.objs.size + 1 ∨ c = s1.heap.objs.size + 2 := by simpa using hcm
        have hle : s1.heap.objs.size ≤ c := by
          rcases e' with z | z | z | z | z | z
          · rw [z]; exact Nat.le_add_right _ _
          · rw [z]; exact Nat.le_add_right _ _
          · rw [z]; exact Nat.le_add_right _ _
          · rw [z]; exact Nat.le_refl _
          · rw [z]; exact Nat.le_add_right _ _
          · rw [z]; exact Nat.le_add_right _ _
        exact I1.fpOk hle (I1.hok.fresh hle)
def YTri (xs ys zs : Nat → Option V) : Nat → Hp → V → Hp → Prop := fun i H v H' => ∃ T x y z, v = .ref T ∧ H T = none ∧ H' = upd H T (.tup [x, y, z]) ∧ xs i = some x ∧ ys i = some y ∧ zs i = some z
theorem walk_zip3 {K : PySem.W.Frag} {a b c : Addr} {xs ys zs : List V} {n : Nat} (hn : n = min (min xs.length ys.length) zs.length) : Walk (Itz3 K a b c) n (fun H => SqL K H a xs ∧ SqL K H b ys ∧ SqL K H c zs) (YTri (fun i => xs[i]?) (fun i => ys[i]?) (fun i => zs[i]?)) := by
  subst hn
  refine ⟨fun i _ hi q => ?_, fun _ q => ⟨xs, ys, zs, q.1, q.2.1, q.2.2, by omega, by omega, by omega, by omega⟩, fun i H v H' _ q y => ?_⟩
  · have h1 : i < xs.length := by omega
    have h2 : i < ys.length := by omega
    have h3 : i < zs.length := by omega
    exact ⟨xs, ys, zs, xs[i], ys[i], zs[i], q.1, q.2.1, q.2.2, by simp [h1], by simp [h2], by simp [h3]⟩
  · obtain ⟨T, x, y, z, h1, h2, h3, h4, h5, h6⟩ := y
    exact ⟨T, x, y, z, h1, h2, h3, h4 xs q.1, h5 ys q.2.1, h6 zs q.2.2⟩
def zip3D (ds es fs : List Dt) : List Dt := List.zipWith (fun d ef => PyData.tuple [d, ef.1, ef.2]) ds (es.zip fs)
theorem zip3D_at {ds es fs : List Dt} {i : Nat} {d : Dt} (h : (zip3D ds es fs)[i]? = some d) : ∃ x y z, ds[i]? = some x ∧ es[i]? = some y ∧ fs[i]? = some z ∧ d = .tuple [x, y, z] := by
  unfold zip3D at h
  rw [List.getElem?_zipWith] at h
  cases h1 : ds[i]? with
  | none =>
    rw [h1] at h
    cases h
  | some x =>
    cases h2 : (es.zip fs)[i]? with
    | none =>
      rw [h1, h2] at h
      cases h
    | some yz =>
      rw [h1, h2] at h
      cases h
      obtain ⟨e1, e2⟩ := List.getElem?_zip_eq_some.mp h2
      exact ⟨x, yz.1, yz.2, rfl, e1, e2, rfl⟩
theorem zip3D_len (ds es fs : List Dt) : (zip3D ds es fs).length = min ds.length (min es.length fs.length) := by
  unfold zip3D
  rw [List.length_zipWith, List.length_zip]
theorem Sr.zip3 {K : PySem.W.Frag} {y : Sy} {a b c : Addr} {ds es fs : List Dt} (h : Hs y.F (.ref a) (.list ds)) (h2 : Hs y.F (.ref b) (.list es)) (h3 : Hs y.F (.ref c) (.list fs)) : Sr K (Itz3 K a b c) y (zip3D ds es fs) := by
  refine ⟨fun S H ok => ?_⟩
  have r := h.rp ok
  have r2 := h2.rp ok
  have r3 := h3.rp ok
  cases r with
  | @lst _ xs _ e r =>
    cases r2 with
    | @lst _ ys _ e2 r2 =>
      cases r3 with
      | @lst _ zs _ e3 r3 =>
        have hl : (zip3D ds es fs).length = min (min xs.length ys.length) zs.length := by
          rw [zip3D_len, r.length, r2.length, r3.length]
          omega
        refine ⟨_, YTri (fun i => xs[i]?) (fun i => ys[i]?) (fun i => zs[i]?), walk_zip3 hl, fun H' s => ⟨SqL.of (s _ _ e), SqL.of (s _ _ e2), SqL.of (s _ _ e3)⟩, fun i H1 x H2 d S' hd s1 s2 y => .inr ?_⟩
        obtain ⟨T, x1, x2, x3, rfl, hT, rfl, g1, g2, g3⟩ := y
        obtain ⟨d1, hd1, p1⟩ := r.get g1
        obtain ⟨d2, hd2, p2⟩ := r2.get g2
        obtain ⟨d3, hd3, p3⟩ := r3.get g3
        obtain ⟨d1', d2', d3', e1', e2', e3', ed⟩ := zip3D_at hd
        rw [hd1] at e1'
        rw [hd2] at e2'
        rw [hd3] at e3'
        cases e1'
        cases e2'
        cases e3'
        refine ⟨T, _, hT, rfl, rfl, ?_⟩
        rw [ed]
        have n := s1.trans (s2.new (o := .tup [x1, x2, x3]) hT)
        exact .tup (SqT.of upd_same) (.cons (p1.mono n) (.cons (p2.mono n) (.cons (p3.mono n) .nil)))
section
variable {P : Program} {w : World} {K : PySem.W.Frag} {mg : Str → Option Value} {base : Heap} {k : Nat} {N : List Str} {sc : Scope} {vb lb : List Bool} {gs : List Str} {X : Cx} {y : Sy} {σ : L2.St} {Ψ : Value → Sy → Prop} {pos p p2 : Pos} {F : List (V × Dt)} {O : List (Addr × OD)} {es : List Expr}
def Zip3K (K : PySem.W.Frag) (Φ : It → Sy → Prop) (vs : List V) (y : Sy) : Prop := ∃ v u t ds es fs, vs = [v, u, t] ∧ Hs y.F v (.list ds) ∧ Hs y.F u (.list es) ∧ Hs y.F t (.list fs) ∧ ∀ J, Sr K J y (zip3D ds es fs) → Φ J y
theorem i_zip3 {Φ : It → Sy → Prop} {a b c : Expr} {p tpos : Pos} {elts : List Expr} {kk : Nat} (C : Cn P w K mg base k N sc vb lb gs X) (hg : ("zip" : Str) ∈ gs) (hm : mg "zip" = none) (hs : starEach [a, b, c] X.env = (false, eval a X.env) :: starEach [b, c] X.env) (hpl : (backTo pos (starEach [b, c] X.env)).any (·.1) = false)
    (h : Lift K (wA X [a, b, c] σ) y (Zip3K K Φ) Ψ) : Lift K (wI X (.Tuple elts kk tpos) (.Call (.Name "zip" p) [a, b, c] [] pos) σ) y Φ Ψ := by
  refine i_of (fun E tk => pi_zip3 (C.gl _ hg).1 (by rw [C.hm]; exact hm) (pa_w tk) hs hpl) (Lift.bind (T1 := wA X [a, b, c] σ) (T2 := fun vs _ H R => ∃ a b c xs ys zs, vs = [.ref a, .ref b, .ref c] ∧ SqL X.K H a xs ∧ SqL X.K H b ys ∧ SqL X.K H c zs ∧ R (Itz3 X.K a b c) H) (fun _ _ _ q => q)
    (h.mono (fun vs z ⟨v, u, t, ds, es, fs, e, h1, h2, h3, f⟩ => Lift.raw fun S H ok E Q q => ?_) fun _ _ q => q))
  subst e
  have r := h1.rp ok
  have r2 := h2.rp ok
  have r3 := h3.rp ok
  cases r with
  | @lst a1 xs _ e1 r =>
    cases r2 with
    | @lst a2 ys _ e2 r2 =>
      cases r3 with
      | @lst a3 zs _ e3 r3 =>
        refine ⟨a1, a2, a3, xs, ys, zs, rfl, SqL.of (ok.sub _ _ e1), SqL.of (ok.sub _ _ e2), SqL.of (ok.sub _ _ e3), q _ z S H ok (Stp.refl _ _ _) (f _ ?_)⟩
        rw [C.hK]
        exact Sr.zip3 h1 h2 h3
instance {Φ : It → Sy → Prop} {a b c : Expr} [C : Cn P w K mg base k N sc vb lb gs X] [bn : Bn mg "zip"] [hg : GIn "zip" gs] [m : NoStar a] [m2 : NoStars [b, c]] {kk : Nat} : Step (Lift K (wI X (.Tuple es kk p2) (.Call (.Name "zip" p) [a, b, c] [] pos) σ) y Φ Ψ) (Lift K (wA X [a, b, c] σ) y (Zip3K K Φ) Ψ) := ⟨i_zip3 C hg.h bn.h (m.h _ _) (NoStars.b _ _)⟩
instance {Φ : It → Sy → Prop} {v u t : V} {ds es fs : List Dt} [m : Hc F v (.list ds)] [m2 : Hc F u (.list es)] [m3 : Hc F t (.list fs)] : Step (Zip3K K Φ [v, u, t] ⟨F, O⟩) (∀ J, Sr K J ⟨F, O⟩ (zip3D ds es fs) → Φ J ⟨F, O⟩) := ⟨fun h => ⟨v, u, t, ds, es, fs, rfl, m.h, m2.h, m3.h, h⟩⟩
theorem g_threeD {Φ : L2.St → Sy → Prop} {e1 e2 e3 : Expr} {kk : Nat} {v : V} {d1 d2 d3 : Dt} (C : Cn P w K mg base k N sc vb lb gs X) [t : Tr3 e1 e2 e3] (r : Rb ⟨F, O⟩ v (.tuple [d1, d2, d3])) (h : ∀ x1 x2 x3, Lift K (wGs X [e1, e2, e3] [x1, x2, x3] σ) ⟨(x1, d1) :: (x2, d2) :: (x3, d3) :: F, O⟩ Φ Ψ) : Lift K (wG X (.Tuple [e1, e2, e3] kk pos) v σ) ⟨F, O⟩ Φ Ψ := g_tup3 C r (t.h1 _) (t.h2 _) h
end
end Yl

namespace Yl
open PySem PySem.Spec PyProof.Rows L2
section
variable {P : Program} {w : World} {K : PySem.W.Frag} {mg : Str → Option Value} {base : Heap} {k : Nat} {N : List Str} {sc : Scope} {vb lb : List Bool} {gs : List Str} {X : Cx} {y : Sy} {σ σw : L2.St} {Ψ : Value → Sy → Prop} {pos : Pos} {F : List (V × Dt)} {O : List (Addr × OD)}
/-! ### xs.pop(i) -/
theorem erase_map {α β : Type} (f : α → β) : ∀ (l : List α) (j : Nat), (l.map f).eraseIdx j = (l.eraseIdx j).map f
  | [], _ => rfl
  | _ :: _, 0 => rfl
  | a :: l, j + 1 => by
    show f a :: (l.map f).eraseIdx j = f a :: (l.eraseIdx j).map f
    rw [erase_map f l j]
theorem m_popI {Φ : V → Sy → Prop} {p : Addr} {ns : List Int} {i : Int} (h0 : 0 ≤ i) (h1 : i < ns.length) (hl : ns.length ≤ 1000) (h : ∀ n, ns[i.toNat]? = some n → Φ (.int n) ⟨F, (p, .lst ((ns.eraseIdx i.toNat).map .int)) :: O⟩) : Lift K (wM X "list.pop" (.ref p) [.int i]) ⟨F, (p, .lst (ns.map .int)) :: O⟩ Φ Ψ := by
  refine m_of (fun pins s σ H x xs v us Q I a b c => mt_popAt pins s σ H x xs v us Q I a b c) (Lift.raw fun S H ok E Q q => ?_)
  obtain ⟨sp, o, ho, xs, rfl, r⟩ := ok.own p _ (List.Mem.head _)
  cases r.ints_inv
  have e := List.getElem?_eq_getElem (l := ns) (i := i.toNat) (by omega)
  have em : (ns.map V.int).eraseIdx i.toNat = (ns.eraseIdx i.toNat).map V.int := erase_map V.int ns i.toNat
  obtain ⟨ok2, st⟩ := ok.set (u2 := .lst ((ns.eraseIdx i.toNat).map .int)) (o2 := .lst ((ns.map V.int).eraseIdx i.toNat)) ⟨_, rfl, by rw [em]; exact RpA.ints _⟩
  refine ⟨p, _, i, i.toNat, _, rfl, rfl, ho, by omega, by omega, ?_, ?_, q _ _ _ _ ok2 st (h _ e)⟩
  · unfold seqIndex?
    rw [List.length_map]
    have c : ¬ i < 0 := by omega
    simp [c, h0, h1]
  · rw [List.getElem?_map, e]
    rfl
instance {e a : Expr} [C : Cn P w K mg base k N sc vb lb gs X] {Φ : V → Sy → Prop} [m : NoStar e] [m2 : NoSuper a] {l c el ec c' el' ec' : Nat} : Step (Lift K (wE X (.Call (.Attribute a "pop" ⟨l, c, el, ec⟩) [e] [] ⟨el, c', el', ec'⟩) σ) y Φ Ψ) (Lift K (wE X a σ) y (AppK K X e σ "list.pop" Φ Ψ) Ψ) := ⟨l_methL C PySem.F.slot_list_pop PySem.F.type_list_pop (m2.h _ _) (by
    rw [backTo_all, m.h]
    rfl) (by show (el == el) = true; exact beq_self_eq_true _) (m.h _ _)⟩
/-! ### tuple(xs) -/
theorem c_tupL {Φ : V → Sy → Prop} {v : V} {ds : List Dt} (h : Rb y v (.list ds)) (hK : X.K = K) (k : ∀ p, Φ (.ref p) ⟨(.ref p, .tuple ds) :: y.F, y.O⟩) : Lift K (wC X (.type "tuple") [v]) y Φ Ψ := by
  refine c_of call_tuple_of (Lift.raw fun S H ok E Q q => ?_)
  obtain ⟨a, xs, rfl, ha, r⟩ := h.lst ok
  refine ⟨a, xs, rfl, .inl ⟨SqL.of ha, fun p hp => ?_⟩⟩
  have n : Sub S (upd S p (.tup xs)) := fun b o e => by
    rw [upd_ne (ne_of_none (ok.sub b o e) hp)]
    exact e
  obtain ⟨ok2, st⟩ := ok.new (o := .tup xs) hp (.tup (SqT.of upd_same) (r.mono n))
  exact q _ _ _ _ ok2 st (k p)
instance (priority := low) [C : Cn P w K mg base k N sc vb lb gs X] {Φ : V → Sy → Prop} {v : V} {ds : List Dt} [r : Rc F O v (.list ds)] : Step (Lift K (wC X (.type "tuple") [v]) ⟨F, O⟩ Φ Ψ) (∀ p, Φ (.ref p) ⟨(.ref p, .tuple ds) :: F, O⟩) := ⟨c_tupL r.h C.hK⟩
/-! ### a comprehension that changes two cells -/
theorem lcb_st2 {tg elt : Expr} {ifs : List Expr} {vs : List Nat} {Φ : V → Sy → Prop} {J : It} {es : List Dt} {p r : Addr} (Q : Nat → List Dt → OD → OD → Prop) {u0 w0 : OD}
    (sr : Sr K J ⟨F, (p, u0) :: (r, w0) :: O⟩ es) (hz : es.length ≤ 1000000) (h0 : Q 0 [] u0 w0)
    (turn : ∀ i d x acc u w', es[i]? = some d → Q i acc u w' → ∀ X1, Cn P w K mg base k N sc vb lb gs X1 → Lift K (wG X1 tg x σw) ⟨(x, d) :: F, (p, u) :: (r, w') :: O⟩ (fun σ2 y2 => wipe σ2 vs = σw ∧
      ∀ X2, Cn P w K mg base k N sc vb lb gs X2 → Lift K (wTs X2 ifs σ2) y2 (fun b y3 => (b = true → ∀ X3, Cn P w K mg base k N sc vb lb gs X3 → Lift K (wE X3 elt σ2) y3 (fun v y4 => ∃ e u2 w2, Hs y4.F v e ∧ y4.O = (p, u2) :: (r, w2) :: O ∧ (∀ e, e ∈ F → e ∈ y4.F) ∧ Q (i + 1) (acc ++ [e]) u2 w2) F0) ∧
        (b = false → ∃ u2 w2, y3.O = (p, u2) :: (r, w2) :: O ∧ (∀ e, e ∈ F → e ∈ y3.F) ∧ Q (i + 1) acc u2 w2)) F0) F0)
    (done : ∀ acc u w' F' q, acc.length ≤ es.length → Q es.length acc u w' → (∀ e, e ∈ F → e ∈ F') → Φ (.ref q) ⟨F', (q, .lst acc) :: (p, u) :: (r, w') :: O⟩) :
    LcB P w K mg base k N sc vb lb gs tg ifs elt σw vs Φ J ⟨F, (p, u0) :: (r, w0) :: O⟩ := by
  refine ⟨es, sr, hz, fun i acc y' => ∃ u w', Q i acc u w' ∧ y'.O = (p, u) :: (r, w') :: O ∧ ∀ e, e ∈ F → e ∈ y'.F, ⟨u0, w0, h0, rfl, fun _ h => h⟩, ?_, ?_⟩
  · rintro i d acc ⟨F', O'⟩ x hd ⟨u, w', hQ, hO, hF⟩ X1 C1
    cases hO
    refine Lift.forget (F2 := (x, d) :: F) (fun e h => ?_) ((turn i d x acc u w' hd hQ X1 C1).mono (fun σ2 y2 ⟨hw, f1⟩ => ⟨hw, fun X2 C2 => ?_⟩) fun _ _ z => z)
    · rcases List.mem_cons.mp h with h | h
      · rw [h]
        exact List.mem_cons_self
      · exact List.mem_cons_of_mem _ (hF _ h)
    · refine (f1 X2 C2).mono (fun b y3 ⟨f2, f3⟩ => ⟨fun e X3 C3 => (f2 e X3 C3).mono (fun v y4 ⟨e, u2, w2, h1, h2, h3, h4⟩ => ⟨e, h1, u2, w2, h4, h2, h3⟩) (fun _ _ z => z), fun e => ?_⟩) fun _ _ z => z
      obtain ⟨u2, w2, h1, h2, h3⟩ := f3 e
      exact ⟨u2, w2, h3, h1, h2⟩
  · rintro acc ⟨F', O'⟩ hl ⟨u, w', hQ, hO, hF⟩ q
    cases hO
    exact done acc u w' F' q hl hQ hF
end
end Yl

/-! defs that are called with nothing under guard: repr may be asked there -/
namespace Yl
open PySem PySem.Spec PyProof.Rows L2
class Gd (X : Cx) : Prop where
  h : X.A.guards = some []
structure FnG (P : Program) (w : World) (K : PySem.W.Frag) (mg : Str → Option Value) (base : Heap) (k : Nat) (f : Addr) (fd : FuncData) (ps : List Str) (sp : Sp) : Prop where
  len : ∀ vs H Q E, sp vs H Q E → vs.length = ps.length
  run : ∀ (A : Around) (outer : List Env) (s : Shared) (H : Hp) (args : Args) (us : List Value) (vs : List V) (Q : VK) (E : XK), A.guards = some [] → Room k A → Env0 P w K mg base A outer s H → BindsTo s fd args (ps.zip us) → Vals vs us → sp vs H Q E →
    codeAny (model P w) A (.call (.ref f) args) (CR (L2.CX P w) outer P w H s Q E) s
section
variable {P : Program} {w : World} {K : PySem.W.Frag} {mg : Str → Option Value} {base : Heap} {k : Nat} {f : Addr} {fd : FuncData} {ps : List Str} {sp : Sp}
theorem FnG.mono {j : Nat} (F : FnG P w K mg base j f fd ps sp) (h : j ≤ k) : FnG P w K mg base k f fd ps sp := ⟨F.len, fun A outer s H args us vs Q E hg hr => F.run A outer s H args us vs Q E hg (hr.mono h)⟩
theorem FnG.of (F : FnOk P w K mg base (L2.CX P w) k f fd ps sp) : FnG P w K mg base k f fd ps sp := ⟨F.len, fun A outer s H args us vs Q E _ => F.run A outer s H args us vs Q E⟩
/-- what the body is to do of a def that is called with nothing under guard -/
theorem fng_of {name qual : Str} {params : Arguments} {body : List Stmt} {scope : Scope} {dV kV doc pm cdv ct oc : Value} {an od : Option Addr} {osl : Array (Option Value)} {N : List Str}
    (lk : K.lookup f = some ⟨oc, od, .func (PySem.W.fnOf name qual params body scope dV kV doc pm an cdv ct), osl⟩) (hcd : PySem.W.codeIn K cdv qual = true) (S : FnScope N ps scope) (len : ∀ vs H Q E, sp vs H Q E → vs.length = ps.length)
    (B : ∀ (A : Around) (outer : List Env) (s : Shared) (H : Hp) (vs : List V) (Q : VK) (E : XK), A.guards = some [] → Room k (A.deeper (envOfC qual scope s.heap.objs.size f cdv)) → sp vs H Q E →
      ∃ t, PSs (cxOf (L2.CX P w) P w K mg base N qual scope f cdv A outer s H E) body t ∧ t { nx := fun _ H' => Q .non H', rt := Q } (start N vs) H) :
    FnG P w K mg base (k + 1) f (PySem.W.fnOf name qual params body scope dV kV doc pm an cdv ct) ps sp where
  len := len
  run := by
    intro A outer s H args us vs Q E gd room e0 bind rel hs
    have old : ∀ b o, base.get? b = some o → s.heap.get? b = some o := fun b o e => (e0.bs b o e).1
    have kin := e0.mod.kin.keeps old
    refine codeAny_call_function room.depth (kin _ _ lk) rfl S.co S.gen rfl (PySem.W.codeRec_of kin hcd) (bind _ _ _ _ (wpAny_newFunctionEnv_cells S.kind (fun z hz => ?_) fun env he s1 x => ?_))
    · have hp : z.1 ∈ ps := (List.of_mem_zip (show (z.1, z.2) ∈ ps.zip us from hz)).1
      exact (S.par z.1 hp).imp id fun c => ⟨c, PySem.W.cellsFrom_some _ _ _ (.inl c)⟩
    · cases he
      refine ⟨(e0.mod.nolimit.keeps old).keeps x.toInCall.keep, codeAny_func ?_⟩
      obtain ⟨t, ht, hq⟩ := B A outer s H vs Q E gd (room.deeper _) hs
      refine wpAny_mono (ht.run [] s1 (start N vs) H _ (inv_start S room.hd e0 (len _ _ _ _ hs) rel x) hq) (fun fl s2 g => ?_) fun _ _ g => g
      match fl, g with
      | .ret u, ⟨v, σ2, H2, J, rv, q⟩ => exact ⟨v, H2, J.os, J.bare, J.base, J.hok, rv, q⟩
      | .next, ⟨σ2, H2, J, q⟩ => exact ⟨V.non, H2, J.os, J.bare, J.base, J.hok, rfl, q⟩
      | .brk, ⟨_, _, _, q⟩ => exact False.elim q
      | .cont, ⟨_, _, _, q⟩ => exact False.elim q
/-- a def keeps its promise, by its body, where nothing is under guard -/
theorem fn_gd {x qual : Str} {st : Stmt} {N : List Str} {vb lb : List Bool} {gs : List Str} {n : Nat} {R : RY} (F : Fun K x qual st f fd) (Sc : FnScope N ps (defScope st)) (hn : ps.length = n) (ck : chkT (defScope st) N vb lb gs = true)
    (body : ∀ X y vs Φ Ψ, Cn P w K mg base k N (defScope st) vb lb gs X → Gd X → vs.length = n → R vs y Φ Ψ → Lift K (wSs X (defBody st) (start N vs)) y (retW Φ) Ψ) : FnG P w K mg base (k + 1) f fd ps (SpY K n R) := by
  obtain ⟨oc, od, kV, doc, pm, an, cdv, ct, osl, rfl, lk, hcd⟩ := F.ex
  refine fng_of lk hcd Sc (fun vs H Q E h => h.1.trans hn.symm) fun A outer s H vs Q E hgd hr h => ?_
  obtain ⟨hl, y, S, Φ, Ψ, ok, r, q, e⟩ := h
  have C : Cn P w K mg base k N (defScope st) vb lb gs (cxOf (L2.CX P w) P w K mg base N qual (defScope st) f cdv A outer s H E) := Cn.top rfl rfl rfl rfl rfl rfl rfl Sc.nd rfl rfl hr (passes_of rfl) ck
  have tk : Tk (cxOf (L2.CX P w) P w K mg base N qual (defScope st) f cdv A outer s H E) E := takes_of rfl rfl rfl rfl
  refine ⟨_, pss_w tk, ?_⟩
  have B : Lift K (wSs (cxOf (L2.CX P w) P w K mg base N qual (defScope st) f cdv A outer s H E) (defBody st) (start N vs)) y (retK Φ) Ψ := Lift.post ((body _ y vs Φ Ψ C ⟨hgd⟩ hl r).mono (fun fl z g => by
    cases fl with
    | nx s => exact g
    | rt v => exact g
    | bk s => exact g.elim
    | ct s => exact g.elim) fun _ _ g => g)
  refine B S H ok _ E (fun fl y' S' H' ok' st' g => ?_) e
  cases fl with
  | nx s => exact q _ y' S' H' ok' st' g
  | rt v => exact q _ y' S' H' ok' st' g
  | bk s => exact g.elim
  | ct s => exact g.elim
end
/-! ### calls by name -/
class ClG (P : outParam Program) (w : outParam World) (K : outParam PySem.W.Frag) (mg : Str → Option Value) (base : outParam Heap) (x : Str) (k : outParam Nat) (n : outParam Nat) (R : outParam RY) : Prop where
  ex : ∃ f fd ps, FnG P w K mg base k f fd ps (SpY K n R) ∧ mg x = some (.ref f) ∧ PySem.W.keepIn K (.ref f) = true ∧ Binds K fd ps []
section
variable {P : Program} {w : World} {K : PySem.W.Frag} {mg : Str → Option Value} {base : Heap}
theorem ClG.of {x : Str} {f : Addr} {fd : FuncData} {ps : List Str} {j n : Nat} {R : RY} (hm : mg x = some (.ref f)) (kp : PySem.W.keepIn K (.ref f) = true) (b : Binds K fd ps []) (ok : FnG P w K mg base j f fd ps (SpY K n R)) {k : Nat} (h : j ≤ k) : ClG P w K mg base x k n R :=
  ⟨f, fd, ps, ok.mono h, hm, kp, b⟩
end
section
variable {X : Cx} {k : Nat} {f : Addr} {fd : FuncData} {ps : List Str} {sp : Sp} {E : XK} {x : Str} {p pos : Pos} {e : Expr} {es : List Expr} {t : TA}
theorem run_gd {pins : List (Addr × Obj)} {σ : L2.St} {H : Hp} {s : Shared} {Q : VK} {us : List Value} {vs : List V} (F : FnG X.prog X.w X.K X.mg X.base k f fd ps sp) (hg : Gd X) (hr : Room k X.A) (hb : Binds X.K fd ps []) (hx : Passes (L2.CX X.prog X.w) X E)
    (I : Inv X pins σ H s) (r : Vals vs us) (h : sp vs H Q E) : wpAny (model X.prog X.w) X.A (call (.ref f) us) (EP X pins σ Q) X.xe s := by
  have hl : (us ++ []).length = ps.length := by rw [List.append_nil, ← r.length]; exact F.len _ _ _ _ h
  have hb2 := hb s us I.kIn hl
  rw [List.append_nil] at hb2
  refine wpAny_call (codeAny_mono (F.run X.A X.stack s H ⟨us, []⟩ us vs Q E hg.h hr I.env0 hb2 r h) fun r s' hq => ?_)
  cases r with
  | error e => exact hx pins σ H s e s' I hq
  | ok fl =>
    cases fl with
    | ret u => exact I.after hq
    | next => exact False.elim hq
    | brk => exact False.elim hq
    | cont => exact False.elim hq
theorem pe_gd (F : FnG X.prog X.w X.K X.mg X.base k f fd ps sp) (hgd : Gd X) (hr : Room k X.A) (hg : Gl X x) (hm : X.mg x = some (.ref f)) (hk : PySem.W.keepIn X.K (.ref f) = true) (hb : Binds X.K fd ps []) (hx : Passes (L2.CX X.prog X.w) X E)
    (ha : PA X (e :: es) t) (hdb : (x == ("__debug__" : Str)) = false) (he : starEach (e :: es) X.env = (false, eval e X.env) :: starEach es X.env) (hpl : (backTo pos (starEach es X.env)).any (·.1) = false) :
    PE X (.Call (.Name x p) (e :: es) [] pos) (fun σ H Q => t σ H fun vs H1 => sp vs H1 Q E) := by
  refine ⟨fun pins s σ H Q I h => ?_⟩
  refine wpAny_Call_Name_kw (ld_glob I hg hm ?_ hdb)
  refine PySem.W.callWith_K (h₀ := X.base) I.ok.mod.kin hk (thn (ha.run pos pins s σ H _ I h) fun us s1 ⟨vs, H1, I1, r, q⟩ => ⟨I1.kIn, ?_⟩) he hpl
  exact run_gd F hgd hr hb hx I1 r q
theorem pe_gd0 (F : FnG X.prog X.w X.K X.mg X.base k f fd ps sp) (hgd : Gd X) (hr : Room k X.A) (hg : Gl X x) (hm : X.mg x = some (.ref f)) (hk : PySem.W.keepIn X.K (.ref f) = true) (hb : Binds X.K fd ps []) (hx : Passes (L2.CX X.prog X.w) X E)
    (hdb : (x == ("__debug__" : Str)) = false) : PE X (.Call (.Name x p) [] [] pos) (fun σ H Q => sp [] H Q E) := by
  refine ⟨fun pins s σ H Q I h => ?_⟩
  refine wpAny_Call_Name_kw (ld_glob I hg hm ?_ hdb)
  exact PySem.W.callWith_K0 I.kIn hk (run_gd (us := []) F hgd hr hb hx I .nil h)
end
section
variable {P : Program} {w : World} {K : PySem.W.Frag} {mg : Str → Option Value} {base : Heap} {k : Nat} {N : List Str} {sc : Scope} {vb lb : List Bool} {gs : List Str} {X : Cx} {y : Sy} {σ : L2.St} {Ψ : Value → Sy → Prop} {pos : Pos}
theorem l_callGd {Φ : V → Sy → Prop} {x : Str} {p : Pos} {e : Expr} {es : List Expr} {n : Nat} {R : RY} (C : Cn P w K mg base k N sc vb lb gs X) (D : Gd X) (G : ClG P w K mg base x k n R) (hg : x ∈ gs) (he : starEach (e :: es) X.env = (false, eval e X.env) :: starEach es X.env) (hpl : (backTo pos (starEach es X.env)).any (·.1) = false)
    (h : Lift K (wA X (e :: es) σ) y (fun vs y1 => vs.length = n ∧ R vs y1 Φ Ψ) Ψ) : Lift K (wE X (.Call (.Name x p) (e :: es) [] pos) σ) y Φ Ψ := by
  obtain ⟨f, fd, ps, F, hm, hk, hb⟩ := G.ex
  have F' : FnG X.prog X.w X.K X.mg X.base k f fd ps (SpY K n R) := by
    rw [C.hP, C.hw, C.hK, C.hm, C.hb]
    exact F
  refine l_of (fun E tk => pe_gd F' D C.room (C.gl x hg).1 (by rw [C.hm]; exact hm) (by rw [C.hK]; exact hk) (by rw [C.hK]; exact hb) (passes_call tk fun _ _ _ _ h => h) (pa_w tk) (C.gl x hg).2 he hpl) ?_
  refine Lift.bind (T1 := wA X (e :: es) σ) (T2 := fun vs E H Q => SpY K n R vs H Q E) (fun _ _ _ q => q) (h.mono (fun vs z ⟨hl, r⟩ => ?_) fun _ _ q => q)
  intro S H ok Q E q e
  exact ⟨hl, z, S, Φ, Ψ, ok, r, q, e⟩
theorem l_callGd0 {Φ : V → Sy → Prop} {x : Str} {p : Pos} {R : RY} (C : Cn P w K mg base k N sc vb lb gs X) (D : Gd X) (G : ClG P w K mg base x k 0 R) (hg : x ∈ gs) (h : R [] y Φ Ψ) : Lift K (wE X (.Call (.Name x p) [] [] pos) σ) y Φ Ψ := by
  obtain ⟨f, fd, ps, F, hm, hk, hb⟩ := G.ex
  have F' : FnG X.prog X.w X.K X.mg X.base k f fd ps (SpY K 0 R) := by
    rw [C.hP, C.hw, C.hK, C.hm, C.hb]
    exact F
  refine l_of (fun E tk => pe_gd0 F' D C.room (C.gl x hg).1 (by rw [C.hm]; exact hm) (by rw [C.hK]; exact hk) (by rw [C.hK]; exact hb) (passes_call tk fun _ _ _ _ h => h) (C.gl x hg).2) ?_
  intro S H ok Q E q e
  exact ⟨rfl, y, S, Φ, Ψ, ok, h, q, e⟩
variable {x : Str} {e : Expr} {es : List Expr} {p : Pos} {Φ : V → Sy → Prop}
instance [C : Cn P w K mg base k N sc vb lb gs X] [D : Gd X] {n : Nat} {R : RY} [G : ClG P w K mg base x k n R] [hg : GIn x gs] [m : NoStar e] [m2 : NoStars es] : Step (Lift K (wE X (.Call (.Name x p) (e :: es) [] pos) σ) y Φ Ψ) (Lift K (wA X (e :: es) σ) y (fun vs y1 => vs.length = n ∧ R vs y1 Φ Ψ) Ψ) :=
  ⟨l_callGd C D G hg.h (m.h _ _) (NoStars.b _ _)⟩
instance [C : Cn P w K mg base k N sc vb lb gs X] [D : Gd X] {R : RY} [G : ClG P w K mg base x k 0 R] [hg : GIn x gs] : Step (Lift K (wE X (.Call (.Name x p) [] [] pos) σ) y Φ Ψ) (R [] y Φ Ψ) := ⟨l_callGd0 C D G hg.h⟩
end
/-! ### the head -/
section
variable {P : Program} {w : World} {K : PySem.W.Frag} {mg mb : Str → Option Value} {a : Addr} {s₁ : Shared} {vs : List Value} {ns : List Int} {H : Hp}
/-- what lies in the heap beside the script's list lies in the base, too -/
theorem gd_base (ha : s₁.heap.get? a = some { cls := .type "list", data := .seq vs.toArray }) (only : ∀ b, H b ≠ none → b = a) {b : Addr} {o : Obj} (e : s₁.heap.get? b = some o) (hne : b ≠ a ∨ ∃ es ep, o.data = .dict es ep) : (hidT s₁.heap H).get? b = some o := by
  refine hidT_get e (Classical.byContradiction fun hn => ?_)
  have hba := only b hn
  rcases hne with h | ⟨es, ep, d⟩
  · exact h hba
  · rw [hba, ha] at e
    have e2 := Option.some.inj e
    rw [← e2] at d
    cases d
theorem gd_ns (ha : s₁.heap.get? a = some { cls := .type "list", data := .seq vs.toArray }) (only : ∀ b, H b ≠ none → b = a) {b : Addr} {m : Str → Option Value} (h : s₁.heap.Ns b m) : (hidT s₁.heap H).Ns b m := by
  obtain ⟨o, es, ep, e, d, r⟩ := h
  exact ⟨o, es, ep, gd_base ha only e (.inr ⟨es, ep, d⟩), d, r⟩
theorem gd_env (KX : K.In s₁.heap) (hns : s₁.heap.Ns mainGlobals mg) (hb : s₁.heap.Ns builtinsNs mb) (hbb : ∀ x : Str, x ≠ "__name__" → mb x = bootBuiltins x) (hlim : s₁.heap.NoLimit) (hg : s₁.gens = #[])
    (ha : s₁.heap.get? a = some { cls := .type "list", data := .seq vs.toArray }) (hok : HOk P w H s₁.heap) (only : ∀ b, H b ≠ none → b = a) (hK : H a ≠ none → K.lookup a = none) :
    K.In (hidT s₁.heap H) ∧ (hidT s₁.heap H).Ns mainGlobals mg ∧ Env0 P w K mg (hidT s₁.heap H) callerA [] s₁ H := by
  have N1 := gd_ns (b := mainGlobals) ha only hns
  have kin : K.In (hidT s₁.heap H) := fun b o e => by
    by_cases hba : b = a
    · refine hidT_get (KX b o e) (Classical.byContradiction fun hn => ?_)
      subst hba
      rw [hK hn] at e
      cases e
    · exact gd_base ha only (KX b o e) (.inl hba)
  obtain ⟨mc, l1, l2⟩ := hlim
  exact ⟨kin, N1, ⟨rfl, ⟨kin, N1, ⟨mb, gd_ns ha only hb, hbb⟩, ⟨mc, gd_ns ha only l1, l2⟩⟩, fun b o e => of_hidT e, Nat.le_of_eq (hidT_size s₁.heap H), trivial, fun b hm => (nomatch hm), hok, .of_eq hg⟩⟩
/-- the end of the run, told as the head wants it -/
theorem gd_end (hok : HOk P w H s₁.heap) (hO : Only H) (hX : ∀ e s', L2.CX P w [] H s₁ (fun _ _ _ => False) e s' → False) {r : Result} {s' : Shared} (h : CR (L2.CX P w) [] P w H s₁ (fun v _ => v = .bl true) (fun _ _ _ => False) r s') :
    r = .ok (.ret (.bool true)) ∧ OldK s₁.heap s'.heap ∧ s'.os = s₁.os ∧ AllBare s'.gens := by
  match r, h with
  | .error e, h => exact (hX e s' h).elim
  | .ok (.ret u), ⟨v, H2, os, bare, un, hok2, rv, hv⟩ =>
    have hv2 : v = .bl true := hv
    rw [hv2] at rv
    have hu : u = Value.bool true := rv
    refine ⟨by rw [hu], OldK.of_keep fun b o e => ?_, os, bare⟩
    by_cases hn : H b = none
    · exact un.keep b o e hn (fun z => (nomatch z)) (fun z => (nomatch z))
    · rcases hO b with z | ⟨ob, xs, z⟩
      · exact (hn z).elim
      · have e1 := (hok b _ z).1
        have e2 := (hok2 b _ (un.frzs b ob _ z)).1
        rw [e1] at e
        rw [← Option.some.inj e]
        exact e2
/-- a law's call, its def promised where nothing is under guard -/
theorem law_gd {k : Nat} {fa : Addr} {fd : FuncData} {x : Str} {sp : Sp}
    (KX : K.In s₁.heap) (hns : s₁.heap.Ns mainGlobals mg) (hb : s₁.heap.Ns builtinsNs mb) (hbb : ∀ x : Str, x ≠ "__name__" → mb x = bootBuiltins x) (hlim : s₁.heap.NoLimit) (hg : s₁.gens = #[])
    (ha : s₁.heap.get? a = some { cls := .type "list", data := .seq vs.toArray }) (hi : IntsAre vs ns) (hl : ns.length ≤ sizeLine) (hr : Room k callerA)
    (F : ∀ base : Heap, K.In base → base.Ns mainGlobals mg → FnG P w K mg base k fa fd [x] sp) (hbind : ∀ (s : Shared) (u : Value), BindsTo s fd ⟨[u], []⟩ [(x, u)])
    (hsp : ∀ H : Hp, Only H → SqL K H a (ns.map V.int) → sp [.ref a] H (fun v _ => v = .bl true) fun _ _ _ => False)
    (hX : ∀ H e s', L2.CX P w [] H s₁ (fun _ _ _ => False) e s' → False) :
    codeAny (model P w) callerA (.call (.ref fa) ⟨[.ref a], []⟩) (fun r s' => r = .ok (.ret (.bool true)) ∧ OldK s₁.heap s'.heap ∧ s'.os = s₁.os ∧ AllBare s'.gens) s₁ := by
  suffices h : ∃ H : Hp, Only H ∧ SqL K H a (ns.map V.int) ∧ HOk P w H s₁.heap ∧ (∀ b, H b ≠ none → b = a) ∧ (H a ≠ none → K.lookup a = none) by
    obtain ⟨H, h1, h2, h3, h4, h5⟩ := h
    obtain ⟨i1, i2, i3⟩ := gd_env KX hns hb hbb hlim hg ha h3 h4 h5
    exact codeAny_mono ((F _ i1 i2).run callerA [] s₁ H ⟨[.ref a], []⟩ [.ref a] [.ref a] _ _ rfl hr i3 (hbind s₁ (.ref a)) (.cons rfl .nil) (hsp H h1 h2)) fun r s' q => gd_end h3 h1 (hX H) q
  have rv := vals_ints hi
  have lv : vs.length = ns.length := hi.length
  by_cases hk : K.lookup a = none
  · have at_a : ∀ (b : Addr) (u : HO), (if b = a then some (HO.frz { cls := .type "list", data := .seq vs.toArray } (.lst (ns.map V.int))) else none) = some u → b = a ∧ u = .frz { cls := .type "list", data := .seq vs.toArray } (.lst (ns.map V.int)) := fun b u z => by
      by_cases hba : b = a
      · rw [if_pos hba] at z
        exact ⟨hba, (Option.some.inj z).symm⟩
      · rw [if_neg hba] at z
        cases z
    refine ⟨fun b => if b = a then some (.frz { cls := .type "list", data := .seq vs.toArray } (.lst (ns.map V.int))) else none, fun b => ?_, .inl (.inr ⟨_, if_pos rfl⟩), fun b u z => ?_, fun b z => ?_, fun _ => hk⟩
    · by_cases hba : b = a
      · exact .inr ⟨_, _, if_pos hba⟩
      · exact .inl (if_neg hba)
    · obtain ⟨z1, z2⟩ := at_a b u z
      rw [z1, z2]
      exact ⟨ha, by rw [List.length_map]; exact hl, vs, _, rv, ha⟩
    · obtain ⟨u, hu⟩ := Option.ne_none_iff_exists'.mp z
      exact (at_a b u hu).1
  · obtain ⟨o, ho⟩ := Option.ne_none_iff_exists'.mp hk
    have e : o = { cls := .type "list", data := .seq vs.toArray } := Option.some.inj ((KX a o ho).symm.trans ha)
    rw [e] at ho
    exact ⟨fun _ => none, fun _ => .inl rfl, .inr ⟨_, vs.toArray, _, ho, rfl, rfl, rfl, by rw [List.size_toArray, lv]; exact hl, by simpa using rv⟩, fun b u z => (nomatch z), fun b z => (z rfl).elim, fun z => (z rfl).elim⟩
end
theorem walk_gd {l : PySem.W.OpenLaw} {n k : Nat} {q : Program} {loose : List Str} {XP : (Str → Option Value) → Heap → Prop} {YP : World → Heap → Prop} {d : DefRec} {K : Params → PySem.W.Frag} {sp : World → Sp} {x : Str}
    (hn : l.most = some n) (hn2 : n ≤ sizeLine) (hdf : d.params.defaults = []) (hr : Room k callerA) (hY : ∀ (w : World) (h : Heap), YP w h → (K w.params).In h)
    (F : ∀ (w : World) (mg : Str → Option Value) (fa : Addr) (h : Heap), (K w.params).In h → h.Ns mainGlobals mg → mg d.name = some (.ref fa) →
      ∃ fd : FuncData, (∀ (s : Shared) (u : Value), BindsTo s fd ⟨[u], []⟩ [(x, u)]) ∧ ∀ base : Heap, (K w.params).In base → base.Ns mainGlobals mg → FnG l.prog w (K w.params) mg base k fa fd [x] (sp w))
    (hsp : ∀ (w : World) (H : Hp) (a : Addr) (ns : List Int), ns.length ≤ n → Only H → SqL (K w.params) H a (ns.map V.int) → sp w [.ref a] H (fun v _ => v = .bl true) fun _ _ _ => False)
    (hX : ∀ (w : World) (H : Hp) (s : Shared) (e : Value) (s' : Shared), L2.CX l.prog w [] H s (fun _ _ _ => False) e s' → False) :
    PySem.W.WalkO q loose XP YP l.row.toRowW d [] (fun f vs => PySem.call f vs) := by
  refine Att.attach_call hn hdf ?_
  intro w s₀ s₁ mg mb fa o pm cd doc a vs ns G Y ho hd hcd hmg hobj hints hlen hg
  have kx := hY w s₁.heap Y
  cases F w mg fa s₁.heap kx G.T.g hmg with
  | intro fd hF => exact law_gd kx G.T.g G.T.b G.T.builtins G.T.nolimit hg hobj hints (Nat.le_trans hlen hn2) hr hF.2 hF.1 (fun H h1 h2 => hsp w H a ns hlen h1 h2) (fun H => hX w H s₁)
end Yl

/-! repr of data -/
namespace Yl
open PySem PySem.Spec PyProof.Rows L2
/-- a dict that repr tells: empty or of one whole number -/
def niceK : List (Dt × Dt) → Bool
  | [] => true
  | [(.int i, .int j)] => decide (i.natAbs.log2 < 1920) && decide (j.natAbs.log2 < 1920)
  | [(.str x, .int j)] => (x.cps.toList.all fun c => decide (c < 16 ^ 8)) && decide (j.natAbs.log2 < 1920)
  | _ => false
def szK : List (Dt × Dt) → Nat
  | [] => 5
  | [(.str x, _)] => 10 * x.cps.size + 1940
  | _ => 3900
mutual
/-- data that repr tells: ints of no more than 1920 bits, texts of signs, no dict that holds something -/
def nice : Dt → Bool
  | .none | .bool _ => true
  | .int i => decide (i.natAbs.log2 < 1920)
  | .str x => x.cps.toList.all fun c => decide (c < 16 ^ 8)
  | .list xs | .tuple xs => niceA xs
  | .dict kvs => niceK kvs
def niceA : List Dt → Bool
  | [] => true
  | x :: xs => nice x && niceA xs
end
mutual
/-- no less than the signs of its text -/
def sz : Dt → Nat
  | .none | .bool _ => 5
  | .dict kvs => szK kvs
  | .int _ => 1921
  | .str x => 10 * x.cps.size + 2
  | .list xs | .tuple xs => szA xs + 3
def szA : List Dt → Nat
  | [] => 0
  | x :: xs => sz x + 2 + szA xs
end
theorem niceA_app : ∀ xs ys : List Dt, niceA (xs ++ ys) = (niceA xs && niceA ys)
  | [], ys => by simp [niceA]
  | x :: xs, ys => by simp [niceA, niceA_app xs ys, Bool.and_assoc]
theorem szA_app : ∀ xs ys : List Dt, szA (xs ++ ys) = szA xs + szA ys
  | [], ys => by simp [szA]
  | x :: xs, ys => by
    simp only [List.cons_append, szA, szA_app xs ys]
    omega
theorem szA_ints : ∀ ns : List Int, szA (ns.map .int) = 1923 * ns.length
  | [] => rfl
  | n :: r => by
    simp only [List.map_cons, szA, sz, szA_ints r, List.length_cons]
    omega
theorem niceA_ints : ∀ {ns : List Int}, (∀ n ∈ ns, n.natAbs.log2 < 1920) → niceA (ns.map .int) = true
  | [], _ => rfl
  | n :: r, h => by
    simp only [List.map_cons, niceA, nice, Bool.and_eq_true, decide_eq_true_eq]
    exact ⟨h n List.mem_cons_self, niceA_ints fun m hm => h m (List.mem_cons_of_mem _ hm)⟩
theorem nice_list (ds : List Dt) : nice (.list ds) = niceA ds := by simp only [nice]
theorem nice_tuple (ds : List Dt) : nice (.tuple ds) = niceA ds := by simp only [nice]
theorem sz_list (ds : List Dt) : sz (.list ds) = szA ds + 3 := by simp only [sz]
theorem sz_tuple (ds : List Dt) : sz (.tuple ds) = szA ds + 3 := by simp only [sz]
mutual
theorem shown_sz : ∀ d : Dt, nice d = true → d.shown.length ≤ sz d
  | .none, _ => by
    have e : (PyData.shown .none).length = 4 := rfl
    rw [e]
    decide
  | .bool b, _ => by
    have e : (PyData.shown (.bool b)).length ≤ 5 := by cases b <;> decide
    simp only [sz]
    omega
  | .int i, h => by
    have h2 : i.natAbs.log2 < 1920 := by simpa only [nice, decide_eq_true_eq] using h
    have := int_text_len_1921 h2
    simp only [sz]
    exact this
  | .str x, h => by
    have hx : ∀ c ∈ x.cps.toList, c < 16 ^ 8 := by simpa only [nice, List.all_eq_true, decide_eq_true_eq] using h
    have e := StrLaws.reprText_len x hx
    have e2 : x.length = x.cps.size := rfl
    simp only [PyData.shown, sz]
    omega
  | .list xs, h => by
    have h1 := shownA_sz xs (by simpa only [nice] using h)
    have h2 := listText_len_le (PyData.shownAll xs)
    have h3 := PyData.shownAll_length xs
    simp only [PyData.shown, sz]
    omega
  | .tuple xs, h => by
    have h1 := shownA_sz xs (by simpa only [nice] using h)
    have h2 := tupleText_len_le (PyData.shownAll xs)
    have h3 := PyData.shownAll_length xs
    simp only [PyData.shown, sz]
    omega
  | .dict kvs, h => by
    cases kvs with
    | nil =>
      have e : (PyData.shown (.dict [])).length = 2 := by decide +kernel
      rw [e]
      simp only [sz, szK]
      omega
    | cons a b =>
      have h : niceK (a :: b) = true := by simpa only [nice] using h
      match a, b, h with
      | (.int i, .int j), [], h =>
        have h : (decide (i.natAbs.log2 < 1920) && decide (j.natAbs.log2 < 1920)) = true := h
        simp only [Bool.and_eq_true, decide_eq_true_eq] at h
        have h1 := int_text_len_1921 h.1
        have h2 := int_text_len_1921 h.2
        have h3 := dictText_len_le [toString i ++ ": " ++ toString j]
        have h4 : (toString i ++ ": " ++ toString j : Str).length = (toString i : Str).length + 2 + (toString j : Str).length := by
          rw [Str.length_append, Str.length_append]
          rfl
        simp only [List.map_cons, List.map_nil, List.sum_cons, List.sum_nil, List.length_cons, List.length_nil] at h3
        show (dictText [toString i ++ ": " ++ toString j]).length ≤ 3900
        omega
      | (.str x, .int j), [], h =>
        have h : ((x.cps.toList.all fun c => decide (c < 16 ^ 8)) && decide (j.natAbs.log2 < 1920)) = true := h
        simp only [Bool.and_eq_true, decide_eq_true_eq, List.all_eq_true] at h
        have h1 := StrLaws.reprText_len x h.1
        have h1' : x.length = x.cps.size := rfl
        have h2 := int_text_len_1921 h.2
        have h3 := dictText_len_le [reprText x ++ ": " ++ toString j]
        have h4 : (reprText x ++ ": " ++ toString j : Str).length = (reprText x).length + 2 + (toString j : Str).length := by
          rw [Str.length_append, Str.length_append]
          rfl
        simp only [List.map_cons, List.map_nil, List.sum_cons, List.sum_nil, List.length_cons, List.length_nil] at h3
        show (dictText [reprText x ++ ": " ++ toString j]).length ≤ 10 * x.cps.size + 1940
        omega
theorem shownA_sz : ∀ xs : List Dt, niceA xs = true → ((PyData.shownAll xs).map (·.length)).sum + 2 * xs.length ≤ szA xs
  | [], _ => by simp [PyData.shownAll, szA]
  | x :: xs, h => by
    have h' : nice x = true ∧ niceA xs = true := by simpa only [niceA, Bool.and_eq_true] using h
    have h1 := shown_sz x h'.1
    have h2 := shownA_sz xs h'.2
    simp only [PyData.shownAll, szA, List.map_cons, List.sum_cons, List.length_cons]
    omega
end
theorem sz_mem : ∀ {xs : List Dt} {x : Dt}, x ∈ xs → sz x + 2 ≤ szA xs
  | y :: r, x, h => by
    simp only [szA]
    rcases List.mem_cons.mp h with e | m
    · rw [e]
      omega
    · have := sz_mem m
      omega
section
variable {P : Program} {w : World} {K : PySem.W.Frag} {H : Hp} {h : Heap}
theorem list_raw (ok : HOk P w H h) {a : Addr} {xs : List V} (e : H a = some (.lst xs)) : ∃ its n, Vals xs its ∧ h.get? a = some { cls := .type "list", data := .seq its.toArray n } := (ok a _ e).2
theorem tup_raw (ok : HOk P w H h) (kin : K.In h) {a : Addr} {xs : List V} (e : SqT K H a xs) : ∃ its o n, Vals xs its ∧ h.get? a = some o ∧ o.cls = .type "tuple" ∧ o.data = .seq its.toArray n := by
  rcases e with e | ⟨o, its, n, hk, hc, hs, hz, r⟩
  · obtain ⟨z, its, r, o, ho, hc, n, hd⟩ := e.ok ok
    exact ⟨its, o, n, r, ho, hc, hd⟩
  · exact ⟨its.toList, o, n, r, kin a o hk, hc, by simpa using hs⟩
theorem emp_raw (ok : HOk P w H h) {a : Addr} (e : H a = some (.dK [])) : (a == sysModules) = false ∧ ∃ o n, h.get? a = some o ∧ o.cls = .type "dict" ∧ o.data = .dict #[] n := by
  obtain ⟨_, hs, vs, r, o, es, ep, ho, hx, hd, hk, hp, _⟩ := ok a _ e
  have hv : vs = [] := by
    cases r
    rfl
  subst hv
  have he : es = #[] := by
    have : es.toList = [] := by
      cases hl : es.toList with
      | nil => rfl
      | cons a b =>
        rw [hl] at hp
        cases hp
    exact Array.toList_eq_nil_iff.mp this
  subst he
  exact ⟨hs, o, ep, ho, hx.1, hd⟩
theorem one_raw (ok : HOk P w H h) {a : Addr} {q : L2.Key} {j : Int} (e : H a = some (.dK [(q, .int j)])) : (a == sysModules) = false ∧ ∃ o n en t, h.get? a = some o ∧ o.cls = .type "dict" ∧ o.data = .dict #[en] n ∧ keyIs q en.key = true ∧ en.val = .int j t := by
  obtain ⟨_, hs, vs, r, o, es, ep, ho, hx, hd, hk, hp, _⟩ := ok a _ e
  obtain ⟨v, rfl, e1, t, e2⟩ : ∃ v, vs = [v] ∧ q = v.1 ∧ ∃ t, v.2 = Value.int j t := by
    cases r with
    | cons r0 r1 =>
      cases r1
      exact ⟨_, rfl, r0.1, r0.2⟩
  obtain ⟨en, he, k1, k2⟩ : ∃ en, es = #[en] ∧ keyIs q en.key = true ∧ en.val = .int j t := by
    cases hl : es.toList with
    | nil =>
      rw [hl] at hp
      cases hp
    | cons a b =>
      rw [hl] at hp
      cases hp with
      | cons p1 p2 p3 =>
        cases p3
        refine ⟨a, Array.toList_inj.mp hl, ?_, p2.trans e2⟩
        rw [e1]
        exact p1
  subst he
  exact ⟨hs, o, ep, en, t, ho, hx.1, hd, k1, k2⟩
/-- what is known of a value for repr -/
def Shw (P : Program) (w : World) (h : Heap) (u : Value) (d : Dt) : Prop := (∃ as, Reads h u d as) ∧ ∃ bs, ReadAtMost h d.depth bs ∧ ReprK P w bs h d.depth u d.shown
theorem niceK_val {q : L2.Key} {j : Int} (hn : nice (.dict [(kD q, .int j)]) = true) : j.natAbs.log2 < 1920 := by
  have hn : niceK [(kD q, .int j)] = true := by simpa only [nice] using hn
  cases q with
  | inl i =>
    have hn : (decide (i.natAbs.log2 < 1920) && decide (j.natAbs.log2 < 1920)) = true := hn
    simp only [Bool.and_eq_true, decide_eq_true_eq] at hn
    exact hn.2
  | inr x =>
    have hn : ((x.cps.toList.all fun c => decide (c < 16 ^ 8)) && decide (j.natAbs.log2 < 1920)) = true := hn
    simp only [Bool.and_eq_true, decide_eq_true_eq] at hn
    exact hn.2
theorem key_shw {q : L2.Key} {u : Value} {j : Int} (k1 : keyIs q u = true) (hn : nice (.dict [(kD q, .int j)]) = true) (hz : sz (.dict [(kD q, .int j)]) ≤ sizeLine) : (∃ cs, Reads h u (kD q) cs) ∧ ReprK P w [] h 0 u (kD q).shown := by
  have hn : niceK [(kD q, .int j)] = true := by simpa only [nice] using hn
  rcases keyIs_shape k1 with ⟨i, t, rfl, rfl⟩ | ⟨x, t, rfl, rfl⟩
  · have hn : (decide (i.natAbs.log2 < 1920) && decide (j.natAbs.log2 < 1920)) = true := hn
    simp only [Bool.and_eq_true, decide_eq_true_eq] at hn
    exact ⟨⟨_, .int i t⟩, by simp only [kD, PyData.shown]; exact .of_is (ReprIs.int t hn.1) _ _ _⟩
  · have hn : ((x.cps.toList.all fun c => decide (c < 16 ^ 8)) && decide (j.natAbs.log2 < 1920)) = true := hn
    simp only [Bool.and_eq_true, decide_eq_true_eq, List.all_eq_true] at hn
    have hz : 10 * x.cps.size + 1940 ≤ sizeLine := by simpa only [sz, szK, kD] using hz
    have h1 := StrLaws.reprText_len x hn.1
    have h1' : x.length = x.cps.size := rfl
    exact ⟨⟨_, .str x t⟩, by simp only [kD, PyData.shown]; exact .of_is (ReprIs.str x t (by omega)) _ _ _⟩
mutual
theorem Rp.shw (ok : HOk P w H h) (kin : K.In h) : ∀ {v : V} {d : Dt} {u : Value}, Rp K H v d → nice d = true → sz d ≤ sizeLine → RelV v u → Shw P w h u d
  | _, _, u, .non, _, _, r => by
    cases (show u = Value.none from r)
    exact ⟨⟨_, .none⟩, [], (fun _ m => nomatch m), by simp only [PyData.shown]; exact .of_is ReprIs.none _ _ _⟩
  | _, _, u, .bl b, _, _, r => by
    cases (show u = Value.bool b from r)
    exact ⟨⟨_, .bool b⟩, [], (fun _ m => nomatch m), by simp only [PyData.shown]; exact .of_is (ReprIs.bool b) _ _ _⟩
  | _, _, u, .int i, hn, _, r => by
    obtain ⟨t, rfl⟩ : ∃ t, u = Value.int i t := r
    exact ⟨⟨_, .int i t⟩, [], (fun _ m => nomatch m), by simp only [PyData.shown]; exact .of_is (ReprIs.int t (by simpa only [nice, decide_eq_true_eq] using hn)) _ _ _⟩
  | _, _, u, .str x, hn, hz, r => by
    obtain ⟨t, rfl⟩ : ∃ t, u = Value.str x t := r
    have hl : (reprText x).length ≤ sizeLine := Nat.le_trans (by simpa only [PyData.shown] using shown_sz (.str x) hn) hz
    exact ⟨⟨_, .str x t⟩, [], (fun _ m => nomatch m), by simp only [PyData.shown]; exact .of_is (ReprIs.str x t hl) _ _ _⟩
  | _, _, u, .lst (a := a) (ds := ds) e ra, hn, hz, r => by
    cases (show u = Value.ref a from r)
    obtain ⟨its, n, rv, ho⟩ := list_raw ok e
    obtain ⟨⟨as, r1⟩, bs, hb, hk⟩ := RpA.shw ok kin ra (by simpa only [nice] using hn) (fun x hx => by
      have := sz_mem hx
      simp only [sz] at hz
      omega) rv
    have rd : Reads h (.ref a) (.list ds) (a :: as) := .list ho rfl rfl (by simpa using r1)
    have hna : a ∉ bs := not_mem_of_deeper rd (by simp only [PyData.depth]; omega) hb
    refine ⟨⟨_, rd⟩, a :: bs, ReadAtMost.cons rd (by simp only [PyData.depth]; omega) hb, ?_⟩
    simp only [PyData.depth, PyData.shown]
    cases its with
    | nil =>
      cases r1
      simp only [PyData.shownAll, listText_nil]
      exact ReprK.listEmpty ho rfl rfl
    | cons x l => exact ReprK.list ho rfl rfl hna (by simpa using hk.length_eq) fun i y z => hk.item i y (by simpa using z)
  | _, _, u, .tup (a := a) (ds := ds) e ra, hn, hz, r => by
    cases (show u = Value.ref a from r)
    obtain ⟨its, o, n, rv, ho, hc, hd⟩ := tup_raw ok kin e
    obtain ⟨⟨as, r1⟩, bs, hb, hk⟩ := RpA.shw ok kin ra (by simpa only [nice] using hn) (fun x hx => by
      have := sz_mem hx
      simp only [sz] at hz
      omega) rv
    have rd : Reads h (.ref a) (.tuple ds) as := .tuple ho hc hd (by simpa using r1)
    have hna : a ∉ bs := not_mem_of_deeper rd (by simp only [PyData.depth]; omega) hb
    refine ⟨⟨_, rd⟩, a :: bs, ReadAtMost.cons rd (by simp only [PyData.depth]; omega) hb, ?_⟩
    simp only [PyData.depth, PyData.shown]
    exact ReprK.tuple ho hc hd hna (by simpa using hk)
  | _, _, u, .emp (a := a) e, hn, hz, r => by
    cases (show u = Value.ref a from r)
    obtain ⟨hs, o, n, ho, hc, hd⟩ := emp_raw ok e
    have rd : Reads h (.ref a) (.dict []) (a :: [] ++ []) := .dict ho hc hd .nil .nil
    refine ⟨⟨_, rd⟩, a :: [], ReadAtMost.cons (n := 0) rd (by omega) (fun _ m => nomatch m), ?_⟩
    simp only [PyData.depth, PyData.shown, PyData.depthKv]
    exact ReprK.dict (as := []) ho hc hd hs (List.not_mem_nil) (ReprEntriesK.of_two [] _ _ .nil .nil)
  | _, _, u, .one (a := a) (q := q) (j := j) e, hn, hz, r => by
    cases (show u = Value.ref a from r)
    obtain ⟨hs, o, n, en, t, ho, hc, hd, k1, k2⟩ := one_raw ok e
    obtain ⟨⟨cs, rk⟩, kk⟩ := key_shw (P := P) (w := w) (h := h) k1 hn hz
    have vv : ReprK P w [] h 0 en.val (toString j) := by
      rw [k2]
      exact .of_is (ReprIs.int t (niceK_val hn)) _ _ _
    have rv : Reads h en.val (.int j) [] := by
      rw [k2]
      exact .int j t
    have rd : Reads h (.ref a) (.dict [(kD q, .int j)]) (a :: (cs ++ []) ++ ([] ++ [])) := .dict ho hc hd (.cons rk .nil) (.cons rv .nil)
    have dp : (PyData.dict [(kD q, .int j)]).depth = 1 := by cases q <;> simp [PyData.depth, PyData.depthKv, kD]
    refine ⟨⟨_, rd⟩, a :: [], ReadAtMost.cons (n := 0) rd (by rw [dp]; exact Nat.zero_le _) (fun _ m => nomatch m), ?_⟩
    rw [dp]
    simp only [PyData.shown, PyData.shownKv]
    exact ReprK.dict (as := []) ho hc hd hs (List.not_mem_nil) (.cons kk vv .nil)
  | _, _, _, .scr _, hn, _, _ => by simp [scrD, nice, niceK] at hn
  | _, _, _, .dct _ _ _, hn, _, _ => by simp [dctD, nice, niceK] at hn
  | _, _, _, .tpk _, hn, _, _ => by simp [tpD, nice, niceK] at hn
  | _, _, _, .exc _ _ _ _, hn, _, _ => by simp [excD, nice, niceK] at hn
theorem RpA.shw (ok : HOk P w H h) (kin : K.In h) : ∀ {vs : List V} {ds : List Dt} {us : List Value}, RpA K H vs ds → niceA ds = true → (∀ x ∈ ds, sz x ≤ sizeLine) → Vals vs us →
    (∃ as, ReadsAll h us ds as) ∧ ∃ bs, ReadAtMost h (PyData.depthAll ds) bs ∧ ReprAllK P w bs h (PyData.depthAll ds) us (PyData.shownAll ds)
  | _, _, us, .nil, _, _, r => by
    cases r
    exact ⟨⟨_, .nil⟩, [], (fun _ m => nomatch m), by simp only [PyData.shownAll]; exact .nil⟩
  | _, _, us, .cons (d := d) (ds := ds) q ra, hn, hz, r => by
    cases r with
    | cons r1 r2 =>
      have hn2 : nice d = true ∧ niceA ds = true := by simpa only [niceA, Bool.and_eq_true] using hn
      obtain ⟨⟨as, e1⟩, b1, hb1, k1⟩ := Rp.shw ok kin q hn2.1 (hz d List.mem_cons_self) r1
      obtain ⟨⟨cs, e2⟩, b2, hb2, k2⟩ := RpA.shw ok kin ra hn2.2 (fun x hx => hz x (List.mem_cons_of_mem _ hx)) r2
      refine ⟨⟨_, .cons e1 e2⟩, b1 ++ b2, ?_, ?_⟩
      · simp only [PyData.depthAll]
        exact (hb1.mono (Nat.le_max_left _ _)).append (hb2.mono (Nat.le_max_right _ _))
      · simp only [PyData.depthAll, PyData.shownAll]
        exact .cons ((k1.more fun b hb => List.mem_append_left _ hb).level_le (Nat.le_max_left _ _)) (k2.more_le (fun b hb => List.mem_append_right _ hb) (Nat.le_max_right _ _))
end
end
section
variable {prog : Program} {w : World} {K : PySem.W.Frag} {H : Hp} {A : Around} {E : Value → Shared → Prop} {s : Shared} {Q : Value → Shared → Prop}
/-- repr of what stands in the heap, with nothing under guard -/
theorem rp_call (ok : HOk prog w H s.heap) (kin : K.In s.heap) {a : Addr} {d : Dt} (r : Rp K H (.ref a) d) (hn : nice d = true) (hz : sz d ≤ sizeLine) (hg : A.guards = some []) (hu : A.units + (d.depth + 1) < cLine)
    (hQ : ∀ h' u tk, (∀ b o, s.heap.get? b = some o → h'.get? b = some o) → Q (.str d.shown u) { s with heap := h', toks := tk }) : wpAny (model prog w) A (call (.builtin "repr") [.ref a]) Q E s := by
  have hl : d.shown.length ≤ sizeLine := Nat.le_trans (shown_sz d hn) hz
  have fin : ∀ (h' : Heap) (u tk : Tok), (∀ b o, s.heap.get? b = some o → h'.get? b = some o) → (fun (r : Value) s₁ => ∃ x t, r = .str x t ∧ Q r s₁) (.str d.shown u) { s with heap := h', toks := tk } := fun h' u tk hk => ⟨_, _, rfl, hQ h' u tk hk⟩
  cases r with
  | lst e ra =>
    rename_i xs ds
    obtain ⟨its, n, rv, ho⟩ := list_raw ok e
    obtain ⟨⟨as, r1⟩, bs, hb, hk⟩ := RpA.shw ok kin ra (by simpa only [nice] using hn) (fun x hx => by
      have := sz_mem hx
      simp only [sz] at hz
      omega) rv
    have rd : Reads s.heap (.ref a) (.list ds) (a :: as) := .list ho rfl rfl (by simpa using r1)
    have hna : a ∉ bs := not_mem_of_deeper rd (by simp only [PyData.depth]; omega) hb
    simp only [PyData.depth] at hu
    refine call_repr_slot (by omega) ⟨_, ho, rfl⟩ F.slot_list_repr.toG ?_
    simp only [PyData.shown] at fin hl
    cases its with
    | nil =>
      cases r1
      simp only [PyData.shownAll, listText_nil] at fin
      exact call_list_repr_empty ⟨_, ho, rfl⟩ ho rfl (fin s.heap _ _ fun _ _ e => e)
    | cons x l => exact call_list_reprK ho rfl rfl hna (by simpa using hk.length_eq) (fun i y z => hk.item i y (by simpa using z)) hg (fun b _ => Clear.nil b) (by show A.units + 1 + _ < cLine; omega) (fun _ _ e => e) fin hl
  | tup e ra =>
    rename_i xs ds
    obtain ⟨its, o, n, rv, ho, hc, hd⟩ := tup_raw ok kin e
    obtain ⟨⟨as, r1⟩, bs, hb, hk⟩ := RpA.shw ok kin ra (by simpa only [nice] using hn) (fun x hx => by
      have := sz_mem hx
      simp only [sz] at hz
      omega) rv
    have rd : Reads s.heap (.ref a) (.tuple ds) as := .tuple ho hc hd (by simpa using r1)
    have hna : a ∉ bs := not_mem_of_deeper rd (by simp only [PyData.depth]; omega) hb
    simp only [PyData.depth] at hu
    refine call_repr_slot (by omega) ⟨_, ho, hc⟩ F.slot_tuple_repr ?_
    simp only [PyData.shown] at fin hl
    exact call_tuple_reprK ho hc hd hna (by simpa using hk) hg (fun b _ => Clear.nil b) (by show A.units + 1 + _ < cLine; omega) (fun _ _ e => e) fin hl
  | emp e =>
    obtain ⟨hs, o, n, ho, hc, hd⟩ := emp_raw ok e
    simp only [PyData.depth, PyData.depthKv] at hu
    refine call_repr_slot (by omega) ⟨_, ho, hc⟩ F.slot_dict_repr ?_
    exact call_dict_reprK (as := []) ho hc hd hs (List.not_mem_nil) (ReprEntriesK.of_two (d := 0) [] _ _ .nil .nil) hg (fun b _ => Clear.nil b) (by show A.units + 1 + _ < cLine; omega) (fun _ _ e => e) fin (by decide +kernel)
  | one e =>
    rename_i q j
    obtain ⟨hs, o, n, en, t, ho, hc, hd, k1, k2⟩ := one_raw ok e
    obtain ⟨⟨cs, rk⟩, kk⟩ := key_shw (P := prog) (w := w) (h := s.heap) k1 hn hz
    have vv : ReprK prog w [] s.heap 0 en.val (toString j) := by
      rw [k2]
      exact .of_is (ReprIs.int t (niceK_val hn)) _ _ _
    have dp : (PyData.dict [(kD q, .int j)]).depth = 1 := by cases q <;> simp [PyData.depth, PyData.depthKv, kD]
    rw [dp] at hu
    simp only [PyData.shown, PyData.shownKv] at fin hl
    refine call_repr_slot (by omega) ⟨_, ho, hc⟩ F.slot_dict_repr ?_
    exact call_dict_reprK (as := []) ho hc hd hs (List.not_mem_nil) (.cons kk vv .nil) hg (fun b _ => Clear.nil b) (by show A.units + 1 + _ < cLine; omega) (fun _ _ e => e) fin hl
  | scr q => simp [scrD, nice, niceK] at hn
  | dct _ _ _ => simp [dctD, nice, niceK] at hn
  | tpk _ => simp [tpD, nice, niceK] at hn
  | exc _ _ _ _ => simp [excD, nice, niceK] at hn
end
section
variable {X : Cx} {k : Nat}
theorem call_repr_gd (hg : Gd X) (hr : Room k X.A) : CallR X (.builtin "repr") (fun xs H Q => ∃ v d, xs = [v] ∧ Rp X.K H v d ∧ nice d = true ∧ sz d ≤ sizeLine ∧ d.depth ≤ 100 ∧ Q (.str d.shown) H) := by
  intro pins s σ H xs us Q I r h
  obtain ⟨v, d, rfl, rp, hn, hz, hd, q⟩ := h
  obtain ⟨u, rfl, r1⟩ := vals1 r
  cases v with
  | ref a =>
    cases (show u = Value.ref a from r1)
    have := hr.un
    exact rp_call I.hok I.kIn rp hn hz hg.h (by omega) fun h' u tk hk => ⟨.str d.shown, H, I.kept hk, ⟨_, rfl⟩, q⟩
  | non =>
    cases rp
    cases (show u = Value.none from r1)
    exact PySem.P.repr_of_none ⟨.str (PyData.shown .none), H, I.tok _, ⟨_, rfl⟩, q⟩
  | bl b =>
    cases rp
    cases (show u = Value.bool b from r1)
    exact PySem.P.repr_of_bool ⟨.str (PyData.shown (.bool b)), H, I.tok _, ⟨_, rfl⟩, q⟩
  | int i =>
    cases rp
    obtain ⟨t, rfl⟩ : ∃ t, u = Value.int i t := r1
    exact PySem.P.repr_of_int (by simpa only [nice, decide_eq_true_eq] using hn) ⟨.str (PyData.shown (.int i)), H, I.tok _, ⟨_, rfl⟩, q⟩
  | str x =>
    cases rp
    obtain ⟨t, rfl⟩ : ∃ t, u = Value.str x t := r1
    exact PySem.P.repr_of_str ⟨.str (PyData.shown (.str x)), H, I.tok _, ⟨_, rfl⟩, q⟩ (Nat.le_trans (by simpa only [PyData.shown] using shown_sz (.str x) hn) hz)
  | byt b => cases rp
  | flt b => cases rp
  | ty b => cases rp
end
theorem Rb.rp {K : PySem.W.Frag} {y : Sy} {S H : Hp} (ok : OkS K y S H) {v : V} {d : Dt} (h : Rb y v d) : Rp K H v d := by
  cases h with
  | hs h => exact (h.rp ok).mono ok.sub
  | own m =>
    obtain ⟨_, o, ho, xs, e, r⟩ := ok.own _ _ m
    subst e
    exact .lst ho (r.mono ok.sub)
/-- data that repr may be asked of -/
structure Tl (d : Dt) : Prop where
  n : nice d = true
  z : sz d ≤ 16000000
  p : d.depth ≤ 100
section
variable {P : Program} {w : World} {K : PySem.W.Frag} {mg : Str → Option Value} {base : Heap} {k : Nat} {N : List Str} {sc : Scope} {vb lb : List Bool} {gs : List Str} {X : Cx} {y : Sy} {σ : L2.St} {Ψ : Value → Sy → Prop} {pos p : Pos} {Φ : V → Sy → Prop} {F : List (V × Dt)} {O : List (Addr × OD)}
theorem c_repr (C : Cn P w K mg base k N sc vb lb gs X) (D : Gd X) {v : V} {d : Dt} (h : Rb y v d) (t : Tl d) (f : Φ (.str d.shown) y) : Lift K (wC X (.builtin "repr") [v]) y Φ Ψ := by
  refine c_of (call_repr_gd D C.room) (Lift.raw fun S H ok E Q q => ?_)
  have hz : (16000000 : Nat) ≤ sizeLine := by decide
  exact ⟨v, d, rfl, by rw [C.hK]; exact h.rp ok, t.n, Nat.le_trans t.z hz, t.p, q _ y S H ok (Stp.refl _ _ _) f⟩
theorem bb_repr : bootBuiltins ("repr" : Str) = some (.builtin "repr") := by first | rfl | decide +kernel
instance [C : Cn P w K mg base k N sc vb lb gs X] [bn : Bn mg "repr"] [hg : GIn "repr" gs] {e : Expr} {es : List Expr} [m : NoStar e] [m2 : NoStars es] : Step (Lift K (wE X (.Call (.Name "repr" p) (e :: es) [] pos) σ) y Φ Ψ) (Lift K (wA X (e :: es) σ) y (fun vs y1 => Lift K (wC X (.builtin "repr") vs) y1 Φ Ψ) Ψ) := ⟨l_callB C hg.h bn.h bb_repr (by decide) (m.h _ _) (NoStars.b _ _)⟩
instance [C : Cn P w K mg base k N sc vb lb gs X] [D : Gd X] {v : V} {d : Dt} [r : Rc F O v d] : Step (Lift K (wC X (.builtin "repr") [v]) ⟨F, O⟩ Φ Ψ) (Tl d ∧ Φ (.str d.shown) ⟨F, O⟩) := ⟨fun h => c_repr C D r.h h.1 h.2⟩
end
end Yl

/-! mixed data: kinds of things, {}, == [] -/
namespace Yl
open PySem PySem.Spec PyProof.Rows L2
theorem nice_ns {d : Dt} (h : nice d = true) : noScr d = true := by
  cases d with
  | dict kvs =>
    cases kvs with
    | nil => rfl
    | cons a b =>
      have h : niceK (a :: b) = true := by simpa only [nice] using h
      match a, b, h with
      | (.int i, .int j), [], _ => rfl
      | (.str x, .int j), [], _ => rfl
  | _ => rfl
theorem nice_mem : ∀ {xs : List Dt} {x : Dt}, niceA xs = true → x ∈ xs → nice x = true
  | y :: r, x, h, m => by
    have h' : nice y = true ∧ niceA r = true := by simpa only [niceA, Bool.and_eq_true] using h
    rcases List.mem_cons.mp m with e | m
    · rw [e]
      exact h'.1
    · exact nice_mem h'.2 m
/-- a whole number and no truth -/
def wholeD : Dt → Bool
  | .int _ => true
  | _ => false
def isLst : Dt → Bool
  | .list _ => true
  | _ => false
def isTup : Dt → Bool
  | .tuple _ => true
  | _ => false
/-- a row of numbers -/
def rowD : Dt → Bool
  | .list ds => decide (1 ≤ ds.length) && decide (ds.length ≤ 12) && ds.all wholeD
  | _ => false
/-- what a thing is, of the kinds -/
theorem d_kinds {p : Dt → Prop} (d : Dt) (hn : noScr d = true) (h0 : p .none) (h1 : ∀ b, p (.bool b)) (h2 : ∀ i, p (.int i)) (h3 : ∀ x, p (.str x)) (h4 : ∀ l, p (.list l)) (h5 : ∀ l, p (.tuple l)) (h6 : p (.dict [])) (h7 : ∀ i j, p (.dict [(.int i, .int j)])) (h8 : ∀ x j, p (.dict [(.str x, .int j)])) : p d := by
  cases d with
  | none => exact h0
  | bool b => exact h1 b
  | int i => exact h2 i
  | str x => exact h3 x
  | list l => exact h4 l
  | tuple l => exact h5 l
  | dict kvs =>
    cases kvs with
    | nil => exact h6
    | cons a b =>
      match a, b, hn with
      | (.int i, .int j), [], _ => exact h7 i j
      | (.str x, .int j), [], _ => exact h8 x j
/-! ### a list of any things and an empty one -/
section
variable {prog : Program} {w : World}
open AutoSeq1 (wpAny_loadPart')
open MeetsSeq MeetsSeq2 MeetsSeq3 SeqRoads2
theorem len_ne (l b : Addr) (items items2 : Array Value) (n n2 : Nat) (dd dd2 : Option Addr) (sl sl2 : Array (Option Value)) (hsz : items.size ≠ items2.size) :
    MeetsIn prog w (Builtin.«list.__eq__» ⟨[.ref l, .ref b], []⟩)
      (fun A R s => s.heap.get? l = some { cls := .type "list", dict := dd, data := .seq items n, slots := sl } ∧ s.heap.get? b = some { cls := .type "list", dict := dd2, data := .seq items2 n2, slots := sl2 } ∧ R (.ok (.ret (.bool false))) s) := by
  intro A R s h
  obtain ⟨hp, g, d, tk, os⟩ := s
  obtain ⟨hl, hb, h⟩ := h
  have f3 := AutoSeq1.sub_list_list
  have hne : (items.size != items2.size) = true := by simp [hsz]
  wp_walk using wpAny_loadPart' hl, wpAny_loadPart' hb
  exact h
theorem rc_len {A : Around} {s : Shared} {l b : Addr} {items items2 : Array Value} (hl : s.heap.IsList l items) (hb : s.heap.IsList b items2) (hsz : items.size ≠ items2.size) (hu : A.units < cLine)
    (E Q : Value → Shared → Prop) (h : Q (.bool false) s) : wpAny (model prog w) A (richCompare .Eq (.ref l) (.ref b)) Q E s := by
  obtain ⟨⟨cls, dd, data, sl⟩, ho, hc, n, hd⟩ := id hl
  obtain ⟨⟨cls2, dd2, data2, sl2⟩, ho2, hc2, n2, hd2⟩ := id hb
  simp only at hc hd hc2 hd2
  subst hc hd hc2 hd2
  have ta : s.TypeIs (.ref l) "list" := ⟨_, ho, rfl⟩
  have tb : s.TypeIs (.ref b) "list" := ⟨_, ho2, rfl⟩
  exact wpAny_richCompare_same_room (op := .Eq) ta tb F.slot_list_eq (call_meetsIn F.slot_list_eq ta F.entry_list_eq (F.args_list_eq_2 _ _) (len_ne l b items items2 n n2 dd dd2 sl sl2 hsz)
    ⟨ho, ho2, show Value.bool false ≠ Value.notImplemented ∧ Q (.bool false) s from ⟨(fun x => nomatch x), h⟩⟩) hu
theorem op_len {X : Cx} (hu : X.A.units + 64 < cLine) : OpR X (compareOp .Eq) (fun x y H Q => ∃ a b xs ys, x = .ref a ∧ y = .ref b ∧ SqL X.K H a xs ∧ SqL X.K H b ys ∧ xs.length ≠ ys.length ∧ Q (.bl false) H) := by
  intro pins s σ H x y v u Q I rx ry h
  obtain ⟨a, b, xs, ys, rfl, rfl, ha, hb, hne, q⟩ := h
  cases (show v = Value.ref a from rx)
  cases (show u = Value.ref b from ry)
  obtain ⟨us, r1, p1, _⟩ := I.list ha
  obtain ⟨ws, r2, p2, _⟩ := I.list hb
  exact rc_len p1.isList p2.isList (by rw [List.size_toArray, List.size_toArray, ← r1.length, ← r2.length]; exact hne) (by omega) _ _ ⟨.bl false, H, I, rfl, q⟩
end
section
variable {P : Program} {w : World} {K : PySem.W.Frag} {mg : Str → Option Value} {base : Heap} {k : Nat} {N : List Str} {sc : Scope} {vb lb : List Bool} {gs : List Str} {X : Cx} {y : Sy} {σ : L2.St} {Ψ : Value → Sy → Prop} {pos p : Pos} {Φ : V → Sy → Prop} {F : List (V × Dt)} {O : List (Addr × OD)}
theorem o_eqNil (C : Cn P w K mg base k N sc vb lb gs X) {v u : V} {ds : List Dt} (h1 : Rb y v (.list ds)) (h2 : Rb y u (.list [])) (f : Φ (.bl ds.isEmpty) y) : Lift K (wO X (compareOp .Eq) v u) y Φ Ψ := by
  have hu : X.A.units + 64 < cLine := by
    have := C.room.un
    omega
  cases ds with
  | nil => exact o_eqD h1 h2 rfl rfl (by decide) (by decide) hu C.hK f
  | cons d ds =>
    refine o_of (op_len hu) (Lift.raw fun S H ok E Q q => ?_)
    obtain ⟨a, xs, rfl, ha, r⟩ := h1.lst ok
    obtain ⟨b, zs, rfl, hb, r2⟩ := h2.lst ok
    exact ⟨a, b, xs, zs, rfl, rfl, SqL.of ha, SqL.of hb, (by rw [r.length, r2.length]; simp), q _ y S H ok (Stp.refl _ _ _) f⟩
/-- {} -/
theorem l_dict0 (f : ∀ p, Φ (.ref p) ⟨(.ref p, .dict []) :: F, O⟩) : Lift K (wE X (.Dict [] [] pos) σ) ⟨F, O⟩ Φ Ψ := by
  refine l_of (fun _ _ => pe_dnewK) (Lift.raw fun S H ok E Q q => ?_)
  intro p hp
  obtain ⟨ok2, st⟩ := ok.new (o := .dK []) (d := .dict []) hp (.emp upd_same)
  exact q _ _ _ _ ok2 st (f p)
instance : Step (Lift K (wE X (.Dict [] [] pos) σ) ⟨F, O⟩ Φ Ψ) (∀ p, Φ (.ref p) ⟨(.ref p, .dict []) :: F, O⟩) := ⟨l_dict0⟩
/-- an item at a drawn place -/
theorem ix_any {v : V} {ds : List Dt} {i : Int} [r : Rc F O v (.list ds)] [C : Cn P w K mg base k N sc vb lb gs X] (h0 : 0 ≤ i) (h1 : i < ds.length) (f : ∀ x d, d ∈ ds → Φ x ⟨(x, d) :: F, O⟩) : Lift K (wIx X v (.int i)) ⟨F, O⟩ Φ Ψ := by
  obtain ⟨d, e1, e2⟩ := atI_some h0 h1
  exact ix_lst r.h e1 C.hK fun x => f x d (List.mem_of_getElem? e2)
end
/-! ### data that repr tells, measured -/
structure Td (m n : Nat) (d : Dt) : Prop where
  h : nice d = true
  z : sz d ≤ m
  p : d.depth ≤ n
/-- items of that kind, no more than l -/
structure Ta (l m n : Nat) (ds : List Dt) : Prop where
  h : niceA ds = true
  z : szA ds ≤ m
  p : PyData.depthAll ds ≤ n
  l : ds.length ≤ l
theorem Td.tl {m n : Nat} {d : Dt} (h : Td m n d) (h1 : m ≤ 16000000) (h2 : n ≤ 100) : Tl d := ⟨h.h, Nat.le_trans h.z h1, Nat.le_trans h.p h2⟩
theorem Td.mono {m n m' n' : Nat} {d : Dt} (h : Td m n d) (h1 : m ≤ m') (h2 : n ≤ n') : Td m' n' d := ⟨h.h, Nat.le_trans h.z h1, Nat.le_trans h.p h2⟩
theorem Ta.mono {l m n l' m' n' : Nat} {ds : List Dt} (h : Ta l m n ds) (h0 : l ≤ l') (h1 : m ≤ m') (h2 : n ≤ n') : Ta l' m' n' ds := ⟨h.h, Nat.le_trans h.z h1, Nat.le_trans h.p h2, Nat.le_trans h.l h0⟩
theorem Ta.nil {n : Nat} : Ta 0 0 n [] := ⟨rfl, Nat.le_refl _, Nat.zero_le _, Nat.le_refl _⟩
theorem Ta.cons {l m m' n : Nat} {d : Dt} {ds : List Dt} (h : Td m n d) (k : Ta l m' n ds) : Ta (l + 1) (m + 2 + m') n (d :: ds) := by
  have h1 := h.z
  have h2 := k.z
  refine ⟨by simp only [niceA, h.h, k.h, Bool.and_self], by simp only [szA]; omega, ?_, ?_⟩
  · simp only [PyData.depthAll]
    exact Nat.max_le.mpr ⟨h.p, k.p⟩
  · simp only [List.length_cons]
    have := k.l
    omega
theorem depthAll_app : ∀ xs ys : List Dt, PyData.depthAll (xs ++ ys) = max (PyData.depthAll xs) (PyData.depthAll ys)
  | [], ys => by simp [PyData.depthAll]
  | x :: xs, ys => by
    simp only [List.cons_append, PyData.depthAll, depthAll_app xs ys]
    omega
theorem Ta.app {l l' m m' n : Nat} {xs ys : List Dt} (h : Ta l m n xs) (k : Ta l' m' n ys) : Ta (l + l') (m + m') n (xs ++ ys) := by
  have h1 := h.z
  have h2 := k.z
  have h3 := h.l
  have h4 := k.l
  refine ⟨by rw [niceA_app, h.h, k.h]; rfl, by rw [szA_app]; omega, ?_, by rw [List.length_append]; omega⟩
  rw [depthAll_app]
  exact Nat.max_le.mpr ⟨h.p, k.p⟩
theorem Ta.ll {l l' m m' n n' : Nat} {xs ys : List Dt} (h : Ta l m n xs) (k : Ta l' m' n' ys) (hz : l + l' ≤ 1000000) : xs.length + ys.length ≤ 1000000 := by
  have h3 := h.l
  have h4 := k.l
  omega
theorem Ta.rep {l m n : Nat} {ds : List Dt} (h : Ta l m n ds) : ∀ k : Nat, Ta (k * l) (k * m) n (List.replicate k ds).flatten
  | 0 => by
    simp only [List.replicate_zero, List.flatten_nil, Nat.zero_mul]
    exact Ta.nil
  | k + 1 => by
    rw [List.replicate_succ, List.flatten_cons, Nat.succ_mul, Nat.succ_mul, Nat.add_comm (k * l), Nat.add_comm (k * m)]
    exact h.app (h.rep k)
theorem Ta.sub {l m n : Nat} {xs ys : List Dt} (s : xs.Sublist ys) (h : Ta l m n ys) : Ta l m n xs := by
  have hl := s.length_le
  have h0 := h.l
  suffices q : niceA xs = true ∧ szA xs ≤ szA ys ∧ PyData.depthAll xs ≤ PyData.depthAll ys from ⟨q.1, Nat.le_trans q.2.1 h.z, Nat.le_trans q.2.2 h.p, by omega⟩
  have hn := h.h
  clear h hl h0
  induction s with
  | slnil => exact ⟨rfl, Nat.le_refl _, Nat.le_refl _⟩
  | cons a s ih =>
    rw [niceA, Bool.and_eq_true] at hn
    have h' := hn
    obtain ⟨q1, q2, q3⟩ := ih h'.2
    refine ⟨q1, by simp only [szA]; omega, ?_⟩
    simp only [PyData.depthAll]
    omega
  | cons_cons a s ih =>
    rw [niceA, Bool.and_eq_true] at hn
    have h' := hn
    obtain ⟨q1, q2, q3⟩ := ih h'.2
    refine ⟨by simp only [niceA, h'.1, q1, Bool.and_self], by simp only [szA]; omega, ?_⟩
    simp only [PyData.depthAll]
    omega
theorem cutG_sub {α : Type} (xs : List α) (lo hi : Option Int) : (cutG xs lo hi).Sublist xs := by
  unfold cutG
  exact (List.take_sublist _ _).trans (List.drop_sublist _ _)
theorem Ta.cut {l m n : Nat} {ds : List Dt} (h : Ta l m n ds) (lo hi : Option Int) : Ta l m n (cutG ds lo hi) := h.sub (cutG_sub ds lo hi)
theorem depthAll_ints : ∀ ns : List Int, PyData.depthAll (ns.map PyData.int) = 0
  | [] => rfl
  | n :: r => by
    simp only [List.map_cons, PyData.depthAll, PyData.depth, depthAll_ints r]
    rfl
theorem log_lt {n : Int} {e : Nat} (h : n.natAbs < 2 ^ e) (he : 0 < e) : n.natAbs.log2 < e := by
  by_cases z : n.natAbs = 0
  · rw [z]
    exact he
  · exact (Nat.log2_lt z).mpr h
theorem Ta.ints {n : Nat} {ns : List Int} (h : ∀ i ∈ ns, i.natAbs < 2 ^ 1920) {l : Nat} (hl : ns.length ≤ l) : Ta l (1923 * l) n (ns.map .int) :=
  ⟨niceA_ints fun i hi => log_lt (h i hi) (by decide), by rw [szA_ints]; omega, by rw [depthAll_ints]; exact Nat.zero_le _, by rw [List.length_map]; exact hl⟩
theorem Ta.list {l m n : Nat} {ds : List Dt} (h : Ta l m n ds) : Td (m + 3) (n + 1) (.list ds) := by
  have h1 := h.z
  have h2 := h.p
  exact ⟨by rw [nice_list]; exact h.h, by rw [sz_list]; omega, by simp only [PyData.depth]; omega⟩
theorem Ta.tuple {l m n : Nat} {ds : List Dt} (h : Ta l m n ds) : Td (m + 3) (n + 1) (.tuple ds) := by
  have h1 := h.z
  have h2 := h.p
  exact ⟨by rw [nice_tuple]; exact h.h, by rw [sz_tuple]; omega, by simp only [PyData.depth]; omega⟩
theorem Ta.mem {l m n : Nat} {ds : List Dt} (h : Ta l m n ds) {d : Dt} (hd : d ∈ ds) : Td m n d := by
  refine ⟨nice_mem h.h hd, ?_, ?_⟩
  · have := sz_mem hd
    have := h.z
    omega
  · have hp := h.p
    clear h
    induction ds with
    | nil => cases hd
    | cons a r ih =>
      simp only [PyData.depthAll] at hp
      rcases List.mem_cons.mp hd with e | m
      · rw [e]
        omega
      · exact ih m (by omega)
section
variable {P : Program} {w : World} {K : PySem.W.Frag} {mg : Str → Option Value} {base : Heap} {k : Nat} {N : List Str} {sc : Scope} {vb lb : List Bool} {gs : List Str} {X : Cx} {y : Sy} {Ψ : Value → Sy → Prop} {Φ : V → Sy → Prop}
instance {a b : Dt} : Step (Lift K (wO X (compareOp .Eq) (.str (PyData.shown a)) (.str (PyData.shown b))) y Φ Ψ) (Φ (.bl (decide (PyData.shown a = PyData.shown b))) y) := ⟨fun h =>
  o_of op_eq (Lift.ret (r := .bl (decide (PyData.shown a = PyData.shown b))) (fun _ _ Q q => ⟨rfl, by
    have e : decide (V.str (PyData.shown a) = V.str (PyData.shown b)) = decide (PyData.shown a = PyData.shown b) := by simp
    rw [e]
    exact q⟩) h)⟩
instance {a b : Dt} : Step (Lift K (wO X (compareOp .NotEq) (.str (PyData.shown a)) (.str (PyData.shown b))) y Φ Ψ) (Φ (.bl (!decide (PyData.shown a = PyData.shown b))) y) := ⟨fun h =>
  o_of op_ne (Lift.ret (r := .bl (!decide (PyData.shown a = PyData.shown b))) (fun _ _ Q q => ⟨rfl, by
    have e : decide (V.str (PyData.shown a) = V.str (PyData.shown b)) = decide (PyData.shown a = PyData.shown b) := by simp
    rw [e]
    exact q⟩) h)⟩
end
end Yl

/-! exceptions: raise, try .. except X as e: caught = e, isinstance of what was caught -/
namespace Yl
open PySem PySem.Spec PyProof.Rows L2
/-- the context of a def's own body -/
class Tp (X : Cx) : Prop where
  hs : X.stack = X.env :: X.outer
  hf : X.env.frame = some X.env.locals
  ex : X.ex = []
/-- an exception of the class at C, at a -/
def XcO (C a : Addr) : HO := .ext fun h => ∃ (oe : Obj) (vs : Array Value), h.get? a = some oe ∧ oe.cls = .ref C ∧ oe.dict = none ∧ oe.data = .fields vs
theorem xcO_ok {P : Program} {w : World} {H : Hp} {h : Heap} {a C : Addr} {oe : Obj} {vs : Array Value} (e : h.get? a = some oe) (c : oe.cls = .ref C) (d : oe.dict = none) (f : oe.data = .fields vs) : ObjOk P w H h a (XcO C a) :=
  ⟨⟨oe, vs, e, c, d, f⟩, ⟨oe, e⟩, fun _ _ ⟨o, v, q, r⟩ k => ⟨o, v, k o q, r⟩⟩
section
variable {X : Cx} {pins : List (Addr × Obj)} {σ : L2.St} {H : Hp} {s : Shared}
/-- an object that came behind the entry is tracked from here on -/
theorem track {a : Addr} {o : HO} (I : Inv X pins σ H s) (na : H a = none) (n0 : X.s_0.heap.get? a = none) (nL : a ≠ X.env.locals) (nC : ∀ x c, X.env.cells.lookup x = some c → c ≠ a) (nP : ∀ p ∈ X.pn ++ pins, p.1 ≠ a)
    (ob : ObjOk X.prog X.w (upd H a o) s.heap a o) : Inv X pins σ (upd H a o) s where
  ok := I.ok
  os := I.os
  bare := I.bare
  base := by
    have B := I.base
    refine ⟨B.keep, B.slot, fun b u e n hx => ?_, B.there, fun b xs e => ?_, fun b u xs e => ?_, fun b ps e => ?_⟩
    · rw [upd_ne (fun z => by rw [z, n0] at e; cases e)]
      exact B.free b u e n hx
    · have q := B.tups b xs e
      rw [upd_ne (ne_of_none q na)]
      exact q
    · have q := B.frzs b u xs e
      rw [upd_ne (ne_of_none q na)]
      exact q
    · obtain ⟨m, q⟩ := B.tbls b ps e
      exact ⟨m, by rw [upd_ne (ne_of_none q na)]; exact q⟩
  loc := I.loc
  cell := I.cell
  free := by
    rw [upd_ne (Ne.symm nL)]
    exact I.free
  freeC := fun x c e => by
    rw [upd_ne (nC x c e)]
    exact I.freeC x c e
  pin := fun p hp => by
    obtain ⟨h1, h2, h3⟩ := I.pin p hp
    exact ⟨h1, by rw [upd_ne (nP p hp)]; exact h2, h3⟩
  hok := fun b u e => by
    by_cases hb : b = a
    · subst hb
      rw [upd_same] at e
      cases e
      exact ob
    · rw [upd_ne hb] at e
      exact (I.hok b u e).stay (fun _ _ _ q => q) (fun c q => by rw [upd_ne (ne_of_none q na)]; exact q) fun c xs q => by rw [upd_ne (ne_of_none q na)]; exact q
  len := I.len
/-- into an except suite -/
theorem inSuite (I : Inv X pins σ H s) (a : Addr) : Inv (X.suite a (X.pn ++ pins)) [] σ H s :=
  ⟨I.ok.suite _ _, I.os, I.bare, I.base, I.loc, I.cell, I.free, I.freeC, fun p hp => I.pin p (by rw [List.append_nil] at hp; exact hp), I.hok, I.len⟩
theorem outSuite {a : Addr} {pn' : List (Addr × Obj)} (I : Inv (X.suite a (X.pn ++ pins)) pn' σ H s) (ok : X.Ok) : Inv X pins σ H s :=
  ⟨ok, I.os, I.bare, I.base, I.loc, I.cell, I.free, I.freeC, fun p hp => I.pin p (List.mem_append_left _ hp), I.hok, I.len⟩
/-- what is wished of an exception that the clause `except x as n: m = n` catches; i, j: the slots of n, m -/
def wKeep (K : PySem.W.Frag) (c : Value) (i j : Nat) (Q : L2.St → Hp → Prop) : WX := fun cls d σ H =>
  ∃ C, cls = .ref C ∧ d = none ∧ PySem.W.exmOne K cls c = some true ∧ ∀ a, H a = none → Q (((σ.set i (some (.ref a))).set j (some (.ref a))).set i none) (upd H a (XcO C a))
variable {x n m : Str} {c : Value} {i j : Nat} {body : List Stmt} {np p1 p2 pos pos' spos : Pos} {D : Ends}
theorem run_keep (T : Tp X) (hN : X.N.Nodup) (hi : X.N[i]? = some n) (hj : X.N[j]? = some m) (hn : X.env.kindOf n = some .local) (hm : X.env.kindOf m = some .local) (hv : Vis X.env.scope n) (hdn : (n == ("__debug__" : Str)) = false) (hcn : (n == ("__classdict__" : Str)) = false) (hc : Names X x c)
    (I : Inv X pins σ H s)
    (hb : ∀ (pn : List (Addr × Obj)) (xe : Value → Shared → Prop), Takes (X.tr pn xe) (wKeep X.K c i j D.nx) → PassesOwn (model X.prog X.w) X.A X.env xe → Inv (X.tr pn xe) [] σ H s → wpAny (model X.prog X.w) X.A (execs body X.env) (SP (X.tr pn xe) [] D) xe s) :
    wpAny (model X.prog X.w) X.A (exec (.Try body [.ExceptHandler (some (.Name x np)) (some n) [.Assign [.Name m p1] (.Name n p2) spos] pos'] [] [] pos) X.env) (SP X pins D) X.xe s := by
  have ok := I.ok
  have hfr : X.A.frames = some (X.env :: X.outer) := by rw [ok.frames, T.hs]
  refine wpAny_Try_except ?_
  refine wpAny_mono (hb (X.pn ++ pins) (fun e s₁ => wpAny (model X.prog X.w) X.A (noteFrame e X.env) (fun _ s₂ => wpAny (model X.prog X.w) X.A (setFlight e none) (fun _ s₃ =>
    wpAny (model X.prog X.w) X.A (handleBy e X.env [.ExceptHandler (some (.Name x np)) (some n) [.Assign [.Name m p1] (.Name n p2) spos] pos']) (SP X pins D) X.xe s₃) X.xe s₂) X.xe s₁) ?taken PassesOwn.looking (I.toTry _)) ?ends (fun _ _ he => he)
  case ends =>
    intro f s1 h
    match f, h with
    | .next, ⟨σ', H', J, q⟩ => exact wpAny_execs_nil ⟨σ', H', J.ofTry ok, q⟩
    | .brk, ⟨σ', H', J, q⟩ => exact ⟨σ', H', J.ofTry ok, q⟩
    | .cont, ⟨σ', H', J, q⟩ => exact ⟨σ', H', J.ofTry ok, q⟩
    | .ret u, ⟨v, σ', H', J, r, q⟩ => exact ⟨v, σ', H', J.ofTry ok, r, q⟩
  case taken =>
    rintro u s' ⟨a, B, sI, pins', σ', H', cls, d, rfl, J', nb, up, sky, na, os, ag, C, rfl, rfl, hex, hw⟩
    have J : Inv X pins σ' H' sI := J'.ofTry ok
    have sky' : Sky B (X.env :: X.outer) a (Zc (.ref C) none) X.env.locals s'.heap := by rw [← T.hs]; exact sky
    show wpAny (model X.prog X.w) X.A (noteFrame (.ref a) X.env) _ _ _
    refine Sky.land Zc.steady hfr T.hf sky' fun h3 fl3 up3 => ?_
    have J3 : Inv X pins σ' H' { s' with heap := h3 } := J.landed nb fl3.1 (up.trans up3) os ag
    obtain ⟨oe3, vs3, he3, hz3, hd3⟩ := fl3.there
    -- the exception's address is none of ours
    have nfr : a ∉ frs (X.env :: X.outer) := fun hm => by
      obtain ⟨_, o', e', hnf⟩ := fl3.2.2.1.mem hm
      rw [he3] at e'
      cases e'
      exact hnf _ hd3
    have nL : a ≠ X.env.locals := fun z => nfr (List.mem_filterMap.mpr ⟨X.env, List.mem_cons_self, by rw [T.hf, z]⟩)
    have nI : sI.heap.get? a = none := by
      cases e : sI.heap.get? a with
      | none => rfl
      | some o =>
        have z := nb a o e (by rw [T.hs]; exact nfr)
        rw [fl3.2.1] at z
        cases z
    have n0 : X.s_0.heap.get? a = none := by
      cases e : X.s_0.heap.get? a with
      | none => rfl
      | some o =>
        obtain ⟨o', z⟩ := J.base.there a o e (by rw [T.ex]; exact fun z => nomatch z)
        rw [nI] at z
        cases z
    have nC : ∀ x c, X.env.cells.lookup x = some c → c ≠ a := fun x c e z => by
      obtain ⟨v, o, ho, _⟩ := J.cell x c e
      rw [z, nI] at ho
      cases ho
    have nP : ∀ p ∈ X.pn ++ pins, p.1 ≠ a := fun p hp z => by
      have q := (J.pin p hp).1
      rw [z, nI] at q
      cases q
    have S3 := inSuite J3 a
    refine wpAny_handleBy_cons (codeAny_handlers_test ?_) (by intro q; cases q)
    have LT : PySem.W.Looks (model X.prog X.w) h3 (typeOf (.ref a)) (.ref C) := fun A Q E s k q => wpAny_typeOf_ref (k _ _ he3) (by rw [hz3.1]; exact q)
    have LM := PySem.W.exm_one (M := model X.prog X.w) J3.kIn LT hex
    have test : ∀ {Q : Value → Shared → Prop} {E : Value → Shared → Prop}, Q c { s' with heap := h3 } → wpAny (model X.prog X.w) (X.A.mark (some (.ref a))) (eval (.Name x np) X.env) Q E { s' with heap := h3 } := fun {Q E} q => by
      obtain ⟨hg, hdbg, hm | ⟨hm, hv, hnn⟩⟩ := hc
      · exact ld_glob (X := X.suite a (X.pn ++ pins)) S3 hg hm q hdbg
      · exact ld_blt (X := X.suite a (X.pn ++ pins)) S3 hg hm hv q hnn hdbg
    refine test (LM.here ?_)
    refine codeAny_handlers_suite_as ?_
    refine HandSPX.lands_againZ fl3 fun h4 fl4 up4 => ?_
    have J4 : Inv X pins σ' H' { s' with heap := h4 } := J.landed nb fl4.1 ((up.trans up3).trans up4) os ag
    obtain ⟨oe4, vs4, he4, hz4, hd4⟩ := fl4.there
    have J5 := track J4 na n0 nL nC nP (xcO_ok (C := C) he4 hz4.1 hz4.2 hd4)
    refine store_ok (X := X.suite a (X.pn ++ pins)) (v := .ref a) (inSuite J5 a) hN hi (.inl hn) rfl (fun s5 S5 => ?_) (.inr hn)
    have hlt : i < σ'.length := by
      rw [J.len]
      exact (List.getElem?_eq_some_iff.mp hi).1
    have st := (pss_one (ps_set (X := X.suite a (X.pn ++ pins)) (i := j) hN hj (.inl hm) (pe_var (i := i) (pos := p2) hi hv hdn hcn) (by rfl) (.inr hm)) : PSs _ [.Assign [.Name m p1] (.Name n p2) spos] _).run [] s5 _ _
      { nx := fun σ2 H2 => D.nx (σ2.set i none) H2, rt := D.rt, bk := fun σ2 H2 => D.bk (σ2.set i none) H2, ct := fun σ2 H2 => D.ct (σ2.set i none) H2 } S5 ⟨.ref a, by rw [List.getElem?_set_self hlt], hw a na⟩
    refine wpAny_mono st (fun f s6 h => ?_) (fun _ _ z => False.elim z)
    have fin : ∀ {σ6 : L2.St} {H6 : Hp} {Q : Shared → Prop}, Inv (X.suite a (X.pn ++ pins)) [] σ6 H6 s6 → (∀ s7, Inv X pins (σ6.set i none) H6 s7 → Q s7) →
        wpAny (model X.prog X.w) X.A (do bindName X.env n .none; unbindBehindTheSuite X.env n pos') (fun _ s7 => Q s7) X.xe s6 := fun {σ6 H6 Q} S6 hq => gone_ok (outSuite S6 ok) hN hi hn hq
    match f, h with
    | .next, ⟨σ6, H6, S6, q6⟩ => exact fin S6 fun s7 J7 => ⟨_, _, J7, q6⟩
    | .brk, ⟨σ6, H6, S6, q6⟩ => exact fin S6 fun s7 J7 => ⟨_, _, J7, q6⟩
    | .cont, ⟨σ6, H6, S6, q6⟩ => exact fin S6 fun s7 J7 => ⟨_, _, J7, q6⟩
    | .ret u, ⟨v6, σ6, H6, S6, r6, q6⟩ => exact fin S6 fun s7 J7 => ⟨_, _, _, J7, r6, q6⟩
end
end Yl

/-! exceptions: the rules -/
namespace Yl
open PySem PySem.Spec PyProof.Rows L2
abbrev veBm : List Value := [.type "ValueError", .type "Exception", .type "BaseException", .type "object"]
/-- an exception class of the text, without own __init__, by its name -/
class Ex (K : PySem.W.Frag) (mg : Str → Option Value) (x : Str) (C : outParam Addr) : Prop where
  g : mg x = some (.ref C)
  kp : PySem.W.keepIn K (.ref C) = true
  xc : PySem.W.excIn K C veBm "ValueError.__new__" = true
  sb : PySem.W.subIn K (.ref C) (.type "BaseException") = some true
  ty : PySem.W.typeIn K (.ref C) = some (.type "type")
/-- what isinstance asks of an exception of the class at C -/
class Ei (K : PySem.W.Frag) (C : Addr) : Prop where
  cl : (PySem.W.clsIn K C).isSome = true
  ga : PySem.W.findIn K (.ref C) "__getattribute__" = some (some (.builtin "BaseException.__getattribute__"))
  gt : PySem.W.findIn K (.ref C) "__getattr__" = some none
  sb : PySem.W.subIn K (.ref C) (.type "BaseException") = some true
  ca : PySem.W.findIn K (.ref C) "__class__" = some (some (.builtin "object.__class__"))
  cn : PySem.W.specialIn K (.builtin "object.__class__") "__get__" = some (some (.builtin "getset_descriptor.__get__"))
  tk : PySem.W.takesIn K (.builtin "object.__class__") = some true
  mo : PySem.W.mroIn K C (.type "object") = some true
/-- isinstance's answer -/
class Ko (K : PySem.W.Frag) (C : Addr) (c : Value) (b : outParam Bool) : Prop where
  h : PySem.W.kitOne K (.ref C) c = some b
/-- except's answer -/
class Em (K : PySem.W.Frag) (C : Addr) (c : Value) : Prop where
  h : PySem.W.exmOne K (.ref C) c = some true
theorem Ko.mk1 {K : PySem.W.Frag} {C D : Addr} {b : Bool} (h : PySem.W.kitOne K (.ref C) (.ref D) = some b) : Ko K C (.ref D) b := ⟨h⟩
class KoA (K : PySem.W.Frag) (C : Addr) (cs : List V) (b : outParam Bool) : Prop where
  h : ∃ us, Paired ClsV cs us ∧ PySem.W.kitAny K (.ref C) us = some b
instance (K : PySem.W.Frag) (C : Addr) : KoA K C [] false := ⟨[], .nil, rfl⟩
theorem KoA.con {K : PySem.W.Frag} {C : Addr} {v : V} {u : Value} {cs : List V} {b b' : Bool} (hc : ClsV v u) (k : PySem.W.kitOne K (.ref C) u = some b) (r : KoA K C cs b') : KoA K C (v :: cs) (b || b') := by
  obtain ⟨us, h1, h2⟩ := r.h
  exact ⟨u :: us, .cons hc h1, kitAny_cons k (fun e => by rw [e]; exact h2) (fun e => by rw [e]; rfl)⟩
instance {K : PySem.W.Frag} {C D : Addr} {cs : List V} {b b' : Bool} [k : Ko K C (.ref D) b] [r : KoA K C cs b'] : KoA K C (.ref D :: cs) (b || b') := KoA.con (.own D) k.h r
instance {K : PySem.W.Frag} {C : Addr} {T : String} {cs : List V} {b b' : Bool} [k : Ko K C (.type T) b] [r : KoA K C cs b'] : KoA K C (.ty T :: cs) (b || b') := KoA.con (.ty T) k.h r
section
variable {X : Cx}
theorem exc_at {pins : List (Addr × Obj)} {σ : L2.St} {H : Hp} {s : Shared} {a C : Addr} (I : Inv X pins σ H s) (e : H a = some (XcO C a)) : ∃ ox, PySem.W.InstAt s.heap a ox C none := by
  obtain ⟨⟨oe, vs, h1, h2, h3, h4⟩, _, _⟩ := I.hok a _ e
  obtain ⟨cls, dct, dat, sl⟩ := oe
  simp only at h2 h3 h4
  subst h2 h3 h4
  exact ⟨_, h1, rfl, rfl, True.intro⟩
theorem call_isx {C : Addr} (ei : Ei X.K C) : CallR X (.builtin "isinstance") (fun xs H Q => ∃ (a : Addr) (c : V) (u : Value) (b : Bool), xs = [.ref a, c] ∧ ClsV c u ∧ H a = some (XcO C a) ∧ PySem.W.kitOne X.K (.ref C) u = some b ∧ Q (.bl b) H) := by
  intro pins s σ H xs us Q I r h
  obtain ⟨a, c, u, b, rfl, k, ea, e, q⟩ := h
  obtain ⟨u1, u2, rfl, r1, r2⟩ := vals2 r
  have e2 := k.eq r2
  subst e2
  cases (show u1 = Value.ref a from r1)
  obtain ⟨ox, hx⟩ := exc_at I ea
  exact PySem.W.kia_one (PySem.W.kitx_exc ei.cl ei.ga ei.gt ei.sb ei.ca ei.cn ei.tk ei.mo) I.kIn hx e (fun z => nomatch z) fun tk => ⟨.bl b, H, I.tok tk, rfl, q⟩
theorem call_isxT {C : Addr} (ei : Ei X.K C) : CallR X (.builtin "isinstance") (fun xs H Q => ∃ (a tp : Addr) (cs : List V) (us : List Value) (b : Bool), xs = [.ref a, .ref tp] ∧ H tp = some (.tup cs) ∧ Paired ClsV cs us ∧ H a = some (XcO C a) ∧ PySem.W.kitAny X.K (.ref C) us = some b ∧ Q (.bl b) H) := by
  intro pins s σ H xs us Q I r h
  obtain ⟨a, tp, cs, ws, b, rfl, hT, k, ea, e, q⟩ := h
  obtain ⟨u1, u2, rfl, r1, r2⟩ := vals2 r
  cases (show u2 = Value.ref tp from r2)
  cases (show u1 = Value.ref a from r1)
  obtain ⟨ox, hx⟩ := exc_at I ea
  obtain ⟨_, its, rv, o, h1, h2, n, h3⟩ := (show ObjOk X.prog X.w H s.heap tp (.tup cs) from I.hok tp _ hT)
  have e3 := ClsV.all k rv
  subst e3
  obtain ⟨oc, od, dt, sl⟩ := o
  simp only at h2 h3
  subst h2 h3
  exact PySem.W.kia_tup (PySem.W.kitx_exc ei.cl ei.ga ei.gt ei.sb ei.ca ei.cn ei.tk ei.mo) I.kIn hx h1 e (fun z => nomatch z) fun tk => ⟨.bl b, H, I.tok tk, rfl, q⟩
end
/-- an exception that is held -/
class Hx (a : Addr) (O : List (Addr × OD)) (C : outParam Addr) : Prop where
  h : (a, OD.raw (XcO C a)) ∈ O
instance (priority := high) (a C : Addr) (O : List (Addr × OD)) : Hx a ((a, .raw (XcO C a)) :: O) C := ⟨List.mem_cons_self⟩
instance (a C : Addr) (c : Addr × OD) (O : List (Addr × OD)) [h : Hx a O C] : Hx a (c :: O) C := ⟨List.mem_cons_of_mem _ h.h⟩
section
variable {P : Program} {w : World} {K : PySem.W.Frag} {mg : Str → Option Value} {base : Heap} {k : Nat} {N : List Str} {sc : Scope} {vb lb : List Bool} {gs : List Str} {X : Cx} {y : Sy} {σ : L2.St} {Ψ : Value → Sy → Prop} {pos p pos' p2 spos np p1 : Pos} {F : List (V × Dt)} {O : List (Addr × OD)} {rest : List Stmt} {x n m : Str}
theorem c_isx {Φ : V → Sy → Prop} {a C : Addr} {c : V} {u : Value} {b : Bool} (hc : ClsV c u) (hK : X.K = K) (ei : Ei K C) (h : (a, OD.raw (XcO C a)) ∈ O) (k : PySem.W.kitOne K (.ref C) u = some b) (f : Φ (.bl b) ⟨F, O⟩) : Lift K (wC X (.builtin "isinstance") [.ref a, c]) ⟨F, O⟩ Φ Ψ := by
  subst hK
  refine c_of (call_isx ei) (Lift.raw fun S H ok E Q q => ?_)
  obtain ⟨_, o, ho, e⟩ := ok.own a _ h
  cases e
  exact ⟨a, c, u, b, rfl, hc, ho, k, q _ _ S H ok (Stp.refl _ _ _) f⟩
instance [C : Cn P w K mg base k N sc vb lb gs X] {Φ : V → Sy → Prop} {a D E : Addr} {b : Bool} [h : Hx a O E] [ei : Ei K E] [ko : Ko K E (.ref D) b] : Step (Lift K (wC X (.builtin "isinstance") [.ref a, .ref D]) ⟨F, O⟩ Φ Ψ) (Φ (.bl b) ⟨F, O⟩) := ⟨c_isx (.own D) C.hK ei h.h ko.h⟩
instance (priority := high) [C : Cn P w K mg base k N sc vb lb gs X] {Φ : V → Sy → Prop} {a E : Addr} {T : String} {b : Bool} [h : Hx a O E] [ei : Ei K E] [ko : Ko K E (.type T) b] : Step (Lift K (wC X (.builtin "isinstance") [.ref a, .ty T]) ⟨F, O⟩ Φ Ψ) (Φ (.bl b) ⟨F, O⟩) := ⟨c_isx (.ty T) C.hK ei h.h ko.h⟩
/-- isinstance(e, (c, ..)) -/
def IsT2 (K : PySem.W.Frag) (X : Cx) (es : List Expr) (σ : L2.St) (Φ : V → Sy → Prop) (Ψ : Value → Sy → Prop) (v : V) (y : Sy) : Prop := Lift K (wA X es σ) y (fun cs y2 => ∃ (a C : Addr) (us : List Value) (b : Bool), v = .ref a ∧ cs.length ≤ 100 ∧ Ei K C ∧ (a, OD.raw (XcO C a)) ∈ y2.O ∧ Paired ClsV cs us ∧ PySem.W.kitAny K (.ref C) us = some b ∧ Φ (.bl b) y2) Ψ
theorem l_tupR {Φ : V → Sy → Prop} {es : List Expr} {cx} (h : Lift K (wA X es σ) y (fun vs y1 => vs.length ≤ 1000000 ∧ ∀ p, Φ (.ref p) ⟨y1.F, (p, .raw (.tup vs)) :: y1.O⟩) Ψ) : Lift K (wE X (.Tuple es cx pos) σ) y Φ Ψ := by
  refine l_of (fun E tk => pe_tup (pa_w tk)) (Lift.bind (T1 := wA X es σ) (T2 := fun xs _ H Q => xs.length ≤ sizeLine ∧ ∀ p, H p = none → Q (.ref p) (upd H p (.tup xs))) (fun _ _ _ q => q) (h.mono (fun vs z ⟨hz, k⟩ => Lift.raw fun S H ok E Q q => ?_) fun _ _ q => q))
  refine ⟨Nat.le_trans hz (by decide), fun p hp => ?_⟩
  obtain ⟨ok2, st⟩ := ok.newO (o := .tup vs) (u := .raw (.tup vs)) hp rfl
  exact q _ _ _ _ ok2 st (k p)
theorem l_isT {Φ : V → Sy → Prop} {e : Expr} {es : List Expr} {cx} (C : Cn P w K mg base k N sc vb lb gs X) (bn : mg "isinstance" = none) (hg : ("isinstance" : Str) ∈ gs) (he : NoStar e) (he2 : NoStar (.Tuple es cx pos')) (hpl : NoStars [.Tuple es cx pos'])
    (h : Lift K (wE X e σ) y (IsT2 K X es σ Φ Ψ) Ψ) : Lift K (wE X (.Call (.Name "isinstance" p) [e, .Tuple es cx pos'] [] pos) σ) y Φ Ψ := by
  refine l_callB C hg bn bb_isinstance (by decide) (he.h _ _) (by rw [backTo_any]; exact hpl.h _) (a_cons (he.h _ _) (h.mono (fun v z k => a_cons (he2.h _ _) (l_tupR ?_)) fun _ _ q => q))
  have k : Lift K (wA X es σ) z _ Ψ := k
  refine k.mono (fun cs z2 f => ?_) fun _ _ q => q
  obtain ⟨a, E, us, b, rfl, hl, ei, ha, hp, hk, f⟩ := f
  refine ⟨Nat.le_trans hl (by decide), fun tp => a_nil ?_⟩
  have hK := C.hK
  subst hK
  refine c_of (call_isxT ei) (Lift.raw fun S H ok E' Q q => ?_)
  obtain ⟨_, o, ho, e2⟩ := ok.own a _ (List.mem_cons_of_mem _ ha)
  cases e2
  obtain ⟨_, o3, ho3, e3⟩ := ok.own tp (.raw (.tup cs)) List.mem_cons_self
  cases e3
  refine ⟨a, tp, cs, us, b, rfl, ho3, hp, ho, hk, ?_⟩
  exact q _ z2 S H ⟨ok.sub, ok.fac, fun q u m => ok.own q u (List.mem_cons_of_mem _ m), (List.nodup_cons.mp ok.nd).2⟩ ⟨fun _ _ h _ => h, fun _ o h => ⟨o, h⟩, Sub.refl S, fun _ o h => .inl ⟨o, h⟩, fun q m => .inl (List.mem_cons_of_mem _ m)⟩ f
instance (priority := high) {Φ : V → Sy → Prop} {e : Expr} {es : List Expr} {cx} [C : Cn P w K mg base k N sc vb lb gs X] [bn : Bn mg "isinstance"] [hg : GIn "isinstance" gs] [he : NoStar e] [he2 : NoStar (.Tuple es cx pos')] [hpl : NoStars [.Tuple es cx pos']] : Step (Lift K (wE X (.Call (.Name "isinstance" p) [e, .Tuple es cx pos'] [] pos) σ) y Φ Ψ) (Lift K (wE X e σ) y (IsT2 K X es σ Φ Ψ) Ψ) := ⟨l_isT C bn.h hg.h he he2 hpl⟩
/-- the classes, named; then the answer -/
def IsT3 (K : PySem.W.Frag) (Φ : V → Sy → Prop) (a : Addr) (cs : List V) (y : Sy) : Prop := ∃ (C : Addr) (us : List Value) (b : Bool), cs.length ≤ 100 ∧ Ei K C ∧ (a, OD.raw (XcO C a)) ∈ y.O ∧ Paired ClsV cs us ∧ PySem.W.kitAny K (.ref C) us = some b ∧ Φ (.bl b) y
instance {Φ : V → Sy → Prop} {es : List Expr} {a : Addr} : Step (IsT2 K X es σ Φ Ψ (.ref a) y) (Lift K (wA X es σ) y (IsT3 K Φ a) Ψ) := ⟨fun h => Lift.mono (show Lift K (wA X es σ) y (IsT3 K Φ a) Ψ from h) (fun cs z ⟨C, us, b, h1, h2, h3, h4, h5, h6⟩ => ⟨a, C, us, b, rfl, h1, h2, h3, h4, h5, h6⟩) fun _ _ q => q⟩
instance {Φ : V → Sy → Prop} {a E : Addr} {cs : List V} {b : Bool} [h : Hx a O E] [ei : Ei K E] [ko : KoA K E cs b] [s : Sm 64 cs] : Step (IsT3 K Φ a cs ⟨F, O⟩) (Φ (.bl b) ⟨F, O⟩) := ⟨fun f => by
  obtain ⟨us, h1, h2⟩ := ko.h
  exact ⟨E, us, b, Nat.le_trans s.h (by decide), ei, h.h, h1, h2, f⟩⟩
/-! ### raise -/
theorem s_raise {Φ : Fl → Sy → Prop} {j : Nat} {D : Addr} (C : Cn P w K mg base k N sc vb lb gs X) (E : Ex K mg x D) (hg : x ∈ gs) (h : Ψ (.ref D) y) :
    Lift K (wSs X (.Raise (some (.Call (.Name x p) [.Constant (.str m) j p2] [] pos)) none pos' :: rest) σ) y Φ Ψ := by
  have hK := C.hK
  subst hK
  refine ss_of (fun E' tk => pss_cons (ps_raise C.calm tk (pmk_own PySem.F.excBase_ValueError E.xc (by rw [C.hm]; exact E.g) E.kp (raises_own E.sb E.ty) (C.gl x hg).1 (C.gl x hg).2)) (pss_w tk)) ?_
  intro S H ok Q E' q e
  exact e (.ref D) y S H ok (Stp.refl _ _ _) h
instance {Φ : Fl → Sy → Prop} {j : Nat} {D : Addr} [C : Cn P w K mg base k N sc vb lb gs X] [E : Ex K mg x D] [hg : GIn x gs] : Step (Lift K (wSs X (.Raise (some (.Call (.Name x p) [.Constant (.str m) j p2] [] pos)) none pos' :: rest) σ) y Φ Ψ) (Ψ (.ref D) y) := ⟨s_raise C E hg.h⟩
/-! ### try -/
theorem Cn.tr (C : Cn P w K mg base k N sc vb lb gs X) {pn : List (Addr × Obj)} {xe : Value → Shared → Prop} (pw : PassesOwn (model X.prog X.w) X.A X.env xe) : Cn P w K mg base k N sc vb lb gs (X.tr pn xe) :=
  ⟨C.hP, C.hw, C.hK, C.hm, C.hb, C.hN, C.hsc, C.nd, C.calm, C.vis, C.loc, C.gl, C.room, pw⟩
/-- a try's body, at slots that it does not change -/
def wTB (X : Cx) (body : List Stmt) (σ : L2.St) : TL Fl := fun E H Q => ∀ (pn : List (Addr × Obj)) (xe : Value → Shared → Prop) (W : WX), Takes (X.tr pn xe) W → PassesOwn (model X.prog X.w) X.A X.env xe → (∀ cls H', E cls none H' → W cls none σ H') →
  ∀ (pins : List (Addr × Obj)) (s : Shared), Inv (X.tr pn xe) pins σ H s → wpAny (model X.prog X.w) X.A (execs body X.env) (SP (X.tr pn xe) pins (ends Q)) xe s
abbrev NoX : Value → Sy → Prop := fun _ _ => False
theorem tb_nil {Φ : Fl → Sy → Prop} (h : Φ (.nx σ) y) : Lift K (wTB X [] σ) y Φ Ψ := by
  intro S H ok Q E q e pn xe W tk pw hW pins s I
  exact pss_nil.run pins s σ H (ends Q) I (q _ y S H ok (Stp.refl _ _ _) h)
theorem tb_if {Φ : Fl → Sy → Prop} {c : Expr} {b1 b2 : List Stmt} (C : Cn P w K mg base k N sc vb lb gs X)
    (h : ∀ X2, Cn P w K mg base k N sc vb lb gs X2 → X2.A = X.A → Lift K (wT X2 c σ) y (fun d z => (d = true → Lift K (wTB X b1 σ) z Φ Ψ) ∧ (d = false → Lift K (wTB X b2 σ) z Φ Ψ)) NoX) : Lift K (wTB X [.If c b1 b2 pos] σ) y Φ Ψ := by
  intro S H ok Q E q e pn xe W tk pw hW pins s I
  have C2 := C.tr (pn := pn) pw
  have t0 : Tk (X.tr pn xe) (fun _ _ _ => False) := takes0
  have sem : ∀ body, PSs (X.tr pn xe) body (fun D σ' H' => ∀ pins s, Inv (X.tr pn xe) pins σ' H' s → wpAny (model X.prog X.w) X.A (execs body X.env) (SP (X.tr pn xe) pins D) xe s) := fun body => ⟨fun pins s σ' H' D I h => h pins s I⟩
  refine (pss_one (ps_if (pos := pos) (pt_w t0 (e := c)) (sem b1) (sem b2))).run pins s σ H (ends Q) I ?_
  refine h _ C2 rfl S H ok _ (fun _ _ _ => False) (fun d z S' H' ok' st' f => ?_) (fun _ _ _ _ _ _ z => z.elim)
  have go : ∀ body, Lift K (wTB X body σ) z Φ Ψ → ∀ pins s, Inv (X.tr pn xe) pins σ H' s → wpAny (model X.prog X.w) X.A (execs body X.env) (SP (X.tr pn xe) pins (ends Q)) xe s := fun body l =>
    l S' H' ok' Q E (fun r y2 S2 H2 o2 t2 g => q r y2 S2 H2 o2 (st'.trans t2) g) (fun c y2 S2 H2 o2 t2 g => e c y2 S2 H2 o2 (st'.trans t2) g) pn xe W tk pw hW
  cases d with
  | true => exact go b1 (f.1 rfl)
  | false => exact go b2 (f.2 rfl)
theorem tb_call {Φ : Fl → Sy → Prop} {e : Expr} {es : List Expr} {nn : Nat} {R : RY} (C : Cn P w K mg base k N sc vb lb gs X) (G : Cl P w K mg base x k nn R) (hg : x ∈ gs) (he : NoStar e) (hpl : NoStars es)
    (h : ∀ X2, Cn P w K mg base k N sc vb lb gs X2 → X2.A = X.A → Lift K (wA X2 (e :: es) σ) y (fun vs z => vs.length = nn ∧ R vs z (fun _ z2 => Φ (.nx σ) z2) Ψ) NoX) : Lift K (wTB X [.Expr (.Call (.Name x p) (e :: es) [] pos) pos'] σ) y Φ Ψ := by
  obtain ⟨f, fd, ps, F, hm, hk, hb⟩ := G.h.ex
  intro S H ok Q E q e0 pn xe W tk pw hW pins s I
  have C2 := C.tr (pn := pn) pw
  have t0 : Tk (X.tr pn xe) (fun _ _ _ => False) := takes0
  have F' : FnOk (X.tr pn xe).prog (X.tr pn xe).w (X.tr pn xe).K (X.tr pn xe).mg (X.tr pn xe).base (L2.CX (X.tr pn xe).prog (X.tr pn xe).w) k f fd ps (SpY K nn R) := by
    rw [C2.hP, C2.hw, C2.hK, C2.hm, C2.hb]
    exact F
  refine (pss_one (ps_expr (pos := pos') (pe_callS (E := WE W) (pos := pos) F' C2.room (C2.gl x hg).1 (by rw [C2.hm]; exact hm) (by rw [C2.hK]; exact hk) (by rw [C2.hK]; exact hb) (fun σ => passAt tk σ) (pa_w t0) (C2.gl x hg).2 (he.h _ _) (by rw [backTo_any]; exact hpl.h _)) (by rfl))).run pins s σ H (ends Q) I ?_
  refine h _ C2 rfl S H ok _ (fun _ _ _ => False) (fun vs z S' H' ok' st' f => ?_) (fun _ _ _ _ _ _ z => z.elim)
  exact ⟨f.1, z, S', _, _, ok', f.2, fun v y2 S2 H2 o2 t2 g => q _ y2 S2 H2 o2 (st'.trans t2) g, fun c y2 S2 H2 o2 t2 g => hW c H2 (e0 c y2 S2 H2 o2 (st'.trans t2) g)⟩
/-- what is to be done behind `except x as n: m = n` -/
def KeepK (K : PySem.W.Frag) (X : Cx) (c : Value) (i j : Nat) (σ : L2.St) (rest : List Stmt) (Φ : Fl → Sy → Prop) (Ψ : Value → Sy → Prop) (cls : Value) (z : Sy) : Prop :=
  ∃ D, cls = .ref D ∧ Em K D c ∧ ∀ a, Lift K (wSs X rest (((σ.set i (some (.ref a))).set j (some (.ref a))).set i none)) ⟨z.F, (a, .raw (XcO D a)) :: z.O⟩ Φ Ψ
theorem s_try {Φ : Fl → Sy → Prop} {body : List Stmt} {c : Addr} (i j : Nat) (C : Cn P w K mg base k N sc vb lb gs X) (T : Tp X) (hi : N[i]? = some n) (hj : N[j]? = some m) (hn : sc.names.lookup n = some .local) (hm : sc.names.lookup m = some .local) (hv : vb[i]? = some true)
    (hg : x ∈ gs) (hc : mg x = some (.ref c))
    (h : Lift K (wTB X body σ) y (seqK X K rest Φ Ψ) (KeepK K X (.ref c) i j σ rest Φ Ψ)) :
    Lift K (wSs X (.Try body [.ExceptHandler (some (.Name x np)) (some n) [.Assign [.Name m p1] (.Name n p2) spos] pos'] [] [] pos :: rest) σ) y Φ Ψ := by
  have hK := C.hK
  subst hK
  obtain ⟨v1, v2, v3⟩ := C.vis i n hi hv
  have kn : ∀ z, sc.names.lookup z = some .local → X.env.kindOf z = some .local := fun z e => by
    show X.env.scope.names.lookup z = _
    rw [C.hsc]
    exact e
  intro S H ok Q E q e tk pins s I
  have hnd := C.nd
  obtain ⟨Q', hQ'⟩ : ∃ Q' : Fl → Hp → Prop, Q' = fun fl H' => match fl with
    | .nx σ' => ∀ s', Inv X pins σ' H' s' → wpAny (model X.prog X.w) X.A (execs rest X.env) (SP X pins (ends Q)) X.xe s'
    | fl => Q fl H' := ⟨_, rfl⟩
  refine wpAny_execs_cons (wpAny_mono (run_keep (pins := pins) (D := ends Q') T hnd (by rw [C.hN]; exact hi) (by rw [C.hN]; exact hj) (kn n hn) (kn m hm) v1 v2 v3 ⟨(C.gl x hg).1, (C.gl x hg).2, .inl (by rw [C.hm]; exact hc)⟩ I ?_) (fun f s1 h1 => ?_) fun _ _ z => z)
  · intro pn xe tk' pw I'
    refine h S H ok Q' (fun cls d H' => wKeep X.K (.ref c) i j (ends Q').nx cls d σ H') (fun fl z S' H' ok' st' g => ?_) (fun cls z S' H' ok' st' g => ?_) pn xe _ tk' pw (fun _ _ z => z) [] s I'
    · subst hQ'
      cases fl with
      | nx σ' =>
        intro s' J
        exact (show Lift X.K (wSs X rest σ') z Φ Ψ from g) S' H' ok' Q E (fun r y2 S2 H2 o2 t2 g => q r y2 S2 H2 o2 (st'.trans t2) g) (fun c y2 S2 H2 o2 t2 g => e c y2 S2 H2 o2 (st'.trans t2) g) tk pins s' J
      | rt v => exact q _ z S' H' ok' st' g
      | bk σ' => exact q _ z S' H' ok' st' g
      | ct σ' => exact q _ z S' H' ok' st' g
    · obtain ⟨D, rfl, em, f⟩ := g
      refine ⟨D, rfl, rfl, em.h, fun a na => ?_⟩
      subst hQ'
      intro s' J
      obtain ⟨ok2, st2⟩ := ok'.newO (o := XcO D a) (u := .raw (XcO D a)) na rfl
      exact f a S' _ ok2 Q E (fun r y2 S2 H2 o2 t2 g => q r y2 S2 H2 o2 ((st'.trans st2).trans t2) g) (fun c y2 S2 H2 o2 t2 g => e c y2 S2 H2 o2 ((st'.trans st2).trans t2) g) tk pins s' J
  · subst hQ'
    cases f with
    | next =>
      obtain ⟨σ', H', J, q'⟩ := h1
      exact q' s1 J
    | brk => exact h1
    | cont => exact h1
    | ret u => exact h1
end
end Yl

/-! defs that try; count and index of truths -/
namespace Yl
open PySem PySem.Spec PyProof.Rows L2
section
variable {P : Program} {w : World} {K : PySem.W.Frag} {mg : Str → Option Value} {base : Heap} {k : Nat} {f : Addr} {fd : FuncData} {ps : List Str} {x qual : Str} {st : Stmt} {N : List Str} {vb lb : List Bool} {gs : List Str} {n : Nat} {R : RY}
theorem fn_t (F : Fun K x qual st f fd) (Sc : FnScope N ps (defScope st)) (hn : ps.length = n) (ck : chkT (defScope st) N vb lb gs = true)
    (body : ∀ X y vs Φ Ψ, Cn P w K mg base k N (defScope st) vb lb gs X → Tp X → vs.length = n → R vs y Φ Ψ → Lift K (wSs X (defBody st) (start N vs)) y (retW Φ) Ψ) : FnOk P w K mg base (L2.CX P w) (k + 1) f fd ps (SpY K n R) := by
  refine F.okX Sc (fun vs H Q E h => h.1.trans hn.symm) (fun cdv A outer s H vs Q E hr h => ?_)
  obtain ⟨hl, y, S, Φ, Ψ, ok, r, q, e⟩ := h
  have C : Cn P w K mg base k N (defScope st) vb lb gs (cxOf (L2.CX P w) P w K mg base N qual (defScope st) f cdv A outer s H E) := Cn.top rfl rfl rfl rfl rfl rfl rfl Sc.nd rfl rfl hr (passes_of rfl) ck
  have tk : Tk (cxOf (L2.CX P w) P w K mg base N qual (defScope st) f cdv A outer s H E) E := takes_of rfl rfl rfl rfl
  refine ⟨_, pss_w tk, ?_⟩
  have B : Lift K (wSs (cxOf (L2.CX P w) P w K mg base N qual (defScope st) f cdv A outer s H E) (defBody st) (start N vs)) y (retK Φ) Ψ := Lift.post ((body _ y vs Φ Ψ C ⟨rfl, rfl, rfl⟩ hl r).mono (fun fl z g => by
    cases fl with
    | nx s => exact g
    | rt v => exact g
    | bk s => exact g.elim
    | ct s => exact g.elim) fun _ _ g => g)
  refine B S H ok _ E (fun fl y' S' H' ok' st' g => ?_) e
  cases fl with
  | nx s => exact q _ y' S' H' ok' st' g
  | rt v => exact q _ y' S' H' ok' st' g
  | bk s => exact g.elim
  | ct s => exact g.elim
theorem fn_gt (F : Fun K x qual st f fd) (Sc : FnScope N ps (defScope st)) (hn : ps.length = n) (ck : chkT (defScope st) N vb lb gs = true)
    (body : ∀ X y vs Φ Ψ, Cn P w K mg base k N (defScope st) vb lb gs X → Gd X → Tp X → vs.length = n → R vs y Φ Ψ → Lift K (wSs X (defBody st) (start N vs)) y (retW Φ) Ψ) : FnG P w K mg base (k + 1) f fd ps (SpY K n R) := by
  obtain ⟨oc, od, kV, doc, pm, an, cdv, ct, osl, rfl, lk, hcd⟩ := F.ex
  refine fng_of lk hcd Sc (fun vs H Q E h => h.1.trans hn.symm) fun A outer s H vs Q E hgd hr h => ?_
  obtain ⟨hl, y, S, Φ, Ψ, ok, r, q, e⟩ := h
  have C : Cn P w K mg base k N (defScope st) vb lb gs (cxOf (L2.CX P w) P w K mg base N qual (defScope st) f cdv A outer s H E) := Cn.top rfl rfl rfl rfl rfl rfl rfl Sc.nd rfl rfl hr (passes_of rfl) ck
  have tk : Tk (cxOf (L2.CX P w) P w K mg base N qual (defScope st) f cdv A outer s H E) E := takes_of rfl rfl rfl rfl
  refine ⟨_, pss_w tk, ?_⟩
  have B : Lift K (wSs (cxOf (L2.CX P w) P w K mg base N qual (defScope st) f cdv A outer s H E) (defBody st) (start N vs)) y (retK Φ) Ψ := Lift.post ((body _ y vs Φ Ψ C ⟨hgd⟩ ⟨rfl, rfl, rfl⟩ hl r).mono (fun fl z g => by
    cases fl with
    | nx s => exact g
    | rt v => exact g
    | bk s => exact g.elim
    | ct s => exact g.elim) fun _ _ g => g)
  refine B S H ok _ E (fun fl y' S' H' ok' st' g => ?_) e
  cases fl with
  | nx s => exact q _ y' S' H' ok' st' g
  | rt v => exact q _ y' S' H' ok' st' g
  | bk s => exact g.elim
  | ct s => exact g.elim
end
/-! ### lists of truths -/
class Bls (ds : List Dt) (bs : outParam (List Bool)) : Prop where
  h : ds = bs.map .bool
instance : Bls [] [] := ⟨rfl⟩
instance {b : Bool} {ds : List Dt} {bs : List Bool} [r : Bls ds bs] : Bls (.bool b :: ds) (b :: bs) := ⟨by rw [r.h]; rfl⟩
instance {xs ys : List Dt} {a b : List Bool} [r : Bls xs a] [q : Bls ys b] : Bls (xs ++ ys) (a ++ b) := ⟨by rw [r.h, q.h, List.map_append]⟩
theorem RpA.bools_inv {K : PySem.W.Frag} {S : Hp} : ∀ {bs : List Bool} {vs : List V}, RpA K S vs (bs.map PyData.bool) → vs = bs.map V.bl
  | [], _, .nil => rfl
  | b :: r, _, .cons q k => by
    cases q
    rw [RpA.bools_inv k]
    rfl
def eqb (b : Bool) : Value → Bool
  | .bool a => a == b
  | _ => false
theorem vals_bools : ∀ {bs : List Bool} {us : List Value}, Vals (bs.map V.bl) us → us = bs.map Value.bool
  | [], _, .nil => rfl
  | b :: r, _, .cons q k => by
    rw [vals_bools k, show _ = Value.bool b from q]
    rfl
section
variable {X : Cx}
theorem mt_countB : MtR X "list.count" (fun x xs H Q => ∃ (p : Addr) (bs : List Bool) (b : Bool), x = .ref p ∧ xs = [.bl b] ∧ SqL X.K H p (bs.map V.bl) ∧ Q (.int (bs.count b : Nat)) H) := by
  intro pins s σ H x xs v us Q I rx rxs h
  obtain ⟨p, bs, b, rfl, rfl, hs, q⟩ := h
  cases rx
  obtain ⟨u, rfl, ru⟩ := rxs.one
  cases (show u = Value.bool b from ru)
  obtain ⟨its, rv, ⟨⟨cls, dd, data, sl⟩, n, ho, hc, hdn, hd⟩, hlen⟩ := I.list hs
  simp only at hc hd
  subst hc hd
  cases vals_bools rv
  refine call_meets PySem.F.slot_list_count ⟨_, ho, rfl⟩ PySem.F.entry_list_count (PySem.F.args_list_count_2 _ _)
    (SeqAt.list_countAt p (bs.map Value.bool).toArray n dd sl (.bool b) (eqb b)) ⟨ho, fun y hy => ?_, ?_⟩
  · have hy' : y ∈ bs.map Value.bool := by simpa using hy
    obtain ⟨a, _, rfl⟩ := List.mem_map.mp hy'
    exact SeqAt.EqAt.bool_bool a b
  · have ec : (bs.map Value.bool).countP (eqb b) = bs.count b := by
      rw [List.countP_map]
      rfl
    refine ⟨.int (bs.count b : Nat), H, I.tok _, ⟨s.toks, ?_⟩, q⟩
    show Value.int (((bs.map Value.bool).countP (eqb b) : Nat) : Int) s.toks = Value.int ((bs.count b : Nat) : Int) s.toks
    rw [ec]
end
section
variable {P : Program} {w : World} {K : PySem.W.Frag} {mg : Str → Option Value} {base : Heap} {k : Nat} {N : List Str} {sc : Scope} {vb lb : List Bool} {gs : List Str} {X : Cx} {y : Sy} {σ : L2.St} {Ψ : Value → Sy → Prop} {pos p : Pos} {F : List (V × Dt)} {O : List (Addr × OD)}
theorem m_countB {Φ : V → Sy → Prop} {v : V} {bs : List Bool} {b : Bool} (h : Rb y v (.list (bs.map .bool))) (hK : X.K = K) (f : Φ (.int (bs.count b : Nat)) y) : Lift K (wM X "list.count" v [.bl b]) y Φ Ψ := by
  refine m_of (fun pins s σ H x xs v us Q I a b c => mt_countB pins s σ H x xs v us Q I a b c) (Lift.raw fun S H ok E Q q => ?_)
  obtain ⟨a, xs, rfl, ha, r⟩ := h.lst ok
  cases r.bools_inv
  exact ⟨a, bs, b, rfl, rfl, SqL.of ha, q _ y S H ok (Stp.refl _ _ _) f⟩
theorem flat_bools (bs : List Bool) : (bs.map V.bl).all flatV = true := by
  rw [List.all_eq_true]
  intro v hv
  obtain ⟨b, _, rfl⟩ := List.mem_map.mp hv
  rfl
theorem m_indexB {Φ : V → Sy → Prop} {v : V} {bs : List Bool} {b : Bool} (j : Nat) (h : Rb y v (.list (bs.map .bool))) (hK : X.K = K) (hj : bs[j]? = some b) (hno : ∀ m, m < j → bs[m]? ≠ some b) (f : Φ (.int j) y) : Lift K (wM X "list.index" v [.bl b]) y Φ Ψ := by
  refine m_of (fun pins s σ H x xs v us Q I a b c => mt_index pins s σ H x xs v us Q I a b c) (Lift.raw fun S H ok E Q q => ?_)
  obtain ⟨a, xs, rfl, ha, r⟩ := h.lst ok
  cases r.bools_inv
  refine ⟨a, bs.map V.bl, .bl b, j, .bl b, rfl, rfl, SqL.of ha, rfl, flat_bools bs, by rw [List.getElem?_map, hj]; rfl, ?_, fun m z hm hz => ?_, q _ y S H ok (Stp.refl _ _ _) f⟩
  · cases b <;> rfl
  · rw [List.getElem?_map] at hz
    obtain ⟨a, ha, rfl⟩ := Option.map_eq_some_iff.mp hz
    have hne : a ≠ b := fun e => hno m hm (by rw [ha, e])
    cases a <;> cases b <;> first | rfl | exact absurd rfl hne
instance [C : Cn P w K mg base k N sc vb lb gs X] {Φ : V → Sy → Prop} {v : V} {ds : List Dt} {bs : List Bool} {b : Bool} [r : Rc F O v (.list ds)] [t : Bls ds bs] : Step (Lift K (wM X "list.count" v [.bl b]) ⟨F, O⟩ Φ Ψ) (Φ (.int (bs.count b : Nat)) ⟨F, O⟩) := ⟨m_countB (by rw [← t.h]; exact r.h) C.hK⟩
instance [C : Cn P w K mg base k N sc vb lb gs X] {e a : Expr} {Φ : V → Sy → Prop} [m : NoStar e] [m2 : NoSuper a] {l c el ec c' el' ec' : Nat} : Step (Lift K (wE X (.Call (.Attribute a "count" ⟨l, c, el, ec⟩) [e] [] ⟨el, c', el', ec'⟩) σ) y Φ Ψ) (Lift K (wE X a σ) y (AppK K X e σ "list.count" Φ Ψ) Ψ) := ⟨l_methL C PySem.F.slot_list_count PySem.F.type_list_count (m2.h _ _) (by
    rw [backTo_all, m.h]
    rfl) (by show (el == el) = true; exact beq_self_eq_true _) (m.h _ _)⟩
instance [C : Cn P w K mg base k N sc vb lb gs X] {e a : Expr} {Φ : V → Sy → Prop} [m : NoStar e] [m2 : NoSuper a] {l c el ec c' el' ec' : Nat} : Step (Lift K (wE X (.Call (.Attribute a "index" ⟨l, c, el, ec⟩) [e] [] ⟨el, c', el', ec'⟩) σ) y Φ Ψ) (Lift K (wE X a σ) y (AppK K X e σ "list.index" Φ Ψ) Ψ) := ⟨l_methL C PySem.F.slot_list_index PySem.F.type_list_index (m2.h _ _) (by
    rw [backTo_all, m.h]
    rfl) (by show (el == el) = true; exact beq_self_eq_true _) (m.h _ _)⟩
theorem bb_VE : bootBuiltins ("ValueError" : Str) = some (.type "ValueError") := by first | rfl | decide +kernel
instance {Φ : V → Sy → Prop} [C : Cn P w K mg base k N sc vb lb gs X] [bn : Bn mg "ValueError"] [hg : GIn "ValueError" gs] : Step (Lift K (wE X (.Name "ValueError" pos) σ) y Φ Ψ) (Φ (.ty "ValueError") y) := ⟨l_bltn C hg.h bn.h bb_VE (by decide) rfl⟩
instance {Φ : V → Sy → Prop} {p : Addr} {ds : List Dt} {b : Bool} [s : Sm 64 (ds.map fun _ => V.non)] : Step (Lift K (wM X "list.append" (.ref p) [.bl b]) ⟨F, (p, .lst ds) :: O⟩ Φ Ψ) (Φ .non ⟨F, (p, .lst (ds ++ [.bool b])) :: O⟩) := ⟨fun h => m_append (.bl b) (by have := s.h; rw [List.length_map] at this; omega) h⟩
theorem o_neS {Φ : V → Sy → Prop} {x z : V} {b : Bool} (h : scal x z = true) (e : (!decide (x = z)) = b) (f : Φ (.bl b) y) : Lift K (wO X (compareOp .NotEq) x z) y Φ Ψ :=
  o_of op_ne (Lift.ret (r := .bl (!decide (x = z))) (fun _ _ Q q => ⟨h, q⟩) (by rw [e]; exact f))
theorem o_eqS {Φ : V → Sy → Prop} {x z : V} {b : Bool} (h : scal x z = true) (e : decide (x = z) = b) (f : Φ (.bl b) y) : Lift K (wO X (compareOp .Eq) x z) y Φ Ψ :=
  o_of op_eq (Lift.ret (r := .bl (decide (x = z))) (fun _ _ Q q => ⟨h, q⟩) (by rw [e]; exact f))
instance {Φ : V → Sy → Prop} : Step (Lift K (wO X (compareOp .NotEq) .non .non) y Φ Ψ) (Φ (.bl false) y) := ⟨o_neS rfl rfl⟩
instance {Φ : V → Sy → Prop} : Step (Lift K (wO X (compareOp .Eq) .non .non) y Φ Ψ) (Φ (.bl true) y) := ⟨o_eqS rfl rfl⟩
instance {Φ : V → Sy → Prop} {i : Int} : Step (Lift K (wO X (compareOp .NotEq) .non (.int i)) y Φ Ψ) (Φ (.bl true) y) := ⟨o_neS rfl rfl⟩
instance {Φ : V → Sy → Prop} {i : Int} : Step (Lift K (wO X (compareOp .NotEq) (.int i) .non) y Φ Ψ) (Φ (.bl true) y) := ⟨o_neS rfl rfl⟩
end
end Yl

/-! data whose numbers are bounded; fractions as things -/
namespace Yl
open PySem PySem.Spec PyProof.Rows L2
mutual
/-- all whole numbers in it are of so many bits -/
def smD (b : Nat) : Dt → Bool
  | .int i => decide (i.natAbs < 2 ^ b)
  | .list xs | .tuple xs => smA b xs
  | _ => true
def smA (b : Nat) : List Dt → Bool
  | [] => true
  | x :: xs => smD b x && smA b xs
end
theorem smA_all (b : Nat) : ∀ xs : List Dt, smA b xs = xs.all (smD b)
  | [] => by simp only [smA, List.all_nil]
  | x :: xs => by simp only [smA, List.all_cons, smA_all b xs]
theorem all_cut {p : Dt → Bool} {xs : List Dt} (h : xs.all p = true) (lo hi : Option Int) : (cutG xs lo hi).all p = true :=
  List.all_eq_true.mpr fun x hx => List.all_eq_true.mp h x ((cutG_sub xs lo hi).subset hx)
theorem all_rep {p : Dt → Bool} {xs : List Dt} (h : xs.all p = true) (k : Nat) : (List.replicate k xs).flatten.all p = true := List.all_eq_true.mpr fun x hx => by
  obtain ⟨l, hl, hn⟩ := List.mem_flatten.mp hx
  rw [(List.mem_replicate.mp hl).2] at hn
  exact List.all_eq_true.mp h x hn
theorem all_app {p : Dt → Bool} {xs ys : List Dt} (h : xs.all p = true) (k : ys.all p = true) : (xs ++ ys).all p = true := by
  rw [List.all_append, h, k]
  rfl
theorem all_one {p : Dt → Bool} {d : Dt} (h : p d = true) : [d].all p = true := by
  rw [List.all_cons, h]
  rfl
theorem smD_list {b : Nat} {xs : List Dt} (h : xs.all (smD b) = true) : smD b (.list xs) = true := by
  simp only [smD, smA_all, h]
theorem smD_tuple {b : Nat} {xs : List Dt} (h : xs.all (smD b) = true) : smD b (.tuple xs) = true := by
  simp only [smD, smA_all, h]
theorem smD_prs {b : Nat} {bs : List (Int × Int)} (h : ∀ x ∈ bs, x.1.natAbs < 2 ^ b ∧ x.2.natAbs < 2 ^ b) : (prD bs).all (smD b) = true := by
  refine List.all_eq_true.mpr fun d hd => ?_
  unfold prD at hd
  obtain ⟨x, hx, rfl⟩ := List.mem_map.mp hd
  obtain ⟨h1, h2⟩ := h x hx
  simp [smD, smA, h1, h2]
theorem smD_ints {b : Nat} {ns : List Int} (h : ∀ n ∈ ns, n.natAbs < 2 ^ b) : (ns.map PyData.int).all (smD b) = true := by
  refine List.all_eq_true.mpr fun d hd => ?_
  obtain ⟨x, hx, rfl⟩ := List.mem_map.mp hd
  simp [smD, h x hx]
/-- a pair of bounded numbers may be told -/
theorem Td.pair {a b : Int} {n : Nat} (h1 : a.natAbs < 2 ^ 1920) (h2 : b.natAbs < 2 ^ 1920) : Td 3849 (n + 1) (.tuple [.int a, .int b]) :=
  ⟨by simp only [nice, niceA, Bool.and_true, Bool.and_eq_true, decide_eq_true_eq]; exact ⟨log_lt h1 (by decide), log_lt h2 (by decide)⟩, by simp only [sz, szA]; decide, by simp [PyData.depth, PyData.depthAll]⟩
theorem Ta.prs {n : Nat} : ∀ {bs : List (Int × Int)}, (∀ x ∈ bs, x.1.natAbs < 2 ^ 1920 ∧ x.2.natAbs < 2 ^ 1920) → Ta bs.length (3851 * bs.length) (n + 1) (prD bs)
  | [], _ => Ta.nil
  | x :: r, h => by
    have h1 := h x List.mem_cons_self
    have ih := Ta.prs (n := n) (bs := r) fun y hy => h y (List.mem_cons_of_mem _ hy)
    have := Ta.cons (Td.pair (n := n) h1.1 h1.2) ih
    refine this.mono (Nat.le_refl _) ?_ (Nat.le_refl _)
    rw [List.length_cons]
    omega
/-- a fraction in least numbers -/
def frcD : Dt → Bool
  | .tuple [.int a, .int b] => decide (0 < b) && decide (Int.gcd b a = 1)
  | _ => false
def frsD : Dt → Bool
  | .list ds => decide (1 ≤ ds.length) && decide (ds.length ≤ 12) && ds.all frcD
  | _ => false
theorem frc_is {d : Dt} (h : frcD d = true) : ∃ a b : Int, d = .tuple [.int a, .int b] ∧ 0 < b ∧ Int.gcd b a = 1 := by
  unfold frcD at h
  split at h
  · rename_i a b
    simp only [Bool.and_eq_true, decide_eq_true_eq] at h
    exact ⟨a, b, rfl, h.1, h.2⟩
  · cases h
theorem frs_is {d : Dt} (h : frsD d = true) : ∃ bs : List (Int × Int), d = .list (prD bs) ∧ 1 ≤ bs.length ∧ bs.length ≤ 12 ∧ ∀ x ∈ bs, 0 < x.2 ∧ Int.gcd x.2 x.1 = 1 := by
  unfold frsD at h
  split at h
  · rename_i ds
    simp only [Bool.and_eq_true, decide_eq_true_eq, List.all_eq_true] at h
    obtain ⟨⟨h1, h2⟩, h3⟩ := h
    suffices q : ∃ bs : List (Int × Int), ds = prD bs ∧ ∀ x ∈ bs, 0 < x.2 ∧ Int.gcd x.2 x.1 = 1 by
      obtain ⟨bs, rfl, hb⟩ := q
      rw [prD_len] at h1 h2
      exact ⟨bs, rfl, h1, h2, hb⟩
    clear h1 h2
    induction ds with
    | nil => exact ⟨[], rfl, fun _ m => nomatch m⟩
    | cons d r ih =>
      obtain ⟨bs, rfl, hb⟩ := ih fun x hx => h3 x (List.mem_cons_of_mem _ hx)
      obtain ⟨a, b, rfl, e1, e2⟩ := frc_is (h3 d List.mem_cons_self)
      refine ⟨(a, b) :: bs, rfl, fun x hx => ?_⟩
      rcases List.mem_cons.mp hx with rfl | hx
      · exact ⟨e1, e2⟩
      · exact hb x hx
  · cases h
theorem sm_prs {b : Nat} {bs : List (Int × Int)} (h : smD b (.list (prD bs)) = true) : ∀ x ∈ bs, x.1.natAbs < 2 ^ b ∧ x.2.natAbs < 2 ^ b := fun x hx => by
  simp only [smD, smA_all, List.all_eq_true] at h
  have := h (.tuple [.int x.1, .int x.2]) (by unfold prD; exact List.mem_map_of_mem (f := fun z : Int × Int => PyData.tuple [.int z.1, .int z.2]) hx)
  simpa [smD, smA] using this
theorem whole_is {d : Dt} (h : wholeD d = true) : ∃ i : Int, d = .int i := by
  cases d with
  | int i => exact ⟨i, rfl⟩
  | _ => cases h
theorem two_is {ds : List Dt} (h : ds.length = 2) : ∃ a b, ds = [a, b] := by
  match ds, h with
  | [a, b], _ => exact ⟨a, b, rfl⟩
end Yl

/-! a list of any things is not empty -/
namespace Yl
open PySem PySem.Spec PyProof.Rows L2
theorem op_lenN {X : Cx} (hu : X.A.units + 64 < cLine) : OpR X (compareOp .NotEq) (fun x y H Q => ∃ a b xs ys, x = .ref a ∧ y = .ref b ∧ SqL X.K H a xs ∧ SqL X.K H b ys ∧ xs.length ≠ ys.length ∧ Q (.bl true) H) := by
  intro pins s σ H x y v u Q I rx ry h
  obtain ⟨a, b, xs, ys, rfl, rfl, ha, hb, hne, q⟩ := h
  cases (show v = Value.ref a from rx)
  cases (show u = Value.ref b from ry)
  obtain ⟨us, r1, p1, _⟩ := I.list ha
  obtain ⟨ws, r2, p2, _⟩ := I.list hb
  have hsz : (us.toArray.size != ws.toArray.size) = true := by
    rw [List.size_toArray, List.size_toArray, ← r1.length, ← r2.length]
    simp [hne]
  exact SeqAt.RcNeAt.lists_lengths p1.isList p2.isList hsz (by omega) X.prog X.w _ _ ⟨.bl true, H, I, rfl, q⟩
section
variable {P : Program} {w : World} {K : PySem.W.Frag} {mg : Str → Option Value} {base : Heap} {k : Nat} {N : List Str} {sc : Scope} {vb lb : List Bool} {gs : List Str} {X : Cx} {y : Sy} {σ : L2.St} {Ψ : Value → Sy → Prop} {pos p : Pos} {Φ : V → Sy → Prop} {F : List (V × Dt)} {O : List (Addr × OD)}
theorem o_neNil (C : Cn P w K mg base k N sc vb lb gs X) {v u : V} {ds : List Dt} (h1 : Rb y v (.list ds)) (h2 : Rb y u (.list [])) (f : Φ (.bl (!ds.isEmpty)) y) : Lift K (wO X (compareOp .NotEq) v u) y Φ Ψ := by
  have hu : X.A.units + 64 < cLine := by
    have := C.room.un
    omega
  cases ds with
  | nil => exact o_neD h1 h2 rfl rfl (by decide) (by decide) hu C.hK f
  | cons d ds =>
    refine o_of (op_lenN hu) (Lift.raw fun S H ok E Q q => ?_)
    obtain ⟨a, xs, rfl, ha, r⟩ := h1.lst ok
    obtain ⟨b, zs, rfl, hb, r2⟩ := h2.lst ok
    exact ⟨a, b, xs, zs, rfl, rfl, SqL.of ha, SqL.of hb, (by rw [r.length, r2.length]; simp), q _ y S H ok (Stp.refl _ _ _) f⟩
end
/-! ### longer chains of comparisons, as values -/
def wCv (X : Cx) (pos : Pos) (v : V) (ops : List CmpOp) (es : List Expr) (σ : L2.St) : TL V := fun E H Q => Tk X E → ∀ (pins : List (Addr × Obj)) (s : Shared) (u : Value), Inv X pins σ H s → RelV v u → wpAny (model X.prog X.w) X.A (compareChain pos u ops (evalEach es X.env)) (EP X pins σ Q) X.xe s
section
variable {P : Program} {w : World} {K : PySem.W.Frag} {mg : Str → Option Value} {base : Heap} {k : Nat} {N : List Str} {sc : Scope} {vb lb : List Bool} {gs : List Str} {X : Cx} {y : Sy} {σ : L2.St} {Ψ : Value → Sy → Prop} {pos : Pos} {rest : List Stmt} {F : List (V × Dt)} {O : List (Addr × OD)} {x : Str}
theorem cv_last {Φ : V → Sy → Prop} {v : V} {op : CmpOp} {e : Expr} (h : Lift K (wE X e σ) y (fun u y1 => Lift K (wO X (compareOp op) v u) y1 Φ Ψ) Ψ) : Lift K (wCv X pos v [op] [e] σ) y Φ Ψ := by
  refine Lift.bind (T1 := wE X e σ) (T2 := fun u => wO X (compareOp op) v u) (fun E H Q q tk pins s u I r => ?_) h
  exact chain_last (thn (q tk pins s I) fun c s1 ⟨x1, H1, I1, r1, q1⟩ => q1 pins s1 σ u c I1 r r1)
theorem cv_link {Φ : V → Sy → Prop} {v : V} {op op' : CmpOp} {ops : List CmpOp} {e e' : Expr} {es : List Expr} (h : Lift K (wE X e σ) y (fun u y1 => Lift K (wO X (compareOp op) v u) y1 (asB fun d y2 => (d = true → Lift K (wCv X pos u (op' :: ops) (e' :: es) σ) y2 Φ Ψ) ∧ (d = false → Φ (.bl false) y2)) Ψ) Ψ) :
    Lift K (wCv X pos v (op :: op' :: ops) (e :: e' :: es) σ) y Φ Ψ := by
  refine Lift.bind (T1 := wE X e σ) (T2 := fun u E H Q => wO X (compareOp op) v u E H fun r H2 => ∃ d, r = .bl d ∧ (if d = true then wCv X pos u (op' :: ops) (e' :: es) σ E H2 Q else Q (.bl false) H2)) (fun E H Q q tk pins s u I r => ?_) (h.mono (fun u z f => ?_) fun _ _ q => q)
  · refine chain_link (thn (q tk pins s I) fun c s1 ⟨x1, H1, I1, r1, q1⟩ => thn (q1 pins s1 σ u c I1 r r1) fun d s2 ⟨x2, H2, I2, r2, d2, e2, q2⟩ => ?_)
    subst e2
    cases r2
    refine wpAny_truthy_bool ?_
    cases d2 with
    | false => exact ite_ff ⟨.bl false, H2, I2, rfl, q2⟩
    | true => exact ite_tt (q2 tk pins s2 c I2 r1)
  · refine Lift.bind (T1 := wO X (compareOp op) v u) (T2 := fun r E H Q => ∃ d, r = .bl d ∧ (if d = true then wCv X pos u (op' :: ops) (e' :: es) σ E H Q else Q (.bl false) H)) (fun _ _ _ q => q) (f.mono (fun r z3 ⟨d, e, f1, f2⟩ => ?_) fun _ _ q => q)
    subst e
    cases d with
    | true => exact Lift.to (f1 rfl) fun _ _ _ q => ⟨true, rfl, q⟩
    | false => exact Lift.ret (r := V.bl false) (fun _ _ _ q => ⟨false, rfl, q⟩) (f2 rfl)
theorem e_chN {Φ : V → Sy → Prop} {a : Expr} {op op' : CmpOp} {ops : List CmpOp} {e e' : Expr} {es : List Expr} (hm : lastMarks (op :: op' :: ops) (e :: e' :: es) = false) (h : Lift K (wE X a σ) y (fun v y1 => Lift K (wCv X pos v (op :: op' :: ops) (e :: e' :: es) σ) y1 Φ Ψ) Ψ) :
    Lift K (wE X (.Compare a (op :: op' :: ops) (e :: e' :: es) pos) σ) y Φ Ψ := by
  refine Lift.bind (T1 := wE X a σ) (T2 := fun v => wCv X pos v (op :: op' :: ops) (e :: e' :: es) σ) (fun E H Q q tk pins s I => ?_) h
  exact Compare_chain (thn (q tk pins s I) fun v s1 ⟨x1, H1, I1, r1, q1⟩ => q1 tk pins s1 v I1 r1) hm
instance {Φ : V → Sy → Prop} {v : V} {op : CmpOp} {e : Expr} : Step (Lift K (wCv X pos v [op] [e] σ) y Φ Ψ) (Lift K (wE X e σ) y (fun u y1 => Lift K (wO X (compareOp op) v u) y1 Φ Ψ) Ψ) := ⟨cv_last⟩
instance {Φ : V → Sy → Prop} {v : V} {op op' : CmpOp} {ops : List CmpOp} {e e' : Expr} {es : List Expr} : Step (Lift K (wCv X pos v (op :: op' :: ops) (e :: e' :: es) σ) y Φ Ψ) (Lift K (wE X e σ) y (fun u y1 => Lift K (wO X (compareOp op) v u) y1 (asB fun d y2 => (d = true → Lift K (wCv X pos u (op' :: ops) (e' :: es) σ) y2 Φ Ψ) ∧ (d = false → Φ (.bl false) y2)) Ψ) Ψ) := ⟨cv_link⟩
instance (priority := low) {Φ : V → Sy → Prop} {a : Expr} {op op' : CmpOp} {ops : List CmpOp} {e e' : Expr} {es : List Expr} [m : NoMarks (op :: op' :: ops) (e :: e' :: es)] : Step (Lift K (wE X (.Compare a (op :: op' :: ops) (e :: e' :: es) pos) σ) y Φ Ψ) (Lift K (wE X a σ) y (fun v y1 => Lift K (wCv X pos v (op :: op' :: ops) (e :: e' :: es) σ) y1 Φ Ψ) Ψ) := ⟨e_chN m.h⟩
end
section
variable {P : Program} {w : World} {K : PySem.W.Frag} {mg : Str → Option Value} {base : Heap} {k : Nat}
/-- xs + ys, a new list that stays owned -/
theorem o_catO {X : Cx} {y : Sy} {Ψ : Value → Sy → Prop} {Φ : V → Sy → Prop} {v u : V} {ds es : List Dt} (h1 : Rb y v (.list ds)) (h2 : Rb y u (.list es)) (hz : ds.length + es.length ≤ 1000000) (k : ∀ p, Φ (.ref p) ⟨y.F, (p, .lst (ds ++ es)) :: y.O⟩) : Lift K (wO X (binaryOp .Add) v u) y Φ Ψ := by
  refine o_of op_cat (Lift.raw fun S H ok E Q q => ?_)
  obtain ⟨a, xs, rfl, ha, r⟩ := h1.lst ok
  obtain ⟨b, zs, rfl, hb, r2⟩ := h2.lst ok
  refine ⟨a, b, xs, zs, rfl, rfl, ha, hb, by rw [r.length, r2.length]; exact Nat.le_trans hz (by decide), fun p hp => ?_⟩
  obtain ⟨ok2, st⟩ := ok.newO (o := .lst (xs ++ zs)) (u := .lst (ds ++ es)) hp ⟨_, rfl, r.append r2⟩
  exact q _ _ _ _ ok2 st (k p)
end
/-! ### is not of truths -/
theorem o_notB {K : PySem.W.Frag} {X : Cx} {y : Sy} {Ψ : Value → Sy → Prop} {Φ : V → Sy → Prop} {a b : Bool} (h : Φ (.bl (!decide (a = b))) y) : Lift K (wO X (compareOp .IsNot) (.bl a) (.bl b)) y Φ Ψ := o_of op_notBl (Lift.ret (r := .bl (!decide (a = b))) (fun _ _ _ q => ⟨a, b, rfl, rfl, q⟩) h)
instance {K : PySem.W.Frag} {X : Cx} {y : Sy} {Ψ : Value → Sy → Prop} {Φ : V → Sy → Prop} {a b : Bool} : Step (Lift K (wO X (compareOp .IsNot) (.bl a) (.bl b)) y Φ Ψ) (Φ (.bl (!decide (a = b))) y) := ⟨o_notB⟩
theorem Hs.mono {F F' : List (V × Dt)} {v : V} {d : Dt} (h : Hs F v d) (s : ∀ e, e ∈ F → e ∈ F') : Hs F' v d := by
  cases h with
  | fact m => exact .fact (s _ m)
  | non => exact .non
  | bl b => exact .bl b
  | int i => exact .int i
  | str x => exact .str x
end Yl

/-! list(range(a, b)); facts that are known -/
namespace Yl
open PySem PySem.Spec PyProof.Rows L2
section
variable {P : Program} {w : World} {K : PySem.W.Frag} {mg : Str → Option Value} {base : Heap} {k : Nat} {N : List Str} {sc : Scope} {vb lb : List Bool} {gs : List Str} {X : Cx} {y : Sy} {σ σw : L2.St} {Ψ : Value → Sy → Prop} {a b : Expr} {pos p p2 : Pos} {F : List (V × Dt)} {O : List (Addr × OD)}
theorem Lift.know {α : Type} {T : TL α} {Φ : α → Sy → Prop} {v : V} {d : Dt} (h : Hs y.F v d) (q : Lift K T ⟨(v, d) :: y.F, y.O⟩ Φ Ψ) : Lift K T y Φ Ψ :=
  Lift.pre (y2 := ⟨(v, d) :: y.F, y.O⟩) (fun S H ok => ⟨S, ⟨ok.sub, fun v' d' m => by
    rcases List.mem_cons.mp m with e | m
    · cases e
      exact h.rp ok
    · exact ok.fac v' d' m, ok.own, ok.nd⟩, Stp.refl _ _ _⟩) q
def LrgK2 (Φ : V → Sy → Prop) (v u : V) (y : Sy) : Prop := ∃ i j : Int, v = .int i ∧ u = .int j ∧ (-1000 ≤ i ∧ i ≤ 1000000 ∧ -1000 ≤ j ∧ j ≤ 1000000) ∧ ∀ q, Φ (.ref q) ⟨y.F, (q, .lst (rngD i (j - i).toNat)) :: y.O⟩
theorem l_listRg2 {Φ : V → Sy → Prop} [C : Cn P w K mg base k N sc vb lb gs X] [b1 : Bn mg "list"] [b2 : Bn mg "range"] [h1 : GIn "list" gs] [h2 : GIn "range" gs] [m : NoStar a] [m2 : NoStar b] {pr p p3 : Pos}
    (h : Lift K (wE X a σ) y (fun v y1 => Lift K (wE X b σ) y1 (LrgK2 Φ v) Ψ) Ψ) : Lift K (wE X (.Call (.Name "list" p) [.Call (.Name "range" p2) [a, b] [] pr] [] p3) σ) y Φ Ψ := by
  refine l_of (fun E tk => pe_listRg C.calm (C.gl _ h1.h).1 (by rw [C.hm]; exact b1.h) (prg_2 (C.gl _ h2.h).1 (by rw [C.hm]; exact b2.h) (pe_w tk) (pe_w tk) (by rw [m.h, m2.h]) (m2.h _ _) (by rw [m2.h]; rfl)) rfl) ?_
  refine Lift.bind2 (wE X a σ) (fun _ => wE X b σ) (fun v u _ H Q => ∃ i j, v = .int i ∧ u = .int j ∧ RgOk i j ∧ ∀ q, H q = none → Q (.ref q) (upd H q (.lst (rgV i j)))) (fun _ _ _ q => q) (h.mono (fun v z g => g.mono (fun u z2 ⟨i, j, e1, e2, b, f⟩ => Lift.raw fun S H ok E Q q => ?_) fun _ _ q => q) fun _ _ q => q)
  refine ⟨i, j, e1, e2, ⟨by omega, by omega, by omega, by omega, by omega⟩, fun p hp => ?_⟩
  obtain ⟨ok2, st⟩ := ok.newO (o := .lst (rgV i j)) (u := .lst (rngD i (j - i).toNat)) hp ⟨_, rfl, RpA_rg _ _⟩
  exact q _ _ _ _ ok2 st (f p)
instance (priority := high) {Φ : V → Sy → Prop} [C : Cn P w K mg base k N sc vb lb gs X] [b1 : Bn mg "list"] [b2 : Bn mg "range"] [h1 : GIn "list" gs] [h2 : GIn "range" gs] [m : NoStar a] [m2 : NoStar b] {pr p3 : Pos} : Step (Lift K (wE X (.Call (.Name "list" p) [.Call (.Name "range" p2) [a, b] [] pr] [] p3) σ) y Φ Ψ) (Lift K (wE X a σ) y (fun v y1 => Lift K (wE X b σ) y1 (LrgK2 Φ v) Ψ) Ψ) := ⟨l_listRg2⟩
instance {Φ : V → Sy → Prop} {i j : Int} : Step (LrgK2 Φ (.int i) (.int j) y) ((-1000 ≤ i ∧ i ≤ 1000000 ∧ -1000 ≤ j ∧ j ≤ 1000000) ∧ ∀ q, Φ (.ref q) ⟨y.F, (q, .lst (rngD i (j - i).toNat)) :: y.O⟩) := ⟨fun h => ⟨i, j, rfl, rfl, h⟩⟩
end
/-! ### lists of none or ints -/
theorem PlnA.flat : ∀ {ds : List Dt}, (∀ d ∈ ds, d = .none ∨ ∃ i : Int, d = .int i) → PlnA ds 0
  | [], _ => inferInstance
  | d :: ds, h => by
    have h2 := PlnA.flat (ds := ds) fun x hx => h x (List.mem_cons_of_mem _ hx)
    have h1 : Pln d 0 := by
      rcases h d List.mem_cons_self with rfl | ⟨i, rfl⟩
      · exact ⟨rfl, by simp [PyData.canLay0], by simp [PyData.depth], by decide +kernel⟩
      · exact inferInstance
    have : PlnA (d :: ds) (max 0 0) := inferInstance
    exact this
end Yl

/-! dicts with ints, or tuples of ints, as keys: owned cells; range(i, j, -1); pairs of owned things -/
namespace Yl
open PySem PySem.Spec PyProof.Rows L2
theorem ky_kV (ns : List Int) : (ky ns).map kV = ns.map V.int := by
  unfold ky
  rw [List.map_map]
  rfl
theorem ky_inj : ∀ {a b : List Int}, ky a = ky b → a = b
  | [], [], _ => rfl
  | [], _ :: _, h => by simp [ky] at h
  | _ :: _, [], h => by simp [ky] at h
  | x :: xs, z :: zs, h => by
    simp only [ky, List.map_cons, List.cons.injEq, Sum.inl.injEq] at h
    rw [h.1, ky_inj (a := xs) (b := zs) h.2]
section
variable {X : Cx}
theorem ix_dict (hu : X.A.units + 1 < cLine) : IxR X (fun x y H Q => ∃ a v, x = .ref a ∧ DGet H a y (some v) ∧ Q v H) := by
  intro value slice pins s σ H x y v u Q I rx ry h hs
  obtain ⟨a, r, rfl, g, q⟩ := h
  cases (show v = Value.ref a from rx)
  exact tail_any (dict_typeIs I g) PySem.F.slot_dict_getitem.lookup (d_getItem hu I g ry fun w' s' I' rw' => ⟨r, H, I', rw', q⟩) hs
theorem op_dict (hu : X.A.units + 1 < cLine) : OpR X (compareOp .In) (fun y x H Q => ∃ a o, x = .ref a ∧ DGet H a y o ∧ Q (.bl o.isSome) H) := by
  intro pins s σ H y x u v Q I ry rx h
  obtain ⟨a, o, rfl, g, q⟩ := h
  cases (show v = Value.ref a from rx)
  exact d_in hu I g ry fun s' I' => ⟨.bl o.isSome, H, I', rfl, q⟩
end
theorem Sr.rangeC {K : PySem.W.Frag} {y : Sy} {lo c : Int} {n : Nat} : Sr K (Itc lo c n) y ((List.range n).map fun i => PyData.int (lo + (i : Nat) * c)) := by
  refine ⟨fun S H ok => ⟨fun _ => True, YFn fun i => .int (lo + (i : Nat) * c), by rw [List.length_map, List.length_range]; exact walk_rangeC, fun _ _ => True.intro, fun i H1 x H2 d S' hd s1 s2 y => .inl ⟨y.1, ?_⟩⟩⟩
  rw [y.2]
  have h1 := (List.getElem?_eq_some_iff.mp hd).1
  rw [List.length_map, List.length_range] at h1
  rw [List.getElem?_map, List.getElem?_range h1] at hd
  cases hd
  exact .int _
/-- n ints from hi down -/
def rngN (hi : Int) (n : Nat) : List Dt := (List.range n).map fun i => PyData.int (hi + (i : Nat) * (-1))
theorem rngN_len (hi : Int) (n : Nat) : (rngN hi n).length = n := by
  unfold rngN
  rw [List.length_map, List.length_range]
theorem rngN_at {hi : Int} {n i : Nat} {d : Dt} (h : (rngN hi n)[i]? = some d) : i < n ∧ d = .int (hi - (i : Nat)) := by
  have h1 := (List.getElem?_eq_some_iff.mp h).1
  rw [rngN_len] at h1
  refine ⟨h1, ?_⟩
  unfold rngN at h
  rw [List.getElem?_map, List.getElem?_range h1] at h
  cases h
  show PyData.int (hi + (i : Int) * (-1)) = _
  rw [show hi + (i : Int) * (-1) = hi - (i : Int) by omega]
section
variable {P : Program} {w : World} {K : PySem.W.Frag} {mg : Str → Option Value} {base : Heap} {k : Nat} {N : List Str} {sc : Scope} {vb lb : List Bool} {gs : List Str} {X : Cx} {y : Sy} {σ σw : L2.St} {Ψ : Value → Sy → Prop} {a b c e : Expr} {pos p p2 : Pos} {F : List (V × Dt)} {O : List (Addr × OD)} {rest : List Stmt}
theorem i_range3 {Φ : It → Sy → Prop} {tg : Expr} (C : Cn P w K mg base k N sc vb lb gs X) (hg : ("range" : Str) ∈ gs) (hm : mg "range" = none) (hs : starEach [a, b, c] X.env = (false, eval a X.env) :: starEach [b, c] X.env) (hpl : (backTo pos (starEach [b, c] X.env)).any (·.1) = false)
    (h : Lift K (wA X [a, b, c] σ) y (fun vs y1 => ∃ i j : Int, vs = [.int i, .int j, .int (-1)] ∧ (-(2 ^ 62) ≤ i ∧ i < 2 ^ 62 ∧ -(2 ^ 62) ≤ j ∧ j < 2 ^ 62) ∧ ∀ J, Sr K J y1 (rngN i (i - j).toNat) → Φ J y1) Ψ) : Lift K (wI X tg (.Call (.Name "range" p) [a, b, c] [] pos) σ) y Φ Ψ := by
  refine i_of (fun E tk => pi_range3 (C.gl _ hg).1 (by rw [C.hm]; exact hm) (pa_w tk) hs hpl) (Lift.bind (T1 := wA X [a, b, c] σ) (T2 := fun vs _ H R => ∃ (i j c : Int) (n : Nat), vs = [.int i, .int j, .int c] ∧ RgC i j c n ∧ R (Itc i c n) H) (fun _ _ _ q => q)
    (h.mono (fun v z ⟨i, j, e, h1, f⟩ => Lift.ret (r := Itc i (-1) (i - j).toNat) (fun _ _ _ q => ⟨i, j, -1, _, e, RgC.neg h1.1 h1.2.1 h1.2.2.1 h1.2.2.2, q⟩) (f _ Sr.rangeC)) fun _ _ q => q))
def Rng3 (K : PySem.W.Frag) (Φ : It → Sy → Prop) (vs : List V) (y1 : Sy) : Prop := ∃ i j : Int, vs = [.int i, .int j, .int (-1)] ∧ (-(2 ^ 62) ≤ i ∧ i < 2 ^ 62 ∧ -(2 ^ 62) ≤ j ∧ j < 2 ^ 62) ∧ ∀ J, Sr K J y1 (rngN i (i - j).toNat) → Φ J y1
instance {Φ : It → Sy → Prop} {tg : Expr} [C : Cn P w K mg base k N sc vb lb gs X] [bn : Bn mg "range"] [hg : GIn "range" gs] [m : NoStar a] [m2 : NoStar b] [m3 : NoStar c] : Step (Lift K (wI X tg (.Call (.Name "range" p) [a, b, c] [] pos) σ) y Φ Ψ) (Lift K (wA X [a, b, c] σ) y (Rng3 K Φ) Ψ) := ⟨i_range3 C hg.h bn.h (by rw [m.h]) (by rw [m2.h, m3.h]; rfl)⟩
instance {Φ : It → Sy → Prop} {i j : Int} : Step (Rng3 K Φ [.int i, .int j, .int (-1)] y) ((-1000000 ≤ i ∧ i ≤ 1000000 ∧ -1000000 ≤ j ∧ j ≤ 1000000) ∧ ∀ J, Sr K J y (rngN i (i - j).toNat) → Φ J y) := ⟨fun ⟨h, f⟩ => ⟨i, j, rfl, by omega, f⟩⟩
/-! ### dicts -/
/-- {}, keys tuples -/
theorem l_dictT {Φ : V → Sy → Prop} (f : ∀ p, Φ (.ref p) ⟨F, (p, .raw (.dT [])) :: O⟩) : Lift K (wE X (.Dict [] [] pos) σ) ⟨F, O⟩ Φ Ψ := by
  refine l_of (fun _ _ => pe_dnewT) (Lift.raw fun S H ok E Q q => ?_)
  intro p hp
  obtain ⟨ok2, st⟩ := ok.newO (o := .dT []) (u := .raw (.dT [])) hp rfl
  exact q _ _ _ _ ok2 st (f p)
/-- {}, keys ints -/
theorem l_dictK {Φ : V → Sy → Prop} (f : ∀ p, Φ (.ref p) ⟨F, (p, .raw (.dK [])) :: O⟩) : Lift K (wE X (.Dict [] [] pos) σ) ⟨F, O⟩ Φ Ψ := by
  refine l_of (fun _ _ => pe_dnewK) (Lift.raw fun S H ok E Q q => ?_)
  intro p hp
  obtain ⟨ok2, st⟩ := ok.newO (o := .dK []) (u := .raw (.dK [])) hp rfl
  exact q _ _ _ _ ok2 st (f p)
theorem Cn.un1 (C : Cn P w K mg base k N sc vb lb gs X) : X.A.units + 1 < cLine := by
  have := C.room.un
  omega
/-- a dict that is held -/
class Dk (a : Addr) (O : List (Addr × OD)) (kvs : outParam (List (L2.Key × V))) : Prop where
  h : (a, OD.raw (.dK kvs)) ∈ O
instance (priority := high) (a : Addr) (kvs : List (L2.Key × V)) (O : List (Addr × OD)) : Dk a ((a, .raw (.dK kvs)) :: O) kvs := ⟨List.mem_cons_self⟩
instance (a : Addr) (kvs : List (L2.Key × V)) (c : Addr × OD) (O : List (Addr × OD)) [h : Dk a O kvs] : Dk a (c :: O) kvs := ⟨List.mem_cons_of_mem _ h.h⟩
class Dz (a : Addr) (O : List (Addr × OD)) (kvs : outParam (List (List L2.Key × V))) : Prop where
  h : (a, OD.raw (.dT kvs)) ∈ O
instance (priority := high) (a : Addr) (kvs : List (List L2.Key × V)) (O : List (Addr × OD)) : Dz a ((a, .raw (.dT kvs)) :: O) kvs := ⟨List.mem_cons_self⟩
instance (a : Addr) (kvs : List (List L2.Key × V)) (c : Addr × OD) (O : List (Addr × OD)) [h : Dz a O kvs] : Dz a (c :: O) kvs := ⟨List.mem_cons_of_mem _ h.h⟩
/-- d[i] -/
theorem ix_dK {Φ : V → Sy → Prop} {q : Addr} {i : Int} {kvs : List (L2.Key × V)} {r : V} (C : Cn P w K mg base k N sc vb lb gs X) [d : Dk q O kvs] (e : valV kvs (.inl i) = some r) (h : Φ r ⟨F, O⟩) : Lift K (wIx X (.ref q) (.int i)) ⟨F, O⟩ Φ Ψ := by
  refine ix_of (ix_dict C.un1) (Lift.raw fun S H ok E Q qq => ?_)
  obtain ⟨_, o, ho, e2⟩ := ok.own q _ d.h
  cases e2
  exact ⟨q, r, rfl, by rw [← e]; exact DGet.k (k := .inl i) ho, qq _ _ S H ok (Stp.refl _ _ _) h⟩
/-- d[i] = v -/
theorem st_dK {Φ : Unit → Sy → Prop} {q : Addr} {i : Int} {kvs : List (L2.Key × V)} {v : V} (C : Cn P w K mg base k N sc vb lb gs X) (hz : kvs.length ≤ 1000000) (h : Φ () ⟨F, (q, .raw (.dK (putK kvs (.inl i) v))) :: O⟩) : Lift K (wSt X (.ref q) (.int i) v) ⟨F, (q, .raw (.dK kvs)) :: O⟩ Φ Ψ := by
  refine st_of (set_dict C.un1) (Lift.raw fun S H ok E Q qq => ?_)
  obtain ⟨_, o, ho, e2⟩ := ok.own q _ List.mem_cons_self
  cases e2
  obtain ⟨ok2, st⟩ := ok.set (u2 := .raw (.dK (putK kvs (.inl i) v))) (o2 := .dK (putK kvs (.inl i) v)) rfl
  exact ⟨q, _, rfl, DPut.k (k := .inl i) ho (Nat.lt_of_le_of_lt hz (by decide)), qq _ _ S _ ok2 st h⟩
/-! the keys: a tuple that is written where it is used -/
def KyK (Φ : V → Sy → Prop) (q : V) (vs : List V) (y : Sy) : Prop := ∃ (ns : List Int) (a : Addr) (kvs : List (List L2.Key × V)) (r : V), q = .ref a ∧ vs = ns.map V.int ∧ ns.length ≤ 100 ∧ (a, OD.raw (.dT kvs)) ∈ y.O ∧ valV kvs (ky ns) = some r ∧ Φ r y
theorem l_ixT {Φ : V → Sy → Prop} {es : List Expr} {kk : Nat} (C : Cn P w K mg base k N sc vb lb gs X) [m : PlIx (.Tuple es kk p2)] (h : Lift K (wE X a σ) y (fun q y1 => Lift K (wA X es σ) y1 (KyK Φ q) Ψ) Ψ) : Lift K (wE X (.Subscript a (.Tuple es kk p2) pos) σ) y Φ Ψ := by
  refine l_ix m.h (h.mono (fun q z f => l_tupR (f.mono (fun vs z2 ⟨ns, t, kvs, r, e1, e2, hl, hm, hv, g⟩ => ?_) fun _ _ q => q)) fun _ _ q => q)
  subst e1
  subst e2
  refine ⟨by rw [List.length_map]; omega, fun s => ?_⟩
  refine ix_of (ix_dict C.un1) (Lift.raw fun S H ok E Q qq => ?_)
  obtain ⟨_, o, ho, e2⟩ := ok.own t _ (List.mem_cons_of_mem _ hm)
  cases e2
  obtain ⟨_, o2, ho2, e3⟩ := ok.own s _ List.mem_cons_self
  cases e3
  refine ⟨t, r, rfl, by rw [← hv]; exact DGet.t ho (by rw [ky_kV]; exact ho2), ?_⟩
  exact qq _ z2 S H ⟨ok.sub, ok.fac, fun q u m => ok.own q u (List.mem_cons_of_mem _ m), (List.nodup_cons.mp ok.nd).2⟩ ⟨fun _ _ h _ => h, fun _ o h => ⟨o, h⟩, Sub.refl S, fun _ o h => .inl ⟨o, h⟩, fun q m => .inl (List.mem_cons_of_mem _ m)⟩ g
instance (priority := high) {Φ : V → Sy → Prop} {es : List Expr} {kk : Nat} [C : Cn P w K mg base k N sc vb lb gs X] [m : PlIx (.Tuple es kk p2)] : Step (Lift K (wE X (.Subscript a (.Tuple es kk p2) pos) σ) y Φ Ψ) (Lift K (wE X a σ) y (fun q y1 => Lift K (wA X es σ) y1 (KyK Φ q) Ψ) Ψ) := ⟨l_ixT C⟩
/-- values that are ints -/
class IntsV (vs : List V) (ns : outParam (List Int)) : Prop where
  h : vs = ns.map V.int
instance : IntsV [] [] := ⟨rfl⟩
instance (i : Int) (vs : List V) (ns : List Int) [m : IntsV vs ns] : IntsV (.int i :: vs) (i :: ns) := ⟨by rw [m.h]; rfl⟩
instance {Φ : V → Sy → Prop} {q : Addr} {vs : List V} {ns : List Int} {kvs : List (List L2.Key × V)} [m : IntsV vs ns] [s : Sm 64 vs] [d : Dz q O kvs] : Step (KyK Φ (.ref q) vs ⟨F, O⟩) (∃ r, valV kvs (ky ns) = some r ∧ Φ r ⟨F, O⟩) := ⟨fun ⟨r, h1, h2⟩ => ⟨ns, q, kvs, r, rfl, m.h, by
  have := s.h
  rw [m.h, List.length_map] at this
  omega, d.h, h1, h2⟩⟩
/-- (..) in d -/
def InK (Φ : V → Sy → Prop) (vs : List V) (q : V) (y : Sy) : Prop := ∃ (ns : List Int) (a : Addr) (kvs : List (List L2.Key × V)), q = .ref a ∧ vs = ns.map V.int ∧ ns.length ≤ 100 ∧ (a, OD.raw (.dT kvs)) ∈ y.O ∧ Φ (.bl (valV kvs (ky ns)).isSome) y
/-- d[(..)] = v -/
def StK (Φ : Unit → Sy → Prop) (v q : V) (vs : List V) (y : Sy) : Prop := ∃ (ns : List Int) (a : Addr) (kvs : List (List L2.Key × V)) (O : List (Addr × OD)), q = .ref a ∧ vs = ns.map V.int ∧ ns.length ≤ 100 ∧ y.O = (a, .raw (.dT kvs)) :: O ∧ kvs.length ≤ 1000000 ∧ Φ () ⟨y.F, (a, .raw (.dT (putK kvs (ky ns) v))) :: O⟩
theorem g_setT {Φ : L2.St → Sy → Prop} {es : List Expr} {kk : Nat} {v : V} (C : Cn P w K mg base k N sc vb lb gs X) [m : SubT (.Tuple es kk p2)] (h : Lift K (wE X a σ) y (fun q y1 => Lift K (wA X es σ) y1 (StK (fun _ z => Φ σ z) v q) Ψ) Ψ) : Lift K (wG X (.Subscript a (.Tuple es kk p2) pos) v σ) y Φ Ψ := by
  refine g_sub (m.h _ _ _) (h.mono (fun q z f => l_tupR (f.mono (fun vs z2 ⟨ns, t, kvs, O, e1, e2, hl, hO, hz, g⟩ => ?_) fun _ _ q => q)) fun _ _ q => q)
  subst e1
  subst e2
  obtain ⟨F2, O2⟩ := z2
  cases hO
  refine ⟨by rw [List.length_map]; omega, fun s => ?_⟩
  refine st_of (set_dict C.un1) (Lift.raw fun S H ok E Q qq => ?_)
  obtain ⟨_, o, ho, e2⟩ := ok.own t _ (List.mem_cons_of_mem _ List.mem_cons_self)
  cases e2
  obtain ⟨_, o2, ho2, e3⟩ := ok.own s _ List.mem_cons_self
  cases e3
  have ok1 : OkS K ⟨F2, (t, .raw (.dT kvs)) :: O⟩ S H := ⟨ok.sub, ok.fac, fun q u m => ok.own q u (List.mem_cons_of_mem _ m), (List.nodup_cons.mp ok.nd).2⟩
  obtain ⟨ok2, st⟩ := ok1.set (u2 := .raw (.dT (putK kvs (ky ns) v))) (o2 := .dT (putK kvs (ky ns) v)) rfl
  refine ⟨t, _, rfl, DPut.t ho (by rw [ky_kV]; exact ho2) (Nat.lt_of_le_of_lt hz (by decide)), ?_⟩
  have st0 : Stp ((s, .raw (.tup (ns.map V.int))) :: (t, .raw (.dT kvs)) :: O) S H ((t, .raw (.dT kvs)) :: O) S H := ⟨fun _ _ h _ => h, fun _ o h => ⟨o, h⟩, Sub.refl S, fun _ o h => .inl ⟨o, h⟩, fun q m => .inl (List.mem_cons_of_mem _ m)⟩
  exact qq _ _ S _ ok2 (st0.trans st) g
instance (priority := high) {Φ : L2.St → Sy → Prop} {es : List Expr} {kk : Nat} {v : V} [C : Cn P w K mg base k N sc vb lb gs X] [m : SubT (.Tuple es kk p2)] : Step (Lift K (wG X (.Subscript a (.Tuple es kk p2) pos) v σ) y Φ Ψ) (Lift K (wE X a σ) y (fun q y1 => Lift K (wA X es σ) y1 (StK (fun _ z => Φ σ z) v q) Ψ) Ψ) := ⟨g_setT C⟩
instance {Φ : Unit → Sy → Prop} {q : Addr} {v : V} {vs : List V} {ns : List Int} {kvs : List (List L2.Key × V)} [m : IntsV vs ns] [s : Sm 64 vs] : Step (StK Φ v (.ref q) vs ⟨F, (q, .raw (.dT kvs)) :: O⟩) (kvs.length ≤ 1000000 ∧ Φ () ⟨F, (q, .raw (.dT (putK kvs (ky ns) v))) :: O⟩) := ⟨fun ⟨h1, h2⟩ => ⟨ns, q, kvs, O, rfl, m.h, by
  have := s.h
  rw [m.h, List.length_map] at this
  omega, rfl, h1, h2⟩⟩
end
end Yl

/-! (..) in d; list(d.values()); pairs of owned things, told and taken apart -/
namespace Yl
open PySem PySem.Spec PyProof.Rows L2
theorem noD_raw {h : Heap} {a : Addr} {es : Array DictEntry} {ep : Nat} (r : h.DictRaw a es ep) : ∀ b, Value.ref a = .ref b → ∃ ob, h.get? b = some ob ∧ ob.dict = none := fun b e => by
  cases e
  obtain ⟨o, ho, hx, _⟩ := r
  exact ⟨o, ho, hx.2.1⟩
/-- a dict's values, in order -/
def DVals (H : Hp) (a : Addr) (vs : List V) : Prop := (∃ kvs : List (L2.Key × V), H a = some (.dK kvs) ∧ vs = kvs.map (·.2)) ∨ ∃ kvs : List (List L2.Key × V), H a = some (.dT kvs) ∧ vs = kvs.map (·.2)
theorem DVals.raw {P : Program} {w : World} {H : Hp} {h : Heap} {a : Addr} {vs : List V} (d : DVals H a vs) (ok : HOk P w H h) : vs.length ≤ sizeLine ∧ (a == sysModules) = false ∧ ∃ es ep, h.DictRaw a es ep ∧ es.size = vs.length ∧ ∀ (i : Nat) (hi : i < es.size), ∃ v, vs[i]? = some v ∧ RelV v es[i].val := by
  rcases d with ⟨kvs, hd, rfl⟩ | ⟨kvs, hd, rfl⟩
  · obtain ⟨z, hs, ws, rel, dof⟩ := dk_of ok hd
    obtain ⟨es, ep, r, hz, hv⟩ := dof.raw
    have hl := KV.length rel
    refine ⟨by rw [List.length_map]; exact z, hs, es, ep, r, by rw [List.length_map, hz, hl], fun i hi => ?_⟩
    have hi2 : i < ws.length := hz ▸ hi
    have e : ws[i]? = some (ws[i].1, ws[i].2) := List.getElem?_eq_getElem hi2
    obtain ⟨x, h1, h2⟩ := KV.at' rel e
    refine ⟨x, by rw [List.getElem?_map, h1]; rfl, ?_⟩
    rw [(hv i hi _ _ e).2]
    exact h2
  · obtain ⟨z, hs, xs, rel, dof⟩ := dt_of ok hd
    obtain ⟨es, ep, r, hz, hv⟩ := dof.raw
    have hl : kvs.length = xs.length := Paired.length rel
    refine ⟨by rw [List.length_map]; exact z, hs, es, ep, r, by rw [List.length_map, hz, hl], fun i hi => ?_⟩
    obtain ⟨y, hy, _, h3, _⟩ := hv i hi
    have aux : ∀ {l : List (List L2.Key × V)} {m : List (List L2.Key × Addr × Value)}, KT H l m → ∀ {i : Nat} {q : List L2.Key × Addr × Value}, m[i]? = some q → ∃ p, l[i]? = some p ∧ RelV p.2 q.2.2 := by
      intro l m t
      induction t with
      | nil =>
        intro i q e
        simp at e
      | cons r t ih =>
        intro i q e
        cases i with
        | zero =>
          cases e
          exact ⟨_, rfl, r.2.2⟩
        | succ i => exact ih (i := i) e
    obtain ⟨p, h1, h2⟩ := aux rel hy
    refine ⟨p.2, by rw [List.getElem?_map, h1]; rfl, ?_⟩
    rw [h3]
    exact h2
theorem vals_all : ∀ {vs : List V} {us : List Value}, vs.length = us.length → (∀ (j : Nat) v u, vs[j]? = some v → us[j]? = some u → RelV v u) → Vals vs us
  | [], [], _, _ => .nil
  | [], _ :: _, h, _ => by simp at h
  | _ :: _, [], h, _ => by simp at h
  | v :: vs, u :: us, h, f => .cons (f 0 v u rfl rfl) (vals_all (by simpa using h) fun j a b h1 h2 => f (j + 1) a b h1 h2)
def tLstVals (td : TE) : TE := fun σ H Q => td σ H fun x H1 => ∃ a vs, x = .ref a ∧ DVals H1 a vs ∧ ∀ q, H1 q = none → Q (.ref q) (upd H1 q (.lst vs))
section
variable {X : Cx} {o : Expr} {p pos apos mpos : Pos} {td : TE}
theorem pe_listVals (hc : X.calm = true) (hg : Gl X "list") (hm : X.mg "list" = none) (ho : PE X o td) (hbase : attributeBase o "values" X.env (eval o X.env) = eval o X.env := by rfl) (hline : (apos.endLine == mpos.line) = true := by rfl)
    (na : starEach [Expr.Call (.Attribute o "values" apos) [] [] mpos] X.env = (false, eval (Expr.Call (.Attribute o "values" apos) [] [] mpos) X.env) :: starEach [] X.env := by rfl) :
    PE X (.Call (.Name "list" p) [.Call (.Attribute o "values" apos) [] [] mpos] [] pos) (tLstVals td) := by
  refine ⟨fun pins s σ H Q I h => ?_⟩
  refine Call_ (ld_blt I hg hm boot_list (PyProof.Rows.callWith_type1 (args_cons (wpAny_Call_method (T := "dict") (id := "dict.values") hbase rfl hline F.plainAttrs_dict F.slot_dict_values F.type_dict_values (thn (ho.run pins s σ H _ I h) fun u s1 ⟨x, H1, I1, rx, a, vs, ex, hd, q⟩ => ?_)) na) na))
  subst ex
  obtain rfl : u = Value.ref a := rx
  obtain ⟨hz, hs, es, ep, raw, hsz, hv⟩ := hd.raw I1.hok
  refine ⟨raw.typeIs, noD_raw raw, ?_⟩
  have I2 : Inv X pins σ H1 { s1 with heap := s1.heap.push { cls := .type "dict_values", data := .fields #[.ref a] } } := I1.kept (t' := s1.toks) fun b ob q => Heap.get?_push_of_some _ q
  have raw2 : (s1.heap.push { cls := .type "dict_values", data := .fields #[.ref a] }).DictRaw a es ep := raw.at fun o e => Heap.get?_push_of_some _ e
  show wpAny _ _ (callWith mpos (.builtin "dict.values") [.ref a] [] []) _ X.xe s1
  refine method_meetsIn F.slot_dict_values F.entry_dict_values rfl (PySem.evalArgs_none ⟨rfl, raw.typeIs, F.args_dict_values_1 _, _, meets_dict_values_raw a hs, ⟨es, ep, raw⟩, ?_⟩)
  refine args_nil ?_
  refine PySem.W.kdl_call (KdlSrc.rawValues (es := es) (ep := ep) (d := a)) (I2.ok.hd hc) ⟨⟨_, Heap.get?_push_size _ rfl, rfl, rfl⟩, raw2⟩ (by omega) fun h' tk acc' c' kp e it => ?_
  have rv : Vals vs acc'.toList := by
    have hl : acc'.toList.length = vs.length := by rw [Array.length_toList, it.1]; exact hsz
    refine vals_all hl.symm fun j v u h1 h2 => ?_
    obtain ⟨hi, e2⟩ := it.2 j u (by rw [← Array.getElem?_toList]; exact h2)
    obtain ⟨v2, e3, r2⟩ := hv j hi
    rw [h1] at e3
    cases e3
    rw [e2]
    exact r2
  refine ⟨.ref _, upd H1 _ (.lst vs), I2.laid (t' := tk) (o := .lst vs) kp (Nat.le_refl _) ?_, rfl, q _ (I2.hok.fresh (Nat.le_refl _))⟩
  exact ⟨hz, acc'.toList, c', rv, by rw [Array.toArray_toList]; exact e⟩
end
section
variable {P : Program} {w : World} {K : PySem.W.Frag} {mg : Str → Option Value} {base : Heap} {k : Nat} {N : List Str} {sc : Scope} {vb lb : List Bool} {gs : List Str} {X : Cx} {y : Sy} {σ σw : L2.St} {Ψ : Value → Sy → Prop} {a b c e : Expr} {pos p p2 apos mpos : Pos} {F : List (V × Dt)} {O : List (Addr × OD)} {rest : List Stmt}
/-- list(d.values()) -/
class PlainVal (o : Expr) : Prop where
  h : ∀ env : Env, attributeBase o "values" env (eval o env) = eval o env
instance (x : Str) (p : Pos) : PlainVal (.Name x p) := ⟨fun _ => rfl⟩
def LvK (Φ : V → Sy → Prop) (v : V) (y : Sy) : Prop := ∃ a vs ds, v = .ref a ∧ ((∃ kvs : List (L2.Key × V), (a, OD.raw (.dK kvs)) ∈ y.O ∧ vs = kvs.map (·.2)) ∨ ∃ kvs : List (List L2.Key × V), (a, OD.raw (.dT kvs)) ∈ y.O ∧ vs = kvs.map (·.2)) ∧ HsA y.F vs ds ∧ ∀ q, Φ (.ref q) ⟨y.F, (q, .lst ds) :: y.O⟩
theorem l_listVals {Φ : V → Sy → Prop} {o : Expr} (C : Cn P w K mg base k N sc vb lb gs X) (hg : ("list" : Str) ∈ gs) (hm : mg "list" = none) (hb : PlainVal o) (hline : (apos.endLine == mpos.line) = true) (h : Lift K (wE X o σ) y (LvK Φ) Ψ) :
    Lift K (wE X (.Call (.Name "list" p) [.Call (.Attribute o "values" apos) [] [] mpos] [] pos) σ) y Φ Ψ := by
  refine l_of (fun E tk => pe_listVals C.calm (C.gl _ hg).1 (by rw [C.hm]; exact hm) (pe_w tk) (hb.h _) hline rfl) ?_
  refine Lift.bind (T1 := wE X o σ) (T2 := fun x _ H1 Q => ∃ a vs, x = .ref a ∧ DVals H1 a vs ∧ ∀ q, H1 q = none → Q (.ref q) (upd H1 q (.lst vs))) (fun _ _ _ q => q) (h.mono (fun v z ⟨a, vs, ds, e, hd, hs, f⟩ => Lift.raw fun S H ok E Q q => ?_) fun _ _ q => q)
  refine ⟨a, vs, e, ?_, fun r hr => ?_⟩
  · rcases hd with ⟨kvs, m, e⟩ | ⟨kvs, m, e⟩
    · obtain ⟨_, o, ho, e2⟩ := ok.own a _ m
      cases e2
      exact .inl ⟨kvs, ho, e⟩
    · obtain ⟨_, o, ho, e2⟩ := ok.own a _ m
      cases e2
      exact .inr ⟨kvs, ho, e⟩
  · obtain ⟨ok2, st⟩ := ok.newO (o := .lst vs) (u := .lst ds) hr ⟨_, rfl, hs.rp ok⟩
    exact q _ _ _ _ ok2 st (f r)
instance (priority := high) {Φ : V → Sy → Prop} {o : Expr} {el c2 el2 ec c' el' ec' : Nat} [C : Cn P w K mg base k N sc vb lb gs X] [hg : GIn "list" gs] [hm : Bn mg "list"] [hb : PlainVal o] : Step (Lift K (wE X (.Call (.Name "list" p) [.Call (.Attribute o "values" ⟨el2, c2, el, ec⟩) [] [] ⟨el, c', el', ec'⟩] [] pos) σ) y Φ Ψ) (Lift K (wE X o σ) y (LvK Φ) Ψ) := ⟨l_listVals C hg.h hm.h hb (by show (el == el) = true; exact beq_self_eq_true _)⟩
theorem HsA.ints (ns : List Int) : HsA F (ns.map V.int) (ns.map .int) := by
  induction ns with
  | nil => exact .nil
  | cons n r ih => exact .cons (.int n) ih
/-- (..) in d -/
def InK2 (Φ : V → Sy → Prop) (s : Addr) (vs : List V) (q : V) (y : Sy) : Prop := ∃ (ns : List Int) (a : Addr) (kvs : List (List L2.Key × V)) (O2 : List (Addr × OD)), q = .ref a ∧ vs = ns.map V.int ∧ y.O = (s, .raw (.tup vs)) :: O2 ∧ (a, OD.raw (.dT kvs)) ∈ O2 ∧ Φ (.bl (valV kvs (ky ns)).isSome) ⟨y.F, O2⟩
theorem l_inT {Φ : V → Sy → Prop} {es : List Expr} {kk : Nat} (C : Cn P w K mg base k N sc vb lb gs X) [m : NoMark b] (h : Lift K (wA X es σ) y (fun vs y1 => vs.length ≤ 1000000 ∧ ∀ s, Lift K (wE X b σ) ⟨y1.F, (s, .raw (.tup vs)) :: y1.O⟩ (InK2 Φ s vs) Ψ) Ψ) : Lift K (wE X (.Compare (.Tuple es kk p2) [.In] [b] pos) σ) y Φ Ψ := by
  refine l_cmp (m.h _) (l_tupR (h.mono (fun vs z ⟨hz, f⟩ => ⟨hz, fun s => (f s).mono (fun q z2 ⟨ns, a, kvs, O2, e1, e2, hO, hd, g⟩ => ?_) fun _ _ q => q⟩) fun _ _ q => q))
  obtain ⟨F2, O3⟩ := z2
  cases hO
  subst e1
  subst e2
  refine o_of (op_dict C.un1) (Lift.raw fun S H ok E Q qq => ?_)
  obtain ⟨_, o, ho, e2⟩ := ok.own a _ (List.mem_cons_of_mem _ hd)
  cases e2
  obtain ⟨_, o2, ho2, e3⟩ := ok.own s _ List.mem_cons_self
  cases e3
  refine ⟨a, _, rfl, DGet.t ho (by rw [ky_kV]; exact ho2), ?_⟩
  exact qq _ ⟨F2, O2⟩ S H ⟨ok.sub, ok.fac, fun q u m => ok.own q u (List.mem_cons_of_mem _ m), (List.nodup_cons.mp ok.nd).2⟩ ⟨fun _ _ h _ => h, fun _ o h => ⟨o, h⟩, Sub.refl S, fun _ o h => .inl ⟨o, h⟩, fun q m => .inl (List.mem_cons_of_mem _ m)⟩ g
instance (priority := high) {Φ : V → Sy → Prop} {es : List Expr} {kk : Nat} [C : Cn P w K mg base k N sc vb lb gs X] [m : NoMark b] : Step (Lift K (wE X (.Compare (.Tuple es kk p2) [.In] [b] pos) σ) y Φ Ψ) (Lift K (wA X es σ) y (fun vs y1 => vs.length ≤ 1000000 ∧ ∀ s, Lift K (wE X b σ) ⟨y1.F, (s, .raw (.tup vs)) :: y1.O⟩ (InK2 Φ s vs) Ψ) Ψ) := ⟨l_inT C⟩
/-- a, b = a pair of things that are owned -/
theorem g_rawT {Φ : L2.St → Sy → Prop} {e1 e2 : Expr} {kk : Nat} {t : Addr} {v1 v2 : V} (C : Cn P w K mg base k N sc vb lb gs X) [tt : Tr2 e1 e2] (h : Lift K (wGs X [e1, e2] [v1, v2] σ) ⟨F, O⟩ Φ Ψ) : Lift K (wG X (.Tuple [e1, e2] kk pos) (.ref t) σ) ⟨F, (t, .raw (.tup [v1, v2])) :: O⟩ Φ Ψ := by
  refine g_of (fun E tk => pg_tup C.calm (pgs_w tk) (tt.h1 _) (tt.h2 _)) ?_
  intro S H ok Q E q e
  obtain ⟨_, o, ho, e2⟩ := ok.own t _ List.mem_cons_self
  cases e2
  refine ⟨t, [v1, v2], rfl, SqT.of ho, rfl, ?_⟩
  refine Lift.drop h S H ok Q E q e
end
end Yl

/-! pairs of owned things that stay, read -/
namespace Yl
open PySem PySem.Spec PyProof.Rows L2
section
variable {P : Program} {w : World} {K : PySem.W.Frag} {mg : Str → Option Value} {base : Heap} {k : Nat} {N : List Str} {sc : Scope} {vb lb : List Bool} {gs : List Str} {X : Cx} {y : Sy} {σ σw : L2.St} {Ψ : Value → Sy → Prop} {a b c e : Expr} {pos p p2 apos mpos : Pos} {F : List (V × Dt)} {O : List (Addr × OD)} {rest : List Stmt}
/-- a tuple that is held -/
class Tu (t : Addr) (O : List (Addr × OD)) (vs : outParam (List V)) : Prop where
  h : (t, OD.raw (.tup vs)) ∈ O
instance (priority := high) (t : Addr) (vs : List V) (O : List (Addr × OD)) : Tu t ((t, .raw (.tup vs)) :: O) vs := ⟨List.mem_cons_self⟩
instance (t : Addr) (vs : List V) (c : Addr × OD) (O : List (Addr × OD)) [h : Tu t O vs] : Tu t (c :: O) vs := ⟨List.mem_cons_of_mem _ h.h⟩
theorem g_rawM {Φ : L2.St → Sy → Prop} {e1 e2 : Expr} {kk : Nat} {t : Addr} {v1 v2 : V} (C : Cn P w K mg base k N sc vb lb gs X) [tt : Tr2 e1 e2] [m : Tu t O [v1, v2]] (h : Lift K (wGs X [e1, e2] [v1, v2] σ) ⟨F, O⟩ Φ Ψ) : Lift K (wG X (.Tuple [e1, e2] kk pos) (.ref t) σ) ⟨F, O⟩ Φ Ψ := by
  refine g_of (fun E tk => pg_tup C.calm (pgs_w tk) (tt.h1 _) (tt.h2 _)) ?_
  intro S H ok Q E q e
  obtain ⟨_, o, ho, e2⟩ := ok.own t _ m.h
  cases e2
  exact ⟨t, [v1, v2], rfl, SqT.of ho, rfl, h S H ok Q E q e⟩
theorem ix_tu {Φ : V → Sy → Prop} {t : Addr} {vs : List V} {i : Int} {v : V} (hK : X.K = K) [m : Tu t O vs] (e : atI vs i = some v) (h : Φ v ⟨F, O⟩) : Lift K (wIx X (.ref t) (.int i)) ⟨F, O⟩ Φ Ψ := by
  refine ix_of ix_tup (Lift.raw fun S H ok E Q q => ?_)
  obtain ⟨_, o, ho, e2⟩ := ok.own t _ m.h
  cases e2
  exact ⟨t, vs, i, v, rfl, rfl, SqT.of ho, e, q _ _ S H ok (Stp.refl _ _ _) h⟩
instance (a b : Expr) (p : Pos) : PlainVal (.Subscript a b p) := ⟨fun _ => rfl⟩
end
end Yl

/-! a row not in a list of rows; range(i, j, c) -/
namespace Yl
open PySem PySem.Spec PyProof.Rows L2
theorem any_rows (r : List Int) : ∀ rows : List (List Int), ((nsD rows).any fun z => PyData.eqv z (.list (r.map .int))) = decide (r ∈ rows)
  | [] => by simp [nsD]
  | x :: rows => by
    have ih := any_rows r rows
    have e : PyData.eqv (.list (x.map .int)) (.list (r.map .int)) = decide (x = r) := eqv_ints x r
    unfold nsD at ih ⊢
    rw [List.map_cons, List.any_cons, ih, e]
    by_cases h : x = r
    · subst h
      simp
    · have h2 : ¬ r = x := fun e => h e.symm
      simp [h, h2]
section
variable {P : Program} {w : World} {K : PySem.W.Frag} {mg : Str → Option Value} {base : Heap} {k : Nat} {N : List Str} {sc : Scope} {vb lb : List Bool} {gs : List Str} {X : Cx} {y : Sy} {σ σw : L2.St} {Ψ : Value → Sy → Prop} {a b c e : Expr} {pos p p2 apos mpos : Pos} {F : List (V × Dt)} {O : List (Addr × OD)} {rest : List Stmt}
theorem shapedL_ints (ns : List Int) : SeqAt.shaped (.list (ns.map .int)) = true := by
  have : Pln (.list (ns.map PyData.int)) (0 + 1) := inferInstance
  exact Pln.shaped (n := 0 + 1) (by decide)
theorem plainL_ints (ns : List Int) : plainD (.list (ns.map .int)) = true := by
  have : Pln (.list (ns.map PyData.int)) (0 + 1) := inferInstance
  exact this.h1
theorem o_notInR {Φ : V → Sy → Prop} (C : Cn P w K mg base k N sc vb lb gs X) {v u : V} {ns : List Int} {rows : List (List Int)} (h1 : Rb y v (.list (ns.map .int))) (h2 : Rb y u (.list (nsD rows))) (f : Φ (.bl (!decide (ns ∈ rows))) y) : Lift K (wO X (compareOp .NotIn) v u) y Φ Ψ := by
  have hu : X.A.units + 65 < cLine := by
    have := C.room.un
    omega
  refine o_of (op_notInD hu) (Lift.raw fun S H ok E Q q => ?_)
  rw [C.hK]
  refine ⟨_, _, h1.dp ok (plainL_ints ns), h2.dp ok (plain_nss rows), shapedL_ints ns, shaped_nss rows, ?_⟩
  rw [any_rows]
  exact q _ y S H ok (Stp.refl _ _ _) f
end
/-- from lo by c, n of them -/
def rngC (lo c : Int) (n : Nat) : List Dt := (List.range n).map fun i => PyData.int (lo + (i : Nat) * c)
theorem rngC_len (lo c : Int) (n : Nat) : (rngC lo c n).length = n := by
  unfold rngC
  rw [List.length_map, List.length_range]
theorem rngC_at {lo c : Int} {n i : Nat} {d : Dt} (h : (rngC lo c n)[i]? = some d) : i < n ∧ d = .int (lo + (i : Nat) * c) := by
  have h1 := (List.getElem?_eq_some_iff.mp h).1
  rw [rngC_len] at h1
  refine ⟨h1, ?_⟩
  unfold rngC at h
  rw [List.getElem?_map, List.getElem?_range h1] at h
  cases h
  rfl
theorem RgC.up {n c : Int} (hn : 0 ≤ n) (hn2 : n ≤ 1000000) (hc : 0 < c) (hc2 : c ≤ 1000000) : ∃ m : Nat, RgC 0 n c m ∧ ∀ i : Nat, i < m → (i : Int) * c < n := by
  refine ⟨(Builtin.Range.rangeSize 0 n c).toNat, ⟨by omega, by omega, ?_, ?_⟩, fun i hi => ?_⟩
  · unfold Builtin.Range.small
    have hz : 0 ≤ Builtin.Range.rangeSize 0 n c ∧ Builtin.Range.rangeSize 0 n c ≤ 1000000 := by
      unfold Builtin.Range.rangeSize
      rw [if_pos hc]
      by_cases h : 0 < n
      · rw [if_pos h]
        have h1 := Int.ediv_nonneg (a := n - 0 - 1) (b := c) (by omega) (by omega)
        have h2 : (n - 0 - 1) / c ≤ n - 0 - 1 := Int.ediv_le_self _ (by omega)
        omega
      · rw [if_neg h]
        omega
    simp only [Builtin.Range.rangeFitsLong, Bool.and_eq_true, Bool.or_eq_true, decide_eq_true_eq, beq_iff_eq, show c > 0 from hc, if_true]
    omega
  · unfold Builtin.Range.rangeSize
    rw [if_pos hc]
    by_cases h : 0 < n
    · rw [if_pos h]
      have := Int.ediv_nonneg (a := n - 0 - 1) (b := c) (by omega) (by omega)
      omega
    · rw [if_neg h]
      rfl
  · unfold Builtin.Range.rangeSize at hi
    rw [if_pos hc] at hi
    by_cases h : 0 < n
    · rw [if_pos h] at hi
      have h2 : (i : Int) ≤ (n - 0 - 1) / c := by omega
      have h3 := Int.mul_le_mul_of_nonneg_right h2 (Int.le_of_lt hc)
      have h4 := Int.ediv_mul_le (n - 0 - 1) (b := c) (by omega)
      omega
    · rw [if_neg h] at hi
      exact absurd hi (Nat.not_lt_zero _)
section
variable {P : Program} {w : World} {K : PySem.W.Frag} {mg : Str → Option Value} {base : Heap} {k : Nat} {N : List Str} {sc : Scope} {vb lb : List Bool} {gs : List Str} {X : Cx} {y : Sy} {σ σw : L2.St} {Ψ : Value → Sy → Prop} {a b c e : Expr} {pos p p2 apos mpos : Pos} {F : List (V × Dt)} {O : List (Addr × OD)} {rest : List Stmt}
/-- range(0, n, c) -/
theorem i_rangeC {Φ : It → Sy → Prop} {tg : Expr} [C : Cn P w K mg base k N sc vb lb gs X] [bn : Bn mg "range"] [hg : GIn "range" gs] [m : NoStar a] [m2 : NoStar b] [m3 : NoStar c]
    (h : Lift K (wA X [a, b, c] σ) y (fun vs y1 => ∃ n j : Int, vs = [.int 0, .int n, .int j] ∧ 0 ≤ n ∧ n ≤ 1000000 ∧ 0 < j ∧ j ≤ 1000000 ∧ ∀ J m, (∀ i : Nat, i < m → (i : Int) * j < n) → Sr K J y1 (rngC 0 j m) → Φ J y1) Ψ) : Lift K (wI X tg (.Call (.Name "range" p) [a, b, c] [] pos) σ) y Φ Ψ := by
  refine i_of (fun E tk => pi_range3 (C.gl _ hg.h).1 (by rw [C.hm]; exact bn.h) (pa_w tk) (by rw [m.h]) (by rw [m2.h, m3.h]; rfl)) (Lift.bind (T1 := wA X [a, b, c] σ) (T2 := fun vs _ H R => ∃ (i j c : Int) (n : Nat), vs = [.int i, .int j, .int c] ∧ RgC i j c n ∧ R (Itc i c n) H) (fun _ _ _ q => q)
    (h.mono (fun v z ⟨n, j, e, h1, h2, h3, h4, f⟩ => ?_) fun _ _ q => q))
  obtain ⟨m, hm, hb⟩ := RgC.up h1 h2 h3 h4
  exact Lift.ret (r := Itc 0 j m) (fun _ _ _ q => ⟨0, n, j, m, e, hm, q⟩) (f _ m hb Sr.rangeC)
end
end Yl

/-! <= of lists of ints; name = f(..) in a try -/
namespace Yl
open PySem PySem.Spec PyProof.Rows
open L2 hiding prD
/-- whether a list of ints is no greater -/
def leI (ns ms : List Int) : Bool := SeqAt.firstLt (fun j => decide (ns.getD j 0 = ms.getD j 0)) (fun j => decide (ns.getD j 0 ≤ ms.getD j 0)) (decide (ns.length ≤ ms.length)) (List.range (min ns.length ms.length))
theorem first_no {e r : Nat → Bool} {z : Bool} {j : Nat} (hj : e j = false) (hr : r j = false) : ∀ (k i : Nat), i ≤ j → j < i + k → (∀ m, i ≤ m → m < j → e m = true) → SeqAt.firstLt e r z (List.range' i k) = false
  | 0, i, h1, h2, _ => absurd h2 (by omega)
  | k + 1, i, h1, h2, h => by
    rw [List.range'_succ]
    by_cases c : i = j
    · subst c
      rw [SeqAt.firstLt_no hj, hr]
    · rw [SeqAt.firstLt_yes (h i (Nat.le_refl _) (by omega))]
      exact first_no hj hr k (i + 1) (by omega) (by omega) fun m a b => h m (by omega) b
/-- greater at the first place at which they differ -/
theorem leI_no {ns ms : List Int} {j : Nat} {a b : Int} (h1 : ns[j]? = some a) (h2 : ms[j]? = some b) (hlt : b < a) (h : ∀ m, m < j → ns[m]? = ms[m]?) : leI ns ms = false := by
  have l1 := (List.getElem?_eq_some_iff.mp h1).1
  have l2 := (List.getElem?_eq_some_iff.mp h2).1
  unfold leI
  rw [List.range_eq_range']
  refine first_no (j := j) ?_ ?_ _ 0 (Nat.zero_le _) (by omega) fun m _ hm => ?_
  · rw [List.getD_eq_getElem?_getD, List.getD_eq_getElem?_getD, h1, h2]
    exact decide_eq_false (by show ¬ a = b; omega)
  · rw [List.getD_eq_getElem?_getD, List.getD_eq_getElem?_getD, h1, h2]
    exact decide_eq_false (by show ¬ a ≤ b; omega)
  · rw [List.getD_eq_getElem?_getD, List.getD_eq_getElem?_getD, h m hm]
    exact decide_eq_true rfl
theorem op_leL {X : Cx} (hu : X.A.units < cLine) : OpR X (compareOp .LtE) (fun x y H Q => ∃ (a b : Addr) (ns ms : List Int), x = .ref a ∧ y = .ref b ∧ SqL X.K H a (ns.map V.int) ∧ SqL X.K H b (ms.map V.int) ∧ Q (.bl (leI ns ms)) H) := by
  intro pins s σ H x y v u Q I rx ry h
  obtain ⟨a, b, ns, ms, rfl, rfl, ha, hb, q⟩ := h
  cases rx
  cases ry
  obtain ⟨its, r1, p1, _⟩ := I.list ha
  obtain ⟨its2, r2, p2, _⟩ := I.list hb
  have i1 : IntsAre its ns := Vals.ints r1
  have i2 : IntsAre its2 ms := Vals.ints r2
  have e1 : its.toArray.size = ns.length := by rw [List.size_toArray]; exact i1.length
  have e2 : its2.toArray.size = ms.length := by rw [List.size_toArray]; exact i2.length
  have at1 : ∀ j (h1 : j < its.toArray.size), ∃ t, its.toArray[j] = .int (ns.getD j 0) t := fun j h1 => PyProof.Rows.IntsAre.int_at i1 _ _ (by simp at h1; simp [h1])
  have at2 : ∀ j (h1 : j < its2.toArray.size), ∃ t, its2.toArray[j] = .int (ms.getD j 0) t := fun j h1 => PyProof.Rows.IntsAre.int_at i2 _ _ (by simp at h1; simp [h1])
  have R := SeqAt.RcOp.lists_le (A := X.A) (s := s) (e := fun j => decide (ns.getD j 0 = ms.getD j 0)) (r := fun j => decide (ns.getD j 0 ≤ ms.getD j 0)) p1.isList p2.isList hu (fun j h1 h2 => by
    obtain ⟨t, et⟩ := at1 j h1
    obtain ⟨t', et'⟩ := at2 j h2
    rw [et, et']
    have z : (ns.getD j 0 == ms.getD j 0) = decide (ns.getD j 0 = ms.getD j 0) := by
      by_cases q : ns.getD j 0 = ms.getD j 0
      · rw [decide_eq_true q]; exact beq_iff_eq.mpr q
      · rw [decide_eq_false q]; exact beq_eq_false_iff_ne.mpr q
    rw [← z]
    exact SeqAt.EqAt.int_int _ _ _ _) (fun j h1 h2 _ => by
    obtain ⟨t, et⟩ := at1 j h1
    obtain ⟨t', et'⟩ := at2 j h2
    rw [et, et']
    exact fun _ _ _ _ h => PyProof.Rows.le_int h)
  rw [e1, e2] at R
  exact R X.prog X.w X.xe (EP X pins σ Q) ⟨.bl _, H, I, rfl, q⟩
section
variable {P : Program} {w : World} {K : PySem.W.Frag} {mg : Str → Option Value} {base : Heap} {k : Nat} {N : List Str} {sc : Scope} {vb lb : List Bool} {gs : List Str} {X : Cx} {y : Sy} {σ σw : L2.St} {Ψ : Value → Sy → Prop} {a b c e : Expr} {pos p p2 pos' : Pos} {F : List (V × Dt)} {O : List (Addr × OD)} {rest : List Stmt} {x z : Str}
theorem o_leL {Φ : V → Sy → Prop} (C : Cn P w K mg base k N sc vb lb gs X) {v u : V} {ns ms : List Int} (h1 : Rb y v (.list (ns.map .int))) (h2 : Rb y u (.list (ms.map .int))) (f : Φ (.bl (leI ns ms)) y) : Lift K (wO X (compareOp .LtE) v u) y Φ Ψ := by
  have hu : X.A.units < cLine := by
    have := C.room.un
    omega
  refine o_of (op_leL hu) (Lift.raw fun S H ok E Q q => ?_)
  obtain ⟨a, xs, rfl, ha, r⟩ := h1.lst ok
  obtain ⟨b, ys, rfl, hb, r2⟩ := h2.lst ok
  cases r.ints_inv
  cases r2.ints_inv
  rw [C.hK]
  exact ⟨a, b, ns, ms, rfl, rfl, SqL.of ha, SqL.of hb, q _ y S H ok (Stp.refl _ _ _) f⟩
/-- name = f(..) in a try -/
theorem tb_asg {Φ : Fl → Sy → Prop} {e : Expr} {es : List Expr} {nn : Nat} {R : RY} (i : Nat) (C : Cn P w K mg base k N sc vb lb gs X) (G : Cl P w K mg base x k nn R) (hg : x ∈ gs) (he : NoStar e) (hpl : NoStars es) (h1 : N[i]? = some z) (h2 : lb[i]? = some true)
    (hs : ∀ env : Env, swapsWithSole [Expr.Name z p2] (.Call (.Name x p) (e :: es) [] pos) pos'.line env = pure false) (hw : ∀ env : Env, swappedStores [Expr.Name z p2] (.Call (.Name x p) (e :: es) [] pos) env = pure none)
    (h : ∀ X2, Cn P w K mg base k N sc vb lb gs X2 → X2.A = X.A → Lift K (wA X2 (e :: es) σ) y (fun vs y1 => vs.length = nn ∧ R vs y1 (fun v z2 => Φ (.nx (σ.set i (some v))) z2) Ψ) NoX) : Lift K (wTB X [.Assign [.Name z p2] (.Call (.Name x p) (e :: es) [] pos) pos'] σ) y Φ Ψ := by
  obtain ⟨f, fd, ps, F, hm, hk, hb⟩ := G.h.ex
  intro S H ok Q E q e0 pn xe W tk pw hW pins s I
  have C2 := C.tr (pn := pn) pw
  have t0 : Tk (X.tr pn xe) (fun _ _ _ => False) := takes0
  have F' : FnOk (X.tr pn xe).prog (X.tr pn xe).w (X.tr pn xe).K (X.tr pn xe).mg (X.tr pn xe).base (L2.CX (X.tr pn xe).prog (X.tr pn xe).w) k f fd ps (SpY K nn R) := by
    rw [C2.hP, C2.hw, C2.hK, C2.hm, C2.hb]
    exact F
  obtain ⟨la, lb'⟩ := C2.loc i z h1 h2
  refine (pss_one (ps_asg (pos := pos') (pe_callS (E := WE W) (pos := pos) F' C2.room (C2.gl x hg).1 (by rw [C2.hm]; exact hm) (by rw [C2.hK]; exact hk) (by rw [C2.hK]; exact hb) (fun σ => passAt tk σ) (pa_w t0) (C2.gl x hg).2 (he.h _ _) (by rw [backTo_any]; exact hpl.h _)) (pg_name (i := i) C2.nd (by rw [C2.hN]; exact h1) la lb') (hs _) (hw _) rfl)).run pins s σ H (ends Q) I ?_
  refine h _ C2 rfl S H ok _ (fun _ _ _ => False) (fun vs z S' H' ok' st' f => ?_) (fun _ _ _ _ _ _ z => z.elim)
  exact ⟨f.1, z, S', _, _, ok', f.2, fun v y2 S2 H2 o2 t2 g => q _ y2 S2 H2 o2 (st'.trans t2) g, fun c y2 S2 H2 o2 t2 g => hW c H2 (e0 c y2 S2 H2 o2 (st'.trans t2) g)⟩
end
end Yl

/-! dicts that stand: walked, read by their own keys; min of alike data -/
namespace Yl
open PySem PySem.Spec PyProof.Rows
open L2 hiding prD
/-- a dict, locked or not -/
def DF (kvs : List (List L2.Key × V)) (o : HO) : Prop := o = .dT kvs ∨ ∃ od, o = .frz od (.dT kvs)
theorem upd_sw {S : Hp} {a b : Addr} {o u o2 : HO} (h1 : S a = some o) (q : S b = some u) (ne : o ≠ u) : upd S a o2 b = some u := by
  rw [upd_ne (fun e => by
    subst e
    rw [h1] at q
    exact ne (Option.some.inj q))]
  exact q
theorem DF.ne_lst {kvs : List (List L2.Key × V)} {o : HO} (h : DF kvs o) (xs : List V) : o ≠ .lst xs := by
  rcases h with rfl | ⟨_, rfl⟩ <;> exact fun e => nomatch e
theorem DF.ne_tup {kvs : List (List L2.Key × V)} {o : HO} (h : DF kvs o) (xs : List V) : o ≠ .tup xs := by
  rcases h with rfl | ⟨_, rfl⟩ <;> exact fun e => nomatch e
theorem DF.ne_ext {kvs : List (List L2.Key × V)} {o : HO} (h : DF kvs o) (p : Heap → Prop) : o ≠ .ext p := by
  rcases h with rfl | ⟨_, rfl⟩ <;> exact fun e => nomatch e
theorem DF.ne_dK {kvs : List (List L2.Key × V)} {o : HO} (h : DF kvs o) (ks : List (L2.Key × V)) : o ≠ .dK ks := by
  rcases h with rfl | ⟨_, rfl⟩ <;> exact fun e => nomatch e
theorem DF.ne_fl {kvs : List (List L2.Key × V)} {o : HO} (h : DF kvs o) (od : Obj) (xs : List V) : o ≠ .frz od (.lst xs) := by
  rcases h with rfl | ⟨_, rfl⟩
  · exact fun e => nomatch e
  · intro e
    injection e with _ e
    cases e
theorem DF.ne_ft {kvs : List (List L2.Key × V)} {o : HO} (h : DF kvs o) (od : Obj) (xs : List V) : o ≠ .frz od (.tup xs) := by
  rcases h with rfl | ⟨_, rfl⟩
  · exact fun e => nomatch e
  · intro e
    injection e with _ e
    cases e
section
variable {K : PySem.W.Frag} {S H : Hp} {a : Addr} {kvs : List (List L2.Key × V)} {o o2 : HO}
theorem DF.same {kvs' : List (List L2.Key × V)} (h : DF kvs o) (h' : o = .dT kvs' ∨ ∃ od, o = .frz od (.dT kvs')) : kvs' = kvs := by
  rcases h with rfl | ⟨od, rfl⟩
  · rcases h' with e | ⟨_, e⟩
    · injection e with e
      exact e.symm
    · cases e
  · rcases h' with e | ⟨_, e⟩
    · cases e
    · injection e with _ e
      injection e with e
      exact e.symm
mutual
theorem Rp.swap (h1 : S a = some o) (f : DF kvs o) (f2 : DF kvs o2) : ∀ {v : V} {d : Dt}, Rp K S v d → Rp K (upd S a o2) v d
  | _, _, .non => .non
  | _, _, .bl b => .bl b
  | _, _, .int i => .int i
  | _, _, .str x => .str x
  | _, _, .lst q r => .lst (upd_sw h1 q (f.ne_lst _)) (RpA.swap h1 f f2 r)
  | _, _, .tup q r => .tup (by
      rcases q with (q | ⟨od, q⟩) | q
      · exact .inl (.inl (upd_sw h1 q (f.ne_tup _)))
      · exact .inl (.inr ⟨od, upd_sw h1 q (f.ne_ft _ _)⟩)
      · exact .inr q) (RpA.swap h1 f f2 r)
  | _, _, .emp q => .emp (upd_sw h1 q (f.ne_dK _))
  | _, _, .one q => .one (upd_sw h1 q (f.ne_dK _))
  | _, _, .scr q => .scr (by
      rcases q with (q | ⟨od, q⟩) | q
      · exact .inl (.inl (upd_sw h1 q (f.ne_lst _)))
      · exact .inl (.inr ⟨od, upd_sw h1 q (f.ne_fl _ _)⟩)
      · exact .inr q)
  | _, _, .dct (a := b) (kvs := ks) q e r => .dct (by
      by_cases hb : b = a
      · subst hb
        have e2 : ks = kvs := f.same (by
          rcases q with q | ⟨od, q⟩
          · rw [h1] at q
            exact .inl (Option.some.inj q)
          · rw [h1] at q
            exact .inr ⟨od, Option.some.inj q⟩)
        subst e2
        rw [upd_same]
        rcases f2 with rfl | ⟨od, rfl⟩
        · exact .inl rfl
        · exact .inr ⟨od, rfl⟩
      · rw [upd_ne hb]
        exact q) e (RpA.swap h1 f f2 r)
  | _, _, .exc q q2 e1 e2 => .exc (upd_sw h1 q (f.ne_ext _)) (upd_sw h1 q2 (f.ne_tup _)) e1 e2
  | _, _, .tpk q => .tpk (upd_sw h1 q (f.ne_tup _))
theorem RpA.swap (h1 : S a = some o) (f : DF kvs o) (f2 : DF kvs o2) : ∀ {vs : List V} {ds : List Dt}, RpA K S vs ds → RpA K (upd S a o2) vs ds
  | _, _, .nil => .nil
  | _, _, .cons q r => .cons (Rp.swap h1 f f2 q) (RpA.swap h1 f f2 r)
end
theorem OkS.swap {y : Sy} (ok : OkS K y S H) (h1 : S a = some o) (f : DF kvs o) (f2 : DF kvs o2) : OkS K y (upd S a o2) (upd H a o2) := by
  have hH := ok.sub _ _ h1
  refine ⟨fun b u e => ?_, fun v d m => (ok.fac v d m).swap h1 f f2, fun p u m => ?_, ok.nd⟩
  · by_cases hb : b = a
    · subst hb
      rw [upd_same] at e ⊢
      exact e
    · rw [upd_ne hb] at e ⊢
      exact ok.sub b u e
  · obtain ⟨n, o', ho, r⟩ := ok.own p u m
    have ne : p ≠ a := fun e => by
      subst e
      rw [hH] at ho
      cases ho
      cases u with
      | lst ds =>
        obtain ⟨xs, e, _⟩ := r
        exact f.ne_lst _ e
      | raw u =>
        have r : o = u := r
        subst r
        have : (OD.raw o).isTup = false := by
          rcases f with rfl | ⟨_, rfl⟩ <;> rfl
        rw [n this] at h1
        cases h1
    refine ⟨fun t => by rw [upd_ne ne]; exact n t, o', by rw [upd_ne ne]; exact ho, ?_⟩
    cases u with
    | lst ds =>
      obtain ⟨xs, e, r⟩ := r
      exact ⟨xs, e, r.swap h1 f f2⟩
    | raw u => exact r
/-- back from the locked state -/
theorem Stp.unlock {O O' : List (Addr × OD)} {S' H' : Hp} (st : Stp O (upd S a o2) (upd H a o2) O' S' H') (h1 : S a = some o) (hH : H a = some o) : Stp O S H O' (upd S' a o) (upd H' a o) := by
  refine ⟨fun b u e n => ?_, fun b u e => ?_, fun b u e => ?_, fun b u e => ?_, fun p m => ?_⟩
  · by_cases hb : b = a
    · subst hb
      rw [upd_same, ← hH]
      exact e
    · rw [upd_ne hb]
      exact st.keep b u (by rw [upd_ne hb]; exact e) n
  · by_cases hb : b = a
    · subst hb
      exact ⟨o, upd_same⟩
    · rw [upd_ne hb]
      exact st.live b u (by rw [upd_ne hb]; exact e)
  · by_cases hb : b = a
    · subst hb
      rw [upd_same, ← h1]
      exact e
    · rw [upd_ne hb]
      exact st.sub b u (by rw [upd_ne hb]; exact e)
  · by_cases hb : b = a
    · subst hb
      exact .inl ⟨o, h1⟩
    · rw [upd_ne hb] at e
      rcases st.newS b u e with ⟨u', q⟩ | q | q | ⟨xs, q⟩
      · rw [upd_ne hb] at q
        exact .inl ⟨u', q⟩
      · exact .inr (.inl q)
      · rw [upd_ne hb] at q
        exact .inr (.inr (.inl q))
      · rw [upd_ne hb] at q
        exact .inr (.inr (.inr ⟨xs, q⟩))
  · rcases st.newO p m with q | q
    · exact .inl q
    · by_cases hb : p = a
      · subst hb
        rw [upd_same] at q
        cases q
      · rw [upd_ne hb] at q
        exact .inr q
/-- the keys of a standing dict -/
def keysD (es : List (List Int × Dt)) : List Dt := es.map fun e => tpD e.1
theorem keysD_len (es : List (List Int × Dt)) : (keysD es).length = es.length := List.length_map _
theorem keysD_at {es : List (List Int × Dt)} {i : Nat} {d : Dt} (h : (keysD es)[i]? = some d) : ∃ ns v, es[i]? = some (ns, v) ∧ d = tpD ns := by
  unfold keysD at h
  rw [List.getElem?_map] at h
  cases e : es[i]? with
  | none =>
    rw [e] at h
    cases h
  | some p =>
    rw [e] at h
    cases h
    exact ⟨p.1, p.2, rfl, rfl⟩
theorem SrW.keys {od : Obj} {es : List (List Int × Dt)} (h : S a = some (.frz od (.dT kvs))) (hk : kvs.map Prod.fst = es.map fun e => ky e.1) : ∃ G Y, SrW K (Itkt a od kvs) S (keysD es) G Y := by
  have hl : (keysD es).length = kvs.length := by
    rw [keysD_len]
    have := congrArg List.length hk
    rw [List.length_map, List.length_map] at this
    exact this.symm
  refine ⟨_, _, by rw [hl]; exact walk_keysT, fun S' H' s1 s2 => s2 _ _ (s1 _ _ h), fun i H1 x H2 d y' S' hd s1 ok' yy => ?_⟩
  obtain ⟨rfl, k, v, q, hkv, rfl, hq⟩ := yy
  obtain ⟨ns, dv, he, rfl⟩ := keysD_at hd
  have ek : k = ky ns := by
    have := congrArg (fun l => l[i]?) hk
    simp only [List.getElem?_map, hkv, he, Option.map_some] at this
    exact Option.some.inj this
  subst ek
  rw [ky_kV] at hq
  have sb : Sub S' (upd S' q (.tup (ns.map V.int))) := fun b u e => by
    by_cases hb : b = q
    · subst hb
      have := ok'.sub _ _ e
      rw [hq] at this
      rw [upd_same]
      exact this
    · rw [upd_ne hb]
      exact e
  refine ⟨upd S' q (.tup (ns.map V.int)), ⟨fun b u e => ?_, fun v d m => ?_, fun p u m => ?_, ok'.nd⟩, ⟨fun _ _ h _ => h, fun _ o h => ⟨o, h⟩, sb, fun b u e => ?_, fun _ m => .inl m⟩⟩
  · by_cases hb : b = q
    · subst hb
      rw [upd_same] at e
      rw [← e]
      exact hq
    · rw [upd_ne hb] at e
      exact ok'.sub b u e
  · rcases List.mem_cons.mp m with e | m
    · cases e
      exact .tpk upd_same
    · exact (ok'.fac v d m).mono sb
  · obtain ⟨n, o', ho, r⟩ := ok'.own p u m
    refine ⟨fun t => ?_, o', ho, r.mono sb⟩
    by_cases hb : p = q
    · subst hb
      rw [hq] at ho
      cases ho
      cases u with
      | lst ds =>
        obtain ⟨xs, e, _⟩ := r
        cases e
      | raw u =>
        have r : HO.tup (ns.map V.int) = u := r
        subst r
        cases t
    · rw [upd_ne hb]
      exact n t
  · by_cases hb : b = q
    · subst hb
      exact .inr (.inr (.inr ⟨_, hq⟩))
    · rw [upd_ne hb] at e
      exact .inl ⟨u, e⟩
theorem Rp.dct_inv {v : V} {es : List (List Int × Dt)} (h : Rp K S v (dctD es)) : ∃ a kvs es', v = .ref a ∧ dctD es' = dctD es ∧ (S a = some (.dT kvs) ∨ ∃ od, S a = some (.frz od (.dT kvs))) ∧ kvs.map Prod.fst = es'.map (fun e => ky e.1) ∧ RpA K S (kvs.map Prod.snd) (es'.map Prod.snd) := by
  generalize e : dctD es = d at h
  cases h with
  | dct q k r => exact ⟨_, _, _, rfl, rfl, q, k, r⟩
  | tpk _ =>
    injection e with e1
    injection e1 with e2 _
    injection e2 with e3 _
    cases e3
  | exc _ _ _ _ =>
    injection e with e1
    injection e1 with e2 _
    injection e2 with e3 _
    cases e3
  | emp q => injection e with e1; cases e1
  | one q =>
    injection e with e1
    injection e1 with e2 _
    injection e2 with _ e3
    cases e3
  | scr q =>
    injection e with e1
    injection e1 with e2 _
    injection e2 with _ e3
    cases e3
  | non => cases e
  | bl _ => cases e
  | int _ => cases e
  | str _ => cases e
  | lst _ _ => cases e
  | tup _ _ => cases e
end
theorem ints_map_inj : ∀ {a b : List Int}, a.map PyData.int = b.map PyData.int → a = b
  | [], [], _ => rfl
  | [], _ :: _, h => by cases h
  | _ :: _, [], h => by cases h
  | x :: r, z :: t, h => by
    rw [List.map_cons, List.map_cons] at h
    injection h with h1 h2
    injection h1 with h1
    rw [h1, ints_map_inj h2]
theorem dctD_inj {a b : List (List Int × Dt)} (h : dctD a = dctD b) : a = b := by
  unfold dctD at h
  injection h with h
  injection h with h _
  injection h with _ h
  injection h with h
  induction a generalizing b with
  | nil =>
    cases b with
    | nil => rfl
    | cons _ _ => cases h
  | cons x r ih =>
    cases b with
    | nil => cases h
    | cons z t =>
      rw [List.map_cons, List.map_cons] at h
      injection h with h1 h2
      injection h1 with h1
      injection h1 with h3 h4
      injection h3 with h3
      injection h4 with h4 _
      rw [ih h2, show x = z from Prod.ext (ints_map_inj h3) h4]
theorem Hs.tpk {K : PySem.W.Frag} {y : Sy} {S H : Hp} (ok : OkS K y S H) {v : V} {ns : List Int} (h : Hs y.F v (tpD ns)) : ∃ a, v = .ref a ∧ S a = some (.tup (ns.map V.int)) := by
  have r := h.rp ok
  generalize e : tpD ns = d at r
  cases r with
  | tpk q =>
    injection e with e
    injection e with e _
    injection e with _ e
    injection e with e
    rw [ints_map_inj e]
    exact ⟨_, rfl, q⟩
  | dct _ _ _ =>
    injection e with e1
    injection e1 with e2 _
    injection e2 with e3 _
    cases e3
  | exc _ _ _ _ =>
    injection e with e1
    injection e1 with e2 _
    injection e2 with e3 _
    cases e3
  | emp q => injection e with e1; cases e1
  | one q =>
    injection e with e1
    injection e1 with e2 _
    injection e2 with _ e3
    cases e3
  | scr q =>
    injection e with e1
    injection e1 with e2 _
    injection e2 with e3 _
    cases e3
  | non => cases e
  | bl _ => cases e
  | int _ => cases e
  | str _ => cases e
  | lst _ _ => cases e
  | tup _ _ => cases e
theorem Hs.dct {K : PySem.W.Frag} {y : Sy} {S H : Hp} (ok : OkS K y S H) {v : V} {es : List (List Int × Dt)} (h : Hs y.F v (dctD es)) : ∃ a kvs, v = .ref a ∧ (S a = some (.dT kvs) ∨ ∃ od, S a = some (.frz od (.dT kvs))) ∧ kvs.map Prod.fst = es.map (fun e => ky e.1) ∧ RpA K S (kvs.map Prod.snd) (es.map Prod.snd) := by
  obtain ⟨a, kvs, es', rfl, e, q, k, r⟩ := (h.rp ok).dct_inv
  cases dctD_inj e
  exact ⟨a, kvs, rfl, q, k, r⟩
end Yl

/-! a comprehension over a standing dict; reading it -/
namespace Yl
open PySem PySem.Spec PyProof.Rows
open L2 hiding prD
section
variable {P : Program} {w : World} {K : PySem.W.Frag} {mg : Str → Option Value} {base : Heap} {k : Nat} {N : List Str} {sc : Scope} {vb lb : List Bool} {gs : List Str} {X : Cx} {y : Sy} {σ σw : L2.St} {Ψ : Value → Sy → Prop} {a b c e : Expr} {pos p p2 : Pos} {F : List (V × Dt)} {O : List (Addr × OD)} {rest : List Stmt}
/-- [elt for tg in d if ..] over a dict that stands -/
theorem l_lcK {Φ : V → Sy → Prop} {tg iter elt : Expr} {ifs : List Expr} {scope : Scope} {own : List (Str × Nat)} {vb' lb' : List Bool} {gs' : List Str} {v : V} {es : List (List Int × Dt)} (C : Cn P w K mg base k N sc vb lb gs X) (ok : blkC N sc scope own = true) (ck : chkB (relS scope sc) N vb' lb' gs' = true) (hs : ∀ x, foldedSetIterable iter X.env x = pure x)
    (hd : Hs y.F v (dctD es)) (hz : es.length ≤ 1000000) (hn : ∀ Φ' : V → Sy → Prop, Φ' v y → Lift K (wE X iter σ) y Φ' NoX) (Iv : Nat → List Dt → Sy → Prop) (i0 : Iv 0 [] y)
    (turn : ∀ i d acc y' x, (keysD es)[i]? = some d → Iv i acc y' → ∀ X1, Cn P w K mg base k N (relS scope sc) vb' lb' gs' X1 → Lift K (wG X1 tg x (wipe σ (own.map (·.2)))) ⟨(x, d) :: y'.F, y'.O⟩ (fun σ2 y2 => wipe σ2 (own.map (·.2)) = wipe σ (own.map (·.2)) ∧
        ∀ X2, Cn P w K mg base k N (relS scope sc) vb' lb' gs' X2 → Lift K (wTs X2 ifs σ2) y2 (fun b y3 =>
          (b = true → ∀ X3, Cn P w K mg base k N (relS scope sc) vb' lb' gs' X3 → Lift K (wE X3 elt σ2) y3 (fun v y4 => ∃ u, Hs y4.F v u ∧ Iv (i + 1) (acc ++ [u]) y4) F0) ∧ (b = false → Iv (i + 1) acc y3)) F0) F0)
    (done : ∀ acc y', acc.length ≤ (keysD es).length → Iv (keysD es).length acc y' → ∀ p, Φ (.ref p) ⟨y'.F, (p, .lst acc) :: y'.O⟩) : Lift K (wE X (.ListComp elt [⟨tg, iter, ifs, 0⟩] scope pos) σ) y Φ Ψ := by
  intro S H okS Q E q e
  obtain ⟨d, kvs, rfl, hS, hk, hr⟩ := hd.dct okS
  have core : ∀ S2 H2 (ok2 : OkS K y S2 H2) (od : Obj) (hd2 : S2 d = some (.frz od (.dT kvs))) (Q2 : V → Hp → Prop), (∀ r y' S' H', OkS K y' S' H' → Stp y.O S2 H2 y'.O S' H' → Φ r y' → Q2 r H') → rLc X tg iter elt ifs scope (own.map (·.2)) σ E H2 Q2 := by
    intro S2 H2 ok2 od hd2 Q2 q2
    show wI X tg iter σ E H2 _
    intro tk pins s I
    refine (pi_keys (pe_w tk)).run pins s σ H2 _ I ?_
    refine hn (fun u z => u = .ref d ∧ z = y) ⟨rfl, rfl⟩ S2 H2 ok2 _ E (fun u y' S' H' ok' st' ⟨e1, e2⟩ => ?_) fun _ _ _ _ _ _ z => z.elim
    subst e1
    subst e2
    refine ⟨d, od, rfl, .inr ⟨kvs, ok'.sub _ _ (st'.sub _ _ hd2), fun D hD => ?_⟩⟩
    obtain ⟨G, Y, wk⟩ := SrW.keys (K := K) (st'.sub _ _ hd2) hk
    refine lc_core (scope := scope) ok' wk (by rw [keysD_len]; exact hz) Iv i0 (fun i d acc y2 x hd iv s H0 C0 cl fp => ?_) done (fun r z S'' H'' o t f => q2 r z S'' H'' o (st'.trans t) f) hD
    refine (turn i d acc y2 x hd iv _ (C.blk ck s H0 C0 cl fp)).mono (fun σ2 y2 ⟨hw, f⟩ => ⟨hw, fun s1 H1 C1 cl1 fp1 => ?_⟩) fun _ _ q => q
    refine (f _ (C.blk ck s1 H1 C1 cl1 fp1)).mono (fun b y3 ⟨f1, f2⟩ => ⟨fun hb s2 H2 C2 cl2 fp2 => f1 hb _ (C.blk ck s2 H2 C2 cl2 fp2), f2⟩) fun _ _ q => q
  rcases hS with hS | ⟨od, hS⟩
  · intro tk pins s I
    have pe : PE X (.ListComp elt [⟨tg, iter, ifs, 0⟩] scope pos) (fun σ H Q => rLc X tg iter elt ifs scope (own.map (·.2)) σ E H Q) := ⟨fun pins s σ H Q I h => wE_lc C (blkOk_by ok) hs E H Q h tk pins s I⟩
    refine (pe_lock pe).run pins s σ H Q I ⟨d, .dT kvs, okS.sub _ _ hS, True.intro, fun od => ?_⟩
    refine core (upd S d (.frz od (.dT kvs))) _ (okS.swap hS (.inl rfl) (.inr ⟨od, rfl⟩)) od upd_same _ fun r y' S' H' ok' st' f => ?_
    have hd' := st'.sub _ _ upd_same
    exact ⟨ok'.sub _ _ hd', q r y' (upd S' d (.dT kvs)) (upd H' d (.dT kvs)) (ok'.swap hd' (.inr ⟨od, rfl⟩) (.inl rfl)) (st'.unlock hS (okS.sub _ _ hS)) f⟩
  · exact wE_lc C (blkOk_by ok) hs E H Q (core S H okS od hS Q q)
/-! reading -/
/-- what stands for a key -/
def lkD (es : List (List Int × Dt)) (ns : List Int) : Option Dt := es.lookup ns
theorem valV_lk {K : PySem.W.Frag} {S : Hp} {ns : List Int} : ∀ {kvs : List (List L2.Key × V)} {es : List (List Int × Dt)}, kvs.map Prod.fst = es.map (fun e => ky e.1) → RpA K S (kvs.map Prod.snd) (es.map Prod.snd) →
    (valV kvs (ky ns) = none ∧ lkD es ns = none) ∨ ∃ r d, valV kvs (ky ns) = some r ∧ lkD es ns = some d ∧ Rp K S r d
  | [], [], _, _ => .inl ⟨rfl, rfl⟩
  | [], _ :: _, h, _ => by cases h
  | _ :: _, [], h, _ => by cases h
  | (k1, v1) :: kvs, (n1, d1) :: es, h, r => by
    rw [List.map_cons, List.map_cons] at h
    injection h with h1 h2
    have h1 : k1 = ky n1 := h1
    subst h1
    cases r with
    | cons r1 r2 =>
      by_cases c : ns = n1
      · subst c
        refine .inr ⟨v1, d1, ?_, ?_, r1⟩
        · unfold valV
          simp
        · unfold lkD
          rw [List.lookup_cons, beq_self_eq_true]
      · have c2 : ¬ ky n1 = ky ns := fun e => c (ky_inj e).symm
        have e1 : valV ((ky n1, v1) :: kvs) (ky ns) = valV kvs (ky ns) := by
          unfold valV
          simp [c2]
        have e2 : lkD ((n1, d1) :: es) ns = lkD es ns := by
          unfold lkD
          rw [List.lookup_cons, show (ns == n1) = false from by simpa using c]
        rw [e1, e2]
        exact valV_lk h2 r2
/-- a key that a walk tells is a tuple, too -/
theorem Lift.key {α : Type} {T : TL α} {Φ : α → Sy → Prop} {t : V} {ns : List Int} (ht : Hs y.F t (tpD ns)) (h : Lift K T ⟨(t, .tuple (ns.map .int)) :: y.F, y.O⟩ Φ Ψ) : Lift K T y Φ Ψ := by
  refine Lift.pre (y2 := ⟨(t, .tuple (ns.map .int)) :: y.F, y.O⟩) (fun S H ok => ⟨S, ?_, Stp.refl _ _ _⟩) h
  obtain ⟨a, rfl, q⟩ := ht.tpk ok
  exact ok.fact (.tup (SqT.of q) (RpA.ints ns))
/-- d[t] of a dict that stands, t a key -/
theorem ix_dF {Φ : V → Sy → Prop} {v t : V} {es : List (List Int × Dt)} {ns : List Int} {dv : Dt} (C : Cn P w K mg base k N sc vb lb gs X) (hd : Hs y.F v (dctD es)) (ht : Hs y.F t (tpD ns)) (e : lkD es ns = some dv) (h : ∀ r, Φ r ⟨(r, dv) :: y.F, y.O⟩) : Lift K (wIx X v t) y Φ Ψ := by
  refine ix_of (ix_dict C.un1) (Lift.raw fun S H ok E Q qq => ?_)
  obtain ⟨d, kvs, rfl, hS, hk, hr⟩ := hd.dct ok
  obtain ⟨a, rfl, hq⟩ := ht.tpk ok
  rcases valV_lk (ns := ns) hk hr with ⟨_, e2⟩ | ⟨r, d2, e1, e2, rr⟩
  · rw [e] at e2
    cases e2
  · rw [e] at e2
    cases e2
    refine ⟨d, r, rfl, ?_, qq r _ S H (ok.fact rr) (Stp.refl _ _ _) (h r)⟩
    refine .inr ⟨kvs, ky ns, a, ?_, rfl, by rw [ky_kV]; exact ok.sub _ _ hq, e1.symm⟩
    rcases hS with q | ⟨od, q⟩
    · exact .inl (ok.sub _ _ q)
    · exact .inr ⟨od, ok.sub _ _ q⟩
/-- an owned dict stands from here on -/
theorem Lift.dct {α : Type} {T : TL α} {Φ : α → Sy → Prop} {d : Addr} {kvs : List (List L2.Key × V)} {es : List (List Int × Dt)} (hk : kvs.map Prod.fst = es.map fun e => ky e.1) (hv : HsA F (kvs.map Prod.snd) (es.map Prod.snd)) (h : Lift K T ⟨(.ref d, dctD es) :: F, O⟩ Φ Ψ) : Lift K T ⟨F, (d, .raw (.dT kvs)) :: O⟩ Φ Ψ := by
  refine Lift.pre (y2 := ⟨(.ref d, dctD es) :: F, O⟩) (fun S H ok => ?_) h
  obtain ⟨np, o, ho, r⟩ := ok.own d _ (List.Mem.head _)
  have r : o = .dT kvs := r
  subst r
  have np := np rfl
  have sb : Sub S (upd S d (.dT kvs)) := fun a u e => by
    rw [upd_ne (ne_of_none e np)]
    exact e
  have nd : d ∉ dom O ∧ (dom O).Nodup := List.nodup_cons.mp ok.nd
  have rv := hv.rp (y := ⟨F, (d, .raw (.dT kvs)) :: O⟩) ok
  refine ⟨upd S d (.dT kvs), ⟨fun a u e => ?_, fun v dt m => ?_, fun q u m => ?_, nd.2⟩, ⟨fun _ _ h _ => h, fun _ o h => ⟨o, h⟩, sb, fun a u e => ?_, fun q m => .inl (List.mem_cons_of_mem _ m)⟩⟩
  · by_cases h : a = d
    · subst h
      rw [upd_same] at e
      rw [← e]
      exact ho
    · rw [upd_ne h] at e
      exact ok.sub a u e
  · rcases List.mem_cons.mp m with e | m
    · cases e
      exact .dct (.inl upd_same) hk (rv.mono sb)
    · exact (ok.fac v dt m).mono sb
  · obtain ⟨n1, o1, h1, k1⟩ := ok.own q u (List.mem_cons_of_mem _ m)
    have ne : q ≠ d := fun e => by
      subst e
      exact nd.1 (List.mem_map.mpr ⟨(q, u), m, rfl⟩)
    exact ⟨fun h => by rw [upd_ne ne]; exact n1 h, o1, h1, k1.mono sb⟩
  · by_cases h : a = d
    · subst h
      exact .inr (.inl (List.mem_cons_self ..))
    · rw [upd_ne h] at e
      exact .inl ⟨u, e⟩
end
end Yl

/-! min of alike data -/
namespace Yl
open PySem PySem.Spec PyProof.Rows
open L2 hiding prD
theorem Vals.len {xs : List V} {us : List Value} (r : Vals xs us) : xs.length = us.length := by
  induction r with
  | nil => rfl
  | cons _ _ ih => simp [ih]
theorem call_minD {X : Cx} (hc : X.calm = true) (hu : X.A.units + 102 < cLine) : CallR X (.builtin "min") (fun vs H Q => ∃ a xs d ds, vs = [V.ref a] ∧ H a = some (.lst xs) ∧ RpA X.K H xs (d :: ds) ∧ niceA (d :: ds) = true ∧ (∀ x ∈ d :: ds, sz x ≤ sizeLine) ∧ PySem.W.AlikeAll (d :: ds) ∧ PyData.depthAll (d :: ds) ≤ 100 ∧ ∀ (i : Nat) r, xs[i]? = some r → (d :: ds)[i]? = some (PySem.W.minD d ds) → Q r H) := by
  intro pins s σ H vs us Q I r h
  obtain ⟨a, xs, d, ds, rfl, ha, rp, hn, hz, hal, hd, q⟩ := h
  rw [Vals.ref1 r]
  obtain ⟨its, n, rv, ho⟩ := list_raw I.hok ha
  obtain ⟨⟨as, rd⟩, _⟩ := RpA.shw I.hok I.kIn rp hn hz rv
  refine PySem.W.min_list_data (vs := its.toArray) (I.ok.hd hc) ⟨_, ho, rfl, _, rfl⟩ rd hal (by omega) fun i v h' tk bs hv hr hk => ?_
  have hv' : its[i]? = some v := by simpa using hv
  obtain ⟨bs2, r2, hi, _, _⟩ := PySem.W.readsAll_at (vs := its) rd i v hv'
  have r3 := Reads.keeps hk r2
  have e := (Reads.unique r3 _ _ hr).1
  have hix : i < xs.length := by
    rw [Vals.len rv]
    exact (List.getElem?_eq_some_iff.mp hv').1
  have hx : xs[i]? = some (xs[i]'hix) := List.getElem?_eq_getElem hix
  obtain ⟨u, hu2, ru⟩ := Vals.get rv hx
  rw [hv'] at hu2
  cases hu2
  refine ⟨xs[i]'hix, H, I.kept hk, ru, q i _ hx ?_⟩
  rw [← e, List.getD_eq_getElem?_getD, List.getElem?_eq_getElem hi]
  rfl
section
variable {P : Program} {w : World} {K : PySem.W.Frag} {mg : Str → Option Value} {base : Heap} {k : Nat} {N : List Str} {sc : Scope} {vb lb : List Bool} {gs : List Str} {X : Cx} {y : Sy} {Ψ : Value → Sy → Prop}
theorem c_minD {Φ : V → Sy → Prop} {v : V} {d : Dt} {ds : List Dt} (C : Cn P w K mg base k N sc vb lb gs X) (hr : Rb y v (.list (d :: ds))) (hn : niceA (d :: ds) = true) (hz : ∀ x ∈ d :: ds, sz x ≤ sizeLine) (hal : PySem.W.AlikeAll (d :: ds)) (hd : PyData.depthAll (d :: ds) ≤ 100)
    (h : ∀ r, Φ r ⟨(r, PySem.W.minD d ds) :: y.F, y.O⟩) : Lift K (wC X (.builtin "min") [v]) y Φ Ψ := by
  have hu : X.A.units + 102 < cLine := by
    have := C.room.un
    omega
  refine c_of (call_minD C.calm hu) (Lift.raw fun S H ok E Q q => ?_)
  obtain ⟨a, xs, rfl, ha, r⟩ := hr.lst ok
  refine ⟨a, xs, d, ds, rfl, ha, by rw [C.hK]; exact r.mono ok.sub, hn, hz, hal, hd, fun i x hx hi => ?_⟩
  obtain ⟨x', hx', rx⟩ := r.at hi
  rw [hx] at hx'
  cases hx'
  exact q x _ S H (ok.fact rx) (Stp.refl _ _ _) (h x)
end
end Yl

/-! the keys of a standing dict, some left out -/
namespace Yl
open PySem PySem.Spec PyProof.Rows
open L2 hiding prD
section
variable {P : Program} {w : World} {K : PySem.W.Frag} {mg : Str → Option Value} {base : Heap} {k : Nat} {N : List Str} {sc : Scope} {vb lb : List Bool} {gs : List Str} {X : Cx} {y : Sy} {σ σw : L2.St} {Ψ : Value → Sy → Prop} {pos : Pos} {F : List (V × Dt)} {O : List (Addr × OD)}
theorem l_lcKp {Φ : V → Sy → Prop} {tg iter elt : Expr} {ifs : List Expr} {scope : Scope} (own : List (Str × Nat)) (vs : List Nat) (vb' lb' : List Bool) (gs' : List Str) {v : V} {es : List (List Int × Dt)} (C : Cn P w K mg base k N sc vb lb gs X) (hv : own.map (·.2) = vs) (ok : blkC N sc scope own = true) (ck : chkB (relS scope sc) N vb' lb' gs' = true) [nf : NoFold iter] [wi : Wi vs σ σw]
    (hd : Hs F v (dctD es)) (hz : es.length ≤ 1000000) (hn : ∀ Φ' : V → Sy → Prop, Φ' v ⟨F, O⟩ → Lift K (wE X iter σ) ⟨F, O⟩ Φ' NoX) (f : List Int → Bool)
    (turn : ∀ (i : Nat) ns dv x, es[i]? = some (ns, dv) → ∀ X1, Cn P w K mg base k N (relS scope sc) vb' lb' gs' X1 → Lift K (wG X1 tg x σw) ⟨(x, tpD ns) :: F, O⟩ (fun σ2 y2 => wipe σ2 vs = σw ∧
      ∀ X2, Cn P w K mg base k N (relS scope sc) vb' lb' gs' X2 → Lift K (wTs X2 ifs σ2) y2 (fun b y3 => b = f ns ∧ (b = true → ∀ X3, Cn P w K mg base k N (relS scope sc) vb' lb' gs' X3 → Lift K (wE X3 elt σ2) y3 (fun v y4 => Hs y4.F v (.tuple (ns.map .int)) ∧ y4.O = O ∧ ∀ e, e ∈ F → e ∈ y4.F) F0) ∧ (b = false → y3.O = O ∧ ∀ e, e ∈ F → e ∈ y3.F)) F0) F0)
    (done : ∀ F' q, (∀ e, e ∈ F → e ∈ F') → Φ (.ref q) ⟨F', (q, .lst ((es.filter fun e => f e.1).map fun e => .tuple (e.1.map .int))) :: O⟩) : Lift K (wE X (.ListComp elt [⟨tg, iter, ifs, 0⟩] scope pos) σ) ⟨F, O⟩ Φ Ψ := by
  subst hv
  have hw : wipe σ (own.map (·.2)) = σw := wi.h
  refine l_lcK (own := own) C ok ck (nf.h _) hd hz hn (fun i acc y' => acc = ((es.take i).filter fun e => f e.1).map (fun e => .tuple (e.1.map .int)) ∧ y'.O = O ∧ ∀ e, e ∈ F → e ∈ y'.F) ⟨by simp, rfl, fun _ h => h⟩ ?_ ?_
  · rintro i d acc ⟨F', O'⟩ x hd' ⟨rfl, hO, hF⟩ X1 C1
    cases hO
    obtain ⟨ns, dv, he, rfl⟩ := keysD_at hd'
    have ht : es.take (i + 1) = es.take i ++ [(ns, dv)] := by
      rw [List.take_add_one, he]
      rfl
    rw [hw]
    refine Lift.forget (F2 := (x, tpD ns) :: F) (fun e h => ?_) ((turn i ns dv x he X1 C1).mono (fun σ2 y2 ⟨hw2, f1⟩ => ⟨hw2, fun X2 C2 => ?_⟩) fun _ _ z => z)
    · rcases List.mem_cons.mp h with h | h
      · rw [h]
        exact List.mem_cons_self
      · exact List.mem_cons_of_mem _ (hF _ h)
    · refine (f1 X2 C2).mono (fun b y3 ⟨hb, f2, f3⟩ => ⟨fun e X3 C3 => (f2 e X3 C3).mono (fun v y4 ⟨h1, h2, h3⟩ => ⟨_, h1, ?_, h2, h3⟩) (fun _ _ z => z), fun e => ⟨?_, f3 e⟩⟩) fun _ _ z => z
      · rw [ht, List.filter_append, List.filter_cons, if_pos (by rw [← e, hb]), List.map_append]
        rfl
      · rw [ht, List.filter_append, List.filter_cons, if_neg (by rw [← hb, e]; decide), List.filter_nil, List.append_nil]
  · rintro acc ⟨F', O'⟩ hl ⟨rfl, hO, hF⟩ p
    cases hO
    rw [keysD_len, List.take_length]
    exact done F' p hF
/-- d[(..)] of a dict that stands -/
def KyF (Φ : V → Sy → Prop) (q : V) (vs : List V) (y : Sy) : Prop := ∃ (ns : List Int) (es : List (List Int × Dt)) (dv : Dt), Hs y.F q (dctD es) ∧ vs = ns.map V.int ∧ ns.length ≤ 100 ∧ lkD es ns = some dv ∧ ∀ r, Φ r ⟨(r, dv) :: y.F, y.O⟩
theorem l_ixF {Φ : V → Sy → Prop} {a : Expr} {es : List Expr} {kk : Nat} {p2 : Pos} (C : Cn P w K mg base k N sc vb lb gs X) [m : PlIx (.Tuple es kk p2)] (h : Lift K (wE X a σ) y (fun q y1 => Lift K (wA X es σ) y1 (KyF Φ q) Ψ) Ψ) : Lift K (wE X (.Subscript a (.Tuple es kk p2) pos) σ) y Φ Ψ := by
  refine l_ix m.h (h.mono (fun q z f => l_tupR (f.mono (fun vs z2 ⟨ns, es, dv, hd, e2, hl, hv, g⟩ => ?_) fun _ _ q => q)) fun _ _ q => q)
  subst e2
  refine ⟨by rw [List.length_map]; omega, fun s => ?_⟩
  refine ix_of (ix_dict C.un1) (Lift.raw fun S H ok E Q qq => ?_)
  obtain ⟨_, o2, ho2, e3⟩ := ok.own s _ List.mem_cons_self
  cases e3
  have ok2 : OkS K z2 S H := ⟨ok.sub, ok.fac, fun q u m => ok.own q u (List.mem_cons_of_mem _ m), (List.nodup_cons.mp ok.nd).2⟩
  obtain ⟨d, kvs, rfl, hS, hk, hr⟩ := hd.dct ok2
  rcases valV_lk (ns := ns) hk hr with ⟨_, e2⟩ | ⟨r, d2, e1, e2, rr⟩
  · rw [hv] at e2
    cases e2
  · rw [hv] at e2
    cases e2
    refine ⟨d, r, rfl, .inr ⟨kvs, ky ns, s, ?_, rfl, by rw [ky_kV]; exact ho2, e1.symm⟩, ?_⟩
    · rcases hS with q | ⟨od, q⟩
      · exact .inl (ok.sub _ _ q)
      · exact .inr ⟨od, ok.sub _ _ q⟩
    · exact qq r _ S H (ok2.fact rr) ⟨fun _ _ h _ => h, fun _ o h => ⟨o, h⟩, Sub.refl S, fun _ o h => .inl ⟨o, h⟩, fun q m => .inl (List.mem_cons_of_mem _ m)⟩ (g r)
end
end Yl

/-! owned tuples and lists of owned things, read whole -/
namespace Yl
open PySem PySem.Spec PyProof.Rows
open L2 hiding prD
mutual
inductive Rd (F : List (V × Dt)) (O : List (Addr × OD)) : V → Dt → Prop
  | rb {v : V} {d : Dt} : Rb ⟨F, O⟩ v d → Rd F O v d
  | tup {t : Addr} {vs : List V} {ds : List Dt} : (t, OD.raw (.tup vs)) ∈ O → RdA F O vs ds → Rd F O (.ref t) (.tuple ds)
  | lst {t : Addr} {vs : List V} {ds : List Dt} : (t, OD.raw (.lst vs)) ∈ O → RdA F O vs ds → Rd F O (.ref t) (.list ds)
inductive RdA (F : List (V × Dt)) (O : List (Addr × OD)) : List V → List Dt → Prop
  | nil : RdA F O [] []
  | cons {v : V} {vs : List V} {d : Dt} {ds : List Dt} : Rd F O v d → RdA F O vs ds → RdA F O (v :: vs) (d :: ds)
end
section
variable {K : PySem.W.Frag} {α : Type} {T : TL α} {F : List (V × Dt)} {O : List (Addr × OD)} {Φ : α → Sy → Prop} {Ψ : Value → Sy → Prop}
section
variable {S H S1 : Hp}
mutual
theorem Rd.rp (ok : OkS K ⟨F, O⟩ S H) (s1 : Sub S S1) (sO : ∀ a o, a ∈ dom O → H a = some o → S1 a = some o) : ∀ {v : V} {d : Dt}, Rd F O v d → Rp K S1 v d
  | _, _, .rb (.hs h) => (h.rp ok).mono s1
  | _, _, .rb (.own m) => by
    obtain ⟨_, o, ho, xs, e1, r⟩ := ok.own _ _ m
    subst e1
    exact .lst (sO _ _ (List.mem_map.mpr ⟨_, m, rfl⟩) ho) (r.mono s1)
  | _, _, .tup m r => by
    obtain ⟨_, o, ho, e1⟩ := ok.own _ _ m
    have e1 : o = _ := e1
    subst e1
    exact .tup (SqT.of (sO _ _ (List.mem_map.mpr ⟨_, m, rfl⟩) ho)) (RdA.rp ok s1 sO r)
  | _, _, .lst m r => by
    obtain ⟨_, o, ho, e1⟩ := ok.own _ _ m
    have e1 : o = _ := e1
    subst e1
    exact .lst (sO _ _ (List.mem_map.mpr ⟨_, m, rfl⟩) ho) (RdA.rp ok s1 sO r)
theorem RdA.rp (ok : OkS K ⟨F, O⟩ S H) (s1 : Sub S S1) (sO : ∀ a o, a ∈ dom O → H a = some o → S1 a = some o) : ∀ {vs : List V} {ds : List Dt}, RdA F O vs ds → RpA K S1 vs ds
  | _, _, .nil => .nil
  | _, _, .cons a b => .cons (Rd.rp ok s1 sO a) (RdA.rp ok s1 sO b)
end
end
/-- all that is owned stands for a while -/
theorem Lift.still2 {Fp : List (V × Dt)} (hp : ∀ v d, (v, d) ∈ Fp → Rd F O v d)
    (h : Lift K T ⟨Fp, []⟩ (fun r z => Φ r ⟨F, O⟩) (fun c z => Ψ c ⟨F, O⟩)) : Lift K T ⟨F, O⟩ Φ Ψ := by
  intro S H ok Q E q e
  obtain ⟨S1, hS1⟩ : ∃ S1 : Hp, ∀ a, S1 a = if a ∈ dom O then H a else S a := ⟨fun a => if a ∈ dom O then H a else S a, fun _ => rfl⟩
  have s1 : Sub S S1 := fun a o h => by
    rw [hS1]
    by_cases ha : a ∈ dom O
    · rw [if_pos ha]
      exact ok.sub a o h
    · rw [if_neg ha]
      exact h
  have s2 : Sub S1 H := fun a o h => by
    rw [hS1] at h
    by_cases ha : a ∈ dom O
    · rw [if_pos ha] at h
      exact h
    · rw [if_neg ha] at h
      exact ok.sub a o h
  have ok1 : OkS K ⟨Fp, []⟩ S1 H := ⟨s2, fun v d m => (hp v d m).rp ok s1 (fun a o m h => by
    rw [hS1, if_pos m]
    exact h), fun p u m => (nomatch m), List.nodup_nil⟩
  have back : ∀ z S' H', Stp [] S1 H z S' H' → OkS K ⟨F, O⟩ S H' ∧ Stp O S H O S H' := fun z S' H' st =>
    ⟨⟨fun a o h => st.keep a o (ok.sub a o h) (by simp [dom]), ok.fac, fun p u m => by
      obtain ⟨n1, o, ho, r⟩ := ok.own p u m
      exact ⟨n1, o, st.keep p o ho (by simp [dom]), r⟩, ok.nd⟩,
     ⟨fun a o h _ => st.keep a o h (by simp [dom]), st.live, Sub.refl S, fun a o h => .inl ⟨o, h⟩, fun p m => .inl m⟩⟩
  refine h S1 H ok1 Q E (fun r z S' H' ok' st' f => ?_) fun c z S' H' ok' st' f => ?_
  · obtain ⟨b1, b2⟩ := back _ _ _ st'
    exact q r _ S H' b1 b2 f
  · obtain ⟨b1, b2⟩ := back _ _ _ st'
    exact e c _ S H' b1 b2 f
end
/-! by type classes -/
class Rdc (F : List (V × Dt)) (O : List (Addr × OD)) (v : V) (d : outParam Dt) : Prop where
  h : Rd F O v d
class RdcA (F : List (V × Dt)) (O : List (Addr × OD)) (vs : List V) (ds : outParam (List Dt)) : Prop where
  h : RdA F O vs ds
/-- a list that is held -/
class Tl2 (t : Addr) (O : List (Addr × OD)) (vs : outParam (List V)) : Prop where
  h : (t, OD.raw (.lst vs)) ∈ O
instance (priority := high) (t : Addr) (vs : List V) (O : List (Addr × OD)) : Tl2 t ((t, .raw (.lst vs)) :: O) vs := ⟨List.mem_cons_self⟩
instance (t : Addr) (vs : List V) (c : Addr × OD) (O : List (Addr × OD)) [h : Tl2 t O vs] : Tl2 t (c :: O) vs := ⟨List.mem_cons_of_mem _ h.h⟩
section
variable {F : List (V × Dt)} {O : List (Addr × OD)}
instance : RdcA F O [] [] := ⟨.nil⟩
instance {v : V} {vs : List V} {d : Dt} {ds : List Dt} [a : Rdc F O v d] [b : RdcA F O vs ds] : RdcA F O (v :: vs) (d :: ds) := ⟨.cons a.h b.h⟩
instance (priority := low) {v : V} {d : Dt} [a : Rc F O v d] : Rdc F O v d := ⟨.rb a.h⟩
instance {t : Addr} {vs : List V} {ds : List Dt} [m : Tu t O vs] [a : RdcA F O vs ds] : Rdc F O (.ref t) (.tuple ds) := ⟨.tup m.h a.h⟩
instance {t : Addr} {vs : List V} {ds : List Dt} [m : Tl2 t O vs] [a : RdcA F O vs ds] : Rdc F O (.ref t) (.list ds) := ⟨.lst m.h a.h⟩
/-- what stands for a while, by its names -/
class RdA2 (F : List (V × Dt)) (O : List (Addr × OD)) (vs : List V) (Fp : outParam (List (V × Dt))) : Prop where
  h : ∀ v d, (v, d) ∈ Fp → Rd F O v d
instance : RdA2 F O [] [] := ⟨fun _ _ m => (nomatch m)⟩
instance (v : V) (vs : List V) (d : Dt) (Fp : List (V × Dt)) [a : Rdc F O v d] [b : RdA2 F O vs Fp] : RdA2 F O (v :: vs) ((v, d) :: Fp) := ⟨fun u e m => by
  rcases List.mem_cons.mp m with m | m
  · cases m
    exact a.h
  · exact b.h u e m⟩
theorem still_2 {K : PySem.W.Frag} {α : Type} {T : TL α} {Φ : α → Sy → Prop} {Ψ : Value → Sy → Prop} (vs : List V) {Fp : List (V × Dt)} [m : RdA2 F O vs Fp]
    (h : Lift K T ⟨Fp, []⟩ (fun r z => Φ r ⟨F, O⟩) (fun c z => Ψ c ⟨F, O⟩)) : Lift K T ⟨F, O⟩ Φ Ψ := Lift.still2 m.h h
end
section
variable {P : Program} {w : World} {K : PySem.W.Frag} {mg : Str → Option Value} {base : Heap} {k : Nat} {N : List Str} {sc : Scope} {vb lb : List Bool} {gs : List Str} {X : Cx} {y : Sy} {σ σw : L2.St} {Ψ : Value → Sy → Prop} {pos : Pos} {F : List (V × Dt)} {O : List (Addr × OD)} {rest : List Stmt}
/-- if .. : return False, never taken -/
theorem if_2 {Φ : Fl → Sy → Prop} {c : Expr} {l : List Stmt} (vs : List V) {Fp : List (V × Dt)} [m : RdA2 F O vs Fp] (h : Lift K (wT X c σ) ⟨Fp, []⟩ (fun r _ => r = false) Yl.F0) (b : Lift K (wSs X rest σ) ⟨F, O⟩ Φ Ψ) : Lift K (wSs X (.If c l [] pos :: rest) σ) ⟨F, O⟩ Φ Ψ := by
  refine s_if0 (still_2 vs (h.mono (fun r z e => ?_) fun _ _ z => z.elim))
  subst e
  exact ⟨(fun e => nomatch e), fun _ => b⟩
/-- two things of the same data -/
theorem o_eqSelf {Φ : V → Sy → Prop} {v u : V} {d : Dt} {n : Nat} (C : Cn P w K mg base k N sc vb lb gs X) (r : Rb ⟨F, O⟩ v d) (s : Rb ⟨F, O⟩ u d) [m : Pln d n] (hn : n ≤ 60) (h : Φ (.bl true) ⟨F, O⟩) : Lift K (wO X (compareOp .Eq) v u) ⟨F, O⟩ Φ Ψ :=
  o_eqD r s m.h1 m.h1 (Pln.shaped (by omega)) (Pln.shaped (by omega)) C.unl C.hK (by rw [m.h4]; exact h)
theorem o_neSelf {Φ : V → Sy → Prop} {v u : V} {d : Dt} {n : Nat} (C : Cn P w K mg base k N sc vb lb gs X) (r : Rb ⟨F, O⟩ v d) (s : Rb ⟨F, O⟩ u d) [m : Pln d n] (hn : n ≤ 60) (h : Φ (.bl false) ⟨F, O⟩) : Lift K (wO X (compareOp .NotEq) v u) ⟨F, O⟩ Φ Ψ :=
  o_neD r s m.h1 m.h1 (Pln.shaped (by omega)) (Pln.shaped (by omega)) C.unl C.hK (by rw [m.h4]; exact h)
theorem o_eqSelf2 {Φ : V → Sy → Prop} {v u : V} {d : Dt} {n : Nat} (C : Cn P w K mg base k N sc vb lb gs X) [r : Rdc F O v d] [s : Rdc F O u d] [m : Pln d n] (hn : n ≤ 60) (h : Φ (.bl true) ⟨F, O⟩) : Lift K (wO X (compareOp .Eq) v u) ⟨F, O⟩ Φ Ψ := by
  refine still_2 [v, u] ?_
  exact o_eqSelf C (.hs (.fact List.mem_cons_self)) (.hs (.fact (List.mem_cons_of_mem _ List.mem_cons_self))) hn h
theorem o_neSelf2 {Φ : V → Sy → Prop} {v u : V} {d : Dt} {n : Nat} (C : Cn P w K mg base k N sc vb lb gs X) [r : Rdc F O v d] [s : Rdc F O u d] [m : Pln d n] (hn : n ≤ 60) (h : Φ (.bl false) ⟨F, O⟩) : Lift K (wO X (compareOp .NotEq) v u) ⟨F, O⟩ Φ Ψ := by
  refine still_2 [v, u] ?_
  exact o_neSelf C (.hs (.fact List.mem_cons_self)) (.hs (.fact (List.mem_cons_of_mem _ List.mem_cons_self))) hn h
end
end Yl

/-! instances of own classes: made, their variables, their methods; what is owned stands behind a call -/
namespace Yl
open PySem PySem.Spec PyProof.Rows
open L2 hiding prD
/-! ### facts of a class -/
class Kc (K : PySem.W.Frag) (C : Addr) : Prop where
  h : Cls K C
class Na (K : PySem.W.Frag) (C : Addr) (f : Str) : Prop where
  h : NoAttr K C f
/-- a method -/
class Me (P : outParam Program) (w : outParam World) (K : outParam PySem.W.Frag) (mg : Str → Option Value) (base : outParam Heap) (m : Str) (C : outParam Addr) (k : outParam Nat) (n : outParam Nat) (R : outParam RY) : Prop where
  cl : Cls K C
  ex : ∃ g fd ps, FnOk P w K mg base (L2.CX P w) k g fd ps (SpY K n R) ∧ Meth K C m g ∧ Binds K fd ps []
/-- the making of an instance -/
class Mkr (P : outParam Program) (w : outParam World) (K : outParam PySem.W.Frag) (mg : Str → Option Value) (base : outParam Heap) (x : Str) (C : outParam Addr) (k : outParam Nat) (n : outParam Nat) (R : outParam RY) : Prop where
  ex : ∃ j g fd ps, j + 1 ≤ k ∧ FnOk P w K mg base (L2.CX P w) j g fd ps (SpY K n R) ∧ Mk K C g ∧ mg x = some (.ref C) ∧ Binds K fd ps []
/-- an instance that is held -/
class Ins (a : Addr) (O : List (Addr × OD)) (C : outParam Addr) (dx : outParam Addr) (fs : outParam (List (Str × V))) : Prop where
  h : (a, OD.raw (.ins C dx fs)) ∈ O
instance (priority := high) (a C dx : Addr) (fs : List (Str × V)) (O : List (Addr × OD)) : Ins a ((a, .raw (.ins C dx fs)) :: O) C dx fs := ⟨List.mem_cons_self⟩
instance (a C dx : Addr) (fs : List (Str × V)) (c : Addr × OD) (O : List (Addr × OD)) [h : Ins a O C dx fs] : Ins a (c :: O) C dx fs := ⟨List.mem_cons_of_mem _ h.h⟩
/-- an owned cell, and the others -/
class Pk (a : Addr) (O : List (Addr × OD)) (u : outParam OD) (O' : outParam (List (Addr × OD))) : Prop where
  h : ((a, u) :: O').Perm O
instance (priority := high) (a : Addr) (u : OD) (O : List (Addr × OD)) : Pk a ((a, u) :: O) u O := ⟨.refl _⟩
instance (a : Addr) (u : OD) (c : Addr × OD) (O O' : List (Addr × OD)) [h : Pk a O u O'] : Pk a (c :: O) u (c :: O') := ⟨(List.Perm.swap c (a, u) O').trans (.cons c h.h)⟩
class NeS (f g : Str) : Prop where
  h : ¬ f = g
class Lkf (f : Str) (fs : List (Str × V)) (u : outParam V) : Prop where
  h : fs.lookup f = some u
instance (priority := high) (f : Str) (u : V) (r : List (Str × V)) : Lkf f ((f, u) :: r) u := ⟨by rw [List.lookup_cons, beq_self_eq_true]⟩
instance (f g : Str) (x u : V) (r : List (Str × V)) [n : NeS f g] [l : Lkf f r u] : Lkf f ((g, x) :: r) u := ⟨by rw [List.lookup_cons, beq_eq_false_iff_ne.mpr n.h]; exact l.h⟩
class Nol (m : Str) (fs : List (Str × V)) : Prop where
  h : fs.lookup m = none
instance (m : Str) : Nol m [] := ⟨rfl⟩
instance (m g : Str) (x : V) (r : List (Str × V)) [n : NeS m g] [l : Nol m r] : Nol m ((g, x) :: r) := ⟨by rw [List.lookup_cons, beq_eq_false_iff_ne.mpr n.h]; exact l.h⟩
class PutF (f : Str) (v : V) (fs : List (Str × V)) (fs' : outParam (List (Str × V))) : Prop where
  h : putF f v fs = fs'
instance (f : Str) (v : V) : PutF f v [] [(f, v)] := ⟨rfl⟩
instance (priority := high) (f : Str) (v x : V) (r : List (Str × V)) : PutF f v ((f, x) :: r) ((f, v) :: r) := ⟨by unfold putF; rw [if_pos rfl]⟩
instance (f g : Str) (v x : V) (r r' : List (Str × V)) [n : NeS f g] [l : PutF f v r r'] : PutF f v ((g, x) :: r) ((g, x) :: r') := ⟨by unfold putF; rw [if_neg (fun e => n.h e.symm), l.h]⟩

instance (e : Expr) (f : Str) (p : Pos) : NoStar (.Attribute e f p) := ⟨fun _ _ => rfl⟩
instance (e : Expr) (f : Str) (p : Pos) : NoFold (.Attribute e f p) := ⟨fun _ _ => rfl⟩
instance (e : Expr) (f : Str) (p : Pos) : NoMark (.Attribute e f p) := ⟨fun _ => rfl⟩
instance (e : Expr) (f : Str) (p : Pos) : NoSwap (.Attribute e f p) := ⟨fun _ _ _ => rfl⟩
instance (e : Expr) (f : Str) (p : Pos) : PlainT (.Attribute e f p) := ⟨fun _ _ => rfl⟩
instance (e : Expr) (f : Str) (p : Pos) : PlIx (.Attribute e f p) := ⟨fun _ _ => rfl⟩
instance (e : Expr) (f : Str) (p : Pos) : NoSuper (.Attribute e f p) := ⟨fun _ _ => rfl⟩
instance (e : Expr) (f : Str) (p : Pos) : NoPair (.Attribute e f p) := ⟨fun _ _ _ _ => rfl⟩
instance (e : Expr) (f : Str) (p : Pos) : SubT (.Attribute e f p) := ⟨fun _ _ _ _ => rfl⟩
/-- how a method's call is read -/
class MEv (o : Expr) (m : Str) (apos : Pos) (e : Expr) (es : List Expr) (pos : Pos) : Prop where
  h : ∀ env, ∃ pl, eval (.Call (.Attribute o m apos) (e :: es) [] pos) env = (do
      let ov ← eval o env
      standAt apos.atName
      let (f, first) ← holding [ov] (getMethod ov m pl)
      callWith pos f first (backTo pos (starEach (e :: es) env)) (backToKw pos (keywordEach [] env)))
class MEv0 (o : Expr) (m : Str) (apos : Pos) (pos : Pos) : Prop where
  h : ∀ env, ∃ pl, eval (.Call (.Attribute o m apos) [] [] pos) env = (do
      let ov ← eval o env
      standAt apos.atName
      let (f, first) ← holding [ov] (getMethod ov m pl)
      callWith pos f first (backTo pos (starEach [] env)) (backToKw pos (keywordEach [] env)))
theorem few1 {pos : Pos} {e : Expr} (ns : NoStar e) (env : Env) : methodCallForm 1 (backTo pos (starEach [e] env)) (backToKw pos (keywordEach [] env)) = true := by
  rw [ns.h]
  rfl
theorem few2 {pos : Pos} {e e2 : Expr} (ns : NoStar e) (ns2 : NoStar e2) (env : Env) : methodCallForm 2 (backTo pos (starEach [e, e2] env)) (backToKw pos (keywordEach [] env)) = true := by
  rw [ns.h, ns2.h]
  rfl
theorem pos_same {o : Expr} {env : Env} {l c el ec c' el' ec' : Nat} : methodCallPos true o env ⟨l, c, el, ec⟩ ⟨el, c', el', ec'⟩ = pure ⟨el, c', el', ec'⟩ := by
  unfold methodCallPos
  rw [show (!true || ((⟨l, c, el, ec⟩ : Pos).endLine == (⟨el, c', el', ec'⟩ : Pos).line)) = true by show (!true || (el == el)) = true; rw [beq_self_eq_true]; rfl]
  rfl
instance {o : Expr} {m : Str} {l c el ec c' el' ec' : Nat} {e : Expr} [ns : NoStar e] [su : NoSuper o] : MEv o m ⟨l, c, el, ec⟩ e [] ⟨el, c', el', ec'⟩ := ⟨fun env => ⟨do return (← importBound o env).getD true, by
  have h1 : eval (.Call (.Attribute o m ⟨l, c, el, ec⟩) [e] [] ⟨el, c', el', ec'⟩) env = (do
    let ov ← attributeBase o m env (eval o env)
    standAt (⟨l, c, el, ec⟩ : Pos).atName
    methodCall o m ⟨l, c, el, ec⟩ ⟨el, c', el', ec'⟩ env ov 1 (backTo ⟨el, c', el', ec'⟩ (starEach [e] env)) (backToKw ⟨el, c', el', ec'⟩ (keywordEach [] env))) := rfl
  rw [h1, su.h]
  unfold methodCall calleeOf
  rw [few1 ns, pos_same]
  rfl⟩⟩
instance {o : Expr} {m : Str} {l c el ec c' el' ec' : Nat} {e e2 : Expr} [ns : NoStar e] [ns2 : NoStar e2] [su : NoSuper o] : MEv o m ⟨l, c, el, ec⟩ e [e2] ⟨el, c', el', ec'⟩ := ⟨fun env => ⟨do return (← importBound o env).getD true, by
  have h1 : eval (.Call (.Attribute o m ⟨l, c, el, ec⟩) [e, e2] [] ⟨el, c', el', ec'⟩) env = (do
    let ov ← attributeBase o m env (eval o env)
    standAt (⟨l, c, el, ec⟩ : Pos).atName
    methodCall o m ⟨l, c, el, ec⟩ ⟨el, c', el', ec'⟩ env ov 2 (backTo ⟨el, c', el', ec'⟩ (starEach [e, e2] env)) (backToKw ⟨el, c', el', ec'⟩ (keywordEach [] env))) := rfl
  rw [h1, su.h]
  unfold methodCall calleeOf
  rw [few2 ns ns2, pos_same]
  rfl⟩⟩
instance {o : Expr} {m : Str} {l c el ec c' el' ec' : Nat} [su : NoSuper o] : MEv0 o m ⟨l, c, el, ec⟩ ⟨el, c', el', ec'⟩ := ⟨fun env => ⟨do return (← importBound o env).getD true, by
  have h1 : eval (.Call (.Attribute o m ⟨l, c, el, ec⟩) [] [] ⟨el, c', el', ec'⟩) env = (do
    let ov ← attributeBase o m env (eval o env)
    standAt (⟨l, c, el, ec⟩ : Pos).atName
    methodCall o m ⟨l, c, el, ec⟩ ⟨el, c', el', ec'⟩ env ov 0 (backTo ⟨el, c', el', ec'⟩ (starEach [] env)) (backToKw ⟨el, c', el', ec'⟩ (keywordEach [] env))) := rfl
  rw [h1, su.h]
  unfold methodCall calleeOf
  rw [show methodCallForm 0 (backTo ⟨el, c', el', ec'⟩ (starEach [] env)) (backToKw ⟨el, c', el', ec'⟩ (keywordEach [] env)) = true from rfl, pos_same]
  rfl⟩⟩
section
variable {P : Program} {w : World} {K : PySem.W.Frag} {mg : Str → Option Value} {base : Heap} {k : Nat} {N : List Str} {sc : Scope} {vb lb : List Bool} {gs : List Str} {X : Cx} {y : Sy} {σ σw : L2.St} {Ψ : Value → Sy → Prop} {pos pos' apos p p2 : Pos} {F : List (V × Dt)} {O : List (Addr × OD)} {rest : List Stmt} {e o : Expr} {es : List Expr} {f m x : Str}
/-! ### variables of an instance -/
def FldK (K : PySem.W.Frag) (f : Str) (Φ : V → Sy → Prop) (v : V) (y : Sy) : Prop := ∃ a C dx fs u, v = .ref a ∧ (a, OD.raw (.ins C dx fs)) ∈ y.O ∧ Cls K C ∧ NoAttr K C f ∧ fs.lookup f = some u ∧ Φ u y
theorem l_fld {Φ : V → Sy → Prop} (C : Cn P w K mg base k N sc vb lb gs X) (s : NoSuper e) (h : Lift K (wE X e σ) y (FldK K f Φ) Ψ) : Lift K (wE X (.Attribute e f pos) σ) y Φ Ψ := by
  refine l_of (fun E tk => pe_fld (pe_w tk) (s.h _ _)) ?_
  refine Lift.bind (T1 := wE X e σ) (T2 := fun x _ H Q => ∃ a C dx fs v, x = .ref a ∧ H a = some (.ins C dx fs) ∧ Cls X.K C ∧ NoAttr X.K C f ∧ fs.lookup f = some v ∧ Q v H) (fun _ _ _ q => q) (h.mono (fun v z ⟨a, D, dx, fs, u, e1, m, c, n, l, g⟩ => Lift.raw fun S H ok E Q q => ?_) fun _ _ q => q)
  obtain ⟨_, o, ho, e2⟩ := ok.own a _ m
  have e2 : o = _ := e2
  subst e2
  exact ⟨a, D, dx, fs, u, e1, ho, by rw [C.hK]; exact c, by rw [C.hK]; exact n, l, q u z S H ok (Stp.refl _ _ _) g⟩
instance {Φ : V → Sy → Prop} [C : Cn P w K mg base k N sc vb lb gs X] [s : NoSuper e] : Step (Lift K (wE X (.Attribute e f pos) σ) y Φ Ψ) (Lift K (wE X e σ) y (FldK K f Φ) Ψ) := ⟨l_fld C s⟩
instance {Φ : V → Sy → Prop} {a C dx : Addr} {fs : List (Str × V)} {u : V} [i : Ins a O C dx fs] [c : Kc K C] [n : Na K C f] [l : Lkf f fs u] : Step (FldK K f Φ (.ref a) ⟨F, O⟩) (Φ u ⟨F, O⟩) := ⟨fun h => ⟨a, C, dx, fs, u, rfl, i.h, c.h, n.h, l.h, h⟩⟩
/-- o.f = e -/
def PutK (K : PySem.W.Frag) (f : Str) (v : V) (Φ : Sy → Prop) (u : V) (y : Sy) : Prop := ∃ a C dx fs O, u = .ref a ∧ ((a, OD.raw (.ins C dx fs)) :: O).Perm y.O ∧ Cls K C ∧ NoAttr K C f ∧ fs.length < 1000 ∧ Φ ⟨y.F, (a, .raw (.ins C dx (putF f v fs))) :: O⟩
theorem s_fld {Φ : Fl → Sy → Prop} (C : Cn P w K mg base k N sc vb lb gs X) (hs : swapsWith e (some (.Attribute o f pos')) pos.line X.env = pure false)
    (h : Lift K (wE X e σ) y (fun v y1 => Lift K (wE X o σ) y1 (PutK K f v fun z => Lift K (wSs X rest σ) z Φ Ψ) Ψ) Ψ) : Lift K (wSs X (.Assign [.Attribute o f pos'] e pos :: rest) σ) y Φ Ψ := by
  refine s_cons (s_of (fun E tk => ps_fld (pe_w tk) (pe_w tk) hs) ?_)
  refine Lift.bind2 (wE X e σ) (fun v => wE X o σ) (fun v u => fun _ H Q => ∃ a C dx fs, u = .ref a ∧ H a = some (.ins C dx fs) ∧ Cls X.K C ∧ NoAttr X.K C f ∧ fs.length < 1000 ∧ Q (Fl.nx σ) (upd H a (.ins C dx (putF f v fs)))) (fun _ _ _ q => q)
    (h.mono (fun v z1 g1 => g1.mono (fun u z ⟨a, D, dx, fs, O, e1, hO, c, n, l, g⟩ => ?_) fun _ _ q => q) fun _ _ q => q)
  obtain ⟨F, O'⟩ := z
  refine Lift.perm hO (Lift.raw fun S H ok E Q q => ?_)
  obtain ⟨_, o, ho, e2⟩ := ok.own a _ (List.Mem.head _)
  have e2 : o = _ := e2
  subst e2
  obtain ⟨ok2, st⟩ := ok.set (u2 := .raw (.ins D dx (putF f v fs))) (o2 := .ins D dx (putF f v fs)) rfl
  exact ⟨a, D, dx, fs, e1, ho, by rw [C.hK]; exact c, by rw [C.hK]; exact n, l, q _ _ _ _ ok2 st g⟩
instance {Φ : Fl → Sy → Prop} [C : Cn P w K mg base k N sc vb lb gs X] [hs : NoSwap e] : Step (Lift K (wSs X (.Assign [.Attribute o f pos'] e pos :: rest) σ) y Φ Ψ) (Lift K (wE X e σ) y (fun v y1 => Lift K (wE X o σ) y1 (PutK K f v fun z => Lift K (wSs X rest σ) z Φ Ψ) Ψ) Ψ) := ⟨s_fld C (hs.h _ _ _)⟩
instance {Φ : Sy → Prop} {a C dx : Addr} {fs fs' : List (Str × V)} {v : V} [c : Kc K C] [n : Na K C f] {O' : List (Addr × OD)} [pk : Pk a O (.raw (.ins C dx fs)) O'] [q : PutF f v fs fs'] : Step (PutK K f v Φ (.ref a) ⟨F, O⟩) (fs.length < 1000 ∧ Φ ⟨F, (a, .raw (.ins C dx fs')) :: O'⟩) := ⟨fun h => ⟨a, C, dx, fs, O', rfl, pk.h, c.h, n.h, h.1, by rw [q.h]; exact h.2⟩⟩
/-! ### a def's promise, the state at hand -/
def wSp (K : PySem.W.Frag) (n : Nat) (R : RY) (vs : List V) : TL V := fun E H Q => SpY K n R vs H Q E
theorem wSp_of {Φ : V → Sy → Prop} {n : Nat} {R : RY} {vs : List V} (h : vs.length = n ∧ R vs y Φ Ψ) : Lift K (wSp K n R vs) y Φ Ψ := fun S H ok Q E q e => ⟨h.1, y, S, Φ, Ψ, ok, h.2, q, e⟩
theorem l_callL {Φ : V → Sy → Prop} {n : Nat} {R : RY} [C : Cn P w K mg base k N sc vb lb gs X] [G : Cl P w K mg base x k n R] [hg : GIn x gs] [he : NoStar e] [hpl : NoStars es]
    (h : Lift K (wA X (e :: es) σ) y (fun vs y1 => Lift K (wSp K n R vs) y1 Φ Ψ) Ψ) : Lift K (wE X (.Call (.Name x p) (e :: es) [] pos) σ) y Φ Ψ := by
  obtain ⟨g, fd, ps, F, hm, hk, hb⟩ := G.h.ex
  have F' : FnOk X.prog X.w X.K X.mg X.base (L2.CX X.prog X.w) k g fd ps (SpY K n R) := by
    rw [C.hP, C.hw, C.hK, C.hm, C.hb]
    exact F
  refine l_of (fun E tk => pe_call (dvs := []) (ds := []) F' C.room (C.gl x hg.h).1 (by rw [C.hm]; exact hm) (by rw [C.hK]; exact hk) (by rw [C.hK]; exact hb) .nil (passes_call tk fun _ _ _ _ h => h) (pa_w tk) (C.gl x hg.h).2 (he.h _ _) (by rw [backTo_any]; exact hpl.h _)) ?_
  refine Lift.bind (T1 := wA X (e :: es) σ) (T2 := fun vs E H Q => SpY K n R (vs ++ []) H Q E) (fun _ _ _ q => q) (h.mono (fun vs z g => ?_) fun _ _ q => q)
  rw [List.append_nil]
  exact g
/-! ### methods -/
def MethK (K : PySem.W.Frag) (m : Str) (C : Addr) (Φ : V → Sy → Prop) (v : V) (y : Sy) : Prop := ∃ a dx fs, v = .ref a ∧ (a, OD.raw (.ins C dx fs)) ∈ y.O ∧ fs.lookup m = none ∧ Φ v y
theorem l_meth {Φ : V → Sy → Prop} {D : Addr} {n : Nat} {R : RY} (C : Cn P w K mg base k N sc vb lb gs X) (M : Me P w K mg base m D k n R) (he : NoStar e) (hpl : NoStars es) (ev : MEv o m apos e es pos)
    (h : Lift K (wE X o σ) y (MethK K m D fun v y1 => Lift K (wA X (e :: es) σ) y1 (fun vs y2 => Lift K (wSp K n R (v :: vs)) y2 Φ Ψ) Ψ) Ψ) : Lift K (wE X (.Call (.Attribute o m apos) (e :: es) [] pos) σ) y Φ Ψ := by
  obtain ⟨g, fd, ps, F, hm, hb⟩ := M.ex
  have F' : FnOk X.prog X.w X.K X.mg X.base (L2.CX X.prog X.w) k g fd ps (SpY K n R) := by
    rw [C.hP, C.hw, C.hK, C.hm, C.hb]
    exact F
  obtain ⟨pl, ht⟩ := ev.h X.env
  refine l_of (fun E tk => pe_meth (dvs := []) (ds := []) (pe_w tk) (by rw [C.hK]; exact M.cl) (by rw [C.hK]; exact hm) F' C.room (by rw [C.hK]; exact hb) .nil (passes_call tk fun _ _ _ _ h => h) (pa_w tk) (he.h _ _) (by rw [backTo_any]; exact hpl.h _) ht) ?_
  refine Lift.bind (T1 := wE X o σ) (T2 := fun v E H Q => ∃ a dx fs, v = .ref a ∧ H a = some (.ins D dx fs) ∧ fs.lookup m = none ∧ wA X (e :: es) σ E H fun vs H2 => SpY K n R (v :: (vs ++ [])) H2 Q E) (fun _ _ _ q => q) (h.mono (fun v z ⟨a, dx, fs, e1, mm, l, f1⟩ => ?_) fun _ _ q => q)
  intro S H ok Q E q e
  obtain ⟨_, o, ho, e2⟩ := ok.own a _ mm
  have e2 : o = _ := e2
  subst e2
  refine ⟨a, dx, fs, e1, ho, l, ?_⟩
  refine Lift.bind (T := fun E H Q => wA X _ σ E H fun vs H2 => SpY K n R (v :: (vs ++ [])) H2 Q E) (T1 := wA X _ σ) (T2 := fun vs E H2 Q => SpY K n R (v :: (vs ++ [])) H2 Q E) (fun _ _ _ q => q) (f1.mono (fun vs z2 f2 => ?_) fun _ _ q => q) S H ok Q E q e
  rw [List.append_nil]
  exact f2
theorem l_meth0 {Φ : V → Sy → Prop} {D : Addr} {n : Nat} {R : RY} (C : Cn P w K mg base k N sc vb lb gs X) (M : Me P w K mg base m D k n R) (ev : MEv0 o m apos pos)
    (h : Lift K (wE X o σ) y (MethK K m D fun v y1 => Lift K (wSp K n R [v]) y1 Φ Ψ) Ψ) : Lift K (wE X (.Call (.Attribute o m apos) [] [] pos) σ) y Φ Ψ := by
  obtain ⟨g, fd, ps, F, hm, hb⟩ := M.ex
  have F' : FnOk X.prog X.w X.K X.mg X.base (L2.CX X.prog X.w) k g fd ps (SpY K n R) := by
    rw [C.hP, C.hw, C.hK, C.hm, C.hb]
    exact F
  obtain ⟨pl, ht⟩ := ev.h X.env
  refine l_of (fun E tk => pe_meth0 (dvs := []) (ds := []) (pe_w tk) (by rw [C.hK]; exact M.cl) (by rw [C.hK]; exact hm) F' C.room (by rw [C.hK]; exact hb) .nil (passes_call tk fun _ _ _ _ h => h) ht) ?_
  refine Lift.bind (T1 := wE X o σ) (T2 := fun v E H Q => ∃ a dx fs, v = .ref a ∧ H a = some (.ins D dx fs) ∧ fs.lookup m = none ∧ SpY K n R (v :: ([] ++ [])) H Q E) (fun _ _ _ q => q) (h.mono (fun v z ⟨a, dx, fs, e1, mm, l, f1⟩ => ?_) fun _ _ q => q)
  intro S H ok Q E q e
  obtain ⟨_, o, ho, e2⟩ := ok.own a _ mm
  have e2 : o = _ := e2
  subst e2
  exact ⟨a, dx, fs, e1, ho, l, f1 S H ok Q E q e⟩
instance (priority := low) {Φ : V → Sy → Prop} {D : Addr} {n : Nat} {R : RY} [C : Cn P w K mg base k N sc vb lb gs X] [M : Me P w K mg base m D k n R] [he : NoStar e] [hpl : NoStars es] [ev : MEv o m apos e es pos] : Step (Lift K (wE X (.Call (.Attribute o m apos) (e :: es) [] pos) σ) y Φ Ψ) (Lift K (wE X o σ) y (MethK K m D fun v y1 => Lift K (wA X (e :: es) σ) y1 (fun vs y2 => Lift K (wSp K n R (v :: vs)) y2 Φ Ψ) Ψ) Ψ) := ⟨l_meth C M he hpl ev⟩
instance (priority := low) {Φ : V → Sy → Prop} {D : Addr} {n : Nat} {R : RY} [C : Cn P w K mg base k N sc vb lb gs X] [M : Me P w K mg base m D k n R] [ev : MEv0 o m apos pos] : Step (Lift K (wE X (.Call (.Attribute o m apos) [] [] pos) σ) y Φ Ψ) (Lift K (wE X o σ) y (MethK K m D fun v y1 => Lift K (wSp K n R [v]) y1 Φ Ψ) Ψ) := ⟨l_meth0 C M ev⟩
instance {Φ : V → Sy → Prop} {a C dx : Addr} {fs : List (Str × V)} [i : Ins a O C dx fs] [l : Nol m fs] : Step (MethK K m C Φ (.ref a) ⟨F, O⟩) (Φ (.ref a) ⟨F, O⟩) := ⟨fun h => ⟨a, dx, fs, rfl, i.h, l.h, h⟩⟩
/-! ### made -/
theorem OkS.newX {S H : Hp} (ok : OkS K y S H) {p : Addr} {o : HO} (hp : H p = none) : OkS K y S (upd H p o) ∧ Stp y.O S H y.O S (upd H p o) := by
  refine ⟨⟨fun a u e => ?_, ok.fac, fun q u' m => ?_, ok.nd⟩, ⟨fun a u e _ => ?_, fun a u e => ⟨u, ?_⟩, Sub.refl S, fun a u e => .inl ⟨u, e⟩, fun q m => .inl m⟩⟩
  · have := ok.sub a u e
    rw [upd_ne (ne_of_none this hp)]
    exact this
  · obtain ⟨n1, o1, h1, k1⟩ := ok.own q u' m
    exact ⟨n1, o1, by rw [upd_ne (ne_of_none h1 hp)]; exact h1, k1⟩
  · rw [upd_ne (ne_of_none e hp)]
    exact e
  · rw [upd_ne (ne_of_none e hp)]
    exact e
def MkK (K : PySem.W.Frag) (D : Addr) (n : Nat) (R : RY) (Φ : V → Sy → Prop) (Ψ : Value → Sy → Prop) (vs : List V) (y : Sy) : Prop := ∀ a dx, Lift K (wSp K n R (.ref a :: vs)) ⟨y.F, (a, .raw (.ins D dx [])) :: y.O⟩ (fun v z => v = .non ∧ Φ (.ref a) z) Ψ
theorem mk_run {Φ : V → Sy → Prop} {D : Addr} {n : Nat} {R : RY} {vs : List V} (h : MkK K D n R Φ Ψ vs y) : Lift K (fun E H Q => ∀ a dx, H a = none → H dx = none → dx ≠ a → SpY K n R (.ref a :: vs) (upd (upd H dx (.own a)) a (.ins D dx [])) (fun v H2 => v = .non ∧ Q (.ref a) H2) E) y Φ Ψ := by
  intro S H ok Q E q e a dx ha hdx ne
  obtain ⟨ok1, st1⟩ := ok.newX (o := .own a) hdx
  have ha1 : upd H dx (.own a) a = none := by rw [upd_ne (fun e => ne e.symm)]; exact ha
  obtain ⟨ok2, st2⟩ := ok1.newO (u := .raw (.ins D dx [])) (o := .ins D dx []) ha1 rfl
  have st := st1.trans st2
  exact h a dx S _ ok2 _ E (fun v y' S' H' o t f => ⟨f.1, q _ y' S' H' o (st.trans t) f.2⟩) fun c y' S' H' o t f => e c y' S' H' o (st.trans t) f
theorem l_make {Φ : V → Sy → Prop} {D : Addr} {n : Nat} {R : RY} [C : Cn P w K mg base k N sc vb lb gs X] [M : Mkr P w K mg base x D k n R] [hg : GIn x gs] [he : NoStar e] [hpl : NoStars es]
    (h : Lift K (wA X (e :: es) σ) y (MkK K D n R Φ Ψ) Ψ) : Lift K (wE X (.Call (.Name x p) (e :: es) [] pos) σ) y Φ Ψ := by
  obtain ⟨j, g, fd, ps, hj, F, hm, hx, hb⟩ := M.ex
  have F' : FnOk X.prog X.w X.K X.mg X.base (L2.CX X.prog X.w) j g fd ps (SpY K n R) := by
    rw [C.hP, C.hw, C.hK, C.hm, C.hb]
    exact F
  refine l_of (fun E tk => pe_make (dvs := []) (ds := []) (by rw [C.hK]; exact hm) F' (C.room.mono hj) (C.gl x hg.h).1 (by rw [C.hm]; exact hx) (by rw [C.hK]; exact hb) .nil (passes_call tk fun _ _ _ _ h => h) (pa_w tk) (C.gl x hg.h).2 (he.h _ _) (by rw [backTo_any]; exact hpl.h _)) ?_
  refine Lift.bind (T1 := wA X (e :: es) σ) (T2 := fun vs E H Q => ∀ a dx, H a = none → H dx = none → dx ≠ a → SpY K n R (.ref a :: (vs ++ [])) (upd (upd H dx (.own a)) a (.ins D dx [])) (fun v H2 => v = .non ∧ Q (.ref a) H2) E) (fun _ _ _ q => q) (h.mono (fun vs z g => ?_) fun _ _ q => q)
  rw [List.append_nil]
  exact mk_run g
instance (priority := low) {Φ : V → Sy → Prop} {D : Addr} {n : Nat} {R : RY} [C : Cn P w K mg base k N sc vb lb gs X] [M : Mkr P w K mg base x D k n R] [hg : GIn x gs] [he : NoStar e] [hpl : NoStars es] : Step (Lift K (wE X (.Call (.Name x p) (e :: es) [] pos) σ) y Φ Ψ) (Lift K (wA X (e :: es) σ) y (MkK K D n R Φ Ψ) Ψ) := ⟨l_make⟩
instance {Φ : V → Sy → Prop} {D : Addr} {n : Nat} {R : RY} {vs : List V} : Step (MkK K D n R Φ Ψ vs ⟨F, O⟩) (∀ a dx, Lift K (wSp K n R (.ref a :: vs)) ⟨F, (a, .raw (.ins D dx [])) :: O⟩ (fun v z => v = .non ∧ Φ (.ref a) z) Ψ) := ⟨fun h => h⟩
theorem l_make0 {Φ : V → Sy → Prop} {D : Addr} {n : Nat} {R : RY} [C : Cn P w K mg base k N sc vb lb gs X] [M : Mkr P w K mg base x D k n R] [hg : GIn x gs]
    (h : MkK K D n R Φ Ψ [] y) : Lift K (wE X (.Call (.Name x p) [] [] pos) σ) y Φ Ψ := by
  obtain ⟨j, g, fd, ps, hj, F, hm, hx, hb⟩ := M.ex
  have F' : FnOk X.prog X.w X.K X.mg X.base (L2.CX X.prog X.w) j g fd ps (SpY K n R) := by
    rw [C.hP, C.hw, C.hK, C.hm, C.hb]
    exact F
  refine l_of (fun E tk => pe_make0 (dvs := []) (ds := []) (by rw [C.hK]; exact hm) F' (C.room.mono hj) (C.gl x hg.h).1 (by rw [C.hm]; exact hx) (by rw [C.hK]; exact hb) .nil (passes_call tk fun _ _ _ _ h => h) (C.gl x hg.h).2) ?_
  exact mk_run h
instance (priority := low) {Φ : V → Sy → Prop} {D : Addr} {n : Nat} {R : RY} [C : Cn P w K mg base k N sc vb lb gs X] [M : Mkr P w K mg base x D k n R] [hg : GIn x gs] : Step (Lift K (wE X (.Call (.Name x p) [] [] pos) σ) y Φ Ψ) (MkK K D n R Φ Ψ [] y) := ⟨l_make0⟩
end
/-! ### all that is owned stands for a while, what is made behind is kept -/
mutual
def tO : Dt → Bool
  | .list _ => false
  | .dict _ => false
  | .tuple ds => tOA ds
  | _ => true
def tOA : List Dt → Bool
  | [] => true
  | d :: r => tO d && tOA r
end
theorem tO_tup (ds : List Dt) : tO (.tuple ds) = tOA ds := by simp only [tO]
section
variable {K : PySem.W.Frag} {S S2 : Hp}
mutual
theorem Rp.part (h : ∀ a o, S a = some o → (∃ xs, o = .tup xs ∨ ∃ od, o = .frz od (.tup xs)) → S2 a = some o) : ∀ {v : V} {d : Dt}, Rp K S v d → tO d = true → Rp K S2 v d
  | _, _, .non, _ => .non
  | _, _, .bl b, _ => .bl b
  | _, _, .int i, _ => .int i
  | _, _, .str x, _ => .str x
  | _, _, .lst q r, t => by simp [tO] at t
  | _, _, .tup q r, t => .tup (by
      rcases q with (q | ⟨od, q⟩) | q
      · exact .inl (.inl (h _ _ q ⟨_, .inl rfl⟩))
      · exact .inl (.inr ⟨od, h _ _ q ⟨_, .inr ⟨od, rfl⟩⟩⟩)
      · exact .inr q) (RpA.part h r (by rw [tO_tup] at t; exact t))
  | _, _, .emp q, t => by simp [tO] at t
  | _, _, .one q, t => by simp [tO] at t
  | _, _, .scr q, t => by simp [scrD, tO] at t
  | _, _, .dct q e r, t => by simp [dctD, tO] at t
  | _, _, .tpk q, t => by simp [tpD, tO] at t
  | _, _, .exc q _ _ _, t => by simp [excD, tO] at t
theorem RpA.part (h : ∀ a o, S a = some o → (∃ xs, o = .tup xs ∨ ∃ od, o = .frz od (.tup xs)) → S2 a = some o) : ∀ {vs : List V} {ds : List Dt}, RpA K S vs ds → tOA ds = true → RpA K S2 vs ds
  | _, _, .nil, _ => .nil
  | _, _, .cons q r, t => by
    simp only [tOA, Bool.and_eq_true] at t
    exact .cons (Rp.part h q t.1) (RpA.part h r t.2)
end
end
/-- what is owned behind holds no list of what stands for a while -/
def odT : OD → Bool
  | .lst ds => tOA ds
  | .raw _ => true
/-- owned cells that may stand for a while: no locked tuples among them -/
def odF : OD → Bool
  | .raw (.frz _ _) => false
  | _ => true
section
variable {K : PySem.W.Frag} {α : Type} {T : TL α} {F : List (V × Dt)} {O : List (Addr × OD)} {Φ : α → Sy → Prop} {Ψ : Value → Sy → Prop}
open Classical in
theorem Lift.still3 {Fp : List (V × Dt)} (hp : ∀ v d, (v, d) ∈ Fp → Rd F O v d) (hF : ∀ c ∈ O, odF c.2 = true)
    (h : Lift K T ⟨Fp, []⟩ (fun r z => (∀ c ∈ z.O, odT c.2 = true) ∧ ∃ Fn, (∀ e ∈ Fn, e ∈ z.F ∧ tO e.2 = true) ∧ Φ r ⟨Fn ++ F, z.O ++ O⟩) (fun c z => Ψ c ⟨F, O⟩)) : Lift K T ⟨F, O⟩ Φ Ψ := by
  intro S H ok Q E q e
  obtain ⟨S1, hS1⟩ : ∃ S1 : Hp, ∀ a, S1 a = if a ∈ dom O then H a else S a := ⟨fun a => if a ∈ dom O then H a else S a, fun _ => rfl⟩
  have s1 : Sub S S1 := fun a o h => by
    rw [hS1]
    by_cases ha : a ∈ dom O
    · rw [if_pos ha]
      exact ok.sub a o h
    · rw [if_neg ha]
      exact h
  have s2 : Sub S1 H := fun a o h => by
    rw [hS1] at h
    by_cases ha : a ∈ dom O
    · rw [if_pos ha] at h
      exact h
    · rw [if_neg ha] at h
      exact ok.sub a o h
  have ok1 : OkS K ⟨Fp, []⟩ S1 H := ⟨s2, fun v d m => (hp v d m).rp ok s1 (fun a o m h => by
    rw [hS1, if_pos m]
    exact h), fun p u m => (nomatch m), List.nodup_nil⟩
  have back : ∀ z S' H', Stp [] S1 H z S' H' → OkS K ⟨F, O⟩ S H' ∧ Stp O S H O S H' := fun z S' H' st =>
    ⟨⟨fun a o h => st.keep a o (ok.sub a o h) (by simp [dom]), ok.fac, fun p u m => by
      obtain ⟨n1, o, ho, r⟩ := ok.own p u m
      exact ⟨n1, o, st.keep p o ho (by simp [dom]), r⟩, ok.nd⟩,
     ⟨fun a o h _ => st.keep a o h (by simp [dom]), st.live, Sub.refl S, fun a o h => .inl ⟨o, h⟩, fun p m => .inl m⟩⟩
  refine h S1 H ok1 Q E (fun r z S' H' ok' st' ⟨hz, Fn, hFn, f⟩ => ?_) fun c z S' H' ok' st' f => ?_
  · -- the told heap without what is owned, but tuples
    obtain ⟨S2, hS2⟩ : ∃ S2 : Hp, ∀ a, S2 a = if a ∈ dom O ∧ ¬ ∃ xs, H a = some (.tup xs) then S a else S' a := ⟨fun a => if a ∈ dom O ∧ ¬ ∃ xs, H a = some (.tup xs) then S a else S' a, fun _ => rfl⟩
    have hk : ∀ a o, H a = some o → H' a = some o := fun a o h => st'.keep a o h (by simp [dom])
    have sS : Sub S S2 := fun a o h => by
      rw [hS2]
      by_cases c : a ∈ dom O ∧ ¬ ∃ xs, H a = some (.tup xs)
      · rw [if_pos c]
        exact h
      · rw [if_neg c]
        exact st'.sub a o (s1 a o h)
    have pt : ∀ a o, S' a = some o → (∃ xs, o = .tup xs ∨ ∃ od, o = .frz od (.tup xs)) → S2 a = some o := fun a o h ⟨xs, hx⟩ => by
      rw [hS2]
      by_cases c : a ∈ dom O ∧ ¬ ∃ xs, H a = some (.tup xs)
      · exfalso
        obtain ⟨⟨p, u⟩, m, rfl⟩ := List.mem_map.mp c.1
        obtain ⟨n1, o1, ho1, r1⟩ := ok.own p u m
        have e1 := hk _ _ ho1
        have e2 := ok'.sub _ _ h
        rw [e1] at e2
        cases e2
        rcases hx with rfl | ⟨od, rfl⟩
        · exact c.2 ⟨xs, ho1⟩
        · have := hF _ m
          cases u with
          | lst ds =>
            obtain ⟨_, e3, _⟩ := r1
            cases e3
          | raw o2 =>
            have r1 : HO.frz od (.tup xs) = o2 := r1
            subst r1
            simp [odF] at this
      · rw [if_neg c]
        exact h
    refine q r ⟨Fn ++ F, z.O ++ O⟩ S2 H' ⟨fun a o h => ?_, fun v d m => ?_, fun p u m => ?_, ?_⟩ ⟨fun a o h n => hk a o h, st'.live, sS, fun a o h => ?_, fun p m => ?_⟩ f
    · rw [hS2] at h
      by_cases c : a ∈ dom O ∧ ¬ ∃ xs, H a = some (.tup xs)
      · rw [if_pos c] at h
        exact hk _ _ (ok.sub a o h)
      · rw [if_neg c] at h
        exact ok'.sub a o h
    · rcases List.mem_append.mp m with m | m
      · obtain ⟨g1, g2⟩ := hFn _ m
        exact (ok'.fac v d g1).part pt g2
      · exact (ok.fac v d m).mono sS
    · rcases List.mem_append.mp m with m | m
      · obtain ⟨n1, o1, h1, r1⟩ := ok'.own p u m
        have hn : p ∉ dom O := fun hd => by
          rcases st'.newO p (List.mem_map.mpr ⟨_, m, rfl⟩) with g | g
          · simp [dom] at g
          · obtain ⟨⟨p', u'⟩, m', e'⟩ := List.mem_map.mp hd
            obtain ⟨_, o2, h2, _⟩ := ok.own p' u' m'
            cases (show p' = p from e')
            rw [g] at h2
            cases h2
        refine ⟨fun t => ?_, o1, h1, ?_⟩
        · rw [hS2, if_neg fun c => hn c.1]
          exact n1 t
        · have := hz _ m
          cases u with
          | lst ds =>
            obtain ⟨xs, e1, r1⟩ := r1
            exact ⟨xs, e1, r1.part pt this⟩
          | raw o2 => exact r1
      · obtain ⟨n1, o1, h1, r1⟩ := ok.own p u m
        refine ⟨fun t => ?_, o1, hk _ _ h1, r1.mono sS⟩
        have hnt : ¬ ∃ xs, H p = some (.tup xs) := fun ⟨xs, hx⟩ => by
          rw [h1] at hx
          cases hx
          cases u with
          | lst ds =>
            obtain ⟨_, e3, _⟩ := r1
            cases e3
          | raw o2 =>
            have r1 : HO.tup xs = o2 := r1
            subst r1
            cases t
        rw [hS2, if_pos ⟨List.mem_map.mpr ⟨_, m, rfl⟩, hnt⟩]
        exact n1 t
    · show (dom (z.O ++ O)).Nodup
      unfold dom
      rw [List.map_append]
      refine List.nodup_append.mpr ⟨ok'.nd, ok.nd, fun a ha b hb e => ?_⟩
      subst e
      rcases st'.newO a ha with g | g
      · simp [dom] at g
      · obtain ⟨⟨p', u'⟩, m', e'⟩ := List.mem_map.mp hb
        obtain ⟨_, o2, h2, _⟩ := ok.own p' u' m'
        cases (show p' = a from e')
        rw [g] at h2
        cases h2
    · rw [hS2] at h
      by_cases c : a ∈ dom O ∧ ¬ ∃ xs, H a = some (.tup xs)
      · rw [if_pos c] at h
        exact .inl ⟨o, h⟩
      · rw [if_neg c] at h
        rcases st'.newS a o h with ⟨u, g⟩ | g | g | g
        · rw [hS1] at g
          by_cases c2 : a ∈ dom O
          · exact .inr (.inl c2)
          · rw [if_neg c2] at g
            exact .inl ⟨u, g⟩
        · simp [dom] at g
        · exact .inr (.inr (.inl g))
        · exact .inr (.inr (.inr g))
    · have m : p ∈ dom (z.O ++ O) := m
      unfold dom at m
      rw [List.map_append] at m
      rcases List.mem_append.mp m with m | m
      · rcases st'.newO p m with g | g
        · simp [dom] at g
        · exact .inr g
      · exact .inl m
  · obtain ⟨b1, b2⟩ := back _ _ _ st'
    exact e c _ S H' b1 b2 f
/-- an owned list of things that stand, an owned tuple of such -/
theorem Lift.standL {p : Addr} {vs : List V} {ds : List Dt} (hd : HsA F vs ds) (h : Lift K T ⟨(.ref p, .list ds) :: F, O⟩ Φ Ψ) : Lift K T ⟨F, (p, .raw (.lst vs)) :: O⟩ Φ Ψ := by
  refine Lift.pre (y2 := ⟨F, (p, .lst ds) :: O⟩) (fun S H ok => ⟨S, ⟨ok.sub, ok.fac, fun q u m => ?_, ok.nd⟩, ⟨fun _ _ h _ => h, fun _ o h => ⟨o, h⟩, Sub.refl S, fun _ o h => .inl ⟨o, h⟩, fun p m => .inl m⟩⟩) (Lift.release h)
  rcases List.mem_cons.mp m with e | m
  · cases e
    obtain ⟨n1, o, ho, r⟩ := ok.own p _ (List.Mem.head _)
    have r : o = .lst vs := r
    subst r
    exact ⟨fun _ => n1 rfl, _, ho, vs, rfl, hd.rp (y := ⟨F, (p, .raw (.lst vs)) :: O⟩) ok⟩
  · exact ok.own q u (List.mem_cons_of_mem _ m)
theorem Lift.standT {p : Addr} {vs : List V} {ds : List Dt} (hd : HsA F vs ds) (h : Lift K T ⟨(.ref p, .tuple ds) :: F, O⟩ Φ Ψ) : Lift K T ⟨F, (p, .raw (.tup vs)) :: O⟩ Φ Ψ := by
  refine Lift.pre (y2 := ⟨(.ref p, .tuple ds) :: F, O⟩) (fun S H ok => ?_) h
  obtain ⟨_, o, ho, r⟩ := ok.own p _ (List.Mem.head _)
  have r : o = .tup vs := r
  subst r
  have sb : Sub S (upd S p (.tup vs)) := fun a u e => by
    by_cases c : a = p
    · subst c
      have := ok.sub _ _ e
      rw [ho] at this
      rw [upd_same]
      exact this
    · rw [upd_ne c]
      exact e
  have nd : p ∉ dom O ∧ (dom O).Nodup := List.nodup_cons.mp ok.nd
  have rv := hd.rp (y := ⟨F, (p, .raw (.tup vs)) :: O⟩) ok
  refine ⟨upd S p (.tup vs), ⟨fun a u e => ?_, fun v d m => ?_, fun q u m => ?_, nd.2⟩, ⟨fun _ _ h _ => h, fun _ o h => ⟨o, h⟩, sb, fun a u e => ?_, fun q m => .inl (List.mem_cons_of_mem _ m)⟩⟩
  · by_cases c : a = p
    · subst c
      rw [upd_same] at e
      rw [← e]
      exact ho
    · rw [upd_ne c] at e
      exact ok.sub a u e
  · rcases List.mem_cons.mp m with e | m
    · cases e
      exact .tup (SqT.of upd_same) (rv.mono sb)
    · exact (ok.fac v d m).mono sb
  · obtain ⟨n1, o1, h1, k1⟩ := ok.own q u (List.mem_cons_of_mem _ m)
    have ne : q ≠ p := fun e => by
      subst e
      exact nd.1 (List.mem_map.mpr ⟨(q, u), m, rfl⟩)
    exact ⟨fun h => by rw [upd_ne ne]; exact n1 h, o1, h1, k1.mono sb⟩
  · by_cases c : a = p
    · subst c
      exact .inr (.inl (List.mem_cons_self ..))
    · rw [upd_ne c] at e
      exact .inl ⟨u, e⟩
end
/-! by other names -/
section
variable {P : Program} {w : World} {K : PySem.W.Frag} {mg : Str → Option Value} {base : Heap}
theorem Cl.as {x x' qual : Str} {st : Stmt} {f : Addr} {fd : FuncData} {ps : List Str} {j n : Nat} {R : RY} (hm : mg x' = some (.ref f)) (F : Fun K x qual st f fd) (b : Binds K fd ps []) (ok : FnOk P w K mg base (L2.CX P w) j f fd ps (SpY K n R)) {k : Nat} (h : j ≤ k) : Cl P w K mg base x' k n R :=
  ⟨⟨f, fd, ps, ok.mono h, hm, F.kp, b⟩⟩
end
end Yl

/-! owned cells brought to the front -/
namespace Yl
open PySem PySem.Spec PyProof.Rows
open L2 hiding prD
class Brg (as : List Addr) (O : List (Addr × OD)) (O' : outParam (List (Addr × OD))) : Prop where
  h : O'.Perm O
instance (O : List (Addr × OD)) : Brg [] O O := ⟨.refl _⟩
instance (a : Addr) (as : List Addr) (O O1 O2 : List (Addr × OD)) (u : OD) [p : Pk a O u O1] [b : Brg as O1 O2] : Brg (a :: as) O ((a, u) :: O2) := ⟨(List.Perm.cons _ b.h).trans p.h⟩
section
variable {K : PySem.W.Frag} {α : Type} {T : TL α} {F : List (V × Dt)} {O O' : List (Addr × OD)} {Φ : α → Sy → Prop} {Ψ : Value → Sy → Prop}
theorem Lift.bring (as : List Addr) [b : Brg as O O'] (h : Lift K T ⟨F, O'⟩ Φ Ψ) : Lift K T ⟨F, O⟩ Φ Ψ := Lift.perm b.h h
/-- fewer owned cells -/
theorem Lift.lessO {O2 : List (Addr × OD)} (s : O2.Sublist O) (h : Lift K T ⟨F, O2⟩ Φ Ψ) : Lift K T ⟨F, O⟩ Φ Ψ := by
  refine Lift.pre (y2 := ⟨F, O2⟩) (fun S H ok => ⟨S, ⟨ok.sub, ok.fac, fun p u m => ok.own p u (s.subset m), ok.nd.sublist (s.map _)⟩, ?_⟩) h
  exact ⟨fun _ _ h _ => h, fun _ o h => ⟨o, h⟩, Sub.refl S, fun _ o h => .inl ⟨o, h⟩, fun p m => .inl ((s.map _).subset m)⟩
end
end Yl

/-! a loop over a dict that stands; d.get(k, z); d[t] = v with t an owned tuple -/
namespace Yl
open PySem PySem.Spec PyProof.Rows
open L2 hiding prD
section
variable {P : Program} {w : World} {K : PySem.W.Frag} {mg : Str → Option Value} {base : Heap} {k : Nat} {N : List Str} {sc : Scope} {vb lb : List Bool} {gs : List Str} {X : Cx} {y : Sy} {σ σw : L2.St} {Ψ : Value → Sy → Prop} {a b c e : Expr} {pos p p2 : Pos} {F : List (V × Dt)} {O : List (Addr × OD)} {rest : List Stmt}
/-- a loop's turn ends by itself -/
def loopN (Iv : L2.St → Sy → Prop) : Fl → Sy → Prop
  | .nx s, y => Iv s y
  | .ct s, y => Iv s y
  | .bk _, _ => False
  | .rt _, _ => False
theorem s_forK {Φ : Fl → Sy → Prop} {tg iter : Expr} {body : List Stmt} {v : V} {es : List (List Int × Dt)} (C : Cn P w K mg base k N sc vb lb gs X) (hs : ∀ x, foldedSetIterable iter X.env x = pure x)
    (hd : Hs y.F v (dctD es)) (hn : ∀ Φ' : V → Sy → Prop, Φ' v y → Lift K (wE X iter σ) y Φ' NoX) (Iv : Nat → L2.St → Sy → Prop) (i0 : Iv 0 σ y)
    (turn : ∀ i ns dv σ' y' x, es[i]? = some (ns, dv) → Iv i σ' y' → Lift K (wG X tg x σ') ⟨(x, tpD ns) :: y'.F, y'.O⟩ (fun σ2 y2 => Lift K (wSs X body σ2) y2 (loopN (Iv (i + 1))) NoX) NoX)
    (done : ∀ σ' y', Iv es.length σ' y' → Lift K (wSs X rest σ') y' Φ Ψ) : Lift K (wSs X (.For tg iter body [] pos :: rest) σ) y Φ Ψ := by
  intro S H okS Q E q e tk pins s I
  obtain ⟨d, kvs, rfl, hS, hk, hr⟩ := hd.dct okS
  have pf : PS X (.For tg iter body [] pos) (tFor (iKeys fun σ H Q => wE X iter σ E H Q) (fun v σ H Q => wG X tg v σ E H Q) (fun D σ H => wSs X body σ E H (flQ D))) := ps_for C.pw C.calm (pi_keys (pe_w tk)) (pg_w tk) (pss_w tk) hs
  have core : ∀ S2 H2 (ok2 : OkS K y S2 H2) (od : Obj) (hd2 : S2 d = some (.frz od (.dT kvs))) (D : Ends), (∀ σ' y' S' H', Iv es.length σ' y' → OkS K y' S' H' → Stp y.O S2 H2 y'.O S' H' → D.nx σ' H') →
      tFor (iKeys fun σ H Q => wE X iter σ E H Q) (fun v σ H Q => wG X tg v σ E H Q) (fun D σ H => wSs X body σ E H (flQ D)) D σ H2 := by
    intro S2 H2 ok2 od hd2 D hD
    show wE X iter σ E H2 _
    refine hn (fun u z => u = .ref d ∧ z = y) ⟨rfl, rfl⟩ S2 H2 ok2 _ E (fun u y' S' H' ok' st' ⟨e1, e2⟩ => ?_) fun _ _ _ _ _ _ z => z.elim
    subst e1
    subst e2
    refine ⟨d, od, rfl, .inr ⟨kvs, ok'.sub _ _ (st'.sub _ _ hd2), ?_⟩⟩
    obtain ⟨G, Y, wk⟩ := SrW.keys (K := K) (st'.sub _ _ hd2) hk
    obtain ⟨wk, hG, hY⟩ := wk
    refine for_it wk (g := fun v σ H Q => wG X tg v σ E H Q) (tb := fun D σ H => wSs X body σ E H (flQ D)) (D := D)
      (fun i σ' H'' => ∃ y2 S'', OkS K y2 S'' H'' ∧ Stp y'.O S' H' y2.O S'' H'' ∧ Iv i σ' y2) ⟨y', S', ok', Stp.refl _ _ _, i0⟩ (fun i σ' H'' _ ⟨y2, S'', ok2, st2, _⟩ => hG _ _ st2.sub ok2.sub) ?_ ?_
    · rintro i x σ' H1 H3 hi ⟨y2, S1, ok1, st1, iv⟩ yy
      obtain ⟨dd, hdd⟩ : ∃ dd, (keysD es)[i]? = some dd := ⟨_, List.getElem?_eq_getElem hi⟩
      obtain ⟨S3, ok3, st3⟩ := hY i H1 x H3 dd y2 S1 hdd st1.sub ok1 yy
      obtain ⟨ns, dv, he, rfl⟩ := keysD_at hdd
      have s3 := st1.trans st3
      refine turn i ns dv σ' y2 x he iv S3 H3 ok3 _ E (fun σ2 y4 S4 H4 ok4 st4 l2 => ?_) fun _ _ _ _ _ _ z => z.elim
      have s4 := s3.trans st4
      refine l2 S4 H4 ok4 _ E (fun f y5 S5 H5 ok5 st5 lk => ?_) fun _ _ _ _ _ _ z => z.elim
      have s5 := s4.trans st5
      cases f with
      | nx s => exact ⟨y5, S5, ok5, s5, lk⟩
      | ct s => exact ⟨y5, S5, ok5, s5, lk⟩
      | rt v => exact lk.elim
      | bk s => exact lk.elim
    · rintro σ' H1 ⟨y2, S1, ok1, st1, iv⟩
      rw [keysD_len] at iv
      exact hD σ' y2 S1 H1 iv ok1 (st'.trans st1)
  rcases hS with hS | ⟨od, hS⟩
  · refine (pss_cons (ps_lock pf) (pss_w tk)).run pins s σ H (ends Q) I ?_
    refine ⟨d, .dT kvs, okS.sub _ _ hS, True.intro, fun od => ?_⟩
    refine core (upd S d (.frz od (.dT kvs))) _ (okS.swap hS (.inl rfl) (.inr ⟨od, rfl⟩)) od upd_same _ fun σ' y' S' H' iv ok' st' => ?_
    have hd' := st'.sub _ _ upd_same
    refine ⟨ok'.sub _ _ hd', ?_⟩
    show wSs X rest σ' E _ (flQ (ends Q))
    rw [flQ_ends]
    have st2 := st'.unlock hS (okS.sub _ _ hS)
    exact done σ' y' iv _ _ (ok'.swap hd' (.inr ⟨od, rfl⟩) (.inl rfl)) Q E (fun r y6 S6 H6 o6 t6 g => q r y6 S6 H6 o6 (st2.trans t6) g) fun c y6 S6 H6 o6 t6 g => e c y6 S6 H6 o6 (st2.trans t6) g
  · refine (pss_cons pf (pss_w tk)).run pins s σ H (ends Q) I ?_
    refine core S H okS od hS _ fun σ' y' S' H' iv ok' st' => ?_
    show wSs X rest σ' E _ (flQ (ends Q))
    rw [flQ_ends]
    exact done σ' y' iv _ _ ok' Q E (fun r y6 S6 H6 o6 t6 g => q r y6 S6 H6 o6 (st'.trans t6) g) fun c y6 S6 H6 o6 t6 g => e c y6 S6 H6 o6 (st'.trans t6) g
/-- d.get(t, z), t an owned tuple -/
theorem l_dget2 {Φ : V → Sy → Prop} {o e f : Expr} {apos cpos : Pos} (C : Cn P w K mg base k N sc vb lb gs X) (m : M2 X o "get" apos e f cpos)
    (h : Lift K (wE X o σ) y (fun x y1 => ∃ (q : Addr) (kvs : List (List L2.Key × V)), x = .ref q ∧ (q, OD.raw (.dT kvs)) ∈ y1.O ∧ Lift K (wE X e σ) y1 (fun t y2 => Lift K (wE X f σ) y2 (fun z y3 =>
      ∃ (s : Addr) (ns : List Int), t = .ref s ∧ (q, OD.raw (.dT kvs)) ∈ y3.O ∧ (s, OD.raw (.tup (ns.map V.int))) ∈ y3.O ∧ Φ ((valV kvs (ky ns)).getD z) y3) Ψ) Ψ) Ψ) :
    Lift K (wE X (.Call (.Attribute o "get" apos) [e, f] [] cpos) σ) y Φ Ψ := by
  refine l_of (fun E tk => pe_dget2 C.un1 (pe_w tk) (pe_w tk) (pe_w tk) m) ?_
  refine Lift.bind (T1 := wE X o σ) (T2 := fun x E H1 Q => ∃ a, x = .ref a ∧ IsD H1 a ∧ wE X e σ E H1 fun y H2 => wE X f σ E H2 fun z H3 => ∃ o, DGet H3 a y o ∧ Q (o.getD z) H3) (fun _ _ _ q => q) (h.mono (fun x y1 ⟨q, kvs, ex, hq, h2⟩ => ?_) fun _ _ q => q)
  subst ex
  intro S H ok Q E qq ee
  obtain ⟨_, o1, ho1, e1⟩ := ok.own q _ hq
  cases e1
  refine ⟨q, rfl, .inr ⟨kvs, .inl ho1⟩, ?_⟩
  refine h2 S H ok _ E (fun t y2 S2 H2 ok2 st2 h3 => ?_) fun c y2 S2 H2 ok2 st2 f => ee c y2 S2 H2 ok2 st2 f
  refine h3 S2 H2 ok2 _ E (fun z y3 S3 H3 ok3 st3 ⟨s, ns, et, m1, m2, f⟩ => ?_) fun c y3 S3 H3 ok3 st3 f => ee c y3 S3 H3 ok3 (st2.trans st3) f
  subst et
  obtain ⟨_, o3, ho3, e3⟩ := ok3.own q _ m1
  cases e3
  obtain ⟨_, o4, ho4, e4⟩ := ok3.own s _ m2
  cases e4
  exact ⟨_, DGet.t ho3 (by rw [ky_kV]; exact ho4), qq _ y3 S3 H3 ok3 (st2.trans st3) f⟩
/-- d[t] = v, t an owned tuple -/
theorem st_dTu {Φ : Unit → Sy → Prop} {q s : Addr} {ns : List Int} {kvs : List (List L2.Key × V)} {v : V} (C : Cn P w K mg base k N sc vb lb gs X) (hs : (s, OD.raw (.tup (ns.map V.int))) ∈ O) (hz : kvs.length ≤ 1000000) (h : Φ () ⟨F, (q, .raw (.dT (putK kvs (ky ns) v))) :: O⟩) : Lift K (wSt X (.ref q) (.ref s) v) ⟨F, (q, .raw (.dT kvs)) :: O⟩ Φ Ψ := by
  refine st_of (set_dict C.un1) (Lift.raw fun S H ok E Q qq => ?_)
  obtain ⟨_, o, ho, e2⟩ := ok.own q _ List.mem_cons_self
  cases e2
  obtain ⟨_, o3, ho3, e3⟩ := ok.own s _ (List.mem_cons_of_mem _ hs)
  cases e3
  obtain ⟨ok2, st⟩ := ok.set (u2 := .raw (.dT (putK kvs (ky ns) v))) (o2 := .dT (putK kvs (ky ns) v)) rfl
  exact ⟨q, _, rfl, DPut.t ho (by rw [ky_kV]; exact ho3) (Nat.lt_of_le_of_lt hz (by decide)), qq _ _ S _ ok2 st h⟩
end
end Yl

set_option synthInstance.maxSize 1000
set_option synthInstance.maxHeartbeats 400000
namespace Kx
open PySem PySem.Spec PyProof.Rows Yl
open L2 hiding prD
-- row onebend_k19_whole_fewest_bends_in_wide_b
def top (i : Nat) : Stmt := PySem.Challenge.pw_onebend_k19_whole_fewest_bends_in_wide_b.main.body.getD i (.Pass ⟨0, 0, 0, 0⟩)
/-! ### is_whole: slots 0 thing -/
abbrev s_is_whole : Stmt := top 4
abbrev N_is_whole : List Str := ["thing"]
abbrev v_is_whole : List Bool := [true]
abbrev b_is_whole : List Bool := [true]
abbrev g_is_whole : List Str := ["isinstance", "int", "bool"]
theorem sc_is_whole : FnScope N_is_whole ["thing"] (defScope s_is_whole) := ⟨rfl, rfl, rfl, by decide +kernel, rfl, by decide +kernel, by decide +kernel⟩
theorem ck_is_whole : chkT (defScope s_is_whole) N_is_whole v_is_whole b_is_whole g_is_whole = true := by decide +kernel
/-! ### is_bound: slots 0 thing -/
abbrev s_is_bound : Stmt := top 8
abbrev N_is_bound : List Str := ["thing"]
abbrev v_is_bound : List Bool := [true]
abbrev b_is_bound : List Bool := [true]
abbrev g_is_bound : List Str := ["isinstance", "tuple", "len", "is_whole", "MOST_WIDE"]
theorem sc_is_bound : FnScope N_is_bound ["thing"] (defScope s_is_bound) := ⟨rfl, rfl, rfl, by decide +kernel, rfl, by decide +kernel, by decide +kernel⟩
theorem ck_is_bound : chkT (defScope s_is_bound) N_is_bound v_is_bound b_is_bound g_is_bound = true := by decide +kernel
/-! ### need_bounds: slots 0 bounds, 1 bound -/
abbrev s_need_bounds : Stmt := top 9
abbrev N_need_bounds : List Str := ["bounds", "bound"]
abbrev v_need_bounds : List Bool := [true, false]
abbrev b_need_bounds : List Bool := [true, false]
abbrev g_need_bounds : List Str := ["isinstance", "list", "len", "MOST_BOUNDS", "NoBounds"]
theorem sc_need_bounds : FnScope N_need_bounds ["bounds"] (defScope s_need_bounds) := ⟨rfl, rfl, rfl, by decide +kernel, rfl, by decide +kernel, by decide +kernel⟩
theorem ck_need_bounds : chkT (defScope s_need_bounds) N_need_bounds v_need_bounds b_need_bounds g_need_bounds = true := by decide +kernel
-- comprehension 0: own bound
abbrev o_need_bounds0 : List (Str × Nat) := [("bound", 1)]
abbrev w_need_bounds0 : List Nat := [1]
abbrev v_need_bounds0 : List Bool := [false, true]
abbrev b_need_bounds0 : List Bool := [false, true]
abbrev g_need_bounds0 : List Str := ["is_bound"]
/-! ### counts_from: slots 0 bounds, 1 last, 2 counts, 3 at, 4 ahead, 5 here, 6 found, 7 least, 8 more -/
abbrev s_counts_from : Stmt := top 10
abbrev N_counts_from : List Str := ["bounds", "last", "counts", "at", "ahead", "here", "found", "least", "more"]
abbrev v_counts_from : List Bool := [true, true, true, true, true, true, true, true, false]
abbrev b_counts_from : List Bool := [true, true, true, true, true, true, true, true, false]
abbrev g_counts_from : List Str := ["len", "range", "max", "sum"]
theorem sc_counts_from : FnScope N_counts_from ["bounds"] (defScope s_counts_from) := ⟨rfl, rfl, rfl, by decide +kernel, rfl, by decide +kernel, by decide +kernel⟩
theorem ck_counts_from : chkT (defScope s_counts_from) N_counts_from v_counts_from b_counts_from g_counts_from = true := by decide +kernel
-- comprehension 0: own more
abbrev o_counts_from0 : List (Str × Nat) := [("more", 8)]
abbrev w_counts_from0 : List Nat := [8]
abbrev v_counts_from0 : List Bool := [false, false, true, true, false, true, false, false, true]
abbrev b_counts_from0 : List Bool := [false, false, false, false, false, false, false, false, true]
abbrev g_counts_from0 : List Str := []
/-! ### first_counts: slots 0 bounds, 1 counts, 2 found, 3 number, 4 more -/
abbrev s_first_counts : Stmt := top 11
abbrev N_first_counts : List Str := ["bounds", "counts", "found", "number", "more"]
abbrev v_first_counts : List Bool := [true, true, true, true, false]
abbrev b_first_counts : List Bool := [true, true, true, true, false]
abbrev g_first_counts : List Str := ["counts_from", "range", "len", "sum"]
theorem sc_first_counts : FnScope N_first_counts ["bounds"] (defScope s_first_counts) := ⟨rfl, rfl, rfl, by decide +kernel, rfl, by decide +kernel, by decide +kernel⟩
theorem ck_first_counts : chkT (defScope s_first_counts) N_first_counts v_first_counts b_first_counts g_first_counts = true := by decide +kernel
-- comprehension 0: own more
abbrev o_first_counts0 : List (Str × Nat) := [("more", 4)]
abbrev w_first_counts0 : List Nat := [4]
abbrev v_first_counts0 : List Bool := [false, true, false, true, true]
abbrev b_first_counts0 : List Bool := [false, false, false, false, true]
abbrev g_first_counts0 : List Str := []
/-! ### how_many_within: slots 0 bounds, 1 found, 2 counts -/
abbrev s_how_many_within : Stmt := top 12
abbrev N_how_many_within : List Str := ["bounds", "found", "counts"]
abbrev v_how_many_within : List Bool := [true, true, true]
abbrev b_how_many_within : List Bool := [true, true, true]
abbrev g_how_many_within : List Str := ["need_bounds", "first_counts", "sum", "list"]
theorem sc_how_many_within : FnScope N_how_many_within ["bounds"] (defScope s_how_many_within) := ⟨rfl, rfl, rfl, by decide +kernel, rfl, by decide +kernel, by decide +kernel⟩
theorem ck_how_many_within : chkT (defScope s_how_many_within) N_how_many_within v_how_many_within b_how_many_within g_how_many_within = true := by decide +kernel
/-! ### is_there_one: slots 0 bounds -/
abbrev s_is_there_one : Stmt := top 13
abbrev N_is_there_one : List Str := ["bounds"]
abbrev v_is_there_one : List Bool := [true]
abbrev b_is_there_one : List Bool := [true]
abbrev g_is_there_one : List Str := ["how_many_within"]
theorem sc_is_there_one : FnScope N_is_there_one ["bounds"] (defScope s_is_there_one) := ⟨rfl, rfl, rfl, by decide +kernel, rfl, by decide +kernel, by decide +kernel⟩
theorem ck_is_there_one : chkT (defScope s_is_there_one) N_is_there_one v_is_there_one b_is_there_one g_is_there_one = true := by decide +kernel
/-! ### best_from: slots 0 bounds, 1 last, 2 best, 3 at, 4 ahead, 5 here, 6 some -/
abbrev s_best_from : Stmt := top 15
abbrev N_best_from : List Str := ["bounds", "last", "best", "at", "ahead", "here", "some"]
abbrev v_best_from : List Bool := [true, true, true, true, true, true, true]
abbrev b_best_from : List Bool := [true, true, true, true, true, true, true]
abbrev g_best_from : List Str := ["len", "range", "goings_on", "min"]
theorem sc_best_from : FnScope N_best_from ["bounds"] (defScope s_best_from) := ⟨rfl, rfl, rfl, by decide +kernel, rfl, by decide +kernel, by decide +kernel⟩
theorem ck_best_from : chkT (defScope s_best_from) N_best_from v_best_from b_best_from g_best_from = true := by decide +kernel
/-! ### goings_on: slots 0 bounds, 1 best, 2 at, 3 ahead, 4 here, 5 some, 6 more, 7 bends, 8 numbers -/
abbrev s_goings_on : Stmt := top 16
abbrev N_goings_on : List Str := ["bounds", "best", "at", "ahead", "here", "some", "more", "bends", "numbers"]
abbrev v_goings_on : List Bool := [true, true, true, true, true, true, true, true, true]
abbrev b_goings_on : List Bool := [true, true, true, true, true, true, true, true, true]
abbrev g_goings_on : List Str := ["range", "max", "int"]
theorem sc_goings_on : FnScope N_goings_on ["bounds", "best", "at", "ahead", "here"] (defScope s_goings_on) := ⟨rfl, rfl, rfl, by decide +kernel, rfl, by decide +kernel, by decide +kernel⟩
theorem ck_goings_on : chkT (defScope s_goings_on) N_goings_on v_goings_on b_goings_on g_goings_on = true := by decide +kernel
/-! ### fewest_bends: slots 0 bounds, 1 best, 2 some, 3 first, 4 second, 5 bends, 6 numbers -/
abbrev s_fewest_bends : Stmt := top 17
abbrev N_fewest_bends : List Str := ["bounds", "best", "some", "first", "second", "bends", "numbers"]
abbrev v_fewest_bends : List Bool := [true, true, true, true, true, true, true]
abbrev b_fewest_bends : List Bool := [true, true, true, true, true, true, true]
abbrev g_fewest_bends : List Str := ["need_bounds", "len", "best_from", "range", "min"]
theorem sc_fewest_bends : FnScope N_fewest_bends ["bounds"] (defScope s_fewest_bends) := ⟨rfl, rfl, rfl, by decide +kernel, rfl, by decide +kernel, by decide +kernel⟩
theorem ck_fewest_bends : chkT (defScope s_fewest_bends) N_fewest_bends v_fewest_bends b_fewest_bends g_fewest_bends = true := by decide +kernel
/-! ### _law_pool: slots 0 script, 1 k, 2 cell -/
abbrev s_l_pool : Stmt := top 19
abbrev N_l_pool : List Str := ["script", "k", "cell"]
abbrev v_l_pool : List Bool := [true, true, true]
abbrev b_l_pool : List Bool := [true, true, true]
abbrev g_l_pool : List Str := ["len", "int"]
theorem sc_l_pool : FnScope N_l_pool ["script", "k"] (defScope s_l_pool) := ⟨rfl, rfl, rfl, by decide +kernel, rfl, by decide +kernel, by decide +kernel⟩
theorem ck_l_pool : chkT (defScope s_l_pool) N_l_pool v_l_pool b_l_pool g_l_pool = true := by decide +kernel
/-! ### _law_draw: slots 0 pool, 1 many, 2 found, 3 x -/
abbrev s_l_draw : Stmt := top 20
abbrev N_l_draw : List Str := ["pool", "many", "found", "x"]
abbrev v_l_draw : List Bool := [true, true, true, true]
abbrev b_l_draw : List Bool := [true, true, true, true]
abbrev g_l_draw : List Str := []
theorem sc_l_draw : FnScope N_l_draw ["pool", "many"] (defScope s_l_draw) := ⟨rfl, rfl, rfl, by decide +kernel, rfl, by decide +kernel, by decide +kernel⟩
theorem ck_l_draw : chkT (defScope s_l_draw) N_l_draw v_l_draw b_l_draw g_l_draw = true := by decide +kernel
/-! ### _law_bounds: slots 0 pool, 1 many, 2 wide, 3 number, 4 step, 5 kind, 6 bend, 7 spread, 8 found, 9 p, 10 lo, 11 far -/
abbrev s_l_bounds : Stmt := top 21
abbrev N_l_bounds : List Str := ["pool", "many", "wide", "number", "step", "kind", "bend", "spread", "found", "p", "lo", "far"]
abbrev v_l_bounds : List Bool := [true, true, true, true, true, true, true, true, true, true, true, true]
abbrev b_l_bounds : List Bool := [true, true, true, true, true, true, true, true, true, true, true, true]
abbrev g_l_bounds : List Str := ["_law_draw", "range", "int"]
theorem sc_l_bounds : FnScope N_l_bounds ["pool", "many", "wide"] (defScope s_l_bounds) := ⟨rfl, rfl, rfl, by decide +kernel, rfl, by decide +kernel, by decide +kernel⟩
theorem ck_l_bounds : chkT (defScope s_l_bounds) N_l_bounds v_l_bounds b_l_bounds g_l_bounds = true := by decide +kernel
/-! ### _law_forward: slots 0 bounds, 1 counts, 2 lo, 3 more, 4 hi, 5 further, 6 last, 7 step, 8 many, 9 bends, 10 number, 11 here, 12 fewer, 13 there -/
abbrev s_l_forward : Stmt := top 22
abbrev N_l_forward : List Str := ["bounds", "counts", "lo", "more", "hi", "further", "last", "step", "many", "bends", "number", "here", "fewer", "there"]
abbrev v_l_forward : List Bool := [true, true, true, true, true, true, true, true, true, true, true, true, true, true]
abbrev b_l_forward : List Bool := [true, true, true, true, true, true, true, true, true, true, true, true, true, true]
abbrev g_l_forward : List Str := ["range", "max", "int", "min"]
theorem sc_l_forward : FnScope N_l_forward ["bounds"] (defScope s_l_forward) := ⟨rfl, rfl, rfl, by decide +kernel, rfl, by decide +kernel, by decide +kernel⟩
theorem ck_l_forward : chkT (defScope s_l_forward) N_l_forward v_l_forward b_l_forward g_l_forward = true := by decide +kernel
/-! ### _law_least: slots 0 bounds, 1 counts, 2 here -/
abbrev s_l_least : Stmt := top 23
abbrev N_l_least : List Str := ["bounds", "counts", "here"]
abbrev v_l_least : List Bool := [true, true, false]
abbrev b_l_least : List Bool := [true, true, false]
abbrev g_l_least : List Str := ["_law_forward", "min"]
theorem sc_l_least : FnScope N_l_least ["bounds"] (defScope s_l_least) := ⟨rfl, rfl, rfl, by decide +kernel, rfl, by decide +kernel, by decide +kernel⟩
theorem ck_l_least : chkT (defScope s_l_least) N_l_least v_l_least b_l_least g_l_least = true := by decide +kernel
-- comprehension 0: own here
abbrev o_l_least0 : List (Str × Nat) := [("here", 2)]
abbrev w_l_least0 : List Nat := [2]
abbrev v_l_least0 : List Bool := [false, true, true]
abbrev b_l_least0 : List Bool := [false, false, true]
abbrev g_l_least0 : List Str := []
/-! ### law: slots 0 script, 1 k, 2 pool, 3 bounds, 4 least, 5 told, 6 turned, 7 number, 8 row, 9 bends, 10 at, 11 here, 12 lo, 13 hi, 14 lesser, 15 p, 16 bend, 17 one -/
abbrev s_law : Stmt := top 24
abbrev N_law : List Str := ["script", "k", "pool", "bounds", "least", "told", "turned", "number", "row", "bends", "at", "here", "lo", "hi", "lesser", "p", "bend", "one"]
abbrev v_law : List Bool := [true, true, true, true, true, true, true, true, true, true, true, true, true, true, true, false, false, false]
abbrev b_law : List Bool := [true, true, true, true, true, true, true, true, true, true, true, true, true, true, true, false, false, false]
abbrev g_law : List Str := ["range", "max", "min", "len", "_law_pool", "_law_bounds", "_law_draw", "_law_least", "fewest_bends", "is_there_one", "enumerate"]
theorem sc_law : FnScope N_law ["script"] (defScope s_law) := ⟨rfl, rfl, rfl, by decide +kernel, rfl, by decide +kernel, by decide +kernel⟩
theorem ck_law : chkT (defScope s_law) N_law v_law b_law g_law = true := by decide +kernel
-- comprehension 0: own p
abbrev o_law0 : List (Str × Nat) := [("p", 15)]
abbrev w_law0 : List Nat := [15]
abbrev v_law0 : List Bool := [false, false, false, false, false, false, false, false, true, false, false, false, false, false, false, true, false, false]
abbrev b_law0 : List Bool := [false, false, false, false, false, false, false, false, false, false, false, false, false, false, false, true, false, false]
abbrev g_law0 : List Str := []
-- comprehension 1: own bend
abbrev o_law1 : List (Str × Nat) := [("bend", 16)]
abbrev w_law1 : List Nat := [16]
abbrev v_law1 : List Bool := [false, false, false, false, false, false, false, false, false, false, false, false, false, false, false, false, true, false]
abbrev b_law1 : List Bool := [false, false, false, false, false, false, false, false, false, false, false, false, false, false, false, false, true, false]
abbrev g_law1 : List Str := []
-- comprehension 2: own one
abbrev o_law2 : List (Str × Nat) := [("one", 17)]
abbrev w_law2 : List Nat := [17]
abbrev v_law2 : List Bool := [false, false, false, false, false, false, false, false, false, false, false, false, false, false, false, false, false, true]
abbrev b_law2 : List Bool := [false, false, false, false, false, false, false, false, false, false, false, false, false, false, false, false, false, true]
abbrev g_law2 : List Str := []
-- top 0 assign __name__
-- top 1 class BendError
-- top 2 class NoBounds
-- top 3 assign __name__
-- top 5 assign __name__
-- top 6 assign MOST_WIDE
-- top 7 assign MOST_BOUNDS
-- top 14 assign __name__
-- top 18 assign __name__

local macro_rules | `(tactic| walk_at "y1") => `(tactic| first
  | with_reducible refine go ?_
  | ((with_reducible show Lift _ (wIx _ _ (.int _)) _ _ _); first | refine ix_lstI (Rc.h) (by rfl) Cn.hK ?_ | refine ix_tupI (Rc.h) (by rfl) Cn.hK ?_)
  )
local macro_rules | `(tactic| walk_at "yo") => `(tactic| repeat (walk_at "y1"))
local macro_rules | `(tactic| walk_at "lK") => `(tactic| ((with_reducible refine l_lstK ?_)))
local macro_rules | `(tactic| walk_at "ys") => `(tactic| repeat (first | walk_at "y1" | walk_at "lK" | ((with_reducible show ∀ _, _); intro _)))
local macro_rules | `(tactic| walk_at "yi") => `(tactic| repeat ((fail_if_success (with_reducible show Lift _ (wSs _ (Stmt.If _ _ _ _ :: _) _) _ _ _)); first | walk_at "y1" | walk_at "lK" | ((with_reducible show ∀ _, _); intro _)))
local macro_rules | `(tactic| walk_at "yf") => `(tactic| repeat ((fail_if_success (with_reducible show Lift _ (wSs _ (Stmt.For _ _ _ _ _ :: _) _) _ _ _)); first | walk_at "y1" | walk_at "lK" | ((with_reducible show ∀ _, _); intro _)))

section
instance {i j : Int} : IsT (.dict [(.int i, .int j)]) "list" false := ⟨rfl, show kitB "dict" "list" = some false by decide +kernel⟩
instance {i j : Int} : IsT (.dict [(.int i, .int j)]) "tuple" false := ⟨rfl, show kitB "dict" "tuple" = some false by decide +kernel⟩
instance {i j : Int} : IsT (.dict [(.int i, .int j)]) "int" false := ⟨rfl, show kitB "dict" "int" = some false by decide +kernel⟩
instance {i j : Int} : IsT (.dict [(.int i, .int j)]) "bool" false := ⟨rfl, show kitB "dict" "bool" = some false by decide +kernel⟩
instance {i j : Int} : IsT (.dict [(.int i, .int j)]) "str" false := ⟨rfl, show kitB "dict" "str" = some false by decide +kernel⟩
instance {x : Str} {j : Int} : IsT (.dict [(.str x, .int j)]) "list" false := ⟨rfl, show kitB "dict" "list" = some false by decide +kernel⟩
instance {x : Str} {j : Int} : IsT (.dict [(.str x, .int j)]) "tuple" false := ⟨rfl, show kitB "dict" "tuple" = some false by decide +kernel⟩
instance {x : Str} {j : Int} : IsT (.dict [(.str x, .int j)]) "int" false := ⟨rfl, show kitB "dict" "int" = some false by decide +kernel⟩
instance {x : Str} {j : Int} : IsT (.dict [(.str x, .int j)]) "bool" false := ⟨rfl, show kitB "dict" "bool" = some false by decide +kernel⟩
instance {x : Str} {j : Int} : IsT (.dict [(.str x, .int j)]) "str" false := ⟨rfl, show kitB "dict" "str" = some false by decide +kernel⟩
end

section
variable {P : Program} {w : World} {K : PySem.W.Frag} {mg : Str → Option Value} {base : Heap} {k : Nat}
theorem o_div60 {X : Cx} {y : Sy} {Ψ : Value → Sy → Prop} {Φ : V → Sy → Prop} {i j : Int} (h0 : 0 < j) (h1 : j < 2 ^ 60) (h : Φ (.int (i / j)) y) : Lift K (wO X (binaryOp .FloorDiv) (.int i) (.int j)) y Φ Ψ :=
  o_div (wide_div (b := 60) h0 (by omega) (by decide) (by decide)) h
theorem o_mul9 {X : Cx} {y : Sy} {Ψ : Value → Sy → Prop} {Φ : V → Sy → Prop} {i j : Int} (a b : Nat) (h1 : i.natAbs < 2 ^ a) (h2 : j.natAbs < 2 ^ b) (ha : 0 < a ∧ 0 < b ∧ a + b ≤ 1000000) (h : Φ (.int (i * j)) y) : Lift K (wO X (binaryOp .Mult) (.int i) (.int j)) y Φ Ψ :=
  o_mul (wide_mul h1 h2 ha.1 ha.2.1 ha.2.2) h
/-- the pool of draws -/
abbrev plD (a b c : Int) : OD := .lst [.int a, .int b, .int c]
/-- of so many bits, by name -/
def Bd (n : Nat) (i : Int) : Prop := i.natAbs < 2 ^ n
theorem at_getD {ns : List Int} {i n : Int} (h : ns[i.toNat]? = some n) : ns.getD i.toNat 0 = n := by
  rw [List.getD_eq_getElem?_getD, h]
  rfl
theorem up_lt {a b : Nat} {i : Int} (h : i.natAbs < 2 ^ a) (hab : a ≤ b) : Bd b i := Nat.lt_of_lt_of_le h (Nat.pow_le_pow_right (by decide) hab)
/-- _law_draw(pool, many) -/
def R_draw : RY := fun vs y Φ _ => ∃ (p : Addr) (a b c m : Int) (O : List (Addr × OD)), vs = [.ref p, .int m] ∧ 0 < m ∧ m ≤ 10 ^ 15 ∧ y.O = (p, plD a b c) :: O ∧ 0 ≤ c ∧ c ≤ 10 ^ 9 ∧
  ∀ r a' c', 0 ≤ r → r < m → c ≤ c' → c' ≤ c + 1 → Φ (.int r) ⟨y.F, (p, plD a' b c') :: O⟩
theorem ok_draw {f : Addr} {fd : FuncData} (F : Fun K "_law_draw" "_law_draw" s_l_draw f fd) : FnOk P w K mg base (L2.CX P w) (k + 1) f fd ["pool", "many"] (SpY K 2 R_draw) := by
  refine fn_w F sc_l_draw rfl ck_l_draw fun X y vs Φ Ψ C hl h => ?_
  obtain ⟨p, a, b, c, m, O, rfl, hm, hm2, hO, hc, hc2, q⟩ := h
  obtain ⟨F0, O0⟩ := y
  cases hO
  show Lift K (wSs X (_ :: _) [some (.ref p), some (.int m), none, none]) _ _ _
  walk_at "ys"
  refine ⟨fun h1 => ?_, fun h1 => ?_⟩
  · walk_at "ys"
    refine o_mod hm ?_
    walk_at "ys"
    refine o_div60 hm (by omega) ?_
    walk_at "ys"
    exact rw_F (q _ _ _ (Int.emod_nonneg _ (by omega)) (Int.emod_lt_of_pos _ hm) (by omega) (by omega))
  · walk_at "ys"
    refine o_mod (by decide) ?_
    walk_at "ys"
    refine o_mulL (.inl (by decide)) ?_
    walk_at "ys"
    generalize e1 : a % 999999999989 = u1
    have b1 : 0 ≤ u1 ∧ u1 < 999999999989 := by omega
    refine o_mod (by decide) ?_
    walk_at "ys"
    generalize e2 : (u1 + 980027 * (c + 1)) % 999999999989 = u2
    have b2 : 0 ≤ u2 ∧ u2 < 999999999989 := by omega
    refine o_mul9 50 50 (by omega) (by omega) (by decide) ?_
    walk_at "ys"
    refine o_mod (by decide) ?_
    walk_at "ys"
    generalize e3 : u2 * u2 % 1000000000039 = u3
    have b3 : 0 ≤ u3 ∧ u3 < 1000000000039 := by omega
    refine o_mul9 50 50 (by omega) (by omega) (by decide) ?_
    walk_at "ys"
    refine o_mod (by decide) ?_
    walk_at "ys"
    refine o_div60 (by decide) (by decide) ?_
    walk_at "ys"
    refine o_mod hm ?_
    walk_at "ys"
    exact rw_F (q _ _ _ (Int.emod_nonneg _ (by omega)) (Int.emod_lt_of_pos _ hm) (by omega) (by omega))
/-- _law_pool(script, k) -/
def R_pool : RY := fun vs y Φ _ => ∃ (s : V) (ns : List Int) (i : Int), vs = [s, .int i] ∧ Hs y.F s (scrD ns) ∧ 0 ≤ i ∧ i ≤ 100 ∧
  ∀ p a b c, 0 ≤ c → c ≤ 7900 → Φ (.ref p) ⟨y.F, (p, plD a b c) :: y.O⟩
theorem atI_int {α : Type} {l : List α} {i : Int} (h0 : 0 ≤ i) (h1 : i < l.length) : ∃ v, atI l i = some v ∧ l[i.toNat]? = some v := by
  have h : i.toNat < l.length := by omega
  refine ⟨l[i.toNat], ?_, List.getElem?_eq_getElem h⟩
  have := atI_nat (List.getElem?_eq_getElem h)
  rwa [show ((i.toNat : Nat) : Int) = i by omega] at this
theorem ok_pool [Bn mg "len"] [Bn mg "int"] {f : Addr} {fd : FuncData} (F : Fun K "_law_pool" "_law_pool" s_l_pool f fd) : FnOk P w K mg base (L2.CX P w) (k + 1) f fd ["script", "k"] (SpY K 2 R_pool) := by
  refine fn_w F sc_l_pool rfl ck_l_pool fun X y vs Φ Ψ C hl h => ?_
  obtain ⟨s, ns, i, rfl, hs, h0, h1, q⟩ := h
  obtain ⟨F0, O0⟩ := y
  have : Hc F0 s (scrD ns) := ⟨hs⟩
  -- what comes behind the cell
  have fin : ∀ cell : Int, Lift K (wSs X [(defBody s_l_pool).getD 2 (.Pass ⟨0, 0, 0, 0⟩)] [some s, some (.int i), some (.int cell)]) ⟨F0, O0⟩ (retW Φ) Ψ := by
    intro cell
    show Lift K (wSs X (.Return (some _) _ :: []) _) _ _ _
    refine go ?_
    refine l_lstOK ?_
    walk_at "ys"
    refine o_mulL (.inl (by decide)) ?_
    walk_at "ys"
    exact rw_F (q _ _ _ _ (by omega) (by omega))
  show Lift K (wSs X (_ :: _) [some s, some (.int i), none]) _ _ _
  walk_at "ys"
  refine ⟨fun h1 => ?_, fun h1 => fin _⟩
  have h2 := of_decide_eq_true h1
  obtain ⟨v, e1, _⟩ := atI_int h0 h2
  walk_at "ys"
  refine ix_scr Rc.h e1 Cn.hK (go (go ?_))
  exact fin _
end

section
variable {P : Program} {w : World} {K : PySem.W.Frag} {mg : Str → Option Value} {base : Heap} {k : Nat}
/-- a thing without a dict that holds something, and so its items -/
def rdD : Dt → Bool
  | .list ds => ds.all noScr
  | d => noScr d
theorem rd_ns {d : Dt} (h : rdD d = true) : noScr d = true := by
  cases d with
  | list ds => rfl
  | dict kvs => exact h
  | _ => rfl
theorem nice_rd {d : Dt} (h : nice d = true) : rdD d = true := by
  cases d with
  | list ds =>
    refine List.all_eq_true.mpr fun x hx => nice_ns (nice_mem (by simpa only [nice] using h) hx)
  | dict kvs => exact nice_ns h
  | _ => rfl
theorem rd_ints (ns : List Int) : rdD (.list (ns.map .int)) = true := List.all_eq_true.mpr fun x hx => by
  obtain ⟨n, _, rfl⟩ := List.mem_map.mp hx
  rfl
theorem row_ints {ns : List Int} (h1 : 1 ≤ ns.length) (h2 : ns.length ≤ 12) : rowD (.list (ns.map .int)) = true := by
  simp only [rowD, List.length_map, h1, h2, decide_true, Bool.and_self, Bool.true_and, List.all_eq_true]
  intro x hx
  obtain ⟨n, _, rfl⟩ := List.mem_map.mp hx
  rfl
/-- what a row is -/
theorem row_is {d : Dt} (h : rowD d = true) : ∃ ns : List Int, d = .list (ns.map .int) ∧ 1 ≤ ns.length ∧ ns.length ≤ 12 := by
  cases d with
  | list ds =>
    simp only [rowD, Bool.and_eq_true, decide_eq_true_eq, List.all_eq_true] at h
    obtain ⟨⟨h1, h2⟩, h3⟩ := h
    suffices q : ∃ ns : List Int, ds = ns.map .int by
      obtain ⟨ns, rfl⟩ := q
      rw [List.length_map] at h1 h2
      exact ⟨ns, rfl, h1, h2⟩
    clear h1 h2
    induction ds with
    | nil => exact ⟨[], rfl⟩
    | cons a r ih =>
      obtain ⟨ns, rfl⟩ := ih fun x hx => h3 x (List.mem_cons_of_mem _ hx)
      have ha := h3 a List.mem_cons_self
      cases a with
      | int i => exact ⟨i :: ns, rfl⟩
      | _ => cases ha
  | _ => cases h
/-- is_whole(thing), of any thing -/
def R_whole : RY := fun vs y Φ _ => ∃ (v : V) (d : Dt), vs = [v] ∧ Hs y.F v d ∧ noScr d = true ∧ Φ (.bl (wholeD d)) y
theorem ok_whole [Bn mg "isinstance"] [Bn mg "int"] [Bn mg "bool"] {f : Addr} {fd : FuncData} (F : Fun K "is_whole" "is_whole" s_is_whole f fd) : FnOk P w K mg base (L2.CX P w) (k + 1) f fd ["thing"] (SpY K 1 R_whole) := by
  refine fn_w F sc_is_whole rfl ck_is_whole fun X y vs Φ Ψ C hl h => ?_
  obtain ⟨v, d, rfl, hv, hn, q⟩ := h
  obtain ⟨F0, O0⟩ := y
  show Lift K (wSs X (_ :: _) [some v]) _ _ _
  revert hv q
  refine d_kinds (p := fun d => Hs F0 v d → Φ (.bl (wholeD d)) ⟨F0, O0⟩ → Lift K (wSs X (defBody s_is_whole) [some v]) ⟨F0, O0⟩ (retW Φ) Ψ) d hn ?_ ?_ ?_ ?_ ?_ ?_ ?_ ?_ ?_
  · intro hv q
    have : Hc F0 v .none := ⟨hv⟩
    show Lift K (wSs X (_ :: _) [some v]) _ _ _
    walk_at "ys"
    exact rw_F q
  · intro b hv q
    have : Hc F0 v (.bool b) := ⟨hv⟩
    show Lift K (wSs X (_ :: _) [some v]) _ _ _
    walk_at "ys"
    exact rw_F q
  · intro b hv q
    have : Hc F0 v (.int b) := ⟨hv⟩
    show Lift K (wSs X (_ :: _) [some v]) _ _ _
    walk_at "ys"
    exact rw_F q
  · intro b hv q
    have : Hc F0 v (.str b) := ⟨hv⟩
    show Lift K (wSs X (_ :: _) [some v]) _ _ _
    walk_at "ys"
    exact rw_F q
  · intro b hv q
    have : Hc F0 v (.list b) := ⟨hv⟩
    show Lift K (wSs X (_ :: _) [some v]) _ _ _
    walk_at "ys"
    exact rw_F q
  · intro b hv q
    have : Hc F0 v (.tuple b) := ⟨hv⟩
    show Lift K (wSs X (_ :: _) [some v]) _ _ _
    walk_at "ys"
    exact rw_F q
  · intro hv q
    have : Hc F0 v (.dict []) := ⟨hv⟩
    show Lift K (wSs X (_ :: _) [some v]) _ _ _
    walk_at "ys"
    exact rw_F q
  · intro i9 j9 hv q
    have : Hc F0 v (.dict [(.int i9, .int j9)]) := ⟨hv⟩
    show Lift K (wSs X (_ :: _) [some v]) _ _ _
    walk_at "ys"
    exact rw_F q
  · intro x9 j9 hv q
    have : Hc F0 v (.dict [(.str x9, .int j9)]) := ⟨hv⟩
    show Lift K (wSs X (_ :: _) [some v]) _ _ _
    walk_at "ys"
    exact rw_F q
end

section
variable {P : Program} {w : World} {K : PySem.W.Frag} {mg : Str → Option Value} {base : Heap} {k : Nat}
/-- bounds -/
def bnd1 : Dt → Bool
  | .tuple [.int a, .int b] => decide (a ≤ b) && decide (b ≤ a + 12)
  | _ => false
def bndD : Dt → Bool
  | .list ds => decide (1 ≤ ds.length) && decide (ds.length ≤ 10) && ds.all bnd1
  | _ => false
theorem bnd1_is {d : Dt} (h : bnd1 d = true) : ∃ a b : Int, d = .tuple [.int a, .int b] ∧ a ≤ b ∧ b ≤ a + 12 := by
  unfold bnd1 at h
  split at h
  · rename_i a b
    simp only [Bool.and_eq_true, decide_eq_true_eq] at h
    exact ⟨a, b, rfl, h⟩
  · cases h
theorem bnd_of (ds : List Dt) (h : 1 ≤ ds.length) (h2 : ds.length ≤ 10) (g : Dt → Dt) : ((ds.filter fun d => !bnd1 d).map g).isEmpty = bndD (.list ds) := by
  have e : bndD (.list ds) = ds.all bnd1 := by
    show (decide (1 ≤ ds.length) && decide (ds.length ≤ 10) && ds.all bnd1) = _
    rw [decide_eq_true h, decide_eq_true h2]
    rfl
  rw [e, List.isEmpty_map, Bool.eq_iff_iff, List.isEmpty_iff, List.filter_eq_nil_iff, List.all_eq_true]
  simp
/-- is_bound(thing), of any thing -/
def R_isb : RY := fun vs y Φ _ => ∃ (v : V) (d : Dt), vs = [v] ∧ Hs y.F v d ∧ nice d = true ∧ ∀ F', (∀ e, e ∈ y.F → e ∈ F') → Φ (.bl (bnd1 d)) ⟨F', y.O⟩
theorem ok_isb [Bn mg "isinstance"] [Bn mg "tuple"] [Bn mg "len"] [Gv mg "MOST_WIDE" (.int 12)] [Cl P w K mg base "is_whole" k 1 R_whole] {f : Addr} {fd : FuncData} (F : Fun K "is_bound" "is_bound" s_is_bound f fd) : FnOk P w K mg base (L2.CX P w) (k + 1) f fd ["thing"] (SpY K 1 R_isb) := by
  refine fn_w F sc_is_bound rfl ck_is_bound fun X y vs Φ Ψ C hl h => ?_
  obtain ⟨v, d, rfl, hv, hn, q⟩ := h
  obtain ⟨F0, O0⟩ := y
  have hns := nice_ns hn
  have q0 := q F0 fun _ h => h
  revert hv q q0 hn
  refine d_kinds (p := fun d => nice d = true → Hs F0 v d → (∀ F', (∀ e, e ∈ F0 → e ∈ F') → Φ (.bl (bnd1 d)) ⟨F', O0⟩) → Φ (.bl (bnd1 d)) ⟨F0, O0⟩ → Lift K (wSs X (defBody s_is_bound) [some v]) ⟨F0, O0⟩ (retW Φ) Ψ) d hns ?_ ?_ ?_ ?_ ?_ ?_ ?_ ?_ ?_
  · intro hn hv q q0
    have : Hc F0 v .none := ⟨hv⟩
    show Lift K (wSs X (_ :: _) [some v]) _ _ _
    walk_at "ys"
    exact rw_F q0
  · intro b hn hv q q0
    have : Hc F0 v (.bool b) := ⟨hv⟩
    show Lift K (wSs X (_ :: _) [some v]) _ _ _
    walk_at "ys"
    exact rw_F q0
  · intro b hn hv q q0
    have : Hc F0 v (.int b) := ⟨hv⟩
    show Lift K (wSs X (_ :: _) [some v]) _ _ _
    walk_at "ys"
    exact rw_F q0
  · intro b hn hv q q0
    have : Hc F0 v (.str b) := ⟨hv⟩
    show Lift K (wSs X (_ :: _) [some v]) _ _ _
    walk_at "ys"
    exact rw_F q0
  · intro b hn hv q q0
    have : Hc F0 v (.list b) := ⟨hv⟩
    show Lift K (wSs X (_ :: _) [some v]) _ _ _
    walk_at "ys"
    exact rw_F q0
  · intro ds hn hv q q0
    have hfa := hv.faT
    show Lift K (wSs X (_ :: _) [some v]) _ _ _
    walk_at "ys"
    by_cases hl : ds.length = 2
    · refine nyes (by omega) ?_
      obtain ⟨e0, e1, rfl⟩ := two_is hl
      have hn0 : nice e0 = true := nice_mem (by simpa only [nice] using hn) List.mem_cons_self
      have hn1 : nice e1 = true := nice_mem (by simpa only [nice] using hn) (List.mem_cons_of_mem _ List.mem_cons_self)
      walk_at "ys"
      refine ix_tupd (d := e0) Rc.h rfl C.hK fun x0 => ?_
      walk_at "ys"
      refine ⟨rfl, x0, e0, rfl, .fact List.mem_cons_self, nice_ns hn0, ?_⟩
      cases hw0 : wholeD e0 with
      | false =>
        walk_at "ys"
        rw [show bnd1 (.tuple [e0, e1]) = false by cases e0 <;> first | rfl | cases hw0] at q
        exact ⟨_, fun _ h => h, List.Sublist.refl _, q _ fun e h => SubF.h e h⟩
      | true =>
        obtain ⟨a, rfl⟩ := whole_is hw0
        walk_at "ys"
        refine ix_tupd (d := e1) Rc.h rfl C.hK fun x1 => ?_
        walk_at "ys"
        refine ⟨rfl, x1, e1, rfl, .fact List.mem_cons_self, nice_ns hn1, ?_⟩
        cases hw1 : wholeD e1 with
        | false =>
          walk_at "ys"
          rw [show bnd1 (.tuple [.int a, e1]) = false by cases e1 <;> first | rfl | cases hw1] at q
          exact ⟨_, fun _ h => h, List.Sublist.refl _, q _ fun e h => SubF.h e h⟩
        | true =>
          obtain ⟨b, rfl⟩ := whole_is hw1
          walk_at "ys"
          have fin : ∀ c : Bool, c = bnd1 (.tuple [.int a, .int b]) → ∀ F', (∀ e, e ∈ F0 → e ∈ F') → retW Φ (.rt (.bl c)) ⟨F', O0⟩ := fun c e F' hF => by
            rw [e]
            exact ⟨_, fun _ h => h, List.Sublist.refl _, q _ hF⟩
          refine ⟨fun hb => ?_, fun hb => ?_⟩
          · walk_at "ys"
            refine fin _ ?_ _ fun e h => SubF.h e h
            show _ = (decide (a ≤ b) && decide (b ≤ a + 12))
            rw [hb, Bool.true_and]
          · refine fin _ ?_ _ fun e h => SubF.h e h
            show _ = (decide (a ≤ b) && decide (b ≤ a + 12))
            rw [hb, Bool.false_and]
    · refine nno (by omega) ?_
      walk_at "ys"
      rw [show bnd1 (.tuple ds) = false by
        cases hq : bnd1 (.tuple ds) with
        | false => rfl
        | true =>
          obtain ⟨a, b, e, _⟩ := bnd1_is hq
          cases e
          exact absurd rfl hl] at q0
      exact rw_F q0
  · intro hn hv q q0
    have : Hc F0 v (.dict []) := ⟨hv⟩
    show Lift K (wSs X (_ :: _) [some v]) _ _ _
    walk_at "ys"
    exact rw_F q0
  · intro i9 j9 hn hv q q0
    have : Hc F0 v (.dict [(.int i9, .int j9)]) := ⟨hv⟩
    show Lift K (wSs X (_ :: _) [some v]) _ _ _
    walk_at "ys"
    exact rw_F q0
  · intro x9 j9 hn hv q q0
    have : Hc F0 v (.dict [(.str x9, .int j9)]) := ⟨hv⟩
    show Lift K (wSs X (_ :: _) [some v]) _ _ _
    walk_at "ys"
    exact rw_F q0
/-- need_bounds(bounds): of none, of some -/
def R_needb (c : Addr) : RY := fun vs y Φ Ψ => ∃ (v : V) (d : Dt), vs = [v] ∧ Hs y.F v d ∧ nice d = true ∧ ∀ F', (∀ e, e ∈ y.F → e ∈ F') → (bndD d = true → Φ .non ⟨F', y.O⟩) ∧ (bndD d = false → Ψ (.ref c) ⟨F', y.O⟩)
theorem ok_needb {c : Addr} [Ex K mg "NoBounds" c] [Bn mg "isinstance"] [Bn mg "list"] [Bn mg "len"] [Gv mg "MOST_BOUNDS" (.int 10)] [Cl P w K mg base "is_bound" k 1 R_isb] {f : Addr} {fd : FuncData} (F : Fun K "need_bounds" "need_bounds" s_need_bounds f fd) : FnOk P w K mg base (L2.CX P w) (k + 1) f fd ["bounds"] (SpY K 1 (R_needb c)) := by
  refine fn_w F sc_need_bounds rfl ck_need_bounds fun X y vs Φ Ψ C hl h => ?_
  obtain ⟨v, d, rfl, hv, hn, q⟩ := h
  obtain ⟨F0, O0⟩ := y
  have hns := nice_ns hn
  have q0 := (q F0 fun _ h => h).2
  revert hv q q0 hn
  refine d_kinds (p := fun d => nice d = true → Hs F0 v d → (∀ F', (∀ e, e ∈ F0 → e ∈ F') → (bndD d = true → Φ .non ⟨F', O0⟩) ∧ (bndD d = false → Ψ (.ref c) ⟨F', O0⟩)) → (bndD d = false → Ψ (.ref c) ⟨F0, O0⟩) → Lift K (wSs X (defBody s_need_bounds) [some v, none]) ⟨F0, O0⟩ (retW Φ) Ψ) d hns ?_ ?_ ?_ ?_ ?_ ?_ ?_ ?_ ?_
  · intro hn hv q q0
    have : Hc F0 v .none := ⟨hv⟩
    show Lift K (wSs X (_ :: _) [some v, none]) _ _ _
    walk_at "ys"
    exact q0 rfl
  · intro b hn hv q q0
    have : Hc F0 v (.bool b) := ⟨hv⟩
    show Lift K (wSs X (_ :: _) [some v, none]) _ _ _
    walk_at "ys"
    exact q0 rfl
  · intro b hn hv q q0
    have : Hc F0 v (.int b) := ⟨hv⟩
    show Lift K (wSs X (_ :: _) [some v, none]) _ _ _
    walk_at "ys"
    exact q0 rfl
  · intro b hn hv q q0
    have : Hc F0 v (.str b) := ⟨hv⟩
    show Lift K (wSs X (_ :: _) [some v, none]) _ _ _
    walk_at "ys"
    exact q0 rfl
  · intro ds hn hv q q0
    have := hv.fa
    show Lift K (wSs X (_ :: _) [some v, none]) _ _ _
    walk_at "ys"
    by_cases h1 : 1 ≤ ds.length
    · refine yes (by omega) ?_
      walk_at "ys"
      by_cases h2 : ds.length ≤ 10
      · refine nyes (by omega) ?_
        walk_at "ys"
        refine l_lcB o_need_bounds0 w_need_bounds0 v_need_bounds0 b_need_bounds0 g_need_bounds0 C rfl (by decide +kernel) (by decide +kernel) ?_
        walk_at "ys"
        rename_i J sr
        refine lcb_pure (fun d => !bnd1 d) id sr (by omega) ?_ ?_
        · intro i d x hd X1 C1
          walk_at "ys"
          refine ⟨rfl, fun X2 C2 => ?_⟩
          walk_at "ys"
          refine ⟨rfl, x, d, rfl, .fact List.mem_cons_self, nice_mem (by simpa only [nice] using hn) (List.mem_of_getElem? hd), fun F' hF => ?_⟩
          have hx : (x, d) ∈ F' := hF _ List.mem_cons_self
          have := SubF.mk (F2 := F0) (F := F') fun e h => hF e (List.mem_cons_of_mem _ h)
          have : Fa x F' d := ⟨hx⟩
          walk_at "ys"
          refine ⟨rfl, fun _ X3 C3 => ?_, fun _ => ⟨rfl, SubF.h⟩⟩
          walk_at "ys"
          exact ⟨.fact hx, rfl, SubF.h⟩
        · intro F' p hF
          refine Lift.release ?_
          walk_at "ys"
          refine o_neNil C Rc.h Rc.h ?_
          rw [bnd_of ds h1 h2]
          have hs : ∀ {z1 z2 : V × Dt}, ∀ z, z ∈ F0 → z ∈ z1 :: z2 :: F' := fun z hz => List.mem_cons_of_mem _ (List.mem_cons_of_mem _ (hF z hz))
          cases hb : bndD (.list ds) with
          | true =>
            walk_at "ys"
            exact ⟨_, fun _ h => h, List.Sublist.refl _, (q _ hs).1 hb⟩
          | false =>
            walk_at "ys"
            exact (q _ hs).2 hb
      · refine nno (by omega) ?_
        walk_at "ys"
        exact q0 (by simp [bndD, h2])
    · refine no (by omega) ?_
      walk_at "ys"
      exact q0 (by simp [bndD, h1])
  · intro b hn hv q q0
    have : Hc F0 v (.tuple b) := ⟨hv⟩
    show Lift K (wSs X (_ :: _) [some v, none]) _ _ _
    walk_at "ys"
    exact q0 rfl
  · intro hn hv q q0
    have : Hc F0 v (.dict []) := ⟨hv⟩
    show Lift K (wSs X (_ :: _) [some v, none]) _ _ _
    walk_at "ys"
    exact q0 rfl
  · intro i9 j9 hn hv q q0
    have : Hc F0 v (.dict [(.int i9, .int j9)]) := ⟨hv⟩
    show Lift K (wSs X (_ :: _) [some v, none]) _ _ _
    walk_at "ys"
    exact q0 rfl
  · intro x9 j9 hn hv q q0
    have : Hc F0 v (.dict [(.str x9, .int j9)]) := ⟨hv⟩
    show Lift K (wSs X (_ :: _) [some v, none]) _ _ _
    walk_at "ys"
    exact q0 rfl
end

section
variable {P : Program} {w : World} {K : PySem.W.Frag} {mg : Str → Option Value} {base : Heap} {k : Nat}
theorem at_prD {bs : List (Int × Int)} {i : Int} {x : Int × Int} (h0 : 0 ≤ i) (h : bs[i.toNat]? = some x) : atI (prD bs) i = some (.tuple [.int x.1, .int x.2]) := by
  have e : (prD bs)[i.toNat]? = some (.tuple [.int x.1, .int x.2]) := by
    unfold prD
    rw [List.getElem?_map, h]
    rfl
  have := atI_nat e
  rwa [show ((i.toNat : Nat) : Int) = i by omega] at this
/-- n ints from lo on, their f summed -/
def sumR (lo : Int) (n : Nat) (f : Int → Int) : Int := ((List.range n).map fun i => f (lo + (i : Nat))).sum
/-- how many rows go on: by the bounds behind, from the number ahead and the one here -/
def cntS : List (Int × Int) → Int → Int → Int
  | [], _, _ => 1
  | z :: r, a, h => sumR (max z.1 (2 * h - a)) (z.2 + 1 - max z.1 (2 * h - a)).toNat (cntS r h)
theorem cntS_cons (z : Int × Int) (r : List (Int × Int)) (a h : Int) : cntS (z :: r) a h = sumR (max z.1 (2 * h - a)) (z.2 + 1 - max z.1 (2 * h - a)).toNat (cntS r h) := rfl
theorem sum_nn : ∀ {l : List Int}, (∀ x ∈ l, 0 ≤ x) → 0 ≤ l.sum
  | [], _ => Int.le_refl _
  | x :: r, h => by
    rw [List.sum_cons]
    have := sum_nn (l := r) fun y hy => h y (List.mem_cons_of_mem _ hy)
    have := h x List.mem_cons_self
    omega
theorem sumR_nn {lo : Int} {n : Nat} {f : Int → Int} (h : ∀ i, 0 ≤ f i) : 0 ≤ sumR lo n f := sum_nn fun x hx => by
  obtain ⟨i, _, rfl⟩ := List.mem_map.mp hx
  exact h _
theorem cntS_nn : ∀ (bs : List (Int × Int)) (a h : Int), 0 ≤ cntS bs a h
  | [], _, _ => Int.le_of_lt (by show (0 : Int) < 1; decide)
  | z :: r, a, h => sumR_nn fun i => cntS_nn r h i
/-- bounds, by their numbers -/
structure Bo (bs : List (Int × Int)) : Prop where
  l1 : 1 ≤ bs.length
  l2 : bs.length ≤ 10
  b : ∀ x ∈ bs, x.1 ≤ x.2 ∧ x.2 ≤ x.1 + 12 ∧ x.1.natAbs < 2 ^ 60
/-- a place, a number ahead, a number there -/
def Inr (bs : List (Int × Int)) (at' a h : Int) : Prop := ∃ x z, 1 ≤ at' ∧ bs[(at' - 1).toNat]? = some x ∧ bs[at'.toNat]? = some z ∧ x.1 ≤ a ∧ a ≤ x.2 ∧ z.1 ≤ h ∧ h ≤ z.2
def Tb (bs : List (Int × Int)) (kc : List (List L2.Key × V)) (dn : Int → Int → Int → Prop) : Prop := ∀ at' a h, Inr bs at' a h → dn at' a h → valV kc (ky [at', a, h]) = some (.int (cntS (bs.drop (at' + 1).toNat) a h))
theorem Tb.put {bs : List (Int × Int)} {kc : List (List L2.Key × V)} {dn dn' : Int → Int → Int → Prop} {a0 a1 a2 n : Int} (h : Tb bs kc dn) (hn : n = cntS (bs.drop (a0 + 1).toNat) a1 a2) (hd : ∀ i j l, dn' i j l → dn i j l ∨ (i = a0 ∧ j = a1 ∧ l = a2)) : Tb bs (putK kc (ky [a0, a1, a2]) (.int n)) dn' := fun i j l hI hD => by
  rw [valV_put]
  by_cases e : ky [i, j, l] = ky [a0, a1, a2]
  · have := ky_inj e
    simp only [List.cons.injEq, and_true] at this
    obtain ⟨rfl, rfl, rfl⟩ := this
    rw [if_pos e, hn]
  · rw [if_neg e]
    rcases hd i j l hD with hd | ⟨rfl, rfl, rfl⟩
    · exact h i j l hI hd
    · exact absurd rfl e
/-- counts_from(bounds) -/
def R_counts : RY := fun vs y Φ _ => ∃ (v : V) (bs : List (Int × Int)), vs = [v] ∧ Hs y.F v (.list (prD bs)) ∧ Bo bs ∧ ∀ p kc F', (∀ e, e ∈ y.F → e ∈ F') → Tb bs kc (fun _ _ _ => True) → Φ (.ref p) ⟨F', (p, .raw (.dT kc)) :: y.O⟩
theorem ok_counts [Bn mg "len"] [Bn mg "range"] [Bn mg "max"] [Bn mg "sum"] {f : Addr} {fd : FuncData} (F : Fun K "counts_from" "counts_from" s_counts_from f fd) : FnOk P w K mg base (L2.CX P w) (k + 1) f fd ["bounds"] (SpY K 1 R_counts) := by
  refine fn_w F sc_counts_from rfl ck_counts_from fun X y vs Φ Ψ C hl h => ?_
  obtain ⟨v, bs, rfl, hv, hB, q⟩ := h
  obtain ⟨F0, O0⟩ := y
  have := hv.fa
  have hl1 := hB.l1
  have hl2 := hB.l2
  show Lift K (wSs X (_ :: _) [some v, none, none, none, none, none, none, none, none]) _ _ _
  repeat (fail_if_success (refine l_dictT ?_)
          refine go ?_)
  refine l_dictT fun pc => ?_
  walk_at "ys"
  rw [prD_len]
  refine s_for C (fun x => NoFold.h _ x) ?_
  walk_at "ys"
  refine ⟨by omega, fun J sr => ?_⟩
  refine ⟨_, sr, fun i σ y' => ∃ (u3 u4 u5 u6 u7 : Option V) (F' : List (V × Dt)) (kc : List (List L2.Key × V)), σ = [some v, some (.int ((bs.length : Int) - 1)), some (.ref pc), u3, u4, u5, u6, u7, none] ∧ y' = ⟨F', (pc, .raw (.dT kc)) :: O0⟩ ∧ (∀ e, e ∈ F0 → e ∈ F') ∧ kc.length ≤ 169 * i ∧ Tb bs kc (fun a _ _ => (bs.length : Int) - 1 - i < a), ?_, ?_, ?_⟩
  · refine ⟨_, _, _, _, _, _, [], rfl, rfl, fun _ h => h, Nat.le_refl _, fun a b c hI hD => ?_⟩
    obtain ⟨x, z, h1, h2, h3, _⟩ := hI
    have := (List.getElem?_eq_some_iff.mp h3).1
    omega
  · rintro i d σ' y' x hd ⟨u3, u4, u5, u6, u7, F', kc, rfl, rfl, hF, hkl, hT⟩
    obtain ⟨hi, rfl⟩ := rngN_at hd
    refine Lift.isInt (n := (bs.length : Int) - 1 - (i : Nat)) (.fact List.mem_cons_self) fun e => ?_
    subst e
    have hi' : (i : Int) < (bs.length : Int) - 1 := by omega
    obtain ⟨t, ht⟩ : ∃ t : Int, (bs.length : Int) - 1 - (i : Nat) = t := ⟨_, rfl⟩
    rw [ht] at hT ⊢
    have t1 : 1 ≤ t := by omega
    have t2 : t < bs.length := by omega
    have hx : bs[(t - 1).toNat]? = some (bs[(t - 1).toNat]'(by omega)) := List.getElem?_eq_getElem _
    have hz : bs[t.toNat]? = some (bs[t.toNat]'(by omega)) := List.getElem?_eq_getElem _
    generalize bs[(t - 1).toNat] = x at hx
    generalize bs[t.toNat] = z at hz
    have bx := hB.b x (List.mem_of_getElem? hx)
    have bz := hB.b z (List.mem_of_getElem? hz)
    have hvF : Hs F' v (.list (prD bs)) := hv.mono hF
    have := hvF.fa
    walk_at "ys"
    refine s_for C (fun x => NoFold.h _ x) ?_
    walk_at "ys"
    refine ix_lst Rc.h (at_prD (by omega) hx) C.hK fun x1 => ?_
    walk_at "ys"
    refine ix_lst Rc.h (at_prD (by omega) hx) C.hK fun x2 => ?_
    walk_at "ys"
    refine ⟨by omega, fun J2 sr2 => ?_⟩
    refine ⟨_, sr2, fun j σ y' => ∃ (u4 u5 u6 u7 : Option V) (F2 : List (V × Dt)) (kc : List (List L2.Key × V)), σ = [some v, some (.int ((bs.length : Int) - 1)), some (.ref pc), some (.int t), u4, u5, u6, u7, none] ∧ y' = ⟨F2, (pc, .raw (.dT kc)) :: O0⟩ ∧ (∀ e, e ∈ F0 → e ∈ F2) ∧ kc.length ≤ 169 * i + 13 * j ∧ Tb bs kc (fun a b _ => t < a ∨ a = t ∧ b < x.1 + (j : Nat)), ?_, ?_, ?_⟩
    · refine ⟨_, _, _, _, _, kc, rfl, rfl, fun e he => List.mem_cons_of_mem _ (List.mem_cons_of_mem _ (List.mem_cons_of_mem _ (hF e he))), by omega, fun a b c hI hD => ?_⟩
      refine hT a b c hI ?_
      rcases hD with hD | ⟨rfl, hD⟩
      · exact hD
      · obtain ⟨x', z', _, h2, _, h4, _⟩ := hI
        rw [hx] at h2
        cases h2
        omega
    · rintro j dj σ2 y2 xj hdj ⟨u4, u5, u6, u7, F2, kc, rfl, rfl, hF2, hkl, hT⟩
      obtain ⟨hj, rfl⟩ := rngD_at hdj
      refine Lift.isInt (n := x.1 + (j : Nat)) (.fact List.mem_cons_self) fun e => ?_
      subst e
      have hvF : Hs F2 v (.list (prD bs)) := hv.mono hF2
      have := hvF.fa
      walk_at "ys"
      refine s_for C (fun x => NoFold.h _ x) ?_
      walk_at "ys"
      refine ix_lst Rc.h (at_prD (by omega) hz) C.hK fun z1 => ?_
      walk_at "ys"
      refine ix_lst Rc.h (at_prD (by omega) hz) C.hK fun z2 => ?_
      walk_at "ys"
      refine ⟨by omega, fun J3 sr3 => ?_⟩
      refine ⟨_, sr3, fun l σ y' => ∃ (u5 u6 u7 : Option V) (F3 : List (V × Dt)) (kc : List (List L2.Key × V)), σ = [some v, some (.int ((bs.length : Int) - 1)), some (.ref pc), some (.int t), some (.int (x.1 + (j : Nat))), u5, u6, u7, none] ∧ y' = ⟨F3, (pc, .raw (.dT kc)) :: O0⟩ ∧ (∀ e, e ∈ F0 → e ∈ F3) ∧ kc.length ≤ 169 * i + 13 * j + l ∧ Tb bs kc (fun a b c => t < a ∨ a = t ∧ (b < x.1 + (j : Nat) ∨ b = x.1 + (j : Nat) ∧ c < z.1 + (l : Nat))), ?_, ?_, ?_⟩
      · refine ⟨_, _, _, _, kc, rfl, rfl, fun e he => List.mem_cons_of_mem _ (List.mem_cons_of_mem _ (List.mem_cons_of_mem _ (hF2 e he))), by omega, fun a b c hI hD => ?_⟩
        refine hT a b c hI ?_
        rcases hD with hD | ⟨rfl, hD | ⟨rfl, hD⟩⟩
        · exact .inl hD
        · exact .inr ⟨rfl, hD⟩
        · obtain ⟨x', z', _, _, h3, _, _, h5, _⟩ := hI
          rw [hz] at h3
          cases h3
          omega
      · rintro l dl σ3 y3 xl hdl ⟨u5, u6, u7, F3, kc, rfl, rfl, hF3, hkl, hT⟩
        obtain ⟨hl', rfl⟩ := rngD_at hdl
        refine Lift.isInt (n := z.1 + (l : Nat)) (.fact List.mem_cons_self) fun e => ?_
        subst e
        have hvF : Hs F3 v (.list (prD bs)) := hv.mono hF3
        have := hvF.fa
        walk_at "ys"
        refine ⟨fun lt => ?_, fun lt => ?_⟩
        · have lt := of_decide_eq_true lt
          have hw : bs[(t + 1).toNat]? = some (bs[(t + 1).toNat]'(by omega)) := List.getElem?_eq_getElem _
          have hdr : bs.drop (t + 1).toNat = bs[(t + 1).toNat]'(by omega) :: bs.drop (t + 1 + 1).toNat := by
            rw [List.drop_eq_getElem_cons (by omega), show (t + 1).toNat + 1 = (t + 1 + 1).toNat by omega]
          generalize bs[(t + 1).toNat] = w at hw hdr
          have bw := hB.b w (List.mem_of_getElem? hw)
          walk_at "ys"
          refine ix_lst Rc.h (at_prD (by omega) hw) C.hK fun w1 => ?_
          walk_at "ys"
          refine o_mulL (.inl (by decide)) ?_
          walk_at "ys"
          obtain ⟨le, hle⟩ : ∃ le : Int, max w.1 (2 * (z.1 + (l : Nat)) - (x.1 + (j : Nat))) = le := ⟨_, rfl⟩
          rw [hle]
          refine l_lcB o_counts_from0 w_counts_from0 v_counts_from0 b_counts_from0 g_counts_from0 C rfl (by decide +kernel) (by decide +kernel) ?_
          walk_at "ys"
          refine ix_lst Rc.h (at_prD (by omega) hw) C.hK fun w2 => ?_
          walk_at "ys"
          refine ⟨by omega, fun J4 sr4 => ?_⟩
          obtain ⟨n, hn⟩ : ∃ n : Nat, (w.2 + 1 - le).toNat = n := ⟨_, rfl⟩
          rw [hn] at sr4
          refine lcb_to (((List.range n).map fun m => cntS (bs.drop (t + 1 + 1).toNat) (z.1 + (l : Nat)) (le + (m : Nat))).map .int) (by rw [List.length_map, List.length_map, List.length_range, rngD_len]) sr4 (by rw [rngD_len]; omega) ?_ ?_
          · intro m dm rm xm hdm hrm X1 C1
            obtain ⟨hm, rfl⟩ := rngD_at hdm
            rw [List.getElem?_map, List.getElem?_map, List.getElem?_range hm] at hrm
            cases hrm
            refine Lift.isInt (n := le + (m : Nat)) (.fact List.mem_cons_self) fun e => ?_
            subst e
            walk_at "ys"
            refine ⟨rfl, fun X3 C3 => ?_⟩
            walk_at "ys"
            refine ⟨_, hT (t + 1) (z.1 + (l : Nat)) (le + (m : Nat)) ⟨z, w, by omega, by rw [show t + 1 - 1 = t by omega]; exact hz, hw, by omega, by omega, by omega, by omega⟩ (.inl (by omega)), ?_⟩
            exact ⟨.int _, rfl, SubF.h⟩
          · intro F4 p4 hF4
            refine Lift.release ?_
            walk_at "ys"
            refine ⟨by omega, ?_⟩
            walk_at "ys"
            refine ⟨_, _, _, _, _, rfl, rfl, fun e he => List.mem_cons_of_mem _ (hF4 e (List.mem_cons_of_mem _ (List.mem_cons_of_mem _ (List.mem_cons_of_mem _ (hF3 e he))))), Nat.le_trans (length_putK _ _ _) (by omega), hT.put ?_ fun a b c hD => ?_⟩
            · rw [hdr, cntS_cons, hle, hn]
              rfl
            · rcases hD with hD | ⟨rfl, hD | ⟨rfl, hD⟩⟩
              · exact .inl (.inl hD)
              · exact .inl (.inr ⟨rfl, .inl hD⟩)
              · by_cases hc : c < z.1 + (l : Nat)
                · exact .inl (.inr ⟨rfl, .inr ⟨rfl, hc⟩⟩)
                · exact .inr ⟨rfl, rfl, by omega⟩
        · have lt := of_decide_eq_false lt
          walk_at "ys"
          refine ⟨by omega, ?_⟩
          walk_at "ys"
          refine ⟨_, _, _, _, _, rfl, rfl, fun e he => List.mem_cons_of_mem _ (hF3 e he), Nat.le_trans (length_putK _ _ _) (by omega), hT.put ?_ fun a b c hD => ?_⟩
          · rw [List.drop_eq_nil_of_le (by omega)]
            rfl
          · rcases hD with hD | ⟨rfl, hD | ⟨rfl, hD⟩⟩
            · exact .inl (.inl hD)
            · exact .inl (.inr ⟨rfl, .inl hD⟩)
            · by_cases hc : c < z.1 + (l : Nat)
              · exact .inl (.inr ⟨rfl, .inr ⟨rfl, hc⟩⟩)
              · exact .inr ⟨rfl, rfl, by omega⟩
      · rintro σ3 y3 ⟨u5, u6, u7, F3, kc, rfl, rfl, hF3, hkl, hT⟩
        rw [rngD_len] at hkl hT
        walk_at "ys"
        refine ⟨_, _, _, _, _, kc, rfl, rfl, hF3, by omega, fun a b c hI hD => hT a b c hI ?_⟩
        rcases hD with hD | ⟨rfl, hD⟩
        · exact .inl hD
        · refine .inr ⟨rfl, ?_⟩
          by_cases hb : b < x.1 + (j : Nat)
          · exact .inl hb
          · obtain ⟨x', z', _, _, h3, _, _, h5, h6⟩ := hI
            rw [hz] at h3
            cases h3
            exact .inr ⟨by omega, by omega⟩
    · rintro σ2 y2 ⟨u4, u5, u6, u7, F2, kc, rfl, rfl, hF2, hkl, hT⟩
      rw [rngD_len] at hkl hT
      walk_at "ys"
      refine ⟨_, _, _, _, _, _, kc, rfl, rfl, hF2, by omega, fun a b c hI hD => hT a b c hI ?_⟩
      by_cases ha : t < a
      · exact .inl ha
      · obtain ⟨x', z', _, h2, _, h4, h4', _⟩ := hI
        have e : a = t := by omega
        subst e
        rw [hx] at h2
        cases h2
        exact .inr ⟨rfl, by omega⟩
  · rintro σ' y' ⟨u3, u4, u5, u6, u7, F', kc, rfl, rfl, hF, hkl, hT⟩
    rw [rngN_len] at hT
    walk_at "ys"
    refine rw_rt (q pc kc F' hF fun a b c hI _ => hT a b c hI ?_)
    obtain ⟨_, _, h1, _⟩ := hI
    omega
end

section
variable {P : Program} {w : World} {K : PySem.W.Frag} {mg : Str → Option Value} {base : Heap} {k : Nat}
theorem putK_over {κ : Type} [DecidableEq κ] {kvs : List (κ × V)} {k : κ} (v1 v2 : V) (h : valV kvs k = none) : putK (kvs ++ [(k, v1)]) k v2 = kvs ++ [(k, v2)] := by
  have hn : ∀ p ∈ kvs, ¬ p.1 = k := fun p hp e => by
    have := valV_any k kvs
    rw [h] at this
    have h2 : (kvs.any fun kv => decide (kv.1 = k)) = true := List.any_eq_true.mpr ⟨p, hp, decide_eq_true e⟩
    rw [h2] at this
    cases this
  unfold putK
  rw [if_pos (by rw [List.any_append]; simp), List.map_append]
  congr 1
  · refine (List.map_congr_left fun p hp => if_neg (hn p hp)).trans ?_
    exact List.map_id _
  · simp
/-- a table of the first numbers -/
def kfL (lo : Int) (f : Int → Int) (n : Nat) : List (L2.Key × V) := (List.range n).map fun j => (Sum.inl (lo + (j : Nat)), V.int (f (lo + (j : Nat))))
theorem kfL_len (lo : Int) (f : Int → Int) (n : Nat) : (kfL lo f n).length = n := by
  unfold kfL
  rw [List.length_map, List.length_range]
theorem kfL_succ (lo : Int) (f : Int → Int) (n : Nat) : kfL lo f (n + 1) = kfL lo f n ++ [(Sum.inl (lo + (n : Nat)), V.int (f (lo + (n : Nat))))] := by
  unfold kfL
  rw [List.range_succ, List.map_append]
  rfl
theorem kfL_none {lo : Int} {f : Int → Int} : ∀ {n : Nat} {i : Int}, (i < lo ∨ lo + n ≤ i) → valV (kfL lo f n) (.inl i) = none
  | 0, _, _ => rfl
  | n + 1, i, h => by
    rw [kfL_succ, valV_snoc _ _ _ _ (kfL_none (by omega)), if_neg (by
      intro e
      cases e
      omega)]
    exact kfL_none (by omega)
theorem kfL_get {lo : Int} {f : Int → Int} : ∀ {n : Nat} {i : Int}, lo ≤ i → i < lo + n → valV (kfL lo f n) (.inl i) = some (.int (f i))
  | 0, _, h1, h2 => absurd h2 (by omega)
  | n + 1, i, h1, h2 => by
    rw [kfL_succ, valV_snoc _ _ _ _ (kfL_none (by omega))]
    by_cases e : i = lo + (n : Nat)
    · subst e
      rw [if_pos rfl]
    · rw [if_neg (by
        intro e2
        cases e2
        exact e rfl)]
      exact kfL_get h1 (by omega)
theorem kfL_vals (lo : Int) (f : Int → Int) (n : Nat) : (kfL lo f n).map (·.2) = (((List.range n).map fun j => f (lo + (j : Nat)))).map V.int := by
  unfold kfL
  rw [List.map_map, List.map_map]
  rfl
/-- how many rows begin so -/
def fstC : List (Int × Int) → Int → Int
  | _ :: z :: r, a => sumR z.1 (z.2 + 1 - z.1).toNat (cntS r a)
  | _, _ => 1
theorem fstC_nn (bs : List (Int × Int)) (a : Int) : 0 ≤ fstC bs a := by
  unfold fstC
  split
  · exact sumR_nn fun i => cntS_nn _ _ _
  · decide
/-- all rows -/
def totC (bs : List (Int × Int)) : Int := match bs with
  | [] => 0
  | x :: _ => sumR x.1 (x.2 + 1 - x.1).toNat (fstC bs)
theorem totC_nn (bs : List (Int × Int)) : 0 ≤ totC bs := by
  unfold totC
  split
  · decide
  · exact sumR_nn fun i => fstC_nn _ i
/-- first_counts(bounds) -/
def R_first : RY := fun vs y Φ _ => ∃ (v : V) (bs : List (Int × Int)), vs = [v] ∧ Hs y.F v (.list (prD bs)) ∧ Bo bs ∧ ∀ t pf pc kc F' x, (∀ e, e ∈ y.F → e ∈ F') → Tb bs kc (fun _ _ _ => True) → bs[0]? = some x → Φ (.ref t) ⟨F', (t, .raw (.tup [.ref pf, .ref pc])) :: (pf, .raw (.dK (kfL x.1 (fstC bs) (x.2 + 1 - x.1).toNat))) :: (pc, .raw (.dT kc)) :: y.O⟩
theorem ok_first [Bn mg "len"] [Bn mg "range"] [Bn mg "sum"] [Cl P w K mg base "counts_from" k 1 R_counts] {f : Addr} {fd : FuncData} (F : Fun K "first_counts" "first_counts" s_first_counts f fd) : FnOk P w K mg base (L2.CX P w) (k + 1) f fd ["bounds"] (SpY K 1 R_first) := by
  refine fn_w F sc_first_counts rfl ck_first_counts fun X y vs Φ Ψ C hl h => ?_
  obtain ⟨v, bs, rfl, hv, hB, q⟩ := h
  obtain ⟨F0, O0⟩ := y
  have := hv.fa
  have hl1 := hB.l1
  have hl2 := hB.l2
  have hx : bs[0]? = some (bs[0]'(by omega)) := List.getElem?_eq_getElem _
  generalize bs[0] = x at hx
  have bx := hB.b x (List.mem_of_getElem? hx)
  show Lift K (wSs X (_ :: _) [some v, none, none, none, none]) _ _ _
  repeat (fail_if_success (refine l_dictK ?_)
          refine go ?_)
  refine ⟨rfl, v, bs, rfl, .fact Fa.h, hB, fun pc kc F1 hF1 hT => ?_⟩
  have := SubF.mk hF1
  have hv1 : Hs F1 v (.list (prD bs)) := hv.mono hF1
  have := hv1.fa
  repeat (fail_if_success (refine l_dictK ?_)
          refine go ?_)
  refine l_dictK fun pf => ?_
  walk_at "ys"
  refine s_for C (fun x => NoFold.h _ x) ?_
  walk_at "ys"
  refine ix_lst Rc.h (at_prD (i := 0) (by omega) hx) C.hK fun x1 => ?_
  walk_at "ys"
  refine ix_lst Rc.h (at_prD (i := 0) (by omega) hx) C.hK fun x2 => ?_
  walk_at "ys"
  refine ⟨by omega, fun J sr => ?_⟩
  refine ⟨_, sr, fun i σ y' => ∃ (u3 : Option V) (F2 : List (V × Dt)), σ = [some v, some (.ref pc), some (.ref pf), u3, none] ∧ y' = ⟨F2, (pf, .raw (.dK (kfL x.1 (fstC bs) i))) :: (pc, .raw (.dT kc)) :: O0⟩ ∧ (∀ e, e ∈ F1 → e ∈ F2), ?_, ?_, ?_⟩
  · exact ⟨_, _, rfl, rfl, fun e he => List.mem_cons_of_mem _ (List.mem_cons_of_mem _ he)⟩
  · rintro i d σ' y' xi hd ⟨u3, F2, rfl, rfl, hF2⟩
    obtain ⟨hi, rfl⟩ := rngD_at hd
    refine Lift.isInt (n := x.1 + (i : Nat)) (.fact List.mem_cons_self) fun e => ?_
    subst e
    have hv2 : Hs F2 v (.list (prD bs)) := hv1.mono hF2
    have := hv2.fa
    walk_at "ys"
    refine st_dK C (by rw [kfL_len]; omega) ?_
    rw [putK_new _ (kfL_none (by omega))]
    walk_at "ys"
    rw [prD_len]
    refine ⟨fun c1 => ?_, fun c1 => ?_⟩
    · have c1 := of_decide_eq_true c1
      obtain ⟨x', z, r, rfl⟩ : ∃ x z r, bs = x :: z :: r := by
        match bs, c1 with
        | x :: z :: r, _ => exact ⟨x, z, r, rfl⟩
      cases hx
      have bz := hB.b z (List.mem_cons_of_mem _ List.mem_cons_self)
      walk_at "ys"
      refine l_lcB o_first_counts0 w_first_counts0 v_first_counts0 b_first_counts0 g_first_counts0 C rfl (by decide +kernel) (by decide +kernel) ?_
      walk_at "ys"
      refine ix_lst Rc.h (at_prD (i := 1) (x := z) (by omega) rfl) C.hK fun z1 => ?_
      walk_at "ys"
      refine ix_lst Rc.h (at_prD (i := 1) (x := z) (by omega) rfl) C.hK fun z2 => ?_
      walk_at "ys"
      refine ⟨by omega, fun J4 sr4 => ?_⟩
      refine lcb_to (((List.range (z.2 + 1 - z.1).toNat).map fun m => cntS r (x.1 + (i : Nat)) (z.1 + (m : Nat))).map .int) (by rw [List.length_map, List.length_map, List.length_range, rngD_len]) sr4 (by rw [rngD_len]; omega) ?_ ?_
      · intro m dm rm xm hdm hrm X1 C1
        obtain ⟨hm, rfl⟩ := rngD_at hdm
        rw [List.getElem?_map, List.getElem?_map, List.getElem?_range hm] at hrm
        cases hrm
        refine Lift.isInt (n := z.1 + (m : Nat)) (.fact List.mem_cons_self) fun e => ?_
        subst e
        walk_at "ys"
        refine ⟨rfl, fun X3 C3 => ?_⟩
        walk_at "ys"
        refine ⟨_, hT 1 (x.1 + (i : Nat)) (z.1 + (m : Nat)) ⟨x, z, by omega, rfl, rfl, by omega, by omega, by omega, by omega⟩ True.intro, ?_⟩
        exact ⟨.int _, rfl, SubF.h⟩
      · intro F4 p4 hF4
        refine Lift.release ?_
        walk_at "ys"
        refine st_dK C (by rw [List.length_append, kfL_len]; show i + 1 ≤ _; omega) ?_
        rw [putK_over _ _ (kfL_none (by omega))]
        walk_at "ys"
        have e1 : kfL x.1 (fstC (x :: z :: r)) (i + 1) = kfL x.1 (fstC (x :: z :: r)) i ++ [(Sum.inl (x.1 + (i : Nat)), V.int ((List.range (z.2 + 1 - z.1).toNat).map fun m => cntS r (x.1 + (i : Nat)) (z.1 + (m : Nat))).sum)] := kfL_succ _ _ _
        rw [← e1]
        exact ⟨_, _, rfl, rfl, fun e he => List.mem_cons_of_mem _ (hF4 e (List.mem_cons_of_mem _ (List.mem_cons_of_mem _ (List.mem_cons_of_mem _ (hF2 e he)))))⟩
    · have c1 := of_decide_eq_false c1
      obtain ⟨x', rfl⟩ : ∃ x0, bs = [x0] := by
        match bs, hl1, c1 with
        | [x], _, _ => exact ⟨x, rfl⟩
        | _ :: _ :: _, _, c => exact absurd (by simp only [List.length_cons]; omega) c
      walk_at "ys"
      have e1 : kfL x.1 (fstC [x]) (i + 1) = kfL x.1 (fstC [x]) i ++ [(Sum.inl (x.1 + (i : Nat)), V.int 1)] := kfL_succ _ _ _
      cases hx
      rw [← e1]
      exact ⟨_, _, rfl, rfl, fun e he => List.mem_cons_of_mem _ (hF2 e he)⟩
  · rintro σ' y' ⟨u3, F2, rfl, rfl, hF2⟩
    rw [rngD_len]
    repeat (fail_if_success (refine l_tupR ?_)
            refine go ?_)
    refine l_tupR ?_
    walk_at "ys"
    refine ⟨by show 2 ≤ 1000000; decide, fun t => ?_⟩
    refine rw_rt (q t pf pc kc F2 x (fun e he => hF2 e (hF1 e he)) hT hx)
theorem bo_nice {bs : List (Int × Int)} (h : Bo bs) : nice (.list (prD bs)) = true :=
  (Ta.prs (n := 1) fun x hx => ⟨Nat.lt_of_lt_of_le (h.b x hx).2.2 (Nat.pow_le_pow_right (by decide) (by decide)), by
    have := h.b x hx
    exact Nat.lt_of_lt_of_le (show x.2.natAbs < 2 ^ 61 by omega) (Nat.pow_le_pow_right (by decide) (by decide))⟩).list.h
theorem bo_bnd {bs : List (Int × Int)} (h : Bo bs) : bndD (.list (prD bs)) = true := by
  show (decide (1 ≤ (prD bs).length) && decide ((prD bs).length ≤ 10) && (prD bs).all bnd1) = true
  rw [prD_len, decide_eq_true h.l1, decide_eq_true h.l2, Bool.true_and, Bool.true_and, List.all_eq_true]
  intro d hd
  unfold prD at hd
  obtain ⟨x, hx, rfl⟩ := List.mem_map.mp hd
  have := h.b x hx
  show (decide (x.1 ≤ x.2) && decide (x.2 ≤ x.1 + 12)) = true
  rw [decide_eq_true this.1, decide_eq_true this.2.1]
  rfl
end

section
variable {P : Program} {w : World} {K : PySem.W.Frag} {mg : Str → Option Value} {base : Heap} {k : Nat}
/-- how_many_within(bounds) -/
def R_many : RY := fun vs y Φ _ => ∃ (v : V) (bs : List (Int × Int)), vs = [v] ∧ Hs y.F v (.list (prD bs)) ∧ Bo bs ∧ ∀ F', (∀ e, e ∈ y.F → e ∈ F') → Φ (.int (totC bs)) ⟨F', y.O⟩
theorem ok_many {c : Addr} [Bn mg "list"] [Bn mg "sum"] [Cl P w K mg base "need_bounds" k 1 (R_needb c)] [Cl P w K mg base "first_counts" k 1 R_first] {f : Addr} {fd : FuncData} (F : Fun K "how_many_within" "how_many_within" s_how_many_within f fd) : FnOk P w K mg base (L2.CX P w) (k + 1) f fd ["bounds"] (SpY K 1 R_many) := by
  refine fn_w F sc_how_many_within rfl ck_how_many_within fun X y vs Φ Ψ C hl h => ?_
  obtain ⟨v, bs, rfl, hv, hB, q⟩ := h
  obtain ⟨F0, O0⟩ := y
  have := hv.fa
  show Lift K (wSs X (_ :: _) [some v, none, none]) _ _ _
  walk_at "ys"
  refine ⟨rfl, v, _, rfl, .fact Fa.h, bo_nice hB, fun F1 hF1 => ⟨fun _ => ?_, fun e => absurd (bo_bnd hB) (by rw [e]; decide)⟩⟩
  have hv1 : Hs F1 v (.list (prD bs)) := hv.mono hF1
  have := hv1.fa
  walk_at "ys"
  refine ⟨rfl, v, bs, rfl, .fact Fa.h, hB, fun t pf pc kc F2 x hF2 hT hx => ?_⟩
  repeat (fail_if_success (refine g_rawT C ?_)
          refine go ?_)
  refine g_rawT C ?_
  walk_at "ys"
  refine ⟨pf, _, (((List.range (x.2 + 1 - x.1).toNat).map fun j => fstC bs (x.1 + (j : Nat)))).map .int, rfl, .inl ⟨_, List.mem_cons_self, rfl⟩, ?_, fun pl => ?_⟩
  · rw [kfL_vals]
    exact HsA.ints _
  · refine Lift.release ?_
    walk_at "ys"
    have e : totC bs = ((List.range (x.2 + 1 - x.1).toNat).map fun j => fstC bs (x.1 + (j : Nat))).sum := by
      match bs, hx with
      | y :: r, hx =>
        cases hx
        rfl
    rw [← e]
    exact ⟨⟨F2, O0⟩, fun e he => List.mem_cons_of_mem _ he, (List.sublist_cons_self _ _).trans (List.sublist_cons_self _ _), q F2 fun e he => hF2 e (hF1 e he)⟩
end

section
variable {P : Program} {w : World} {K : PySem.W.Frag} {mg : Str → Option Value} {base : Heap} {k : Nat}
/-- is_there_one(bounds) -/
def R_there : RY := fun vs y Φ _ => ∃ (v : V) (bs : List (Int × Int)), vs = [v] ∧ Hs y.F v (.list (prD bs)) ∧ Bo bs ∧ ∀ F', (∀ e, e ∈ y.F → e ∈ F') → Φ (.bl (decide (0 < totC bs))) ⟨F', y.O⟩
theorem ok_there [Cl P w K mg base "how_many_within" k 1 R_many] {f : Addr} {fd : FuncData} (F : Fun K "is_there_one" "is_there_one" s_is_there_one f fd) : FnOk P w K mg base (L2.CX P w) (k + 1) f fd ["bounds"] (SpY K 1 R_there) := by
  refine fn_w F sc_is_there_one rfl ck_is_there_one fun X y vs Φ Ψ C hl h => ?_
  obtain ⟨v, bs, rfl, hv, hB, q⟩ := h
  obtain ⟨F0, O0⟩ := y
  show Lift K (wSs X (_ :: _) [some v]) _ _ _
  walk_at "ys"
  refine ⟨rfl, v, bs, rfl, hv, hB, fun F1 hF1 => ?_⟩
  walk_at "ys"
  exact ⟨_, fun _ h => h, List.Sublist.refl _, q F1 hF1⟩
end

section
variable {P : Program} {w : World} {K : PySem.W.Frag} {mg : Str → Option Value} {base : Heap} {k : Nat}
theorem prD_one (a b : Int) : prD [(a, b)] = [PyData.tuple [.int a, .int b]] := rfl
/-- _law_bounds(pool, many, wide) -/
def R_bounds : RY := fun vs y Φ _ => ∃ (p : Addr) (m wd : Int) (a b c : Int) (O : List (Addr × OD)), vs = [.ref p, .int m, .int wd] ∧ 1 ≤ m ∧ m ≤ 10 ∧ 0 ≤ wd ∧ wd ≤ 12 ∧ y.O = (p, plD a b c) :: O ∧ 0 ≤ c ∧ c ≤ 10 ^ 7 ∧
  ∀ q (bs : List (Int × Int)) a' c', (bs.length : Int) = m → (∀ x ∈ bs, x.1 ≤ x.2 ∧ x.2 ≤ x.1 + wd ∧ x.1.natAbs < 10 ^ 12) → c ≤ c' → c' ≤ c + 100 → Φ (.ref q) ⟨y.F, (q, .lst (prD bs)) :: (p, plD a' b c') :: O⟩
theorem ok_bounds [Bn mg "range"] [Bn mg "int"] [Cl P w K mg base "_law_draw" k 2 R_draw] {f : Addr} {fd : FuncData} (F : Fun K "_law_bounds" "_law_bounds" s_l_bounds f fd) : FnOk P w K mg base (L2.CX P w) (k + 1) f fd ["pool", "many", "wide"] (SpY K 3 R_bounds) := by
  refine fn_w F sc_l_bounds rfl ck_l_bounds fun X y vs Φ Ψ C hl h => ?_
  obtain ⟨p, m, wd, a, b, c, O, rfl, hm1, hm2, hw1, hw2, hO, h0, h1, q⟩ := h
  obtain ⟨F0, O0⟩ := y
  cases hO
  show Lift K (wSs X (_ :: _) [some (.ref p), some (.int m), some (.int wd), none, none, none, none, none, none, none, none, none]) _ _ _
  walk_at "ys"
  refine ⟨rfl, p, a, b, c, _, O, rfl, by decide, by decide, rfl, by omega, by omega, fun r1 a1 c1 g1 g2 g3 g4 => ?_⟩
  walk_at "ys"
  refine ⟨rfl, p, a1, b, c1, _, O, rfl, by decide, by decide, rfl, by omega, by omega, fun r2 a2 c2 k1 k2 k3 k4 => ?_⟩
  walk_at "ys"
  refine ⟨rfl, p, a2, b, c2, _, O, rfl, by decide, by decide, rfl, by omega, by omega, fun r3 a3 c3 l1 l2 l3 l4 => ?_⟩
  refine ix_pick (by omega) (by show r3 < 4; omega) fun nm hnm _ => ?_
  have hnm2 : -(10 ^ 11) ≤ nm ∧ nm ≤ 10 ^ 11 := by
    simp only [List.mem_cons, List.not_mem_nil, or_false] at hnm
    omega
  clear hnm
  walk_at "ys"
  refine ⟨rfl, p, a3, b, c3, _, O, rfl, by decide, by decide, rfl, by omega, by omega, fun r4 a4 c4 s1 s2 s3 s4 => ?_⟩
  walk_at "ys"
  refine ⟨rfl, p, a4, b, c4, _, O, rfl, by decide, by decide, rfl, by omega, by omega, fun r5 a5 c5 t1 t2 t3 t4 => ?_⟩
  walk_at "ys"
  refine o_mulL (.inl (by decide)) ?_
  walk_at "ys"
  refine ⟨rfl, p, a5, b, c5, _, O, rfl, by decide, by decide, rfl, by omega, by omega, fun r6 a6 c6 u1 u2 u3 u4 => ?_⟩
  refine ix_pick (by omega) (by show r6 < 3; omega) fun st hst _ => ?_
  have hst2 : -(10 ^ 9) ≤ st ∧ st ≤ 10 ^ 9 := by
    simp only [List.mem_cons, List.not_mem_nil, or_false] at hst
    omega
  clear hst
  walk_at "ys"
  refine ⟨rfl, p, a6, b, c6, _, O, rfl, by decide, by decide, rfl, by omega, by omega, fun kd a7 c7 v1 v2 v3 v4 => ?_⟩
  walk_at "ys"
  refine ⟨rfl, p, a7, b, c7, _, O, rfl, by decide, by decide, rfl, by omega, by omega, fun r8 a8 c8 w1 w2 w3 w4 => ?_⟩
  walk_at "ys"
  refine ⟨rfl, p, a8, b, c8, _, O, rfl, by decide, by decide, rfl, by omega, by omega, fun r9 a9 c9 x1 x2 x3 x4 => ?_⟩
  refine ix_pick (by omega) (by show r9 < 5; omega) fun bd hbd _ => ?_
  have hbd2 : -100 ≤ bd ∧ bd ≤ 100 := by
    simp only [List.mem_cons, List.not_mem_nil, or_false] at hbd
    omega
  clear hbd
  walk_at "ys"
  refine ⟨rfl, p, a9, b, c9, _, O, rfl, by decide, by decide, rfl, by omega, by omega, fun r10 a10 c10 y1 y2 y3 y4 => ?_⟩
  refine ix_pick (by omega) (by show r10 < 4; omega) fun sp hsp _ => ?_
  have hsp2 : 1 ≤ sp ∧ sp ≤ 100 := by
    simp only [List.mem_cons, List.not_mem_nil, or_false] at hsp
    omega
  clear hsp
  refine go (l_lstOK ?_)
  walk_at "yo"
  intro fo
  refine Lift.sw1 ?_
  walk_at "ys"
  refine s_for C (fun x => NoFold.h _ x) ?_
  walk_at "ys"
  refine ⟨by omega, by omega, fun J sr => ?_⟩
  refine ⟨_, sr, fun i σ y' => ∃ (u9 u10 u11 : Option V) (F' : List (V × Dt)) (bs : List (Int × Int)) (n s a c' : Int), σ = [some (.ref p), some (.int m), some (.int wd), some (.int n), some (.int s), some (.int kd), some (.int bd), some (.int sp), some (.ref fo), u9, u10, u11] ∧ y' = ⟨F', (p, plD a b c') :: (fo, .lst (prD bs)) :: O⟩ ∧ (∀ e, e ∈ F0 → e ∈ F') ∧ bs.length = i ∧ (∀ x ∈ bs, x.1 ≤ x.2 ∧ x.2 ≤ x.1 + wd ∧ x.1.natAbs < 10 ^ 12) ∧ (n.natAbs : Int) ≤ 10 ^ 11 + 2 * 10 ^ 10 * (i : Nat) ∧ (s.natAbs : Int) ≤ 10 ^ 9 + 10 ^ 9 * (i : Nat) ∧ c10 ≤ c' ∧ c' ≤ c10 + 5 * (i : Nat), ?_, ?_, ?_⟩
  · exact ⟨_, _, _, _, [], _, _, _, _, rfl, rfl, fun e h => SubF.h e h, rfl, (fun x hx => nomatch hx), by omega, by omega, by omega, by omega⟩
  · rintro i d σ' y' x hd ⟨u9, u10, u11, F', bs, n, s, a', c', rfl, rfl, hF, hbl, hbS, hn, hs, e1, e2⟩
    obtain ⟨hi, rfl⟩ := rngD_at hd
    have hi2 : i < 10 := by omega
    refine Lift.isInt (n := 0 + (i : Nat)) (.fact List.mem_cons_self) fun e => ?_
    subst e
    walk_at "ys"
    refine ⟨rfl, p, _, b, _, _, _, rfl, by omega, by omega, rfl, by omega, by omega, fun r11 a11 c11 z1 z2 z3 z4 => ?_⟩
    walk_at "ys"
    refine ⟨rfl, p, _, b, _, _, _, rfl, by omega, by omega, rfl, by omega, by omega, fun r12 a12 c12 s5 s6 s7 s8 => ?_⟩
    walk_at "ys"
    refine Lift.sw1 (m_append (.fact List.mem_cons_self) (by rw [prD_len]; omega) ?_)
    refine Lift.sw1 ?_
    walk_at "ys"
    refine ⟨rfl, p, _, b, _, _, _, rfl, by decide, by decide, rfl, by omega, by omega, fun r13 a13 c13 t5 t6 t7 t8 => ?_⟩
    walk_at "ys"
    refine ⟨rfl, p, _, b, _, _, _, rfl, by decide, by decide, rfl, by omega, by omega, fun r14 a14 c14 u5 u6 u7 u8 => ?_⟩
    walk_at "ys"
    obtain ⟨ft, hft, hft2⟩ : ∃ ft : Int, (if decide (r14 = 0) = true then (1 : Int) else 0) = ft ∧ (0 ≤ ft ∧ ft ≤ 1) := ⟨_, rfl, by split <;> omega⟩
    rw [hft]
    refine o_mul9 40 10 (by omega) (by omega) (by decide) ?_
    have hfar : -(10 ^ 9) ≤ r13 * ft ∧ r13 * ft ≤ 10 ^ 9 := by
      rcases (show ft = 0 ∨ ft = 1 by omega) with rfl | rfl <;> omega
    generalize r13 * ft = far at hfar ⊢
    walk_at "ys"
    refine ⟨rfl, p, _, b, _, _, _, rfl, by decide, by decide, rfl, by omega, by omega, fun r15 a15 c15 v5 v6 v7 v8 => ?_⟩
    walk_at "ys"
    refine ix_pick (by omega) (by show kd < 3; omega) fun up hup _ => ?_
    have hup2 : -(10 ^ 9) ≤ up ∧ up ≤ 10 ^ 9 := by
      simp only [List.mem_cons, List.not_mem_nil, or_false] at hup
      omega
    clear hup
    walk_at "ys"
    rw [← prD_one, ← prD_app]
    refine ⟨_, _, _, _, bs ++ [(n - r11, n - r11 + r12)], _, _, _, _, rfl, rfl, fun e he => SubF.h e (hF e he), by rw [List.length_append, hbl]; rfl, fun x hx => ?_, by omega, by omega, by omega, by omega⟩
    rcases List.mem_append.mp hx with hx | hx
    · exact hbS x hx
    · cases List.mem_singleton.mp hx
      exact ⟨by show n - r11 ≤ n - r11 + r12; omega, by show n - r11 + r12 ≤ n - r11 + wd; omega, by show (n - r11).natAbs < 10 ^ 12; omega⟩
  · rintro σ' y' ⟨u9, u10, u11, F', bs, n, s, a', c', rfl, rfl, hF, hbl, hbS, hn, hs, e1, e2⟩
    rw [rngD_len] at hbl e2
    refine Lift.sw1 ?_
    walk_at "ys"
    exact ⟨⟨F0, _⟩, hF, List.Sublist.refl _, q fo bs _ _ (by omega) hbS (by omega) (by omega)⟩
end

section
variable {P : Program} {w : World} {K : PySem.W.Frag} {mg : Str → Option Value} {base : Heap} {k : Nat}
/-- whether a number may come behind -/
def okR (row : List Int) (n : Int) : Bool := match row.reverse with
  | h :: a :: _ => decide (h - a ≤ n - h)
  | _ => true
def stepR (z : Int × Int) (row : List Int) : List (List Int) := ((List.range (z.2 + 1 - z.1).toNat).filter fun i => okR row (z.1 + (i : Nat))).map fun i => row ++ [z.1 + (i : Nat)]
def rowsR (bs : List (Int × Int)) (acc : List (List Int)) : List (List Int) := bs.foldl (fun acc z => acc.flatMap (stepR z)) acc
def ways : List (Int × Int) → List Int → Int
  | [], _ => 1
  | z :: r, row => ((stepR z row).map (ways r)).sum
theorem sum_flat {α : Type} (f : List Int → Int) (g : α → List (List Int)) : ∀ l : List α, ((l.flatMap g).map f).sum = (l.map fun x => ((g x).map f).sum).sum
  | [] => rfl
  | x :: r => by
    rw [List.flatMap_cons, List.map_append, List.sum_append, List.map_cons, List.sum_cons, sum_flat f g r]
theorem rows_len : ∀ (bs : List (Int × Int)) (acc : List (List Int)), ((rowsR bs acc).length : Int) = (acc.map (ways bs)).sum
  | [], acc => by
    show ((acc.length : Nat) : Int) = (acc.map fun _ => (1 : Int)).sum
    induction acc with
    | nil => rfl
    | cons x r ih =>
      rw [List.map_cons, List.sum_cons, ← ih, List.length_cons]
      omega
  | z :: r, acc => by
    have ih := rows_len r (acc.flatMap (stepR z))
    show ((rowsR r (acc.flatMap (stepR z))).length : Int) = _
    rw [ih, sum_flat]
    rfl
theorem sumR_succ (lo : Int) (n : Nat) (f : Int → Int) : sumR lo (n + 1) f = sumR lo n f + f (lo + (n : Nat)) := by
  unfold sumR
  rw [List.range_succ, List.map_append, List.sum_append]
  simp
theorem sum_from (lo m : Int) (f : Int → Int) : ∀ n : Nat, (((List.range n).filter fun i => decide (m ≤ lo + (i : Nat))).map fun i => f (lo + (i : Nat))).sum = sumR (max lo m) (lo + (n : Nat) - max lo m).toNat f
  | 0 => by
    rw [show (lo + ((0 : Nat) : Int) - max lo m).toNat = 0 by omega]
    rfl
  | n + 1 => by
    have ih := sum_from lo m f n
    rw [List.range_succ, List.filter_append, List.map_append, List.sum_append, ih]
    by_cases h : m ≤ lo + (n : Nat)
    · rw [show (lo + ((n + 1 : Nat) : Int) - max lo m).toNat = (lo + (n : Nat) - max lo m).toNat + 1 by omega, sumR_succ, List.filter_cons, if_pos (decide_eq_true h)]
      rw [show max lo m + (((lo + (n : Nat) - max lo m).toNat : Nat) : Int) = lo + (n : Nat) by omega]
      simp
    · rw [show (lo + ((n + 1 : Nat) : Int) - max lo m).toNat = (lo + (n : Nat) - max lo m).toNat by omega, List.filter_cons, if_neg (by simpa using h)]
      simp
theorem okR_two (pre : List Int) (a h n : Int) : okR (pre ++ [a, h]) n = decide (2 * h - a ≤ n) := by
  unfold okR
  rw [List.reverse_append]
  show decide (h - a ≤ n - h) = _
  exact decide_eq_decide.mpr ⟨fun h => by omega, fun h => by omega⟩
theorem ways_two : ∀ (bs : List (Int × Int)) (pre : List Int) (a h : Int), (∀ z ∈ bs, z.1 ≤ z.2) → ways bs (pre ++ [a, h]) = cntS bs a h
  | [], _, _, _, _ => rfl
  | z :: r, pre, a, h, hz => by
    have ih := fun n => ways_two r (pre ++ [a]) h n fun z m => hz z (List.mem_cons_of_mem _ m)
    show ((stepR z (pre ++ [a, h])).map (ways r)).sum = sumR _ _ _
    unfold stepR
    rw [List.map_map]
    have e : (fun i => okR (pre ++ [a, h]) (z.1 + ((i : Nat) : Int))) = fun i => decide (2 * h - a ≤ z.1 + ((i : Nat) : Int)) := funext fun i => okR_two pre a h _
    have e2 : (ways r ∘ fun i : Nat => pre ++ [a, h] ++ [z.1 + (i : Int)]) = fun i : Nat => cntS r h (z.1 + (i : Int)) := funext fun i => by
      show ways r (pre ++ [a, h] ++ [z.1 + (i : Int)]) = _
      rw [← ih]
      congr 1
      simp
    rw [e, e2, sum_from]
    have := hz z List.mem_cons_self
    rw [show z.1 + (((z.2 + 1 - z.1).toNat : Nat) : Int) = z.2 + 1 by omega]
theorem okR_short {row : List Int} (h : row.length < 2) (n : Int) : okR row n = true := by
  match row, h with
  | [], _ => rfl
  | [_], _ => rfl
theorem step_short {z : Int × Int} {row : List Int} (h : row.length < 2) : stepR z row = (List.range (z.2 + 1 - z.1).toNat).map fun i => row ++ [z.1 + (i : Nat)] := by
  unfold stepR
  rw [List.filter_eq_self.mpr fun i _ => okR_short h _]
theorem rows_tot {bs : List (Int × Int)} (h : Bo bs) : ((rowsR bs [[]]).length : Int) = totC bs := by
  rw [rows_len, List.map_cons, List.map_nil, List.sum_cons, List.sum_nil, Int.add_zero]
  have hz : ∀ z ∈ bs, z.1 ≤ z.2 := fun z m => (h.b z m).1
  match bs, h.l1, hz with
  | [x], _, _ =>
    show ((stepR x []).map (ways [])).sum = sumR _ _ _
    rw [step_short (by decide), List.map_map]
    rfl
  | x :: z :: r, _, hz =>
    show ((stepR x []).map (ways (z :: r))).sum = sumR _ _ _
    rw [step_short (by decide), List.map_map]
    unfold sumR
    congr 1
    refine List.map_congr_left fun i _ => ?_
    show ((stepR z ([] ++ [x.1 + (i : Int)])).map (ways r)).sum = sumR _ _ _
    rw [step_short (by show 1 < 2; decide), List.map_map]
    unfold sumR
    congr 1
    refine List.map_congr_left fun j _ => ?_
    show ways r ([] ++ [x.1 + (i : Int)] ++ [z.1 + (j : Int)]) = _
    exact ways_two r [] _ _ fun z' m => hz z' (List.mem_cons_of_mem _ (List.mem_cons_of_mem _ m))
theorem step_len {z : Int × Int} {row : List Int} (h : z.2 ≤ z.1 + 4) : (stepR z row).length ≤ 5 := by
  unfold stepR
  rw [List.length_map]
  refine Nat.le_trans (List.length_filter_le _ _) ?_
  rw [List.length_range]
  omega
theorem flat_len {z : Int × Int} (h : z.2 ≤ z.1 + 4) : ∀ acc : List (List Int), (acc.flatMap (stepR z)).length ≤ 5 * acc.length
  | [] => by simp
  | x :: r => by
    have := flat_len h r
    have := step_len (z := z) (row := x) h
    rw [List.flatMap_cons, List.length_append, List.length_cons]
    omega
end

section
/-! the rows within bounds turned about are the rows within turned about -/
def Ext : List (Int × Int) → List Int → List Int → Prop
  | [], pre, row => row = pre
  | z :: r, pre, row => ∃ n, z.1 ≤ n ∧ n ≤ z.2 ∧ okR pre n = true ∧ Ext r (pre ++ [n]) row
theorem mem_step {z : Int × Int} {row x : List Int} : x ∈ stepR z row ↔ ∃ n, z.1 ≤ n ∧ n ≤ z.2 ∧ okR row n = true ∧ x = row ++ [n] := by
  unfold stepR
  rw [List.mem_map]
  constructor
  · rintro ⟨i, hi, rfl⟩
    obtain ⟨h1, h2⟩ := List.mem_filter.mp hi
    have := List.mem_range.mp h1
    exact ⟨_, by omega, by omega, h2, rfl⟩
  · rintro ⟨n, h1, h2, h3, rfl⟩
    have e : z.1 + (((n - z.1).toNat : Nat) : Int) = n := by omega
    exact ⟨(n - z.1).toNat, List.mem_filter.mpr ⟨List.mem_range.mpr (by omega), by rw [e]; exact h3⟩, by rw [e]⟩
theorem mem_rows : ∀ (bs : List (Int × Int)) (acc : List (List Int)) (x : List Int), x ∈ rowsR bs acc ↔ ∃ pre ∈ acc, Ext bs pre x
  | [], acc, x => by
    show x ∈ acc ↔ _
    exact ⟨fun h => ⟨x, h, rfl⟩, fun ⟨p, h, e⟩ => by rw [show x = p from e]; exact h⟩
  | z :: r, acc, x => by
    show x ∈ rowsR r (acc.flatMap (stepR z)) ↔ _
    rw [mem_rows r]
    constructor
    · rintro ⟨p, hp, e⟩
      obtain ⟨q, hq, hp⟩ := List.mem_flatMap.mp hp
      obtain ⟨n, h1, h2, h3, rfl⟩ := mem_step.mp hp
      exact ⟨q, hq, n, h1, h2, h3, e⟩
    · rintro ⟨q, hq, n, h1, h2, h3, e⟩
      exact ⟨_, List.mem_flatMap.mpr ⟨q, hq, mem_step.mpr ⟨n, h1, h2, h3, rfl⟩⟩, e⟩
theorem step_nodup {z : Int × Int} {row : List Int} : (stepR z row).Nodup := by
  unfold stepR
  refine List.pairwise_map.mpr ?_
  refine List.Pairwise.imp ?_ ((List.nodup_range (n := (z.2 + 1 - z.1).toNat)).filter _)
  intro a b h e
  have := List.append_cancel_left e
  simp at this
  omega
theorem rows_nodup : ∀ (bs : List (Int × Int)) (acc : List (List Int)), acc.Nodup → (rowsR bs acc).Nodup
  | [], acc, h => h
  | z :: r, acc, h => by
    refine rows_nodup r (acc.flatMap (stepR z)) ?_
    refine List.pairwise_flatMap.mpr ⟨fun a _ => step_nodup, List.Pairwise.imp ?_ h⟩
    intro a b hab x hx y hy e
    obtain ⟨n, _, _, _, rfl⟩ := mem_step.mp hx
    obtain ⟨m, _, _, _, e2⟩ := mem_step.mp hy
    subst e2
    refine hab ?_
    have e3 := congrArg List.dropLast e
    simpa using e3
/-- within bounds, place by place -/
def Bnd (bs : List (Int × Int)) (row : List Int) : Prop := row.length = bs.length ∧ ∀ (i : Nat) (z : Int × Int) (n : Int), bs[i]? = some z → row[i]? = some n → z.1 ≤ n ∧ n ≤ z.2
theorem Bnd.rev {bs : List (Int × Int)} {row : List Int} (h : Bnd bs row) : Bnd bs.reverse row.reverse := by
  refine ⟨by rw [List.length_reverse, List.length_reverse]; exact h.1, fun i z n h1 h2 => ?_⟩
  have hi : i < bs.length := by
    have := (List.getElem?_eq_some_iff.mp h1).1
    rwa [List.length_reverse] at this
  have hl := h.1
  rw [List.getElem?_reverse hi] at h1
  rw [List.getElem?_reverse (by omega)] at h2
  rw [hl] at h2
  exact h.2 _ z n h1 h2
/-- bending one way: three neighbours at each place -/
def Cvx (row : List Int) : Prop := ∀ (i : Nat) (a b c : Int), row[i]? = some a → row[i + 1]? = some b → row[i + 2]? = some c → b - a ≤ c - b
theorem Cvx.rev {row : List Int} (h : Cvx row) : Cvx row.reverse := fun i a b c h1 h2 h3 => by
  have hi : i + 2 < row.length := by
    have := (List.getElem?_eq_some_iff.mp h3).1
    rwa [List.length_reverse] at this
  rw [List.getElem?_reverse (by omega)] at h1 h2 h3
  have := h (row.length - 1 - (i + 2)) c b a h3 (by rw [show row.length - 1 - (i + 2) + 1 = row.length - 1 - (i + 1) by omega]; exact h2) (by rw [show row.length - 1 - (i + 2) + 2 = row.length - 1 - i by omega]; exact h1)
  omega
/-- what Ext adds -/
theorem ext_iff : ∀ (bs : List (Int × Int)) (pre row : List Int), Ext bs pre row ↔ ∃ suf, row = pre ++ suf ∧ Bnd bs suf ∧ ∀ (k : Nat) (n : Int), suf[k]? = some n → okR (pre ++ suf.take k) n = true
  | [], pre, row => by
    constructor
    · intro h
      exact ⟨[], by rw [List.append_nil]; exact h, ⟨rfl, fun i z n h1 h2 => by simp at h2⟩, fun k n h => by simp at h⟩
    · rintro ⟨suf, rfl, hb, _⟩
      have := List.length_eq_zero_iff.mp hb.1
      subst this
      exact List.append_nil _
  | z :: r, pre, row => by
    constructor
    · rintro ⟨n, h1, h2, h3, e⟩
      obtain ⟨suf, rfl, hb, hk⟩ := (ext_iff r _ row).mp e
      refine ⟨n :: suf, by simp, ⟨by show _ + 1 = _ + 1; rw [hb.1], fun i z' m g1 g2 => ?_⟩, fun k m g => ?_⟩
      · match i, g1, g2 with
        | 0, g1, g2 =>
          cases g1
          cases g2
          exact ⟨h1, h2⟩
        | i + 1, g1, g2 => exact hb.2 i z' m g1 g2
      · match k, g with
        | 0, g =>
          cases g
          simpa using h3
        | k + 1, g =>
          have := hk k m g
          simpa using this
    · rintro ⟨suf, rfl, hb, hk⟩
      match suf, hb, hk with
      | n :: suf, hb, hk =>
        have h0 := hb.2 0 z n rfl rfl
        refine ⟨n, h0.1, h0.2, by simpa using hk 0 n rfl, (ext_iff r _ _).mpr ⟨suf, by simp, ⟨by have := hb.1; simpa using this, fun i z' m g1 g2 => hb.2 (i + 1) z' m g1 g2⟩, fun k m g => ?_⟩⟩
        have := hk (k + 1) m g
        simpa using this
theorem cvx_iff {row : List Int} : (∀ (k : Nat) (n : Int), row[k]? = some n → okR (row.take k) n = true) ↔ Cvx row := by
  have key : ∀ (i : Nat) (a b : Int), row[i]? = some a → row[i + 1]? = some b → row.take (i + 2) = row.take i ++ [a, b] := fun i a b h1 h2 => by
    rw [List.take_add_one, List.take_add_one, h1, h2]
    simp
  constructor
  · intro h i a b c h1 h2 h3
    have := h (i + 2) c h3
    rw [key i a b h1 h2, okR_two] at this
    have := of_decide_eq_true this
    omega
  · intro h k n hn
    match k, hn with
    | 0, hn => exact okR_short (by simp) n
    | 1, hn => exact okR_short (by have := List.length_take_le 1 row; omega) n
    | i + 2, hn =>
      have hl := (List.getElem?_eq_some_iff.mp hn).1
      have e1 : row[i]? = some row[i] := List.getElem?_eq_getElem (by omega)
      have e2 : row[i + 1]? = some row[i + 1] := List.getElem?_eq_getElem (by omega)
      rw [key i _ _ e1 e2, okR_two]
      have := h i _ _ _ e1 e2 hn
      exact decide_eq_true (by omega)
theorem mem_all {bs : List (Int × Int)} {row : List Int} : row ∈ rowsR bs [[]] ↔ Bnd bs row ∧ Cvx row := by
  rw [mem_rows]
  constructor
  · rintro ⟨p, hp, e⟩
    cases List.mem_singleton.mp hp
    obtain ⟨suf, rfl, hb, hk⟩ := (ext_iff bs [] row).mp e
    exact ⟨hb, cvx_iff.mp hk⟩
  · rintro ⟨hb, hc⟩
    exact ⟨[], List.mem_singleton.mpr rfl, (ext_iff bs [] row).mpr ⟨row, rfl, hb, cvx_iff.mpr hc⟩⟩
theorem rows_rev (bs : List (Int × Int)) : (rowsR bs.reverse [[]]).length = (rowsR bs [[]]).length := by
  have h1 : (rowsR bs.reverse [[]]).Nodup := rows_nodup _ _ (by simp)
  have h2 : ((rowsR bs [[]]).map List.reverse).Nodup := by
    refine List.pairwise_map.mpr (List.Pairwise.imp (fun h e => h ?_) (rows_nodup bs [[]] (by simp)))
    simpa using congrArg List.reverse e
  have hp : (rowsR bs.reverse [[]]).Perm ((rowsR bs [[]]).map List.reverse) := by
    refine (List.perm_ext_iff_of_nodup h1 h2).mpr fun x => ?_
    rw [mem_all, List.mem_map]
    constructor
    · rintro ⟨hb, hc⟩
      refine ⟨x.reverse, mem_all.mpr ⟨?_, hc.rev⟩, List.reverse_reverse _⟩
      have := hb.rev
      rwa [List.reverse_reverse] at this
    · rintro ⟨r, hr, rfl⟩
      obtain ⟨hb, hc⟩ := mem_all.mp hr
      exact ⟨hb.rev, hc.rev⟩
  rw [hp.length_eq, List.length_map]
theorem Bo.rev {bs : List (Int × Int)} (h : Bo bs) : Bo bs.reverse := ⟨by rw [List.length_reverse]; exact h.l1, by rw [List.length_reverse]; exact h.l2, fun x m => h.b x (List.mem_reverse.mp m)⟩
theorem totC_rev {bs : List (Int × Int)} (h : Bo bs) : totC bs.reverse = totC bs := by
  rw [← rows_tot h.rev, ← rows_tot h, rows_rev]
end

section
variable {P : Program} {w : World} {K : PySem.W.Frag} {mg : Str → Option Value} {base : Heap} {k : Nat}
theorem nsD_app (a b : List (List Int)) : nsD (a ++ b) = nsD a ++ nsD b := by
  unfold nsD
  rw [List.map_append]
theorem nsD_at {nss : List (List Int)} {i : Nat} {d : Dt} (h : (nsD nss)[i]? = some d) : ∃ r, nss[i]? = some r ∧ d = .list (r.map .int) := by
  unfold nsD at h
  rw [List.getElem?_map] at h
  obtain ⟨r, h1, h2⟩ := Option.map_eq_some_iff.mp h
  exact ⟨r, h1, h2.symm⟩
theorem nsD_len (a : List (List Int)) : (nsD a).length = a.length := by
  unfold nsD
  rw [List.length_map]
theorem take_succ {α : Type} {l : List α} {i : Nat} {x : α} (h : l[i]? = some x) : l.take (i + 1) = l.take i ++ [x] := by
  rw [List.take_succ, h]
  rfl
theorem rowsR_snoc (bs : List (Int × Int)) (z : Int × Int) (acc : List (List Int)) : rowsR (bs ++ [z]) acc = (rowsR bs acc).flatMap (stepR z) := by
  unfold rowsR
  rw [List.foldl_append]
  rfl
theorem rows_ln : ∀ (bs : List (Int × Int)) (acc : List (List Int)) (m : Nat), (∀ r ∈ acc, r.length = m) → ∀ r ∈ rowsR bs acc, r.length = m + bs.length
  | [], acc, m, h => fun r hr => by simpa using h r hr
  | z :: bs, acc, m, h => fun r hr => by
    have := rows_ln bs (acc.flatMap (stepR z)) (m + 1) (fun r hr => by
      obtain ⟨x, hx, h2⟩ := List.mem_flatMap.mp hr
      unfold stepR at h2
      obtain ⟨i, _, rfl⟩ := List.mem_map.mp h2
      rw [List.length_append, h x hx]
      rfl) r hr
    rw [this, List.length_cons]
    omega
def okP (z : Int × Int) (row : List Int) (l : Nat) : List (List Int) := ((List.range l).filter fun i => okR row (z.1 + (i : Nat))).map fun i => row ++ [z.1 + (i : Nat)]
theorem okP_succ (z : Int × Int) (row : List Int) (l : Nat) : okP z row (l + 1) = okP z row l ++ if okR row (z.1 + (l : Nat)) = true then [row ++ [z.1 + (l : Nat)]] else [] := by
  unfold okP
  rw [List.range_succ, List.filter_append, List.map_append, List.filter_cons]
  congr 1
  by_cases h : okR row (z.1 + (l : Nat)) = true
  · rw [if_pos h, if_pos h]
    rfl
  · rw [if_neg h, if_neg h]
    rfl
theorem okP_len (z : Int × Int) (row : List Int) (l : Nat) : (okP z row l).length ≤ l := by
  unfold okP
  rw [List.length_map]
  refine Nat.le_trans (List.length_filter_le _ _) ?_
  rw [List.length_range]
  exact Nat.le_refl _
theorem atI_pen {α : Type} (xs : List α) (a h : α) : atI (xs ++ [a, h]) (-2) = some a := by
  have hl : (xs ++ [a, h]).length = xs.length + 2 := by simp
  have e : ixN (xs ++ [a, h]).length (-2) = some xs.length := by
    unfold ixN
    rw [hl, if_neg (by decide), if_pos (by omega)]
    congr 1
    omega
  unfold atI
  rw [e]
  show (xs ++ [a, h])[xs.length]? = some a
  simp
theorem atI_end {α : Type} (xs : List α) (a h : α) : atI (xs ++ [a, h]) (-1) = some h := by
  have := atI_last (xs ++ [a]) h
  rwa [show xs ++ [a] ++ [h] = xs ++ [a, h] by simp] at this
theorem two_last {row : List Int} (h : ¬ row.length < 2) : ∃ pre a b, row = pre ++ [a, b] := by
  obtain ⟨l, b, rfl⟩ : ∃ l b, row = l ++ [b] := ⟨_, _, (List.dropLast_concat_getLast (by intro e; rw [e] at h; exact h (by decide))).symm⟩
  rw [List.length_append] at h
  obtain ⟨pre, a, rfl⟩ : ∃ p a, l = p ++ [a] := ⟨_, _, (List.dropLast_concat_getLast (by intro e; rw [e] at h; exact h (by show 1 < 2; decide))).symm⟩
  exact ⟨pre, a, b, by simp⟩
end

section
/-! counting from the front: what a table weighs -/
/-- keys (last, step), values (many, bends) -/
abbrev FwT := List ((Int × Int) × (Int × Int))
def getFw : FwT → Int × Int → Option (Int × Int)
  | [], _ => none
  | (q, v) :: r, x => if q = x then some v else getFw r x
def putFw : FwT → Int × Int → Int × Int → FwT
  | [], x, u => [(x, u)]
  | (q, v) :: r, x, u => if q = x then (q, u) :: r else (q, v) :: putFw r x u
def wt (f : Int × Int → Int) (es : FwT) : Int := (es.map fun e => e.2.1 * f e.1).sum
theorem wt_put (f : Int × Int → Int) (x : Int × Int) (m b d : Int) : ∀ es : FwT, wt f (putFw es x (((getFw es x).getD (0, d)).1 + m, b)) = wt f es + m * f x
  | [] => by
    show (((0 : Int) + m) * f x + 0) = 0 + m * f x
    rw [Int.zero_add, Int.add_zero, Int.zero_add]
  | (q, v) :: r => by
    by_cases h : q = x
    · subst h
      have e : getFw ((q, v) :: r) q = some v := if_pos rfl
      have e2 : ∀ u, putFw ((q, v) :: r) q u = (q, u) :: r := fun u => if_pos rfl
      rw [e, e2]
      show (v.1 + m) * f q + wt f r = v.1 * f q + wt f r + m * f q
      rw [Int.add_mul]
      omega
    · have e : getFw ((q, v) :: r) x = getFw r x := if_neg h
      have e2 : ∀ u, putFw ((q, v) :: r) x u = (q, v) :: putFw r x u := fun u => if_neg h
      rw [e, e2]
      have ih := wt_put f x m b d r
      show v.1 * f q + wt f (putFw r x _) = v.1 * f q + wt f r + m * f x
      rw [ih]
      omega
/-- what a table tells of the bounds behind -/
def fwF (bs : List (Int × Int)) : Int × Int → Int := fun x => cntS bs (x.1 - x.2) x.1
theorem wt_nil (es : FwT) : wt (fwF []) es = (es.map fun e => e.2.1).sum := by
  unfold wt
  congr 1
  refine List.map_congr_left fun e _ => ?_
  show e.2.1 * 1 = _
  rw [Int.mul_one]
/-- one key's turn, number by number -/
theorem fw_turn (z : Int × Int) (r : List (Int × Int)) (last step m : Int) : m * fwF (z :: r) (last, step) = m * sumR (max z.1 (last + step)) (z.2 + 1 - max z.1 (last + step)).toNat (fun n => fwF r (n, n - last)) := by
  have e : (2 * last - (last - step)) = last + step := by omega
  show m * sumR (max z.1 (2 * last - (last - step))) (z.2 + 1 - max z.1 (2 * last - (last - step))).toNat (cntS r last) = _
  rw [e]
  congr 1
  refine congrArg _ (funext fun n => ?_)
  show _ = cntS r (n - (n - last)) n
  rw [show n - (n - last) = last by omega]
end

section
variable {P : Program} {w : World} {K : PySem.W.Frag} {mg : Str → Option Value} {base : Heap} {k : Nat}
/-! a table of ours, as a dict -/
theorem HsA.mn {F F' : List (V × Dt)} (s : ∀ e, e ∈ F → e ∈ F') : ∀ {vs : List V} {ds : List Dt}, HsA F vs ds → HsA F' vs ds
  | _, _, .nil => .nil
  | _, _, .cons h r => .cons (h.mono s) (HsA.mn s r)
def putR {κ : Type} [DecidableEq κ] : List (κ × V) → κ → V → List (κ × V)
  | [], k, v => [(k, v)]
  | (q, u) :: r, k, v => if q = k then (q, v) :: r else (q, u) :: putR r k v
theorem putK_rec {κ : Type} [DecidableEq κ] (k : κ) (v : V) : ∀ {kvs : List (κ × V)}, (kvs.map Prod.fst).Nodup → putK kvs k v = putR kvs k v
  | [], _ => rfl
  | (q, u) :: r, h => by
    rw [List.map_cons] at h
    have h := List.nodup_cons.mp h
    have ih := putK_rec k v h.2
    by_cases c : q = k
    · subst c
      have hm : r.map (fun kv => if kv.1 = q then (kv.1, v) else kv) = r := by
        refine (List.map_congr_left fun p hp => if_neg fun e => h.1 ?_).trans (List.map_id _)
        exact List.mem_map.mpr ⟨p, hp, e⟩
      unfold putK putR
      rw [if_pos (by rw [List.any_cons, decide_eq_true rfl]; rfl), if_pos rfl, List.map_cons, hm]
      show (if q = q then (q, v) else (q, u)) :: r = _
      rw [if_pos rfl]
    · unfold putR
      rw [if_neg c, ← ih]
      unfold putK
      rw [List.any_cons, decide_eq_false c, Bool.false_or]
      by_cases c2 : (r.any fun kv => decide (kv.1 = k)) = true
      · rw [if_pos c2, if_pos c2, List.map_cons]
        show (if q = k then (q, v) else (q, u)) :: _ = _
        rw [if_neg c]
      · rw [if_neg c2, if_neg c2]
        rfl
def fwD (es : FwT) : List (List Int × Dt) := es.map fun e => ([e.1.1, e.1.2], .tuple [.int e.2.1, .int e.2.2])
structure FwR (F : List (V × Dt)) (kvs : List (List L2.Key × V)) (es : FwT) : Prop where
  hk : kvs.map Prod.fst = (fwD es).map fun e => ky e.1
  hv : HsA F (kvs.map Prod.snd) ((fwD es).map Prod.snd)
  nd : (es.map Prod.fst).Nodup
theorem FwR.nil {F : List (V × Dt)} : FwR F [] [] := ⟨rfl, .nil, List.nodup_nil⟩
theorem FwR.mono {F F' : List (V × Dt)} {kvs : List (List L2.Key × V)} {es : FwT} (h : FwR F kvs es) (s : ∀ e, e ∈ F → e ∈ F') : FwR F' kvs es := ⟨h.hk, HsA.mn s h.hv, h.nd⟩
theorem FwR.len {F : List (V × Dt)} {kvs : List (List L2.Key × V)} {es : FwT} (h : FwR F kvs es) : kvs.length = es.length := by
  have := congrArg List.length h.hk
  unfold fwD at this
  rwa [List.length_map, List.length_map, List.length_map] at this
theorem ky2_inj {a b c d : Int} (h : ky [a, b] = ky [c, d]) : a = c ∧ b = d := by
  have := ky_inj h
  simpa using this
theorem FwR.knd {F : List (V × Dt)} {kvs : List (List L2.Key × V)} {es : FwT} (h : FwR F kvs es) : (kvs.map Prod.fst).Nodup := by
  rw [h.hk]
  have aux : ∀ {es : FwT}, (es.map Prod.fst).Nodup → ((fwD es).map fun e => ky e.1).Nodup := by
    intro es
    induction es with
    | nil => intro _; exact List.nodup_nil
    | cons e r ih =>
      intro h
      rw [List.map_cons] at h
      have h := List.nodup_cons.mp h
      show (ky [e.1.1, e.1.2] :: (fwD r).map fun e => ky e.1).Nodup
      refine List.nodup_cons.mpr ⟨fun m => h.1 ?_, ih h.2⟩
      obtain ⟨z, hz, ez⟩ := List.mem_map.mp m
      unfold fwD at hz
      obtain ⟨u, hu, rfl⟩ := List.mem_map.mp hz
      obtain ⟨h1, h2⟩ := ky2_inj ez
      exact List.mem_map.mpr ⟨u, hu, Prod.ext h1 h2⟩
  exact aux h.nd
theorem putFw_mem {x y : Int × Int} {u : Int × Int} : ∀ {es : FwT}, y ∈ (putFw es x u).map Prod.fst → y = x ∨ y ∈ es.map Prod.fst
  | [], h => by
    have : y ∈ [x] := h
    exact .inl (List.mem_singleton.mp this)
  | (q, v) :: r, h => by
    by_cases c : q = x
    · rw [show putFw ((q, v) :: r) x u = (q, u) :: r from if_pos c] at h
      exact .inr h
    · rw [show putFw ((q, v) :: r) x u = (q, v) :: putFw r x u from if_neg c, List.map_cons] at h
      rcases List.mem_cons.mp h with h | h
      · exact .inr (by rw [h]; exact List.mem_cons_self)
      · rcases putFw_mem h with h | h
        · exact .inl h
        · exact .inr (List.mem_cons_of_mem _ h)
theorem putFw_nd {x : Int × Int} {u : Int × Int} : ∀ {es : FwT}, (es.map Prod.fst).Nodup → ((putFw es x u).map Prod.fst).Nodup
  | [], _ => List.nodup_cons.mpr ⟨by simp, List.nodup_nil⟩
  | (q, v) :: r, h => by
    by_cases c : q = x
    · rw [show putFw ((q, v) :: r) x u = (q, u) :: r from if_pos c]
      exact h
    · rw [show putFw ((q, v) :: r) x u = (q, v) :: putFw r x u from if_neg c, List.map_cons]
      rw [List.map_cons] at h
      have h := List.nodup_cons.mp h
      refine List.nodup_cons.mpr ⟨fun m => ?_, putFw_nd h.2⟩
      rcases putFw_mem m with e | m
      · exact c e
      · exact h.1 m
theorem FwR.put {F : List (V × Dt)} {x u : Int × Int} {v : V} (hv : Hs F v (.tuple [.int u.1, .int u.2])) {kvs : List (List L2.Key × V)} {es : FwT} (h : FwR F kvs es) : FwR F (putK kvs (ky [x.1, x.2]) v) (putFw es x u) := by
  rw [putK_rec _ _ h.knd]
  refine ⟨?_, ?_, putFw_nd h.nd⟩
  · have := h.hk
    clear h
    induction es generalizing kvs with
    | nil =>
      match kvs, this with
      | [], _ => rfl
    | cons e r ih =>
      match kvs, this with
      | (q, z) :: kr, this =>
        rw [List.map_cons] at this
        injection this with h1 h2
        have h1 : q = ky [e.1.1, e.1.2] := h1
        by_cases c : e.1 = x
        · subst c
          rw [show putFw (e :: r) e.1 u = (e.1, u) :: r from if_pos rfl, show putR ((q, z) :: kr) (ky [e.1.1, e.1.2]) v = (q, v) :: kr from if_pos h1]
          show q :: kr.map Prod.fst = ky [e.1.1, e.1.2] :: _
          rw [h1, h2]
        · rw [show putFw (e :: r) x u = e :: putFw r x u from if_neg c, show putR ((q, z) :: kr) (ky [x.1, x.2]) v = (q, z) :: putR kr (ky [x.1, x.2]) v from if_neg (fun e2 => c (by
            rw [h1] at e2
            obtain ⟨a1, a2⟩ := ky2_inj e2
            exact Prod.ext a1 a2))]
          show q :: _ = ky [e.1.1, e.1.2] :: _
          rw [h1, ih h2]
          rfl
  · have h1 := h.hk
    have h2 := h.hv
    clear h
    induction es generalizing kvs with
    | nil =>
      match kvs, h1 with
      | [], _ => exact .cons hv .nil
    | cons e r ih =>
      match kvs, h1, h2 with
      | (q, z) :: kr, this, h2 =>
        rw [List.map_cons] at this
        injection this with h1 h3
        have h1 : q = ky [e.1.1, e.1.2] := h1
        cases h2 with
        | cons h4 h5 =>
        by_cases c : e.1 = x
        · subst c
          rw [show putFw (e :: r) e.1 u = (e.1, u) :: r from if_pos rfl, show putR ((q, z) :: kr) (ky [e.1.1, e.1.2]) v = (q, v) :: kr from if_pos h1]
          exact .cons hv h5
        · rw [show putFw (e :: r) x u = e :: putFw r x u from if_neg c, show putR ((q, z) :: kr) (ky [x.1, x.2]) v = (q, z) :: putR kr (ky [x.1, x.2]) v from if_neg (fun e2 => c (by
            rw [h1] at e2
            obtain ⟨a1, a2⟩ := ky2_inj e2
            exact Prod.ext a1 a2))]
          exact .cons h4 (ih h3 h5)
theorem FwR.get {F : List (V × Dt)} {x : Int × Int} {d : Int} {z : V} (hz : Hs F z (.tuple [.int 0, .int d])) {kvs : List (List L2.Key × V)} {es : FwT} (h : FwR F kvs es) :
    Hs F ((valV kvs (ky [x.1, x.2])).getD z) (.tuple [.int ((getFw es x).getD (0, d)).1, .int ((getFw es x).getD (0, d)).2]) := by
  have h1 := h.hk
  have h2 := h.hv
  clear h
  induction es generalizing kvs with
  | nil =>
    match kvs, h1 with
    | [], _ => exact hz
  | cons e r ih =>
    match kvs, h1, h2 with
    | (q, u) :: kr, this, h2 =>
      rw [List.map_cons] at this
      injection this with h1 h3
      have h1 : q = ky [e.1.1, e.1.2] := h1
      cases h2 with
      | cons h4 h5 =>
      by_cases c : e.1 = x
      · subst c
        rw [show getFw (e :: r) e.1 = some e.2 from if_pos rfl, valV_pos h1]
        exact h4
      · rw [show getFw (e :: r) x = getFw r x from if_neg c, valV_neg (fun e2 => c (by
          rw [show q = ky [e.1.1, e.1.2] from h1] at e2
          obtain ⟨a1, a2⟩ := ky2_inj e2
          exact Prod.ext a1 a2))]
        exact ih h3 h5
theorem fw_lk {x : Int × Int} {u : Int × Int} : ∀ {es : FwT}, (es.map Prod.fst).Nodup → (x, u) ∈ es → lkD (fwD es) [x.1, x.2] = some (.tuple [.int u.1, .int u.2])
  | e :: r, hn, hm => by
    rw [List.map_cons] at hn
    have hn := List.nodup_cons.mp hn
    show List.lookup [x.1, x.2] (([e.1.1, e.1.2], _) :: fwD r) = _
    rw [List.lookup_cons]
    rcases List.mem_cons.mp hm with h | h
    · subst h
      rw [beq_self_eq_true]
    · have : ¬ [x.1, x.2] = [e.1.1, e.1.2] := fun e2 => hn.1 (by
        simp only [List.cons.injEq, and_true] at e2
        rw [← show x = e.1 from Prod.ext e2.1 e2.2]
        exact List.mem_map.mpr ⟨_, h, rfl⟩)
      rw [show ([x.1, x.2] == [e.1.1, e.1.2]) = false from by simpa using this]
      exact fw_lk hn.2 h
/-- few keys: numbers in one bound, steps from another -/
theorem fw_few {α : Type} [DecidableEq α] : ∀ {l m : List α}, l.Nodup → (∀ x ∈ l, x ∈ m) → l.length ≤ m.length
  | [], _, _, _ => Nat.zero_le _
  | x :: r, m, h, s => by
    have h := List.nodup_cons.mp h
    have hx := s x List.mem_cons_self
    have := fw_few (l := r) (m := m.erase x) h.2 fun y hy => by
      have hne : y ≠ x := fun e => h.1 (e ▸ hy)
      exact (List.mem_erase_of_ne hne).mpr (s y (List.mem_cons_of_mem _ hy))
    have e := List.length_erase_of_mem hx
    have : 0 < m.length := List.length_pos_of_mem hx
    show r.length + 1 ≤ _
    omega
/-- the keys' numbers: a number within z, the one ahead within x -/
def FwK (x z : Int × Int) (es : FwT) : Prop := ∀ q ∈ es.map Prod.fst, z.1 ≤ q.1 ∧ q.1 ≤ z.2 ∧ x.1 ≤ q.1 - q.2 ∧ q.1 - q.2 ≤ x.2
theorem FwK.few {x z : Int × Int} {es : FwT} (hn : (es.map Prod.fst).Nodup) (h : FwK x z es) (hx : x.2 ≤ x.1 + 12) (hz : z.2 ≤ z.1 + 12) : es.length ≤ 169 := by
  have := fw_few (m := (List.range 13).flatMap fun i => (List.range 13).map fun j => (z.1 + (i : Nat), z.1 + (i : Nat) - (x.1 + (j : Nat)))) hn fun q hq => by
    obtain ⟨h1, h2, h3, h4⟩ := h q hq
    refine List.mem_flatMap.mpr ⟨(q.1 - z.1).toNat, List.mem_range.mpr (by omega), List.mem_map.mpr ⟨(q.1 - q.2 - x.1).toNat, List.mem_range.mpr (by omega), ?_⟩⟩
    refine Prod.ext ?_ ?_
    · show z.1 + ((q.1 - z.1).toNat : Int) = q.1
      omega
    · show z.1 + ((q.1 - z.1).toNat : Int) - (x.1 + ((q.1 - q.2 - x.1).toNat : Int)) = q.2
      omega
  rw [List.length_map] at this
  refine Nat.le_trans this ?_
  rw [List.length_flatMap, show ((List.range 13).map fun i => ((List.range 13).map fun j => (z.1 + (i : Nat), z.1 + (i : Nat) - (x.1 + (j : Nat)))).length) = (List.range 13).map fun _ => 13 from List.map_congr_left fun i _ => by rw [List.length_map, List.length_range]]
  decide
theorem FwK.put {x z : Int × Int} {es : FwT} {q u : Int × Int} (h : FwK x z es) (hq : z.1 ≤ q.1 ∧ q.1 ≤ z.2 ∧ x.1 ≤ q.1 - q.2 ∧ q.1 - q.2 ≤ x.2) : FwK x z (putFw es q u) := fun y hy => by
  rcases putFw_mem hy with e | m
  · rw [e]
    exact hq
  · exact h y m
end

section
abbrev bI (b : Bool) : Int := if b then 1 else 0
/-! the table that is counted from the front -/
def fwPut (last step m b : Int) (acc : FwT) (n : Int) : FwT :=
  putFw acc (n, n - last) (((getFw acc (n, n - last)).getD (0, b + bI (!decide (n = last + step)))).1 + m, min ((getFw acc (n, n - last)).getD (0, b + bI (!decide (n = last + step)))).2 (b + bI (!decide (n = last + step))))
/-- n numbers from lo on -/
def rgI (lo : Int) (n : Nat) : List Int := (List.range n).map fun i => lo + (i : Nat)
theorem rgI_succ (lo : Int) (n : Nat) : rgI lo (n + 1) = rgI lo n ++ [lo + (n : Nat)] := by
  unfold rgI
  rw [List.range_succ, List.map_append]
  rfl
def fwRow (z : Int × Int) (acc : FwT) (e : (Int × Int) × (Int × Int)) : FwT :=
  (rgI (max z.1 (e.1.1 + e.1.2)) (z.2 + 1 - max z.1 (e.1.1 + e.1.2)).toNat).foldl (fwPut e.1.1 e.1.2 e.2.1 e.2.2) acc
def fwStep (es : FwT) (z : Int × Int) : FwT := es.foldl (fwRow z) []
def fwIni (z : Int × Int) (acc : FwT) (lo : Int) : FwT := (rgI z.1 (z.2 + 1 - z.1).toNat).foldl (fun acc n => putFw acc (n, n - lo) (1, 0)) acc
def fwd : List (Int × Int) → FwT
  | x :: z :: r => r.foldl fwStep ((rgI x.1 (x.2 + 1 - x.1).toNat).foldl (fwIni z) [])
  | _ => []
end

section
/-! the least of rows: fewest bends first, then the numbers in their order -/
abbrev BR := Int × List Int
def qD (x : BR) : Dt := .tuple [.int x.1, .list (x.2.map .int)]
def ltL : List Int → List Int → Bool
  | [], [] => false
  | [], _ :: _ => true
  | _ :: _, [] => false
  | a :: r, b :: t => decide (a < b) || (!decide (b < a) && ltL r t)
def ltB (x y : BR) : Bool := decide (x.1 < y.1) || (!decide (y.1 < x.1) && ltL x.2 y.2)
theorem lex_ints : ∀ ns ms : List Int, PyProof.Rows.lexLt PyProof.Rows.itemOrd (PySem.W.keyToksAll (ns.map .int) ++ [Sum.inl 0]) (PySem.W.keyToksAll (ms.map .int) ++ [Sum.inl 0]) = ltL ns ms
  | [], [] => by
    simp only [List.map_nil, PySem.W.keyToksAll, List.cons_append, List.nil_append, PyProof.Rows.lexLt]
    show (decide ((0 : Int) < 0) || (!decide ((0 : Int) < 0) && (decide ((0 : Int) < 0) || (!decide ((0 : Int) < 0) && false)))) = false
    decide
  | [], b :: t => by
    simp only [List.map_nil, List.map_cons, PySem.W.keyToksAll, List.cons_append, List.nil_append, PyProof.Rows.lexLt]
    show (decide ((0 : Int) < 1) || _) = true
    rfl
  | a :: r, [] => by
    simp only [List.map_nil, List.map_cons, PySem.W.keyToksAll, List.cons_append, List.nil_append, PyProof.Rows.lexLt]
    show (decide ((1 : Int) < 0) || (!decide ((0 : Int) < 1) && _)) = false
    rfl
  | a :: r, b :: t => by
    have ih := lex_ints r t
    simp only [List.map_cons, PySem.W.keyToksAll, PySem.W.keyToks, List.cons_append, List.nil_append, PyProof.Rows.lexLt]
    rw [ih]
    show (decide ((1 : Int) < 1) || (!decide ((1 : Int) < 1) && (decide (a < b) || (!decide (b < a) && ltL r t)))) = (decide (a < b) || (!decide (b < a) && ltL r t))
    simp
theorem dataLt_q (x y : BR) : PySem.W.dataLt (qD x) (qD y) = ltB x y := by
  unfold PySem.W.dataLt qD
  have := lex_ints x.2 y.2
  simp only [PySem.W.keyToks, PySem.W.keyToksAll, List.cons_append, List.nil_append, PyProof.Rows.lexLt]
  rw [this]
  show (decide ((1 : Int) < 1) || (!decide ((1 : Int) < 1) && (decide (x.1 < y.1) || (!decide (y.1 < x.1) && (decide ((1 : Int) < 1) || (!decide ((1 : Int) < 1) && ltL x.2 y.2)))))) = (decide (x.1 < y.1) || (!decide (y.1 < x.1) && ltL x.2 y.2))
  simp
theorem ltL_irr : ∀ x : List Int, ltL x x = false
  | [] => rfl
  | a :: r => by
    unfold ltL
    rw [ltL_irr r]
    simp
theorem ltL_tr : ∀ {x y z : List Int}, ltL y x = false → ltL z y = false → ltL z x = false
  | [], _, [], _, _ => rfl
  | [], [], _ :: _, _, h => rfl
  | [], _ :: _, _ :: _, _, _ => rfl
  | a :: r, [], z, h, _ => by cases h
  | a :: r, b :: t, [], _, h => by cases h
  | a :: r, b :: t, c :: s, h, k => by
    unfold ltL at h k ⊢
    simp only [Bool.or_eq_false_iff, Bool.and_eq_false_iff, Bool.not_eq_false', decide_eq_false_iff_not, decide_eq_true_eq] at h k ⊢
    refine ⟨by omega, ?_⟩
    by_cases c1 : a < c
    · exact .inl c1
    · refine .inr (ltL_tr (x := r) (y := t) ?_ ?_)
      · rcases h.2 with h | h
        · omega
        · exact h
      · rcases k.2 with k | k
        · omega
        · exact k
theorem ltL_as : ∀ {x y : List Int}, ltL x y = true → ltL y x = false
  | [], _ :: _, _ => rfl
  | [], [], h => by cases h
  | _ :: _, [], h => by cases h
  | a :: r, b :: t, h => by
    unfold ltL at h ⊢
    simp only [Bool.or_eq_true, Bool.and_eq_true, Bool.not_eq_true', decide_eq_true_eq, decide_eq_false_iff_not, Bool.or_eq_false_iff, Bool.and_eq_false_iff, Bool.not_eq_false'] at h ⊢
    rcases h with h | ⟨h1, h2⟩
    · exact ⟨by omega, .inl h⟩
    · exact ⟨by omega, .inr (ltL_as h2)⟩
theorem ltL_eq : ∀ {x y : List Int}, ltL x y = false → ltL y x = false → x = y
  | [], [], _, _ => rfl
  | [], _ :: _, h, _ => by cases h
  | _ :: _, [], _, h => by cases h
  | a :: r, b :: t, h, k => by
    unfold ltL at h k
    simp only [Bool.or_eq_false_iff, Bool.and_eq_false_iff, Bool.not_eq_false', decide_eq_false_iff_not, decide_eq_true_eq] at h k
    have e : a = b := by omega
    subst e
    have h1 : ltL r t = false := by
      rcases h.2 with q | q
      · omega
      · exact q
    have h2 : ltL t r = false := by
      rcases k.2 with q | q
      · omega
      · exact q
    rw [ltL_eq h1 h2]
theorem ltL_app : ∀ {x y : List Int} (s t : List Int), x.length = y.length → ltL x y = true → ltL (x ++ s) (y ++ t) = true
  | [], [], _, _, _, h => by cases h
  | [], _ :: _, _, _, h, _ => by cases h
  | _ :: _, [], _, _, h, _ => by cases h
  | a :: r, b :: u, s, t, hl, h => by
    unfold ltL at h
    rw [List.cons_append, List.cons_append]
    unfold ltL
    simp only [Bool.or_eq_true, Bool.and_eq_true, Bool.not_eq_true', decide_eq_true_eq, decide_eq_false_iff_not] at h ⊢
    rcases h with h | ⟨h1, h2⟩
    · exact .inl h
    · exact .inr ⟨h1, ltL_app s t (by simpa using hl) h2⟩
theorem ltL_snoc : ∀ (x : List Int) {n m : Int}, n < m → ltL (x ++ [n]) (x ++ [m]) = true
  | [], n, m, h => by
    show (decide (n < m) || _) = true
    rw [decide_eq_true h]
    rfl
  | a :: r, n, m, h => by
    rw [List.cons_append, List.cons_append]
    unfold ltL
    rw [ltL_snoc r h]
    simp
theorem ltB_irr (x : BR) : ltB x x = false := by
  unfold ltB
  rw [ltL_irr]
  simp
theorem ltB_tr {x y z : BR} (h : ltB y x = false) (k : ltB z y = false) : ltB z x = false := by
  unfold ltB at h k ⊢
  simp only [Bool.or_eq_false_iff, Bool.and_eq_false_iff, Bool.not_eq_false', decide_eq_false_iff_not, decide_eq_true_eq] at h k ⊢
  refine ⟨by omega, ?_⟩
  by_cases c : x.1 < z.1
  · exact .inl c
  · refine .inr (ltL_tr (y := y.2) ?_ ?_)
    · rcases h.2 with q | q
      · omega
      · exact q
    · rcases k.2 with q | q
      · omega
      · exact q
theorem ltB_eq {x y : BR} (h : ltB x y = false) (k : ltB y x = false) : x = y := by
  unfold ltB at h k
  simp only [Bool.or_eq_false_iff, Bool.and_eq_false_iff, Bool.not_eq_false', decide_eq_false_iff_not, decide_eq_true_eq] at h k
  have e : x.1 = y.1 := by omega
  refine Prod.ext e (ltL_eq ?_ ?_)
  · rcases h.2 with q | q
    · omega
    · exact q
  · rcases k.2 with q | q
    · omega
    · exact q
theorem ltB_cons {b b' c n : Int} {s t : List Int} : ltB (b + c, n :: s) (b' + c, n :: t) = ltB (b, s) (b', t) := by
  show (decide (b + c < b' + c) || (!decide (b' + c < b + c) && (decide (n < n) || (!decide (n < n) && ltL s t)))) = (decide (b < b') || (!decide (b' < b) && ltL s t))
  rw [show decide (b + c < b' + c) = decide (b < b') from decide_eq_decide.mpr (by omega), show decide (b' + c < b + c) = decide (b' < b) from decide_eq_decide.mpr (by omega)]
  simp
def minB (x : BR) (l : List BR) : BR := l.foldl (fun a y => if ltB y a then y else a) x
theorem minD_q : ∀ (l : List BR) (x : BR), PySem.W.minD (qD x) (l.map qD) = qD (minB x l)
  | [], _ => rfl
  | y :: l, x => by
    have e : PySem.W.minD (qD x) ((y :: l).map qD) = PySem.W.minD (if PySem.W.dataLt (qD y) (qD x) then qD y else qD x) (l.map qD) := rfl
    have e2 : minB x (y :: l) = minB (if ltB y x then y else x) l := rfl
    rw [e, e2, dataLt_q]
    cases ltB y x with
    | true => exact minD_q l y
    | false => exact minD_q l x
theorem minB_in : ∀ (l : List BR) (x : BR), minB x l ∈ x :: l ∧ ∀ y ∈ x :: l, ltB y (minB x l) = false
  | [], x => ⟨List.mem_cons_self, fun y hy => by
    cases List.mem_singleton.mp hy
    exact ltB_irr _⟩
  | z :: l, x => by
    have e2 : minB x (z :: l) = minB (if ltB z x then z else x) l := rfl
    rw [e2]
    cases c : ltB z x with
    | true =>
      obtain ⟨h1, h2⟩ := minB_in l z
      refine ⟨List.mem_cons_of_mem _ h1, fun y hy => ?_⟩
      rcases List.mem_cons.mp hy with rfl | hy
      · have hz : ltB y z = false := by
          cases c2 : ltB y z with
          | false => rfl
          | true =>
            unfold ltB at c c2
            simp only [Bool.or_eq_true, Bool.and_eq_true, Bool.not_eq_true', decide_eq_true_eq, decide_eq_false_iff_not] at c c2
            rcases c with c | ⟨c1, c3⟩
            · rcases c2 with c2 | ⟨c2, _⟩ <;> omega
            · rcases c2 with c2 | ⟨c2, c4⟩
              · omega
              · rw [ltL_as c3] at c4
                cases c4
        exact ltB_tr (h2 z List.mem_cons_self) hz
      · exact h2 y hy
    | false =>
      obtain ⟨h1, h2⟩ := minB_in l x
      refine ⟨?_, fun y hy => ?_⟩
      · rcases List.mem_cons.mp h1 with h | h
        · show minB x l ∈ _
          rw [h]
          exact List.mem_cons_self
        · exact List.mem_cons_of_mem _ (List.mem_cons_of_mem _ h)
      · rcases List.mem_cons.mp hy with rfl | hy
        · exact h2 y List.mem_cons_self
        · rcases List.mem_cons.mp hy with rfl | hy
          · exact ltB_tr (h2 x List.mem_cons_self) c
          · exact h2 y (List.mem_cons_of_mem _ hy)
def minO : List BR → Option BR
  | [] => none
  | x :: l => some (minB x l)
theorem minO_some {l : List BR} {m : BR} (h : minO l = some m) : m ∈ l ∧ ∀ y ∈ l, ltB y m = false := by
  cases l with
  | nil => cases h
  | cons x l =>
    cases h
    exact minB_in l x
theorem minO_none {l : List BR} (h : minO l = none) : l = [] := by
  cases l with
  | nil => rfl
  | cons x l => cases h
/-- the best way on: by the bounds behind, from the number ahead and the one here -/
def bstS : List (Int × Int) → Int → Int → Option BR
  | [], _, _ => some (0, [])
  | z :: r, a, h => minO ((rgI (max z.1 (2 * h - a)) (z.2 + 1 - max z.1 (2 * h - a)).toNat).filterMap fun n => (bstS r h n).map fun x => (x.1 + bI (!decide (n = 2 * h - a)), n :: x.2))
def SufOk : List (Int × Int) → Int → Int → List Int → Prop
  | [], _, _, ns => ns = []
  | z :: r, a, h, ns => ∃ n t, ns = n :: t ∧ z.1 ≤ n ∧ n ≤ z.2 ∧ 2 * h - a ≤ n ∧ SufOk r h n t
def bnS : Int → Int → List Int → Int
  | _, _, [] => 0
  | a, h, n :: t => bnS h n t + bI (!decide (n = 2 * h - a))
/-- the least of those of a kind -/
def IsB (P : List Int → Prop) (f : List Int → Int) : Option BR → Prop
  | none => ∀ ns, ¬ P ns
  | some x => P x.2 ∧ x.1 = f x.2 ∧ ∀ ns, P ns → ltB (f ns, ns) x = false
theorem IsB.uniq {P : List Int → Prop} {f : List Int → Int} {o o' : Option BR} (h : IsB P f o) (k : IsB P f o') : o = o' := by
  cases o with
  | none =>
    cases o' with
    | none => rfl
    | some x => exact absurd k.1 (h _)
  | some x =>
    cases o' with
    | none => exact absurd h.1 (k _)
    | some y =>
      obtain ⟨h1, h2, h3⟩ := h
      obtain ⟨k1, k2, k3⟩ := k
      have e1 := h3 _ k1
      have e2 := k3 _ h1
      rw [← k2] at e1
      rw [← h2] at e2
      rw [ltB_eq (x := x) (y := y) e2 e1]
theorem rgI_mem {lo n : Int} {m : Nat} : n ∈ rgI lo m ↔ lo ≤ n ∧ n < lo + m := by
  unfold rgI
  rw [List.mem_map]
  constructor
  · rintro ⟨i, hi, rfl⟩
    have := List.mem_range.mp hi
    omega
  · intro h
    exact ⟨(n - lo).toNat, List.mem_range.mpr (by omega), by omega⟩
theorem bstS_is : ∀ (r : List (Int × Int)) (a h : Int), IsB (SufOk r a h) (bnS a h) (bstS r a h)
  | [], a, h => ⟨rfl, rfl, fun ns hn => by
    cases (show ns = [] from hn)
    exact ltB_irr _⟩
  | z :: r, a, h => by
    obtain ⟨L, hL⟩ : ∃ L, ((rgI (max z.1 (2 * h - a)) (z.2 + 1 - max z.1 (2 * h - a)).toNat).filterMap fun n => (bstS r h n).map fun x => (x.1 + bI (!decide (n = 2 * h - a)), n :: x.2)) = L := ⟨_, rfl⟩
    have hm : ∀ n y, z.1 ≤ n → n ≤ z.2 → 2 * h - a ≤ n → bstS r h n = some y → (y.1 + bI (!decide (n = 2 * h - a)), n :: y.2) ∈ L := fun n y h1 h2 h3 hy => by
      rw [← hL, List.mem_filterMap]
      exact ⟨n, rgI_mem.mpr (by omega), by rw [hy]; rfl⟩
    have hm2 : ∀ x ∈ L, ∃ n y, z.1 ≤ n ∧ n ≤ z.2 ∧ 2 * h - a ≤ n ∧ bstS r h n = some y ∧ x = (y.1 + bI (!decide (n = 2 * h - a)), n :: y.2) := fun x hx => by
      rw [← hL, List.mem_filterMap] at hx
      obtain ⟨n, hn, e⟩ := hx
      have := rgI_mem.mp hn
      obtain ⟨y, hy, rfl⟩ := Option.map_eq_some_iff.mp e
      exact ⟨n, y, by omega, by omega, by omega, hy, rfl⟩
    show IsB _ _ (minO _)
    rw [hL]
    cases e : minO L with
    | none =>
      have e := minO_none e
      rintro ns ⟨n, t, rfl, h1, h2, h3, h4⟩
      have ih := bstS_is r h n
      cases e2 : bstS r h n with
      | none =>
        rw [e2] at ih
        exact ih t h4
      | some y =>
        have := hm n y h1 h2 h3 e2
        rw [e] at this
        cases this
    | some x =>
      obtain ⟨hx, hmin⟩ := minO_some e
      obtain ⟨n, y, h1, h2, h3, h4, rfl⟩ := hm2 x hx
      have ih := bstS_is r h n
      rw [h4] at ih
      obtain ⟨i1, i2, i3⟩ := ih
      refine ⟨⟨n, y.2, rfl, h1, h2, h3, i1⟩, ?_, ?_⟩
      · show y.1 + _ = bnS h n y.2 + _
        rw [i2]
      · rintro ns ⟨n', t', rfl, k1, k2, k3, k4⟩
        have ih' := bstS_is r h n'
        cases e2 : bstS r h n' with
        | none =>
          rw [e2] at ih'
          exact absurd k4 (ih' t')
        | some y' =>
          rw [e2] at ih'
          obtain ⟨_, _, j3⟩ := ih'
          refine ltB_tr (hmin _ (hm n' y' k1 k2 k3 e2)) ?_
          show ltB (bnS h n' t' + _, n' :: t') _ = false
          rw [ltB_cons]
          exact j3 t' k4
def bendN : List Int → Int
  | a :: h :: t => bnS a h t
  | _ => 0
def fewS : List (Int × Int) → Option BR
  | [] => none
  | [x] => some (0, [x.1])
  | x :: z :: r => minO ((rgI x.1 (x.2 + 1 - x.1).toNat).flatMap fun a => (rgI z.1 (z.2 + 1 - z.1).toNat).filterMap fun h => (bstS r a h).map fun y => (y.1, a :: h :: y.2))
theorem ext_suf : ∀ (r : List (Int × Int)) (pre : List Int) (a h : Int) (x : List Int), Ext r (pre ++ [a, h]) x ↔ ∃ t, x = pre ++ [a, h] ++ t ∧ SufOk r a h t
  | [], pre, a, h, x => by
    constructor
    · intro e
      have e : x = pre ++ [a, h] := e
      exact ⟨[], by rw [e, List.append_nil], rfl⟩
    · rintro ⟨t, rfl, e⟩
      cases (show t = [] from e)
      exact List.append_nil _
  | z :: r, pre, a, h, x => by
    have key : ∀ n, Ext r (pre ++ [a, h] ++ [n]) x ↔ ∃ t, x = pre ++ [a, h] ++ (n :: t) ∧ SufOk r h n t := fun n => by
      have := ext_suf r (pre ++ [a]) h n x
      rw [show pre ++ [a] ++ [h, n] = pre ++ [a, h] ++ [n] by simp] at this
      rw [this]
      constructor <;> rintro ⟨t, rfl, ht⟩ <;> exact ⟨t, by simp, ht⟩
    constructor
    · rintro ⟨n, h1, h2, h3, h4⟩
      obtain ⟨t, rfl, ht⟩ := (key n).mp h4
      rw [okR_two] at h3
      exact ⟨n :: t, rfl, n, t, rfl, h1, h2, of_decide_eq_true h3, ht⟩
    · rintro ⟨s, rfl, n, t, rfl, h1, h2, h3, h4⟩
      refine ⟨n, h1, h2, ?_, (key n).mpr ⟨t, rfl, h4⟩⟩
      rw [okR_two]
      exact decide_eq_true h3
theorem rows_two {x z : Int × Int} {r : List (Int × Int)} {ns : List Int} : ns ∈ rowsR (x :: z :: r) [[]] ↔ ∃ a h t, ns = a :: h :: t ∧ x.1 ≤ a ∧ a ≤ x.2 ∧ z.1 ≤ h ∧ h ≤ z.2 ∧ SufOk r a h t := by
  rw [mem_rows]
  constructor
  · rintro ⟨pre, hp, a, h1, h2, _, h, h3, h4, _, h5⟩
    cases List.mem_singleton.mp hp
    obtain ⟨t, rfl, ht⟩ := (ext_suf r [] a h ns).mp h5
    exact ⟨a, h, t, rfl, h1, h2, h3, h4, ht⟩
  · rintro ⟨a, h, t, rfl, h1, h2, h3, h4, ht⟩
    exact ⟨[], List.mem_singleton.mpr rfl, a, h1, h2, okR_short (by simp) _, h, h3, h4, okR_short (by simp) _, (ext_suf r [] a h _).mpr ⟨t, rfl, ht⟩⟩
theorem fewS_is {bs : List (Int × Int)} (hB : Bo bs) : IsB (fun ns => ns ∈ rowsR bs [[]]) bendN (fewS bs) := by
  match bs, hB with
  | [], hB => exact absurd hB.l1 (by decide)
  | [x], hB =>
    have hx := (hB.b x List.mem_cons_self).1
    have hm : ∀ ns, ns ∈ rowsR [x] [[]] ↔ ∃ a, ns = [a] ∧ x.1 ≤ a ∧ a ≤ x.2 := fun ns => by
      rw [mem_rows]
      constructor
      · rintro ⟨pre, hp, a, h1, h2, _, h5⟩
        cases List.mem_singleton.mp hp
        exact ⟨a, h5, h1, h2⟩
      · rintro ⟨a, rfl, h1, h2⟩
        exact ⟨[], List.mem_singleton.mpr rfl, a, h1, h2, okR_short (by decide) _, rfl⟩
    refine ⟨(hm _).mpr ⟨x.1, rfl, Int.le_refl _, hx⟩, rfl, fun ns hn => ?_⟩
    obtain ⟨a, rfl, h1, h2⟩ := (hm ns).mp hn
    show (decide ((0 : Int) < 0) || (!decide ((0 : Int) < 0) && (decide (a < x.1) || (!decide (x.1 < a) && false)))) = false
    rw [show decide (a < x.1) = false from decide_eq_false (by omega)]
    simp
  | x :: z :: r, hB =>
    obtain ⟨L, hL⟩ : ∃ L, ((rgI x.1 (x.2 + 1 - x.1).toNat).flatMap fun a => (rgI z.1 (z.2 + 1 - z.1).toNat).filterMap fun h => (bstS r a h).map fun y => (y.1, a :: h :: y.2)) = L := ⟨_, rfl⟩
    have hm : ∀ u, u ∈ L ↔ ∃ a h y, x.1 ≤ a ∧ a ≤ x.2 ∧ z.1 ≤ h ∧ h ≤ z.2 ∧ bstS r a h = some y ∧ u = (y.1, a :: h :: y.2) := fun u => by
      rw [← hL, List.mem_flatMap]
      constructor
      · rintro ⟨a, ha, hu⟩
        obtain ⟨h, hh, e⟩ := List.mem_filterMap.mp hu
        obtain ⟨y, hy, rfl⟩ := Option.map_eq_some_iff.mp e
        have := rgI_mem.mp ha
        have := rgI_mem.mp hh
        exact ⟨a, h, y, by omega, by omega, by omega, by omega, hy, rfl⟩
      · rintro ⟨a, h, y, h1, h2, h3, h4, hy, rfl⟩
        exact ⟨a, rgI_mem.mpr (by omega), List.mem_filterMap.mpr ⟨h, rgI_mem.mpr (by omega), by rw [hy]; rfl⟩⟩
    show IsB _ _ (minO _)
    rw [hL]
    cases e : minO L with
    | none =>
      have e := minO_none e
      intro ns hn
      obtain ⟨a, h, t, rfl, h1, h2, h3, h4, ht⟩ := rows_two.mp hn
      have ih := bstS_is r a h
      cases e2 : bstS r a h with
      | none =>
        rw [e2] at ih
        exact ih t ht
      | some y =>
        have := (hm _).mpr ⟨a, h, y, h1, h2, h3, h4, e2, rfl⟩
        rw [e] at this
        cases this
    | some u =>
      obtain ⟨hu, hmin⟩ := minO_some e
      obtain ⟨a, h, y, h1, h2, h3, h4, hy, rfl⟩ := (hm u).mp hu
      have ih := bstS_is r a h
      rw [hy] at ih
      obtain ⟨i1, i2, i3⟩ := ih
      refine ⟨rows_two.mpr ⟨a, h, y.2, rfl, h1, h2, h3, h4, i1⟩, i2, fun ns hn => ?_⟩
      obtain ⟨a', h', t', rfl, k1, k2, k3, k4, kt⟩ := rows_two.mp hn
      have ih' := bstS_is r a' h'
      cases e2 : bstS r a' h' with
      | none =>
        rw [e2] at ih'
        exact absurd kt (ih' t')
      | some y' =>
        rw [e2] at ih'
        refine ltB_tr (hmin _ ((hm _).mpr ⟨a', h', y', k1, k2, k3, k4, e2, rfl⟩)) ?_
        have := ih'.2.2 t' kt
        show ltB (bnS a' h' t', a' :: h' :: t') (y'.1, a' :: h' :: y'.2) = false
        have e1 : ltB (bnS a' h' t' + 0 + 0, a' :: h' :: t') (y'.1 + 0 + 0, a' :: h' :: y'.2) = ltB (bnS a' h' t', t') (y'.1, y'.2) := by rw [ltB_cons, ltB_cons]
        simp only [Int.add_zero] at e1
        rw [e1]
        exact this
/-! the rows rise; the first of the fewest -/
theorem rows_rise : ∀ (bs : List (Int × Int)) (acc : List (List Int)) (m : Nat), (∀ r ∈ acc, r.length = m) → acc.Pairwise (fun x y => ltL x y = true) → (rowsR bs acc).Pairwise (fun x y => ltL x y = true)
  | [], _, _, _, h => h
  | z :: bs, acc, m, hl, h => by
    have hs : ∀ row : List Int, ∀ x ∈ stepR z row, x.length = row.length + 1 := fun row x hx => by
      unfold stepR at hx
      obtain ⟨i, _, rfl⟩ := List.mem_map.mp hx
      rw [List.length_append]
      rfl
    refine rows_rise bs (acc.flatMap (stepR z)) (m + 1) (fun r hr => ?_) ?_
    · obtain ⟨row, hrow, hr⟩ := List.mem_flatMap.mp hr
      rw [hs row r hr, hl row hrow]
    · rw [List.pairwise_flatMap]
      refine ⟨fun row _ => ?_, List.Pairwise.imp_of_mem (fun {r1 r2} m1 m2 hlt x hx y hy => ?_) h⟩
      · unfold stepR
        rw [List.pairwise_map]
        refine List.Pairwise.imp (fun {i j} hij => ltL_snoc row (by omega)) (List.Pairwise.filter _ List.pairwise_lt_range)
      · unfold stepR at hx hy
        obtain ⟨i, _, rfl⟩ := List.mem_map.mp hx
        obtain ⟨j, _, rfl⟩ := List.mem_map.mp hy
        exact ltL_app _ _ (by rw [hl r1 m1, hl r2 m2]) hlt
def dueS (rows : List (List Int)) : Option BR := rows.foldl (fun o row => match o with
  | none => some (bendN row, row)
  | some x => if bendN row < x.1 then some (bendN row, row) else some x) none
theorem dueS_snoc (rows : List (List Int)) (row : List Int) : dueS (rows ++ [row]) = match dueS rows with
  | none => some (bendN row, row)
  | some x => if bendN row < x.1 then some (bendN row, row) else some x := by
  unfold dueS
  rw [List.foldl_append]
  rfl
theorem dueS_is : ∀ {rows : List (List Int)}, rows.Pairwise (fun x y => ltL x y = true) → IsB (fun ns => ns ∈ rows) bendN (dueS rows) := by
  intro rows
  induction h : rows.length generalizing rows with
  | zero =>
    intro _
    cases List.length_eq_zero_iff.mp h
    intro ns hn
    cases hn
  | succ n ih =>
    intro hp
    obtain ⟨init, row, rfl⟩ : ∃ init row, rows = init ++ [row] := ⟨rows.dropLast, rows.getLast (by intro e; rw [e] at h; cases h), (List.dropLast_concat_getLast _).symm⟩
    rw [List.length_append] at h
    have hp' := List.pairwise_append.mp hp
    have ih := ih (rows := init) (by simpa using h) hp'.1
    rw [dueS_snoc]
    cases e : dueS init with
    | none =>
      rw [e] at ih
      refine ⟨List.mem_append_right _ List.mem_cons_self, rfl, fun ns hn => ?_⟩
      rcases List.mem_append.mp hn with hn | hn
      · exact absurd hn (ih ns)
      · cases List.mem_singleton.mp hn
        exact ltB_irr _
    | some x =>
      rw [e] at ih
      obtain ⟨i1, i2, i3⟩ := ih
      show IsB _ _ (if bendN row < x.1 then some (bendN row, row) else some x)
      by_cases c : bendN row < x.1
      · rw [if_pos c]
        refine ⟨List.mem_append_right _ List.mem_cons_self, rfl, fun ns hn => ?_⟩
        rcases List.mem_append.mp hn with hn | hn
        · refine ltB_tr (y := x) ?_ (i3 ns hn)
          show (decide (x.1 < bendN row) || (!decide (bendN row < x.1) && _)) = false
          rw [decide_eq_true c, decide_eq_false (by omega)]
          rfl
        · cases List.mem_singleton.mp hn
          exact ltB_irr _
      · rw [if_neg c]
        refine ⟨List.mem_append_left _ i1, i2, fun ns hn => ?_⟩
        rcases List.mem_append.mp hn with hn | hn
        · exact i3 ns hn
        · cases List.mem_singleton.mp hn
          show (decide (bendN row < x.1) || (!decide (x.1 < bendN row) && ltL row x.2)) = false
          rw [decide_eq_false c, ltL_as (hp'.2.2 x.2 i1 row List.mem_cons_self)]
          simp
theorem due_few {bs : List (Int × Int)} (hB : Bo bs) : dueS (rowsR bs [[]]) = fewS bs := by
  refine IsB.uniq (dueS_is (rows_rise bs [[]] 0 (fun r hr => ?_) ?_)) (fewS_is hB)
  · cases List.mem_singleton.mp hr
    rfl
  · exact List.pairwise_singleton _ _
end

section
variable {P : Program} {w : World} {K : PySem.W.Frag} {mg : Str → Option Value} {base : Heap} {k : Nat} {N : List Str} {sc : Scope} {vb lb : List Bool} {gs : List Str} {X : Cx} {y : Sy} {σ : L2.St} {Ψ : Value → Sy → Prop} {b : Expr} {pos p2 : Pos}
/-- (..) in d, as a test -/
theorem t_inT {Φ : Bool → Sy → Prop} {es : List Expr} {kk : Nat} (C : Cn P w K mg base k N sc vb lb gs X) [m : NoMark b] (h : Lift K (wA X es σ) y (fun vs y1 => vs.length ≤ 1000000 ∧ ∀ s, Lift K (wE X b σ) ⟨y1.F, (s, .raw (.tup vs)) :: y1.O⟩ (InK2 (asB Φ) s vs) Ψ) Ψ) : Lift K (wT X (.Compare (.Tuple es kk p2) [.In] [b] pos) σ) y Φ Ψ := by
  refine t_cmp (m.h _) (l_tupR (h.mono (fun vs z ⟨hz, f⟩ => ⟨hz, fun s => (f s).mono (fun q z2 ⟨ns, a, kvs, O2, e1, e2, hO, hd, g⟩ => ?_) fun _ _ q => q⟩) fun _ _ q => q))
  obtain ⟨F2, O3⟩ := z2
  cases hO
  subst e1
  subst e2
  refine o_of (op_dict C.un1) (Lift.raw fun S H ok E Q qq => ?_)
  obtain ⟨_, o, ho, e2⟩ := ok.own a _ (List.mem_cons_of_mem _ hd)
  cases e2
  obtain ⟨_, o2, ho2, e3⟩ := ok.own s _ List.mem_cons_self
  cases e3
  refine ⟨a, _, rfl, DGet.t ho (by rw [ky_kV]; exact ho2), ?_⟩
  exact qq _ ⟨F2, O2⟩ S H ⟨ok.sub, ok.fac, fun q u m => ok.own q u (List.mem_cons_of_mem _ m), (List.nodup_cons.mp ok.nd).2⟩ ⟨fun _ _ h _ => h, fun _ o h => ⟨o, h⟩, Sub.refl S, fun _ o h => .inl ⟨o, h⟩, fun q m => .inl (List.mem_cons_of_mem _ m)⟩ g
instance (priority := 20000) {Φ : Bool → Sy → Prop} {es : List Expr} {kk : Nat} [C : Cn P w K mg base k N sc vb lb gs X] [m : NoMark b] : Step (Lift K (wT X (.Compare (.Tuple es kk p2) [.In] [b] pos) σ) y Φ Ψ) (Lift K (wA X es σ) y (fun vs y1 => vs.length ≤ 1000000 ∧ ∀ s, Lift K (wE X b σ) ⟨y1.F, (s, .raw (.tup vs)) :: y1.O⟩ (InK2 (asB Φ) s vs) Ψ) Ψ) := ⟨t_inT C⟩
end

section
variable {P : Program} {w : World} {K : PySem.W.Frag} {mg : Str → Option Value} {base : Heap} {k : Nat}
/-- a table of the best ways on -/
def TbO (F : List (V × Dt)) (bs : List (Int × Int)) (kc : List (List L2.Key × V)) (dn : Int → Int → Int → Prop) : Prop := ∀ at' a h, Inr bs at' a h → dn at' a h → match bstS (bs.drop (at' + 1).toNat) a h with
  | none => valV kc (ky [at', a, h]) = none
  | some x => ∃ r, valV kc (ky [at', a, h]) = some r ∧ Hs F r (qD x)
theorem TbO.mono {F F' : List (V × Dt)} {bs : List (Int × Int)} {kc : List (List L2.Key × V)} {dn dn' : Int → Int → Int → Prop} (h : TbO F bs kc dn) (s : ∀ e, e ∈ F → e ∈ F') (hd : ∀ i j l, Inr bs i j l → dn' i j l → dn i j l) : TbO F' bs kc dn' := fun i j l hI hD => by
  have := h i j l hI (hd i j l hI hD)
  cases e : bstS (bs.drop (i + 1).toNat) j l with
  | none =>
    rw [e] at this
    exact this
  | some x =>
    rw [e] at this
    obtain ⟨r, h1, h2⟩ := this
    exact ⟨r, h1, h2.mono s⟩
/-- the ways on -/
def gosS (z : Int × Int) (r : List (Int × Int)) (a h : Int) : List BR := (rgI (max z.1 (2 * h - a)) (z.2 + 1 - max z.1 (2 * h - a)).toNat).filterMap fun n => (bstS r h n).map fun x => (x.1 + bI (!decide (n = 2 * h - a)), n :: x.2)
theorem bstS_cons (z : Int × Int) (r : List (Int × Int)) (a h : Int) : bstS (z :: r) a h = minO (gosS z r a h) := rfl
theorem suf_len : ∀ (r : List (Int × Int)) (a h : Int) (t : List Int), SufOk r a h t → t.length = r.length
  | [], _, _, _, e => by
    cases (show _ = [] from e)
    rfl
  | z :: r, _, h, _, ⟨n, t, e, _, _, _, k⟩ => by
    subst e
    rw [List.length_cons, List.length_cons, suf_len r h n t k]
/-- goings_on(bounds, best, at, ahead, here) -/
def R_goings : RY := fun vs y Φ _ => ∃ (v : V) (pb : Addr) (at' a h : Int) (bs : List (Int × Int)) (kc : List (List L2.Key × V)) (z : Int × Int) (r : List (Int × Int)), vs = [v, .ref pb, .int at', .int a, .int h] ∧ Hs y.F v (.list (prD bs)) ∧ Bo bs ∧ (pb, OD.raw (.dT kc)) ∈ y.O ∧ Inr bs at' a h ∧ bs.drop (at' + 1).toNat = z :: r ∧ TbO y.F bs kc (fun i _ _ => i = at' + 1) ∧
  ∀ q F', (∀ e, e ∈ y.F → e ∈ F') → Φ (.ref q) ⟨F', (q, .lst ((gosS z r a h).map qD)) :: y.O⟩
theorem ok_goings [Bn mg "range"] [Bn mg "max"] [Bn mg "int"] {f : Addr} {fd : FuncData} (F : Fun K "goings_on" "goings_on" s_goings_on f fd) : FnOk P w K mg base (L2.CX P w) (k + 1) f fd ["bounds", "best", "at", "ahead", "here"] (SpY K 5 R_goings) := by
  refine fn_w F sc_goings_on rfl ck_goings_on fun X y vs Φ Ψ C hl h => ?_
  obtain ⟨v, pb, t, a, h, bs, kc, z, r, rfl, hv, hB, hm, hI, hdr, hT, q⟩ := h
  obtain ⟨F0, O0⟩ := y
  have := hv.fa
  have hD : Dz pb O0 kc := ⟨hm⟩
  have hl2 := hB.l2
  obtain ⟨x0, w0, t1, hx0, hw0, i1, i2, i3, i4⟩ := hI
  have hlen : (t + 1).toNat < bs.length := by
    have := congrArg List.length hdr
    rw [List.length_drop, List.length_cons] at this
    omega
  have hz : bs[(t + 1).toNat]? = some z := by
    have := List.getElem?_drop (xs := bs) (i := (t + 1).toNat) (j := 0)
    rw [hdr] at this
    simpa using this.symm
  have hr : bs.drop (t + 1 + 1).toNat = r := by
    have : bs.drop ((t + 1).toNat + 1) = (bs.drop (t + 1).toNat).drop 1 := by rw [List.drop_drop]
    rw [hdr] at this
    rw [show (t + 1 + 1).toNat = (t + 1).toNat + 1 by omega]
    exact this
  have bz := hB.b z (List.mem_of_getElem? hz)
  have bx := hB.b x0 (List.mem_of_getElem? hx0)
  have bw := hB.b w0 (List.mem_of_getElem? hw0)
  show Lift K (wSs X (_ :: _) [some v, some (.ref pb), some (.int t), some (.int a), some (.int h), none, none, none, none]) _ _ _
  repeat (fail_if_success (refine l_lstOK ?_)
          refine go ?_)
  refine l_lstOK ?_
  walk_at "yo"
  intro ps
  walk_at "yf"
  refine s_for C (fun x => NoFold.h _ x) ?_
  walk_at "ys"
  refine ix_lst Rc.h (at_prD (by omega) hz) C.hK fun w1 => ?_
  walk_at "ys"
  refine o_mulL (.inl (by decide)) ?_
  walk_at "ys"
  refine ix_lst Rc.h (at_prD (by omega) hz) C.hK fun w2 => ?_
  walk_at "ys"
  refine ⟨by omega, fun J sr => ?_⟩
  obtain ⟨lo, hlo2⟩ : ∃ lo, max z.1 (2 * h - a) = lo := ⟨_, rfl⟩
  have hlo1 := Int.le_max_left z.1 (2 * h - a)
  have hgos : gosS z r a h = (rgI lo (z.2 + 1 - lo).toNat).filterMap fun n => (bstS r h n).map fun x => (x.1 + bI (!decide (n = 2 * h - a)), n :: x.2) := by
    unfold gosS
    rw [hlo2]
  rw [hlo2] at sr hlo1
  obtain ⟨L, hL⟩ : ∃ L : Nat → List BR, ∀ m, ((rgI lo m).filterMap fun n => (bstS r h n).map fun x => (x.1 + bI (!decide (n = 2 * h - a)), n :: x.2)) = L m := ⟨_, fun _ => rfl⟩
  have hLs : ∀ m, L (m + 1) = L m ++ (match bstS r h (lo + (m : Nat)) with | none => [] | some x => [(x.1 + bI (!decide (lo + (m : Nat) = 2 * h - a)), (lo + (m : Nat)) :: x.2)]) := fun m => by
    rw [← hL, ← hL, rgI_succ, List.filterMap_append]
    congr 1
    cases e : bstS r h (lo + (m : Nat)) with
    | none => simp [e]
    | some x => simp [e]
  have hLl : ∀ m, (L m).length ≤ m := fun m => by
    rw [← hL]
    refine Nat.le_trans (List.length_filterMap_le _ _) ?_
    unfold rgI
    rw [List.length_map, List.length_range]
    exact Nat.le_refl _
  refine ⟨_, sr, fun m σ y' => ∃ (u6 u7 u8 : Option V) (F' : List (V × Dt)), σ = [some v, some (.ref pb), some (.int t), some (.int a), some (.int h), some (.ref ps), u6, u7, u8] ∧ y' = ⟨F', (ps, .lst ((L m).map qD)) :: O0⟩ ∧ (∀ e, e ∈ F0 → e ∈ F'), ?_, ?_, ?_⟩
  · refine ⟨_, _, _, _, rfl, by rw [← hL]; rfl, fun e he => SubF.h e he⟩
  · rintro m d σ' y' xm hd ⟨u6, u7, u8, F', rfl, rfl, hF⟩
    obtain ⟨hm', rfl⟩ := rngD_at hd
    obtain ⟨n, hn⟩ : ∃ n, lo + (m : Nat) = n := ⟨_, rfl⟩
    rw [hn]
    refine Lift.isInt (n := n) (.fact List.mem_cons_self) fun e => ?_
    subst e
    have hTn := hT (t + 1) h n ⟨w0, z, by omega, by rw [show t + 1 - 1 = t by omega]; exact hw0, hz, by omega, by omega, by omega, by omega⟩ rfl
    rw [hr] at hTn
    have hLm := hLs m
    rw [hn] at hLm
    walk_at "ys"
    refine ⟨Nat.le_of_ble_eq_true rfl, fun pt => ?_⟩
    walk_at "ys"
    refine ⟨[t + 1, h, n], pb, kc, _, rfl, rfl, rfl, List.mem_cons_of_mem _ hm, ?_⟩
    cases e : bstS r h n with
    | none =>
      rw [e] at hTn hLm
      rw [hTn]
      walk_at "ys"
      refine ⟨fun e => (by cases e), fun _ => ?_⟩
      walk_at "ys"
      rw [List.append_nil] at hLm
      rw [← hLm]
      exact ⟨_, _, _, _, rfl, rfl, fun e he => SubF.h e (hF e he)⟩
    | some xx =>
      rw [e] at hTn hLm
      obtain ⟨rr, hr1, hr2⟩ := hTn
      rw [hr1]
      walk_at "ys"
      refine ⟨fun _ => ?_, fun e => (by cases e)⟩
      walk_at "ys"
      refine ⟨rr, hr1, ?_⟩
      refine g_twoD C (.hs (hr2.mono fun e he => SubF.h e (hF e he))) fun x1 x2 => ?_
      refine Lift.isInt (n := xx.1) (.fact List.mem_cons_self) fun e => ?_
      subst e
      have hxl : xx.2.length ≤ 100 := by
        have := suf_len r h n xx.2 (by have := bstS_is r h n; rw [e] at this; exact this.1)
        have := congrArg List.length hdr
        rw [List.length_drop, List.length_cons] at this
        omega
      walk_at "ys"
      refine o_mulL (.inl (by decide)) ?_
      walk_at "ys"
      refine ⟨by rw [List.length_map]; show 1 + xx.2.length ≤ _; omega, fun pl => ?_⟩
      walk_at "ys"
      refine m_append (d := qD (xx.1 + bI (!decide (n = 2 * h - a)), n :: xx.2)) (.fact List.mem_cons_self) (by rw [List.length_map]; have := hLl m; omega) ?_
      have eL : (L m).map qD ++ [qD (xx.1 + bI (!decide (n = 2 * h - a)), n :: xx.2)] = (L (m + 1)).map qD := by
        rw [hLm, List.map_append]
        rfl
      rw [eL]
      walk_at "ys"
      exact ⟨_, _, _, _, rfl, rfl, fun e he => SubF.h e (hF e he)⟩
  · rintro σ' y' ⟨u6, u7, u8, F', rfl, rfl, hF⟩
    rw [rngD_len, ← hL, ← hgos]
    walk_at "ys"
    exact rw_rt (q ps F' hF)
end

section
variable {P : Program} {w : World} {K : PySem.W.Frag} {mg : Str → Option Value} {base : Heap} {k : Nat}
/-! sizes of ways on -/
structure Qs (x : BR) : Prop where
  b : x.1.natAbs < 2 ^ 64
  l : x.2.length ≤ 12
  m : ∀ n ∈ x.2, n.natAbs < 2 ^ 64
theorem Qs.td {x : BR} (h : Qs x) : Td 30000 2 (qD x) := by
  have e64 : (2 : Nat) ^ 64 ≤ 2 ^ 1920 := Nat.pow_le_pow_right (by decide) (by decide)
  have h1 : Ta 12 (1923 * 12) 0 (x.2.map PyData.int) := Ta.ints (fun i hi => Nat.lt_of_lt_of_le (h.m i hi) e64) h.l
  have h2 : Ta 1 1923 1 ([x.1].map PyData.int) := Ta.ints (l := 1) (fun j hj => by
    cases List.mem_singleton.mp hj
    exact Nat.lt_of_lt_of_le h.b e64) (Nat.le_refl _)
  have h3 : Td 1923 1 (PyData.int x.1) := h2.mem List.mem_cons_self
  exact (Ta.cons h3 (Ta.cons h1.list Ta.nil)).tuple.mono (by decide) (by decide)
theorem q_small : ∀ l : List BR, (∀ x ∈ l, Qs x) → niceA (l.map qD) = true ∧ (∀ x ∈ l.map qD, sz x ≤ sizeLine) ∧ PyData.depthAll (l.map qD) ≤ 100
  | [], _ => ⟨rfl, fun x h => (nomatch h), by decide⟩
  | p :: l, h => by
    obtain ⟨h1, h2, h3⟩ := q_small l fun q hq => h q (List.mem_cons_of_mem _ hq)
    have hp := (h p List.mem_cons_self).td
    refine ⟨?_, fun x hx => ?_, ?_⟩
    · rw [List.map_cons]
      simp only [niceA, hp.h, h1, Bool.and_self]
    · rcases List.mem_cons.mp hx with rfl | hx
      · refine Nat.le_trans hp.z ?_
        rw [sizeLine_eq]
        decide
      · exact h2 x hx
    · have e : PyData.depthAll ((p :: l).map qD) = max (qD p).depth (PyData.depthAll (l.map qD)) := rfl
      have := hp.p
      omega
theorem alike_q (l : List BR) : PySem.W.AlikeAll (l.map qD) := by
  refine ⟨fun x hx z hz => ?_, fun x hx => ?_⟩
  · obtain ⟨p, _, rfl⟩ := List.mem_map.mp hx
    obtain ⟨q, _, rfl⟩ := List.mem_map.mp hz
    have aux : ∀ ns ms : List Int, PySem.W.alikeAll (ns.map PyData.int) (ms.map PyData.int) = true := fun ns => by
      induction ns with
      | nil => intro ms; simp [PySem.W.alikeAll]
      | cons n r ih =>
        intro ms
        cases ms with
        | nil => simp [PySem.W.alikeAll]
        | cons m t =>
          simp only [List.map_cons, PySem.W.alikeAll, PySem.W.alike, Bool.true_and]
          exact ih t
    unfold qD
    simp only [PySem.W.alike, PySem.W.alikeAll, Bool.true_and, Bool.and_true]
    exact aux _ _
  · obtain ⟨p, _, rfl⟩ := List.mem_map.mp hx
    exact fun e => nomatch e
theorem suf_bd : ∀ (r : List (Int × Int)) (a h : Int) (t : List Int), (∀ z ∈ r, z.2 ≤ z.1 + 12 ∧ z.1.natAbs < 2 ^ 60) → SufOk r a h t → ∀ m ∈ t, m.natAbs < 2 ^ 64
  | [], _, _, _, _, e => by
    cases (show _ = [] from e)
    exact fun m hm => nomatch hm
  | z :: r, _, h, _, hz, ⟨n, t, e, k1, k2, _, k⟩ => by
    subst e
    intro m hm
    have h0 := hz z List.mem_cons_self
    rcases List.mem_cons.mp hm with rfl | hm
    · omega
    · exact suf_bd r h n t (fun z m => hz z (List.mem_cons_of_mem _ m)) k m hm
theorem bnS_bd : ∀ (t : List Int) (a h : Int), 0 ≤ bnS a h t ∧ bnS a h t ≤ t.length
  | [], _, _ => ⟨Int.le_refl _, Int.le_refl _⟩
  | n :: t, a, h => by
    have := bnS_bd t h n
    rw [List.length_cons]
    show 0 ≤ bnS h n t + bI (!decide (n = 2 * h - a)) ∧ bnS h n t + bI (!decide (n = 2 * h - a)) ≤ _
    unfold bI
    split <;> omega
theorem gos_qs {z : Int × Int} {r : List (Int × Int)} {a h : Int} (hz : ∀ u ∈ z :: r, u.2 ≤ u.1 + 12 ∧ u.1.natAbs < 2 ^ 60) (hl : r.length ≤ 11) : ∀ x ∈ gosS z r a h, Qs x := by
  intro x hx
  unfold gosS at hx
  obtain ⟨n, hn, e⟩ := List.mem_filterMap.mp hx
  obtain ⟨y, hy, rfl⟩ := Option.map_eq_some_iff.mp e
  have hn := rgI_mem.mp hn
  have is := bstS_is r h n
  rw [hy] at is
  obtain ⟨i1, i2, _⟩ := is
  have hlen := suf_len r h n y.2 i1
  have hbd := bnS_bd y.2 h n
  have h0 := hz z List.mem_cons_self
  refine ⟨?_, ?_, fun m hm => ?_⟩
  · show (y.1 + bI (!decide (n = 2 * h - a))).natAbs < _
    rw [i2]
    unfold bI
    split <;> omega
  · show y.2.length + 1 ≤ 12
    omega
  · rcases List.mem_cons.mp hm with rfl | hm
    · omega
    · exact suf_bd r h n y.2 (fun z m => hz z (List.mem_cons_of_mem _ m)) i1 m hm
theorem gos_len {z : Int × Int} {r : List (Int × Int)} {a h : Int} (hz : z.2 ≤ z.1 + 12) : (gosS z r a h).length ≤ 13 := by
  unfold gosS
  refine Nat.le_trans (List.length_filterMap_le _ _) ?_
  unfold rgI
  rw [List.length_map, List.length_range]
  have := Int.le_max_left z.1 (2 * h - a)
  omega
theorem TbO.put {F F' : List (V × Dt)} {bs : List (Int × Int)} {kc : List (List L2.Key × V)} {dn dn' : Int → Int → Int → Prop} {a0 a1 a2 : Int} {r : V} {x : BR} (h : TbO F bs kc dn) (s : ∀ e, e ∈ F → e ∈ F') (hx : bstS (bs.drop (a0 + 1).toNat) a1 a2 = some x) (hr : Hs F' r (qD x)) (hd : ∀ i j l, dn' i j l → dn i j l ∨ (i = a0 ∧ j = a1 ∧ l = a2)) : TbO F' bs (putK kc (ky [a0, a1, a2]) r) dn' := fun i j l hI hD => by
  rw [valV_put]
  by_cases e : ky [i, j, l] = ky [a0, a1, a2]
  · have := ky_inj e
    simp only [List.cons.injEq, and_true] at this
    obtain ⟨rfl, rfl, rfl⟩ := this
    rw [if_pos e, hx]
    exact ⟨r, rfl, hr⟩
  · rw [if_neg e]
    rcases hd i j l hD with hd | ⟨rfl, rfl, rfl⟩
    · exact h.mono s (fun _ _ _ _ h => h) i j l hI hd
    · exact absurd rfl e
/-- best_from(bounds) -/
def R_best : RY := fun vs y Φ _ => ∃ (v : V) (bs : List (Int × Int)), vs = [v] ∧ Hs y.F v (.list (prD bs)) ∧ Bo bs ∧ ∀ p kc F', (∀ e, e ∈ y.F → e ∈ F') → TbO F' bs kc (fun _ _ _ => True) → Φ (.ref p) ⟨F', (p, .raw (.dT kc)) :: y.O⟩
/-- the table while it is filled: what is not done has no key -/
structure TbB (F : List (V × Dt)) (bs : List (Int × Int)) (kc : List (List L2.Key × V)) (dn : Int → Int → Int → Prop) : Prop where
  o : TbO F bs kc dn
  n : ∀ i j l, ¬ dn i j l → valV kc (ky [i, j, l]) = none
theorem TbB.mono {F F' : List (V × Dt)} {bs : List (Int × Int)} {kc : List (List L2.Key × V)} {dn dn' : Int → Int → Int → Prop} (h : TbB F bs kc dn) (s : ∀ e, e ∈ F → e ∈ F') (h2 : ∀ i j l, dn i j l → dn' i j l) (hd : ∀ i j l, Inr bs i j l → dn' i j l → dn i j l) : TbB F' bs kc dn' :=
  ⟨h.o.mono s hd, fun i j l k => h.n i j l fun e => k (h2 i j l e)⟩
theorem TbB.put {F F' : List (V × Dt)} {bs : List (Int × Int)} {kc : List (List L2.Key × V)} {dn dn' : Int → Int → Int → Prop} {a0 a1 a2 : Int} {r : V} {x : BR} (h : TbB F bs kc dn) (s : ∀ e, e ∈ F → e ∈ F') (hx : bstS (bs.drop (a0 + 1).toNat) a1 a2 = some x) (hr : Hs F' r (qD x)) (hd : ∀ i j l, dn' i j l ↔ dn i j l ∨ (i = a0 ∧ j = a1 ∧ l = a2)) : TbB F' bs (putK kc (ky [a0, a1, a2]) r) dn' := by
  refine ⟨h.o.put s hx hr fun i j l => (hd i j l).mp, fun i j l k => ?_⟩
  rw [valV_put, if_neg (fun e => k ((hd i j l).mpr (.inr (by
    have := ky_inj e
    simp only [List.cons.injEq, and_true] at this
    exact this))))]
  exact h.n i j l fun e => k ((hd i j l).mpr (.inl e))
theorem TbB.skip {F F' : List (V × Dt)} {bs : List (Int × Int)} {kc : List (List L2.Key × V)} {dn dn' : Int → Int → Int → Prop} {a0 a1 a2 : Int} (h : TbB F bs kc dn) (s : ∀ e, e ∈ F → e ∈ F') (hx : bstS (bs.drop (a0 + 1).toNat) a1 a2 = none) (h0 : ¬ dn a0 a1 a2) (hd : ∀ i j l, dn' i j l ↔ dn i j l ∨ (i = a0 ∧ j = a1 ∧ l = a2)) : TbB F' bs kc dn' := by
  refine ⟨fun i j l hI hD => ?_, fun i j l k => h.n i j l fun e => k ((hd i j l).mpr (.inl e))⟩
  rcases (hd i j l).mp hD with hD | ⟨rfl, rfl, rfl⟩
  · exact h.o.mono s (fun _ _ _ _ h => h) i j l hI hD
  · rw [hx]
    exact h.n _ _ _ h0
theorem ok_best [Bn mg "len"] [Bn mg "range"] [Bn mg "min"] [Cl P w K mg base "goings_on" k 5 R_goings] {f : Addr} {fd : FuncData} (F : Fun K "best_from" "best_from" s_best_from f fd) : FnOk P w K mg base (L2.CX P w) (k + 1) f fd ["bounds"] (SpY K 1 R_best) := by
  refine fn_w F sc_best_from rfl ck_best_from fun X y vs Φ Ψ C hl h => ?_
  obtain ⟨v, bs, rfl, hv, hB, q⟩ := h
  obtain ⟨F0, O0⟩ := y
  have := hv.fa
  have hl1 := hB.l1
  have hl2 := hB.l2
  show Lift K (wSs X (_ :: _) [some v, none, none, none, none, none, none]) _ _ _
  repeat (fail_if_success (refine l_dictT ?_)
          refine go ?_)
  refine l_dictT fun pc => ?_
  walk_at "ys"
  rw [prD_len]
  refine s_for C (fun x => NoFold.h _ x) ?_
  walk_at "ys"
  refine ⟨by omega, fun J sr => ?_⟩
  refine ⟨_, sr, fun i σ y' => ∃ (u3 u4 u5 u6 : Option V) (F' : List (V × Dt)) (kc : List (List L2.Key × V)), σ = [some v, some (.int ((bs.length : Int) - 1)), some (.ref pc), u3, u4, u5, u6] ∧ y' = ⟨F', (pc, .raw (.dT kc)) :: O0⟩ ∧ (∀ e, e ∈ F0 → e ∈ F') ∧ kc.length ≤ 169 * i ∧ TbB F' bs kc (fun a _ _ => (bs.length : Int) - 1 - i < a), ?_, ?_, ?_⟩
  · refine ⟨_, _, _, _, _, [], rfl, rfl, fun _ h => h, Nat.le_refl _, ⟨fun a b c hI hD => ?_, fun _ _ _ _ => rfl⟩⟩
    obtain ⟨x, z, h1, h2, h3, _⟩ := hI
    have := (List.getElem?_eq_some_iff.mp h3).1
    omega
  · rintro i d σ' y' x hd ⟨u3, u4, u5, u6, F', kc, rfl, rfl, hF, hkl, hT⟩
    obtain ⟨hi, rfl⟩ := rngN_at hd
    refine Lift.isInt (n := (bs.length : Int) - 1 - (i : Nat)) (.fact List.mem_cons_self) fun e => ?_
    subst e
    have hi' : (i : Int) < (bs.length : Int) - 1 := by omega
    obtain ⟨t, ht⟩ : ∃ t : Int, (bs.length : Int) - 1 - (i : Nat) = t := ⟨_, rfl⟩
    rw [ht] at hT ⊢
    have t1 : 1 ≤ t := by omega
    have t2 : t < bs.length := by omega
    have hx : bs[(t - 1).toNat]? = some (bs[(t - 1).toNat]'(by omega)) := List.getElem?_eq_getElem _
    have hz : bs[t.toNat]? = some (bs[t.toNat]'(by omega)) := List.getElem?_eq_getElem _
    generalize bs[(t - 1).toNat] = x at hx
    generalize bs[t.toNat] = z at hz
    have bx := hB.b x (List.mem_of_getElem? hx)
    have bz := hB.b z (List.mem_of_getElem? hz)
    have hvF : Hs F' v (.list (prD bs)) := hv.mono hF
    have := hvF.fa
    walk_at "ys"
    refine s_for C (fun x => NoFold.h _ x) ?_
    walk_at "ys"
    refine ix_lst Rc.h (at_prD (by omega) hx) C.hK fun x1 => ?_
    walk_at "ys"
    refine ix_lst Rc.h (at_prD (by omega) hx) C.hK fun x2 => ?_
    walk_at "ys"
    refine ⟨by omega, fun J2 sr2 => ?_⟩
    refine ⟨_, sr2, fun j σ y' => ∃ (u4 u5 u6 : Option V) (F2 : List (V × Dt)) (kc : List (List L2.Key × V)), σ = [some v, some (.int ((bs.length : Int) - 1)), some (.ref pc), some (.int t), u4, u5, u6] ∧ y' = ⟨F2, (pc, .raw (.dT kc)) :: O0⟩ ∧ (∀ e, e ∈ F0 → e ∈ F2) ∧ kc.length ≤ 169 * i + 13 * j ∧ TbB F2 bs kc (fun a b _ => t < a ∨ a = t ∧ b < x.1 + (j : Nat)), ?_, ?_, ?_⟩
    · refine ⟨_, _, _, _, kc, rfl, rfl, fun e he => List.mem_cons_of_mem _ (List.mem_cons_of_mem _ (List.mem_cons_of_mem _ (hF e he))), by omega, hT.mono ?_ ?_ fun a b c hI hD => ?_⟩
      · exact fun e he => List.mem_cons_of_mem _ (List.mem_cons_of_mem _ (List.mem_cons_of_mem _ he))
      · exact fun a b c hD => .inl hD
      rcases hD with hD | ⟨rfl, hD⟩
      · exact hD
      · obtain ⟨x', z', _, h2, _, h4, _⟩ := hI
        rw [hx] at h2
        cases h2
        omega
    · rintro j dj σ2 y2 xj hdj ⟨u4, u5, u6, F2, kc, rfl, rfl, hF2, hkl, hT⟩
      obtain ⟨hj, rfl⟩ := rngD_at hdj
      refine Lift.isInt (n := x.1 + (j : Nat)) (.fact List.mem_cons_self) fun e => ?_
      subst e
      have hvF : Hs F2 v (.list (prD bs)) := hv.mono hF2
      have := hvF.fa
      walk_at "ys"
      refine s_for C (fun x => NoFold.h _ x) ?_
      walk_at "ys"
      refine ix_lst Rc.h (at_prD (by omega) hz) C.hK fun z1 => ?_
      walk_at "ys"
      refine ix_lst Rc.h (at_prD (by omega) hz) C.hK fun z2 => ?_
      walk_at "ys"
      refine ⟨by omega, fun J3 sr3 => ?_⟩
      refine ⟨_, sr3, fun l σ y' => ∃ (u5 u6 : Option V) (F3 : List (V × Dt)) (kc : List (List L2.Key × V)), σ = [some v, some (.int ((bs.length : Int) - 1)), some (.ref pc), some (.int t), some (.int (x.1 + (j : Nat))), u5, u6] ∧ y' = ⟨F3, (pc, .raw (.dT kc)) :: O0⟩ ∧ (∀ e, e ∈ F0 → e ∈ F3) ∧ kc.length ≤ 169 * i + 13 * j + l ∧ TbB F3 bs kc (fun a b c => t < a ∨ a = t ∧ (b < x.1 + (j : Nat) ∨ b = x.1 + (j : Nat) ∧ c < z.1 + (l : Nat))), ?_, ?_, ?_⟩
      · refine ⟨_, _, _, kc, rfl, rfl, fun e he => List.mem_cons_of_mem _ (List.mem_cons_of_mem _ (List.mem_cons_of_mem _ (hF2 e he))), by omega, hT.mono ?_ ?_ fun a b c hI hD => ?_⟩
        · exact fun e he => List.mem_cons_of_mem _ (List.mem_cons_of_mem _ (List.mem_cons_of_mem _ he))
        · rintro a b c (hD | ⟨hD, hD2⟩)
          · exact .inl hD
          · exact .inr ⟨hD, .inl hD2⟩
        rcases hD with hD | ⟨rfl, hD | ⟨rfl, hD⟩⟩
        · exact .inl hD
        · exact .inr ⟨rfl, hD⟩
        · obtain ⟨x', z', _, _, h3, _, _, h5, _⟩ := hI
          rw [hz] at h3
          cases h3
          omega
      · rintro l dl σ3 y3 xl hdl ⟨u5, u6, F3, kc, rfl, rfl, hF3, hkl, hT⟩
        obtain ⟨hl', rfl⟩ := rngD_at hdl
        refine Lift.isInt (n := z.1 + (l : Nat)) (.fact List.mem_cons_self) fun e => ?_
        subst e
        have hvF : Hs F3 v (.list (prD bs)) := hv.mono hF3
        have := hvF.fa
        have tI : Inr bs t (x.1 + (j : Nat)) (z.1 + (l : Nat)) := ⟨x, z, t1, hx, hz, by omega, by omega, by omega, by omega⟩
        have hdn : ∀ a b c : Int, (t < a ∨ a = t ∧ (b < x.1 + (j : Nat) ∨ b = x.1 + (j : Nat) ∧ c < z.1 + ((l + 1 : Nat) : Int))) ↔ (t < a ∨ a = t ∧ (b < x.1 + (j : Nat) ∨ b = x.1 + (j : Nat) ∧ c < z.1 + (l : Nat))) ∨ (a = t ∧ b = x.1 + (j : Nat) ∧ c = z.1 + (l : Nat)) := fun a b c => by omega
        walk_at "yi"
        refine s_ifJ (fun σ' z' => ∃ (ps : V) (F4 : List (V × Dt)) (L : List BR), σ' = [some v, some (.int ((bs.length : Int) - 1)), some (.ref pc), some (.int t), some (.int (x.1 + (j : Nat))), some (.int (z.1 + (l : Nat))), some ps] ∧ z' = ⟨F4, (pc, .raw (.dT kc)) :: O0⟩ ∧ (∀ e, e ∈ F3 → e ∈ F4) ∧ Hs F4 ps (.list (L.map qD)) ∧ (∀ x ∈ L, Qs x) ∧ L.length ≤ 13 ∧ minO L = bstS (bs.drop (t + 1).toNat) (x.1 + (j : Nat)) (z.1 + (l : Nat))) ?_ ?_
        · walk_at "ys"
          refine ⟨fun lt => ?_, fun lt => ?_⟩
          · have lt := of_decide_eq_true lt
            have hw : bs[(t + 1).toNat]? = some (bs[(t + 1).toNat]'(by omega)) := List.getElem?_eq_getElem _
            have hdr : bs.drop (t + 1).toNat = bs[(t + 1).toNat]'(by omega) :: bs.drop (t + 1 + 1).toNat := by
              rw [List.drop_eq_getElem_cons (by omega), show (t + 1).toNat + 1 = (t + 1 + 1).toNat by omega]
            generalize bs[(t + 1).toNat] = w at hw hdr
            have bw := hB.b w (List.mem_of_getElem? hw)
            walk_at "ys"
            refine ⟨rfl, v, pc, t, _, _, bs, kc, w, _, rfl, .fact Fa.h, hB, List.mem_cons_self, tI, hdr, hT.o.mono (fun e he => SubF.h e he) (fun i j l _ e => .inl (by omega)), fun q5 F5 hF5 => ?_⟩
            refine Lift.release ?_
            walk_at "ys"
            refine ⟨_, rfl, _, _, gosS w (bs.drop (t + 1 + 1).toNat) (x.1 + (j : Nat)) (z.1 + (l : Nat)), rfl, rfl, fun e he => List.mem_cons_of_mem _ (hF5 e (SubF.h e he)), .fact List.mem_cons_self, gos_qs (fun u hu => ?_) ?_, gos_len bw.2.1, ?_⟩
            · have := hB.b u (by
                rw [← hdr] at hu
                exact List.mem_of_mem_drop hu)
              exact ⟨this.2.1, this.2.2⟩
            · rw [List.length_drop]
              omega
            · rw [hdr, bstS_cons]
          · have lt := of_decide_eq_false lt
            refine ⟨_, _, [(0, [])], rfl, rfl, fun e he => SubF.h e he, .fact Fa.h, fun y hy => ?_, by decide, ?_⟩
            · cases List.mem_singleton.mp hy
              exact ⟨by decide, by decide, fun n hn => by cases hn⟩
            · rw [List.drop_eq_nil_of_le (by omega)]
              rfl
        · rintro σ4 z4 ⟨ps, F4, L, rfl, rfl, hF4, hps, hQ, hL13, hmin⟩
          have := hps.fa
          walk_at "ys"
          refine o_neNil C (.hs (.fact (List.mem_cons_of_mem _ (Fa.h (v := ps))))) (.hs (.fact List.mem_cons_self)) ?_
          cases L with
          | nil =>
            refine ⟨_, rfl, fun e => (by cases e), fun _ => ?_⟩
            walk_at "ys"
            refine ⟨_, _, _, kc, rfl, rfl, fun e he => SubF.h e (hF4 e (hF3 e he)), by omega, hT.skip (fun e he => SubF.h e (hF4 e he)) hmin.symm (by omega) hdn⟩
          | cons x0 L0 =>
            refine ⟨_, rfl, fun _ => ?_, fun e => (by cases e)⟩
            walk_at "ys"
            obtain ⟨s1, s2, s3⟩ := q_small _ hQ
            refine c_minD (d := qD x0) (ds := L0.map qD) C (.hs (.fact Fa.h)) s1 s2 (alike_q (x0 :: L0)) s3 fun r => ?_
            rw [minD_q]
            walk_at "ys"
            refine ⟨by omega, ?_⟩
            walk_at "ys"
            exact ⟨_, _, _, _, rfl, rfl, fun e he => SubF.h e (hF4 e (hF3 e he)), Nat.le_trans (length_putK _ _ _) (by omega), hT.put (fun e he => SubF.h e (hF4 e he)) hmin.symm (.fact List.mem_cons_self) hdn⟩
      · rintro σ3 y3 ⟨u5, u6, F3, kc, rfl, rfl, hF3, hkl, hT⟩
        rw [rngD_len] at hkl hT
        walk_at "ys"
        refine ⟨_, _, _, _, kc, rfl, rfl, hF3, by omega, hT.mono (fun _ h => h) ?_ fun a b c hI hD => ?_⟩
        · rintro a b c (hD | ⟨hD, hD2 | ⟨hD2, _⟩⟩)
          · exact .inl hD
          · exact .inr ⟨hD, by omega⟩
          · exact .inr ⟨hD, by omega⟩
        rcases hD with hD | ⟨rfl, hD⟩
        · exact .inl hD
        · refine .inr ⟨rfl, ?_⟩
          by_cases hb : b < x.1 + (j : Nat)
          · exact .inl hb
          · obtain ⟨x', z', _, _, h3, _, _, h5, h6⟩ := hI
            rw [hz] at h3
            cases h3
            exact .inr ⟨by omega, by omega⟩
    · rintro σ2 y2 ⟨u4, u5, u6, F2, kc, rfl, rfl, hF2, hkl, hT⟩
      rw [rngD_len] at hkl hT
      walk_at "ys"
      refine ⟨_, _, _, _, _, kc, rfl, rfl, hF2, by omega, hT.mono (fun _ h => h) ?_ fun a b c hI hD => ?_⟩
      · rintro a b c (hD | ⟨hD, _⟩) <;> omega
      by_cases ha : t < a
      · exact .inl ha
      · obtain ⟨x', z', _, h2, _, h4, h4', _⟩ := hI
        have e : a = t := by omega
        subst e
        rw [hx] at h2
        cases h2
        exact .inr ⟨rfl, by omega⟩
  · rintro σ' y' ⟨u3, u4, u5, u6, F', kc, rfl, rfl, hF, hkl, hT⟩
    rw [rngN_len] at hT
    walk_at "ys"
    refine rw_rt (q pc kc F' hF (hT.o.mono (fun _ h => h) fun a b c hI _ => ?_))
    obtain ⟨_, _, h1, _⟩ := hI
    omega
end

section
variable {P : Program} {w : World} {K : PySem.W.Frag} {mg : Str → Option Value} {base : Heap} {k : Nat} {N : List Str} {sc : Scope} {vb lb : List Bool} {gs : List Str} {X : Cx} {y : Sy} {σ : L2.St} {Ψ : Value → Sy → Prop} {pos p2 : Pos} {rest : List Stmt} {F : List (V × Dt)} {O : List (Addr × OD)} {e a : Expr}
/-- the cell stands by its values -/
theorem okS_raw {K : PySem.W.Frag} {F : List (V × Dt)} {O : List (Addr × OD)} {p : Addr} {ds : List Dt} {S H : Hp} (ok : OkS K ⟨F, (p, .lst ds) :: O⟩ S H) : ∃ xs, H p = some (.lst xs) ∧ RpA K S xs ds ∧ OkS K ⟨F, (p, .raw (.lst xs)) :: O⟩ S H := by
  obtain ⟨n1, o, ho, xs, e1, r⟩ := ok.own p _ List.mem_cons_self
  subst e1
  refine ⟨xs, ho, r, ok.sub, ok.fac, fun q u m => ?_, ok.nd⟩
  rcases List.mem_cons.mp m with e | m
  · cases e
    exact ⟨n1, _, ho, rfl⟩
  · exact ok.own q u (List.mem_cons_of_mem _ m)
theorem lift_rawL {α : Type} {T : TL α} {Φ : α → Sy → Prop} {p : Addr} (h : Lift K T ⟨F, (p, .raw (.lst [])) :: O⟩ Φ Ψ) : Lift K T ⟨F, (p, .lst []) :: O⟩ Φ Ψ := by
  refine Lift.pre (y2 := ⟨F, (p, .raw (.lst [])) :: O⟩) (fun S H ok => ?_) h
  obtain ⟨xs, h1, r, ok2⟩ := okS_raw ok
  cases r
  exact ⟨S, ok2, fun _ _ h _ => h, fun _ o h => ⟨o, h⟩, Sub.refl S, fun _ o h => .inl ⟨o, h⟩, fun _ h => .inl h⟩
theorem m_appendR {Φ : V → Sy → Prop} {p : Addr} {vs : List V} {u : V} (hz : vs.length ≤ 1000000) (h : Φ .non ⟨F, (p, .raw (.lst (vs ++ [u]))) :: O⟩) : Lift K (wM X "list.append" (.ref p) [u]) ⟨F, (p, .raw (.lst vs)) :: O⟩ Φ Ψ := by
  refine m_of (fun pins s σ H x xs v us Q I a b c => mt_append pins s σ H x xs v us Q I a b c) (Lift.raw fun S H ok E Q q => ?_)
  obtain ⟨sp, o, ho, e1⟩ := ok.own p _ (List.Mem.head _)
  cases e1
  obtain ⟨ok2, st⟩ := ok.set (u2 := .raw (.lst (vs ++ [u]))) (o2 := .lst (vs ++ [u])) rfl
  exact ⟨p, vs, u, rfl, rfl, ho, Nat.lt_of_le_of_lt hz (by decide), q _ _ _ _ ok2 st h⟩
def AppR (K : PySem.W.Frag) (X : Cx) (e : Expr) (σ : L2.St) (id : String) (Φ : V → Sy → Prop) (Ψ : Value → Sy → Prop) (v : V) (y : Sy) : Prop := ∃ p vs, v = .ref p ∧ (p, OD.raw (.lst vs)) ∈ y.O ∧ Lift K (wA X [e] σ) y (fun us y2 => Lift K (wM X id v us) y2 Φ Ψ) Ψ
instance {p : Addr} {vs : List V} [r : Tl2 p O vs] {id : String} {Φ : V → Sy → Prop} : Step (AppR K X e σ id Φ Ψ (.ref p) ⟨F, O⟩) (Lift K (wA X [e] σ) ⟨F, O⟩ (fun us y2 => Lift K (wM X id (.ref p) us) y2 Φ Ψ) Ψ) := ⟨fun h => ⟨p, vs, rfl, r.h, h⟩⟩
theorem l_appR [C : Cn P w K mg base k N sc vb lb gs X] {Φ : V → Sy → Prop} [m : NoStar e] [m2 : NoSuper a] {l c el ec c' el' ec' : Nat} (h : Lift K (wE X a σ) y (AppR K X e σ "list.append" Φ Ψ) Ψ) : Lift K (wE X (.Call (.Attribute a "append" ⟨l, c, el, ec⟩) [e] [] ⟨el, c', el', ec'⟩) σ) y Φ Ψ := by
  refine l_of (fun E tk => pe_bm PySem.F.plainAttrs_list PySem.F.slot_list_append PySem.F.type_list_append (mt_w (E := E)) (pe_w tk) (pa_w tk) (m2.h _ _) (by
    rw [backTo_all, m.h]
    rfl) (by show (el == el) = true; exact beq_self_eq_true _) (m.h _ _)) ?_
  refine Lift.bind (T1 := wE X a σ) (T2 := fun v E H Q => tyV X.K "list" v H ∧ wA X [e] σ E H fun us H2 => wM X "list.append" v us E H2 Q) (fun _ _ _ q => q) (h.mono (fun v z ⟨p, vs, e1, hm, f⟩ => ?_) fun _ _ q => q)
  intro S H ok Q E q e'
  obtain ⟨_, o, ho, e2⟩ := ok.own p _ hm
  cases e2
  subst e1
  exact ⟨.inl ⟨rfl, vs, SqL.of ho⟩, (Lift.bind (T := fun E H Q => wA X [_] σ E H fun us H2 => wM X "list.append" (.ref p) us E H2 Q) (T1 := wA X [_] σ) (T2 := fun us => wM X "list.append" (.ref p) us) (fun _ _ _ q => q) f) S H ok Q E q e'⟩
end

section
variable {P : Program} {w : World} {K : PySem.W.Frag} {mg : Str → Option Value} {base : Heap} {k : Nat}
section
variable {N : List Str} {sc : Scope} {vb lb : List Bool} {gs : List Str} {X : Cx} {y : Sy} {σ : L2.St} {Ψ : Value → Sy → Prop} {F : List (V × Dt)} {O : List (Addr × OD)}
theorem lift_unrawL {α : Type} {T : TL α} {Φ : α → Sy → Prop} {p : Addr} (h : Lift K T ⟨F, (p, .lst []) :: O⟩ Φ Ψ) : Lift K T ⟨F, (p, .raw (.lst [])) :: O⟩ Φ Ψ := by
  refine Lift.pre (y2 := ⟨F, (p, .lst []) :: O⟩) (fun S H ok => ⟨S, ⟨ok.sub, ok.fac, fun q u m => ?_, ok.nd⟩, ⟨fun _ _ h _ => h, fun _ o h => ⟨o, h⟩, Sub.refl S, fun _ o h => .inl ⟨o, h⟩, fun _ m => .inl m⟩⟩) h
  rcases List.mem_cons.mp m with e | m
  · cases e
    obtain ⟨n1, o, ho, r⟩ := ok.own p _ List.mem_cons_self
    cases r
    exact ⟨n1, _, ho, [], rfl, .nil⟩
  · exact ok.own q u (List.mem_cons_of_mem _ m)
theorem o_eqConsR {Φ : V → Sy → Prop} (C : Cn P w K mg base k N sc vb lb gs X) {q : Addr} {u v : V} {vs : List V} (h1 : (q, OD.raw (.lst (v :: vs))) ∈ O) (h2 : Hs F u (.list [])) (f : Φ (.bl false) ⟨F, O⟩) : Lift K (wO X (compareOp .Eq) (.ref q) u) ⟨F, O⟩ Φ Ψ := by
  have hu : X.A.units + 64 < cLine := by
    have := C.room.un
    omega
  refine o_of (op_len hu) (Lift.raw fun S H ok E Q qq => ?_)
  obtain ⟨_, o, ho, e⟩ := ok.own q _ h1
  cases e
  obtain ⟨b, zs, rfl, hb, r2⟩ := (Rb.hs h2 : Rb ⟨F, O⟩ u (.list [])).lst ok
  exact ⟨q, b, _, zs, rfl, rfl, SqL.of ho, SqL.of hb, by rw [r2.length]; simp, qq _ _ S H ok (Stp.refl _ _ _) f⟩
theorem qD_inj {x y : BR} (h : qD x = qD y) : x = y := by
  unfold qD at h
  injection h with h
  injection h with h1 h2
  injection h1 with h1
  injection h2 with h2 _
  injection h2 with h2
  exact Prod.ext h1 (Yl.ints_map_inj h2)
/-- pairs of a number and a list that are owned -/
def cellsO : List (Addr × Addr × BR) → List (Addr × OD)
  | [] => []
  | (t, p, x) :: r => (t, .raw (.tup [.int x.1, .ref p])) :: (p, .lst (x.2.map .int)) :: cellsO r
theorem cellsO_sub : ∀ {its : List (Addr × Addr × BR)} {t p : Addr} {x : BR}, (t, p, x) ∈ its → [(t, OD.raw (.tup [.int x.1, .ref p])), (p, OD.lst (x.2.map .int))].Sublist (cellsO its)
  | (t', p', x') :: r, t, p, x, h => by
    rcases List.mem_cons.mp h with e | h
    · cases e
      exact .cons₂ _ (.cons₂ _ (List.nil_sublist _))
    · exact .cons _ (.cons _ (cellsO_sub h))
/-- min of such pairs: one of them -/
theorem c_minO {Φ : V → Sy → Prop} (C : Cn P w K mg base k N sc vb lb gs X) {q : Addr} {i0 : Addr × Addr × BR} {its : List (Addr × Addr × BR)} (hq : (q, OD.raw (.lst ((i0 :: its).map fun i => .ref i.1))) ∈ O) (ho : ∀ t p x, (t, p, x) ∈ i0 :: its → (t, OD.raw (.tup [.int x.1, .ref p])) ∈ O ∧ (p, OD.lst (x.2.map .int)) ∈ O)
    (hQ : ∀ i ∈ i0 :: its, Qs i.2.2) (h : ∀ t p, (t, p, minB i0.2.2 (its.map fun i => i.2.2)) ∈ i0 :: its → Φ (.ref t) ⟨F, O⟩) : Lift K (wC X (.builtin "min") [.ref q]) ⟨F, O⟩ Φ Ψ := by
  have hu : X.A.units + 102 < cLine := by
    have := C.room.un
    omega
  refine c_of (call_minD C.calm hu) (Lift.raw fun S H ok E Q qq => ?_)
  obtain ⟨_, o, hoq, e⟩ := ok.own q _ hq
  cases e
  obtain ⟨L, hL⟩ : ∃ L : List BR, (i0 :: its).map (fun i => i.2.2) = L := ⟨_, rfl⟩
  have hQ2 : ∀ x ∈ i0.2.2 :: its.map (fun i => i.2.2), Qs x := fun x hx => by
    have hx : x ∈ (i0 :: its).map fun i => i.2.2 := hx
    obtain ⟨i, hi, rfl⟩ := List.mem_map.mp hx
    exact hQ i hi
  obtain ⟨s1, s2, s3⟩ := q_small _ hQ2
  have rp : ∀ {l : List (Addr × Addr × BR)}, (∀ i ∈ l, i ∈ i0 :: its) → RpA K H (l.map fun i => V.ref i.1) ((l.map fun i => i.2.2).map qD) := by
    intro l
    induction l with
    | nil => intro _; exact .nil
    | cons i r ih =>
      intro hl
      refine .cons ?_ (ih fun i hi => hl i (List.mem_cons_of_mem _ hi))
      obtain ⟨t, p, x⟩ := i
      obtain ⟨m1, m2⟩ := ho t p x (hl _ List.mem_cons_self)
      obtain ⟨_, o1, ho1, e1⟩ := ok.own t _ m1
      cases e1
      obtain ⟨_, o2, ho2, xs, e2, r2⟩ := ok.own p _ m2
      subst e2
      exact .tup (SqT.of ho1) (.cons (.int _) (.cons (.lst ho2 (r2.mono ok.sub)) .nil))
  refine ⟨q, _, qD i0.2.2, (its.map fun i : Addr × Addr × BR => i.2.2).map qD, rfl, hoq, by rw [C.hK]; exact rp (l := i0 :: its) fun _ h => h, s1, s2, alike_q (i0.2.2 :: its.map fun i : Addr × Addr × BR => i.2.2), s3, fun i x hx hi => ?_⟩
  rw [minD_q] at hi
  rw [List.getElem?_map] at hx
  have hi2 : ((i0 :: its).map fun i => qD i.2.2)[i]? = some (qD (minB i0.2.2 (its.map fun i => i.2.2))) := by
    rw [← hi, ← List.map_cons, ← List.map_cons (f := fun i : Addr × Addr × BR => i.2.2), List.map_map]
    rfl
  rw [List.getElem?_map] at hi2
  cases c : (i0 :: its)[i]? with
  | none =>
    rw [c] at hx
    cases hx
  | some it =>
    rw [c] at hx hi2
    cases hx
    have hi2 : qD it.2.2 = qD (minB i0.2.2 (its.map fun i => i.2.2)) := Option.some.inj hi2
    have e : it.2.2 = minB i0.2.2 (its.map fun i => i.2.2) := qD_inj hi2
    exact qq _ _ S H ok (Stp.refl _ _ _) (h it.1 it.2.1 (by rw [← e]; exact List.mem_of_getElem? c))
end
/-- the rows from a first number on -/
def gA (r : List (Int × Int)) (z1 a : Int) (m : Nat) : List BR := (rgI z1 m).filterMap fun h => (bstS r a h).map fun y => (y.1, a :: h :: y.2)
theorem gA_succ (r : List (Int × Int)) (z1 a : Int) (m : Nat) : gA r z1 a (m + 1) = gA r z1 a m ++ (match bstS r a (z1 + (m : Nat)) with | none => [] | some y => [(y.1, a :: (z1 + (m : Nat)) :: y.2)]) := by
  unfold gA
  rw [rgI_succ, List.filterMap_append]
  congr 1
  cases e : bstS r a (z1 + (m : Nat)) with
  | none => simp [e]
  | some x => simp [e]
theorem few_qs {x z : Int × Int} {r : List (Int × Int)} (hB : Bo (x :: z :: r)) {nx nz : Nat} (hnx : (x.2 + 1 - x.1).toNat = nx) (hnz : (z.2 + 1 - z.1).toNat = nz) {u : BR} (hu : u ∈ (rgI x.1 nx).flatMap fun a => gA r z.1 a nz) : Qs u := by
  obtain ⟨a, ha, hu⟩ := List.mem_flatMap.mp hu
  obtain ⟨h, hh, e⟩ := List.mem_filterMap.mp hu
  obtain ⟨y, hy, rfl⟩ := Option.map_eq_some_iff.mp e
  have ha := rgI_mem.mp ha
  have hh := rgI_mem.mp hh
  have is := bstS_is r a h
  rw [hy] at is
  obtain ⟨i1, i2, _⟩ := is
  have hlen := suf_len r a h y.2 i1
  have hbd := bnS_bd y.2 a h
  have hl2 := hB.l2
  rw [List.length_cons, List.length_cons] at hl2
  have bx := hB.b x List.mem_cons_self
  have bz := hB.b z (List.mem_cons_of_mem _ List.mem_cons_self)
  refine ⟨?_, ?_, fun m hm => ?_⟩
  · show y.1.natAbs < _
    rw [i2]
    omega
  · show y.2.length + 1 + 1 ≤ 12
    omega
  · rcases List.mem_cons.mp hm with rfl | hm
    · omega
    · rcases List.mem_cons.mp hm with rfl | hm
      · omega
      · exact suf_bd r a h y.2 (fun z m => (hB.b z (List.mem_cons_of_mem _ (List.mem_cons_of_mem _ m))).2) i1 m hm
/-- fewest_bends(bounds) -/
def R_few : RY := fun vs y Φ _ => ∃ (v : V) (bs : List (Int × Int)), vs = [v] ∧ Hs y.F v (.list (prD bs)) ∧ Bo bs ∧ ∀ F', (∀ e, e ∈ y.F → e ∈ F') → match fewS bs with
  | none => Φ .non ⟨F', y.O⟩
  | some x => ∀ t p, Φ (.ref t) ⟨F', (t, .raw (.tup [.int x.1, .ref p])) :: (p, .lst (x.2.map .int)) :: y.O⟩
theorem ok_few {c : Addr} [Bn mg "len"] [Bn mg "range"] [Bn mg "min"] [Cl P w K mg base "need_bounds" k 1 (R_needb c)] [Cl P w K mg base "best_from" k 1 R_best] {f : Addr} {fd : FuncData} (F : Fun K "fewest_bends" "fewest_bends" s_fewest_bends f fd) : FnOk P w K mg base (L2.CX P w) (k + 1) f fd ["bounds"] (SpY K 1 R_few) := by
  refine fn_w F sc_fewest_bends rfl ck_fewest_bends fun X y vs Φ Ψ C hl h => ?_
  obtain ⟨v, bs, rfl, hv, hB, q⟩ := h
  obtain ⟨F0, O0⟩ := y
  have := hv.fa
  have hl1 := hB.l1
  have hl2 := hB.l2
  show Lift K (wSs X (_ :: _) [some v, none, none, none, none, none, none]) _ _ _
  walk_at "ys"
  refine ⟨rfl, v, _, rfl, .fact Fa.h, bo_nice hB, fun F1 hF1 => ⟨fun _ => ?_, fun e => absurd (bo_bnd hB) (by rw [e]; decide)⟩⟩
  have hv1 : Hs F1 v (.list (prD bs)) := hv.mono hF1
  have := hv1.fa
  walk_at "ys"
  rw [prD_len]
  refine ⟨fun c1 => ?_, fun c1 => ?_⟩
  · have c1 := of_decide_eq_true c1
    obtain ⟨x, rfl⟩ : ∃ x, bs = [x] := by
      match bs, c1 with
      | [x], _ => exact ⟨x, rfl⟩
      | [], c1 => exact absurd c1 (by decide)
      | _ :: _ :: _, c1 => exact absurd c1 (by simp only [List.length_cons]; omega)
    repeat (fail_if_success (refine l_tupR ?_)
            refine go ?_)
    refine l_tupR ?_
    repeat (fail_if_success (refine l_lstOK ?_)
            refine go ?_)
    refine l_lstOK ?_
    walk_at "ys"
    refine ix_lst Rc.h (at_prD (i := 0) (by omega) rfl) C.hK fun x1 => ?_
    walk_at "ys"
    rename_i pl
    refine ⟨by show 2 ≤ 1000000; decide, fun t => ?_⟩
    walk_at "ys"
    have q : ∀ t p, Φ (.ref t) ⟨F1, (t, .raw (.tup [.int 0, .ref p])) :: (p, .lst [.int x.1]) :: O0⟩ := q F1 hF1
    exact ⟨⟨F1, (t, .raw (.tup [.int 0, .ref pl])) :: (pl, .lst [.int x.1]) :: O0⟩, fun e he => List.mem_cons_of_mem _ he, List.Sublist.refl _, q t pl⟩
  · have c1 := of_decide_eq_false c1
    obtain ⟨x, z, r, rfl⟩ : ∃ x z r, bs = x :: z :: r := by
      match bs, hl1, c1 with
      | [x], _, c1 => exact absurd rfl c1
      | x :: z :: r, _, _ => exact ⟨x, z, r, rfl⟩
    have bx := hB.b x List.mem_cons_self
    have bz := hB.b z (List.mem_cons_of_mem _ List.mem_cons_self)
    walk_at "ys"
    refine ⟨rfl, v, _, rfl, .fact Fa.h, hB, fun pc kc F2 hF2 hT => ?_⟩
    have hv2 : Hs F2 v (.list (prD (x :: z :: r))) := hv1.mono hF2
    have := hv2.fa
    repeat (fail_if_success (refine l_lstOK ?_)
            refine go ?_)
    refine l_lstOK ?_
    walk_at "yo"
    intro ps
    refine lift_rawL ?_
    walk_at "yf"
    refine s_for C (fun x => NoFold.h _ x) ?_
    walk_at "ys"
    refine ix_lst Rc.h (at_prD (i := 0) (by omega) rfl) C.hK fun x1 => ?_
    walk_at "ys"
    refine ix_lst Rc.h (at_prD (i := 0) (by omega) rfl) C.hK fun x2 => ?_
    walk_at "ys"
    refine ⟨by omega, fun J sr => ?_⟩
    obtain ⟨nx, hnx⟩ : ∃ nx, (x.2 + 1 - x.1).toNat = nx := ⟨_, rfl⟩
    obtain ⟨nz, hnz⟩ : ∃ nz, (z.2 + 1 - z.1).toNat = nz := ⟨_, rfl⟩
    rw [hnx] at sr
    have hfew : fewS (x :: z :: r) = minO ((rgI x.1 nx).flatMap fun a => gA r z.1 a nz) := by
      rw [← hnx, ← hnz]
      rfl
    refine ⟨_, sr, fun i σ y' => ∃ (u3 u4 u5 u6 : Option V) (F' : List (V × Dt)) (its : List (Addr × Addr × BR)), σ = [some v, some (.ref pc), some (.ref ps), u3, u4, u5, u6] ∧ y' = ⟨F', (ps, .raw (.lst (its.reverse.map fun i => .ref i.1))) :: (pc, .raw (.dT kc)) :: (cellsO its ++ O0)⟩ ∧ (∀ e, e ∈ F2 → e ∈ F') ∧ its.length ≤ 13 * i ∧ its.reverse.map (fun i => i.2.2) = (rgI x.1 i).flatMap fun a => gA r z.1 a nz, ?_, ?_, ?_⟩
    · exact ⟨_, _, _, _, _, [], rfl, rfl, fun e he => SubF.h e he, Nat.le_refl _, rfl⟩
    · rintro i d σ' y' xi hd ⟨u3, u4, u5, u6, F', its, rfl, rfl, hF, hil, hit⟩
      obtain ⟨hi, rfl⟩ := rngD_at hd
      refine Lift.isInt (n := x.1 + (i : Nat)) (.fact List.mem_cons_self) fun e => ?_
      subst e
      have hvF : Hs F' v (.list (prD (x :: z :: r))) := hv2.mono hF
      have := hvF.fa
      walk_at "yf"
      refine s_for C (fun x => NoFold.h _ x) ?_
      walk_at "ys"
      refine ix_lst Rc.h (at_prD (i := 1) (by omega) rfl) C.hK fun z1 => ?_
      walk_at "ys"
      refine ix_lst Rc.h (at_prD (i := 1) (by omega) rfl) C.hK fun z2 => ?_
      walk_at "ys"
      refine ⟨by omega, fun J2 sr2 => ?_⟩
      rw [hnz] at sr2
      refine ⟨_, sr2, fun j σ y' => ∃ (u4 u5 u6 : Option V) (F3 : List (V × Dt)) (its2 : List (Addr × Addr × BR)), σ = [some v, some (.ref pc), some (.ref ps), some (.int (x.1 + (i : Nat))), u4, u5, u6] ∧ y' = ⟨F3, (ps, .raw (.lst (its2.reverse.map fun i => .ref i.1))) :: (pc, .raw (.dT kc)) :: (cellsO its2 ++ O0)⟩ ∧ (∀ e, e ∈ F' → e ∈ F3) ∧ its2.length ≤ 13 * i + j ∧ its2.reverse.map (fun i => i.2.2) = ((rgI x.1 i).flatMap fun a => gA r z.1 a nz) ++ gA r z.1 (x.1 + (i : Nat)) j, ?_, ?_, ?_⟩
      · exact ⟨_, _, _, _, its, rfl, rfl, fun e he => List.mem_cons_of_mem _ (List.mem_cons_of_mem _ (List.mem_cons_of_mem _ he)), hil, by rw [hit]; simp [gA, rgI]⟩
      · rintro j dj σ2 y2 xj hdj ⟨u4, u5, u6, F3, its2, rfl, rfl, hF3, hil2, hit2⟩
        obtain ⟨hj, rfl⟩ := rngD_at hdj
        refine Lift.isInt (n := z.1 + (j : Nat)) (.fact List.mem_cons_self) fun e => ?_
        subst e
        have hTn := hT 1 (x.1 + (i : Nat)) (z.1 + (j : Nat)) ⟨x, z, by omega, rfl, rfl, by omega, by omega, by omega, by omega⟩ True.intro
        rw [show (x :: z :: r).drop ((1 : Int) + 1).toNat = r from rfl] at hTn
        have hgs := gA_succ r z.1 (x.1 + (i : Nat)) j
        walk_at "ys"
        refine ⟨Nat.le_of_ble_eq_true rfl, fun pt => ?_⟩
        walk_at "ys"
        refine ⟨[1, x.1 + (i : Nat), z.1 + (j : Nat)], pc, kc, _, rfl, rfl, rfl, List.mem_cons_of_mem _ List.mem_cons_self, ?_⟩
        cases e : bstS r (x.1 + (i : Nat)) (z.1 + (j : Nat)) with
        | none =>
          rw [e] at hTn hgs
          rw [hTn]
          walk_at "ys"
          refine ⟨fun e => (by cases e), fun _ => ?_⟩
          walk_at "ys"
          refine ⟨_, _, _, _, its2, rfl, rfl, fun e he => SubF.h e (hF3 e he), by omega, ?_⟩
          rw [hit2, hgs, List.append_nil]
        | some xx =>
          rw [e] at hTn hgs
          obtain ⟨rr, hr1, hr2⟩ := hTn
          have hxl : xx.2.length ≤ 100 := by
            have := suf_len r _ _ xx.2 (by have := bstS_is r (x.1 + (i : Nat)) (z.1 + (j : Nat)); rw [e] at this; exact this.1)
            rw [List.length_cons, List.length_cons] at hl2
            omega
          rw [hr1]
          walk_at "ys"
          refine ⟨fun _ => ?_, fun e => (by cases e)⟩
          walk_at "ys"
          refine ⟨rr, hr1, ?_⟩
          refine g_twoD C (.hs (hr2.mono fun e he => SubF.h e (hF3 e (hF e he)))) fun x1 x2 => ?_
          refine Lift.isInt (n := xx.1) (.fact List.mem_cons_self) fun e => ?_
          subst e
          repeat ((fail_if_success (with_reducible show Lift _ (Yl.wE _ (Expr.Call _ _ _ _) _) _ _ _)); refine go ?_)
          refine l_appR ?_
          repeat ((fail_if_success (with_reducible show Lift _ (Yl.wE _ (Expr.Tuple _ _ _) _) _ _ _)); refine go ?_)
          refine l_tupR ?_
          repeat ((fail_if_success (with_reducible show Lift _ (wO _ _ _ _) _ _ _)); first | walk_at "y1" | walk_at "lK" | ((with_reducible show ∀ _, _); intro _))
          refine o_catO (.hs (.fact List.mem_cons_self)) (.hs (.fact (List.mem_cons_of_mem _ (List.mem_cons_of_mem _ List.mem_cons_self)))) (by rw [List.length_map]; show 2 + xx.2.length ≤ _; omega) fun pl => ?_
          walk_at "ys"
          refine ⟨by show 2 ≤ 1000000; decide, fun pu => ?_⟩
          walk_at "ys"
          refine Lift.bring [ps] ?_
          refine m_appendR (by rw [List.length_map, List.length_reverse]; omega) ?_
          refine Lift.bring [ps, pc, pu, pl] ?_
          walk_at "ys"
          have eR : (its2.reverse.map fun i : Addr × Addr × BR => V.ref i.1) ++ [V.ref pu] = ((pu, pl, (xx.1, (x.1 + (i : Nat)) :: (z.1 + (j : Nat)) :: xx.2)) :: its2).reverse.map fun i => V.ref i.1 := by
            rw [List.reverse_cons, List.map_append]
            rfl
          rw [eR]
          refine ⟨_, _, _, _, (pu, pl, (xx.1, (x.1 + (i : Nat)) :: (z.1 + (j : Nat)) :: xx.2)) :: its2, rfl, rfl, fun e he => SubF.h e (hF3 e he), by rw [List.length_cons]; omega, ?_⟩
          rw [List.reverse_cons, List.map_append, hit2, hgs, List.append_assoc]
          rfl
      · rintro σ2 y2 ⟨u4, u5, u6, F3, its2, rfl, rfl, hF3, hil2, hit2⟩
        rw [rngD_len] at hil2 hit2
        walk_at "ys"
        refine ⟨_, _, _, _, _, its2, rfl, rfl, fun e he => hF3 e (hF e he), by omega, ?_⟩
        rw [hit2, rgI_succ, List.flatMap_append]
        simp
    · rintro σ' y' ⟨u3, u4, u5, u6, F', its, rfl, rfl, hF, hil, hit⟩
      rw [rngD_len] at hit
      rw [hfew, ← hit] at q
      walk_at "ys"
      cases hrv : its.reverse with
      | nil =>
        rw [hrv] at q
        have q : Φ .non ⟨_, O0⟩ := q F' fun e he => hF e (hF2 e (hF1 e he))
        refine lift_unrawL ?_
        refine o_eqNil C (.own List.mem_cons_self) (.hs (.fact List.mem_cons_self)) ?_
        refine ⟨_, rfl, fun _ => ?_, fun e => (by cases e)⟩
        walk_at "ys"
        exact ⟨_, fun e he => List.mem_cons_of_mem _ he, .cons _ (.cons _ (List.sublist_append_right _ _)), q⟩
      | cons i0 its' =>
        rw [hrv] at q
        have q := q F' fun e he => hF e (hF2 e (hF1 e he))
        refine o_eqConsR C List.mem_cons_self (.fact List.mem_cons_self) ?_
        refine ⟨_, rfl, fun e => (by cases e), fun _ => ?_⟩
        walk_at "ys"
        have hmem : ∀ i, i ∈ i0 :: its' ↔ i ∈ its := fun i => by rw [← hrv, List.mem_reverse]
        refine c_minO C (i0 := i0) (its := its') List.mem_cons_self (fun t p x hm => ?_) (fun i hi => ?_) fun t p hm => ?_
        · have hs := cellsO_sub ((hmem _).mp hm)
          exact ⟨List.mem_cons_of_mem _ (List.mem_cons_of_mem _ (List.mem_append_left _ (hs.subset List.mem_cons_self))), List.mem_cons_of_mem _ (List.mem_cons_of_mem _ (List.mem_append_left _ (hs.subset (List.mem_cons_of_mem _ List.mem_cons_self))))⟩
        · have hx : i.2.2 ∈ (rgI x.1 nx).flatMap fun a => gA r z.1 a nz := by
            rw [← hit, hrv]
            exact List.mem_map.mpr ⟨i, hi, rfl⟩
          exact few_qs hB hnx hnz hx
        · walk_at "ys"
          have q : ∀ t p, Φ (.ref t) ⟨F', (t, .raw (.tup [.int (minB i0.2.2 (its'.map fun i => i.2.2)).1, .ref p])) :: (p, .lst ((minB i0.2.2 (its'.map fun i => i.2.2)).2.map .int)) :: O0⟩ := q
          exact ⟨_, fun e he => List.mem_cons_of_mem _ he, .cons _ (.cons _ ((cellsO_sub ((hmem _).mp hm)).append (List.Sublist.refl O0))), q t p⟩
end

section
variable {P : Program} {w : World} {K : PySem.W.Frag} {mg : Str → Option Value} {base : Heap} {k : Nat}
local macro_rules | `(tactic| walk_at "yd") => `(tactic| repeat ((fail_if_success (refine l_dictT ?_)); first | walk_at "y1" | walk_at "lK" | ((with_reducible show ∀ _, _); intro _)))
theorem cut2 (x z : Int × Int) (r : List (Int × Int)) : cutG (prD (x :: z :: r)) (some 2) none = prD r := by
  have e1 : HT.sIx (prD (x :: z :: r)).length 0 (some 2) = 2 := (HT.sIx_nat _ 0 2).trans (by rw [prD_len]; simp)
  unfold cutG
  rw [e1, HT.sIx_none]
  show List.take _ (prD r) = prD r
  exact List.take_of_length_le (by rw [prD_len, prD_len, List.length_cons, List.length_cons]; omega)
theorem fwD_at {es : FwT} {i : Nat} {ns : List Int} {dv : Dt} (h : (fwD es)[i]? = some (ns, dv)) : ∃ e, es[i]? = some e ∧ ns = [e.1.1, e.1.2] ∧ dv = .tuple [.int e.2.1, .int e.2.2] := by
  unfold fwD at h
  rw [List.getElem?_map] at h
  cases c : es[i]? with
  | none =>
    rw [c] at h
    cases h
  | some e =>
    rw [c] at h
    cases h
    exact ⟨e, rfl, rfl, rfl⟩
def Bw (z : Int × Int) : Prop := z.2 ≤ z.1 + 12 ∧ z.1.natAbs < 2 ^ 60
/-- _law_forward(bounds) -/
def R_fwd : RY := fun vs y Φ _ => ∃ (v : V) (bs : List (Int × Int)), vs = [v] ∧ Hs y.F v (.list (prD bs)) ∧ Bo bs ∧ 2 ≤ bs.length ∧ ∀ u F', (∀ e, e ∈ y.F → e ∈ F') → Hs F' u (dctD (fwD (fwd bs))) → (fwd bs).length ≤ 169 → ((fwd bs).map Prod.fst).Nodup → Φ u ⟨F', y.O⟩
theorem ok_fwd [Bn mg "range"] [Bn mg "max"] [Bn mg "int"] [Bn mg "min"] {f : Addr} {fd : FuncData} (F : Fun K "_law_forward" "_law_forward" s_l_forward f fd) : FnOk P w K mg base (L2.CX P w) (k + 1) f fd ["bounds"] (SpY K 1 R_fwd) := by
  refine fn_w F sc_l_forward rfl ck_l_forward fun X y vs Φ Ψ C hl h => ?_
  obtain ⟨v, bs, rfl, hv, hB, h2, q⟩ := h
  obtain ⟨F0, O0⟩ := y
  have := hv.fa
  obtain ⟨x, z, r, rfl⟩ : ∃ x z r, bs = x :: z :: r := by
    match bs, h2 with
    | x :: z :: r, _ => exact ⟨x, z, r, rfl⟩
  have bx := hB.b x List.mem_cons_self
  have bz := hB.b z (List.mem_cons_of_mem _ List.mem_cons_self)
  show Lift K (wSs X (_ :: _) [some v, none, none, none, none, none, none, none, none, none, none, none, none, none]) _ _ _
  repeat (fail_if_success (refine l_dictT ?_)
          refine go ?_)
  refine l_dictT fun pc => ?_
  walk_at "yf"
  refine s_for C (fun x => NoFold.h _ x) ?_
  walk_at "ys"
  refine ix_lst Rc.h (at_prD (i := 0) (by omega) rfl) C.hK fun x1 => ?_
  walk_at "ys"
  refine ix_lst Rc.h (at_prD (i := 0) (by omega) rfl) C.hK fun x2 => ?_
  walk_at "ys"
  refine ⟨by omega, fun J sr => ?_⟩
  refine ⟨_, sr, fun i σ y' => ∃ (u2 u3 : Option V) (F' : List (V × Dt)) (kc : List (List L2.Key × V)) (es : FwT), σ = [some v, some (.ref pc), u2, u3, none, none, none, none, none, none, none, none, none, none] ∧ y' = ⟨F', (pc, .raw (.dT kc)) :: O0⟩ ∧ (∀ e, e ∈ F0 → e ∈ F') ∧ FwR F' kc es ∧ FwK x z es ∧ es = (rgI x.1 i).foldl (fwIni z) [], ?_, ?_, ?_⟩
  · exact ⟨_, _, _, [], [], rfl, rfl, fun e he => List.mem_cons_of_mem _ (List.mem_cons_of_mem _ he), FwR.nil, fun _ h => by simp at h, rfl⟩
  · rintro i d σ' y' xi hd ⟨u2, u3, F', kc, es, rfl, rfl, hF, hR, hK, hes⟩
    obtain ⟨hi, rfl⟩ := rngD_at hd
    refine Lift.isInt (n := x.1 + (i : Nat)) (.fact List.mem_cons_self) fun e => ?_
    subst e
    have hvF : Hs F' v (.list (prD (x :: z :: r))) := hv.mono hF
    have := hvF.fa
    walk_at "yf"
    refine s_for C (fun x => NoFold.h _ x) ?_
    walk_at "ys"
    refine ix_lst Rc.h (at_prD (i := 1) (by omega) rfl) C.hK fun z1 => ?_
    walk_at "ys"
    refine ix_lst Rc.h (at_prD (i := 1) (by omega) rfl) C.hK fun z2 => ?_
    walk_at "ys"
    refine ⟨by omega, fun J2 sr2 => ?_⟩
    refine ⟨_, sr2, fun j σ y' => ∃ (u3 : Option V) (F2 : List (V × Dt)) (kc : List (List L2.Key × V)) (es2 : FwT), σ = [some v, some (.ref pc), some (.int (x.1 + (i : Nat))), u3, none, none, none, none, none, none, none, none, none, none] ∧ y' = ⟨F2, (pc, .raw (.dT kc)) :: O0⟩ ∧ (∀ e, e ∈ F' → e ∈ F2) ∧ FwR F2 kc es2 ∧ FwK x z es2 ∧ es2 = (rgI z.1 j).foldl (fun acc n => putFw acc (n, n - (x.1 + (i : Nat))) (1, 0)) es, ?_, ?_, ?_⟩
    · refine ⟨_, _, kc, es, rfl, rfl, ?_, hR.mono ?_, hK, rfl⟩ <;> exact fun e he => List.mem_cons_of_mem _ (List.mem_cons_of_mem _ (List.mem_cons_of_mem _ he))
    · rintro j dj σ2 y2 xj hdj ⟨u3, F2, kc, es2, rfl, rfl, hF2, hR2, hK2, hes2⟩
      obtain ⟨hj, rfl⟩ := rngD_at hdj
      refine Lift.isInt (n := z.1 + (j : Nat)) (.fact List.mem_cons_self) fun e => ?_
      subst e
      walk_at "ys"
      refine ⟨by have := hR2.len; have := hK2.few hR2.nd bx.2.1 bz.2.1; omega, ?_⟩
      walk_at "ys"
      refine ⟨_, _, _, putFw es2 (z.1 + (j : Nat), z.1 + (j : Nat) - (x.1 + (i : Nat))) (1, 0), rfl, rfl, fun e he => List.mem_cons_of_mem _ (List.mem_cons_of_mem _ (hF2 e he)), FwR.put (x := (z.1 + (j : Nat), z.1 + (j : Nat) - (x.1 + (i : Nat)))) (u := (1, 0)) (.fact List.mem_cons_self) (hR2.mono fun e he => List.mem_cons_of_mem _ (List.mem_cons_of_mem _ he)), hK2.put (by simp only []; omega), ?_⟩
      rw [rgI_succ, List.foldl_append, ← hes2]
      rfl
    · rintro σ2 y2 ⟨u3, F2, kc, es2, rfl, rfl, hF2, hR2, hK2, hes2⟩
      rw [rngD_len] at hes2
      walk_at "ys"
      refine ⟨_, _, F2, kc, es2, rfl, rfl, fun e he => hF2 e (hF e he), hR2, hK2, ?_⟩
      rw [rgI_succ, List.foldl_append, ← hes, hes2]
      rfl
  · rintro σ' y' ⟨u2, u3, F', kc, es, rfl, rfl, hF, hR, hK, hes⟩
    rw [rngD_len] at hes
    have hvF : Hs F' v (.list (prD (x :: z :: r))) := hv.mono hF
    have := hvF.fa
    have hes0 : fwd (x :: z :: r) = r.foldl fwStep es := by rw [hes]; rfl
    refine Lift.dct hR.hk hR.hv ?_
    refine s_for C (fun x => NoFold.h _ x) ?_
    walk_at "ys"
    refine ⟨_, ‹_›, fun i σ y' => ∃ (u2 u4 u5 u6 u7 u8 u9 u10 u11 u12 u13 : Option V) (u : V) (F' : List (V × Dt)) (es : FwT) (xp zp : Int × Int), σ = [some v, some u, u2, u3, u4, u5, u6, u7, u8, u9, u10, u11, u12, u13] ∧ y' = ⟨F', O0⟩ ∧ (∀ e, e ∈ F0 → e ∈ F') ∧ Hs F' u (dctD (fwD es)) ∧ (es.map Prod.fst).Nodup ∧ es.length ≤ 169 ∧ (FwK xp zp es ∧ Bw xp ∧ Bw zp) ∧ fwd (x :: z :: r) = (r.drop i).foldl fwStep es, ?_, ?_, ?_⟩
    · refine ⟨_, _, _, _, _, _, _, _, _, _, _, _, _, es, x, z, rfl, rfl, fun e he => List.mem_cons_of_mem _ (List.mem_cons_of_mem _ (hF e he)), .fact (List.mem_cons_of_mem _ List.mem_cons_self), hR.nd, hK.few hR.nd bx.2.1 bz.2.1, ⟨hK, ⟨bx.2.1, bx.2.2⟩, bz.2.1, bz.2.2⟩, hes0⟩
    · rintro i d σ' y' xi hd ⟨u2, u4, u5, u6, u7, u8, u9, u10, u11, u12, u13, u, F1, es, xp, zp, rfl, rfl, hF1, hu, hn, hl, ⟨hKp, bxp, bzp⟩, hfw⟩
      rw [cut2] at hd
      obtain ⟨w, hw, rfl⟩ := prD_at hd
      have bw := hB.b w (List.mem_cons_of_mem _ (List.mem_cons_of_mem _ (List.mem_of_getElem? hw)))
      refine g_two C (.hs (.fact List.mem_cons_self)) ?_
      repeat (fail_if_success (refine l_dictT ?_)
              refine go ?_)
      refine l_dictT fun pf => ?_
      walk_at "yf"
      refine s_forK (v := u) (es := fwD es) C (fun x => NoFold.h _ x) (hu.mono ?_) ?_ (fun i σ y' => ∃ (u6 u7 u8 u9 u10 u11 u12 u13 : Option V) (F2 : List (V × Dt)) (kc : List (List L2.Key × V)) (acc : FwT), σ = [some v, some u, some (.int w.1), u3, some (.int w.2), some (.ref pf), u6, u7, u8, u9, u10, u11, u12, u13] ∧ y' = ⟨F2, (pf, .raw (.dT kc)) :: O0⟩ ∧ (∀ e, e ∈ F1 → e ∈ F2) ∧ FwR F2 kc acc ∧ FwK zp w acc ∧ acc = (es.take i).foldl (fwRow w) []) ?_ ?_ ?_
      · exact fun e he => List.mem_cons_of_mem _ he
      · intro Φ' hΦ
        walk_at "ys"
        exact hΦ
      · exact ⟨_, _, _, _, _, _, _, _, _, [], [], rfl, rfl, fun e he => List.mem_cons_of_mem _ he, FwR.nil, fun _ h => by simp at h, rfl⟩
      · rintro j ns dv σ2 y2 xj hj ⟨u6, u7, u8, u9, u10, u11, u12, u13, F2, kc, acc, rfl, rfl, hF2, hR2, hK2, hacc⟩
        obtain ⟨⟨⟨last, step⟩, m, b⟩, he, rfl, rfl⟩ := fwD_at hj
        have hem := List.mem_of_getElem? he
        obtain ⟨k1, k2, k3, k4⟩ := hKp _ (List.mem_map.mpr ⟨_, hem, rfl⟩)
        simp only [] at k1 k2 k3 k4
        obtain ⟨bp1, bp2⟩ := bxp
        obtain ⟨bq1, bq2⟩ := bzp
        refine Lift.key (ns := [last, step]) (.fact List.mem_cons_self) ?_
        refine g_two C (.hs (.fact List.mem_cons_self)) ?_
        repeat (fail_if_success (refine l_ixF C ?_)
                refine go ?_)
        refine l_ixF C ?_
        walk_at "ys"
        refine ⟨[last, step], fwD es, .tuple [.int m, .int b], (hu.mono hF2).mono ?_, rfl, Nat.le_of_ble_eq_true rfl, fw_lk (x := (last, step)) (u := (m, b)) hn hem, fun r => ?_⟩
        · exact fun e he => List.mem_cons_of_mem _ (List.mem_cons_of_mem _ he)
        refine g_two C (.hs (.fact List.mem_cons_self)) ?_
        walk_at "yf"
        refine s_for C (fun x => NoFold.h _ x) ?_
        walk_at "ys"
        refine ⟨by omega, fun J sr => ?_⟩
        have hlo := Int.le_max_left w.1 (last + step)
        obtain ⟨lo, hlo2⟩ : ∃ lo, max w.1 (last + step) = lo := ⟨_, rfl⟩
        rw [hlo2] at sr hlo
        refine ⟨_, sr, fun l σ y' => ∃ (u10 u11 u12 u13 : Option V) (F3 : List (V × Dt)) (kc : List (List L2.Key × V)) (acc2 : FwT), σ = [some v, some u, some (.int w.1), u3, some (.int w.2), some (.ref pf), some (.int last), some (.int step), some (.int m), some (.int b), u10, u11, u12, u13] ∧ y' = ⟨F3, (pf, .raw (.dT kc)) :: O0⟩ ∧ (∀ e, e ∈ F2 → e ∈ F3) ∧ FwR F3 kc acc2 ∧ FwK zp w acc2 ∧ acc2 = (rgI lo l).foldl (fwPut last step m b) acc, ?_, ?_, ?_⟩
        · exact ⟨_, _, _, _, _, kc, acc, rfl, rfl, fun e he => SubF.h e he, hR2.mono fun e he => SubF.h e he, hK2, rfl⟩
        · rintro l dl σ3 y3 xl hdl ⟨u10, u11, u12, u13, F3, kc, acc2, rfl, rfl, hF3, hR3, hK3, hacc2⟩
          obtain ⟨hl', rfl⟩ := rngD_at hdl
          refine Lift.isInt (n := lo + (l : Nat)) (.fact List.mem_cons_self) fun e => ?_
          subst e
          repeat (fail_if_success (refine l_tupR ?_)
                  refine go ?_)
          refine l_tupR ?_
          walk_at "ys"
          refine ⟨Nat.le_of_ble_eq_true rfl, fun ph => ?_⟩
          repeat (fail_if_success (refine l_dget2 C ⟨rfl, rfl, rfl, rfl⟩ ?_)
                  refine go ?_)
          refine l_dget2 C ⟨rfl, rfl, rfl, rfl⟩ ?_
          walk_at "ys"
          refine ⟨pf, kc, rfl, List.mem_cons_of_mem _ List.mem_cons_self, ?_⟩
          walk_at "ys"
          refine ⟨ph, [lo + (l : Nat), lo + (l : Nat) - last], rfl, List.mem_cons_of_mem _ List.mem_cons_self, List.mem_cons_self, ?_⟩
          rename_i pz
          obtain ⟨fb, hfb⟩ : ∃ fb, b + bI (!decide (lo + (l : Nat) = last + step)) = fb := ⟨_, rfl⟩
          obtain ⟨g, hg⟩ : ∃ g, (valV kc (ky [lo + (l : Nat), lo + (l : Nat) - last])).getD (V.ref pz) = g := ⟨_, rfl⟩
          rw [hg]
          have hT := FwR.get (F := (V.ref pz, PyData.tuple [.int 0, .int fb]) :: (V.int (lo + (l : Nat)), PyData.int (lo + (l : Nat))) :: F3) (x := (lo + (l : Nat), lo + (l : Nat) - last)) (d := fb) (z := V.ref pz) (.fact List.mem_cons_self) (hR3.mono fun e he => List.mem_cons_of_mem _ (List.mem_cons_of_mem _ he))
          simp only [] at hT
          rw [hg] at hT
          obtain ⟨tt, htt⟩ : ∃ tt, (getFw acc2 (lo + (l : Nat), lo + (l : Nat) - last)).getD (0, fb) = tt := ⟨_, rfl⟩
          rw [htt] at hT
          show Lift K (wSs X (_ :: _) [some v, some u, some (V.int w.1), u3, some (V.int w.2), some (V.ref pf), some (V.int last), some (V.int step), some (V.int m), some (V.int b), some (V.int (lo + (l : Nat))), some (V.ref ph), some (V.int (b + bI (!decide (lo + (l : Nat) = last + step)))), some g]) ⟨(V.ref pz, PyData.tuple [.int 0, .int (b + bI (!decide (lo + (l : Nat) = last + step)))]) :: (V.int (lo + (l : Nat)), PyData.int (lo + (l : Nat))) :: F3, (ph, OD.raw (HO.tup [V.int (lo + (l : Nat)), V.int (lo + (l : Nat) - last)])) :: (pf, .raw (.dT kc)) :: O0⟩ _ _
          rw [hfb]
          refine Lift.know hT ?_
          refine Lift.sw1 ?_
          walk_at "ys"
          refine st_dTu (ns := [lo + (l : Nat), lo + (l : Nat) - last]) C List.mem_cons_self (by have := hR3.len; have := hK3.few hR3.nd bq1 bw.2.1; omega) ?_
          refine Lift.sw1 (Lift.drop ?_)
          walk_at "ys"
          refine ⟨_, _, _, _, _, _, putFw acc2 (lo + (l : Nat), lo + (l : Nat) - last) (tt.1 + m, min tt.2 fb), rfl, rfl, fun e he => SubF.h e (hF3 e he), FwR.put (x := (lo + (l : Nat), lo + (l : Nat) - last)) (u := (tt.1 + m, min tt.2 fb)) (.fact List.mem_cons_self) (hR3.mono fun e he => SubF.h e he), hK3.put (by simp only []; omega), ?_⟩
          rw [rgI_succ, List.foldl_append, ← hacc2]
          show _ = fwPut last step m b acc2 (lo + (l : Nat))
          unfold fwPut
          rw [hfb, htt]
        · rintro σ3 y3 ⟨u10, u11, u12, u13, F3, kc, acc2, rfl, rfl, hF3, hR3, hK3, hacc2⟩
          rw [rngD_len] at hacc2
          walk_at "ys"
          refine ⟨_, _, _, _, _, _, _, _, F3, kc, acc2, rfl, rfl, fun e he => hF3 e (hF2 e he), hR3, hK3, ?_⟩
          rw [List.take_add_one, he, List.foldl_append, ← hacc, hacc2, ← hlo2]
          rfl
      · rintro σ2 y2 ⟨u6, u7, u8, u9, u10, u11, u12, u13, F2, kc, acc, rfl, rfl, hF2, hR2, hK2, hacc⟩
        refine Lift.dct hR2.hk hR2.hv ?_
        walk_at "ys"
        rw [show (fwD es).length = es.length from by unfold fwD; rw [List.length_map], List.take_length] at hacc
        have hacc : acc = fwStep es w := hacc
        refine ⟨_, _, _, _, _, _, _, _, _, _, _, _, _, acc, zp, w, rfl, rfl, fun e he => List.mem_cons_of_mem _ (hF2 e (hF1 e he)), .fact List.mem_cons_self, hR2.nd, hK2.few hR2.nd bzp.1 bw.2.1, ⟨hK2, bzp, bw.2.1, bw.2.2⟩, ?_⟩
        rw [hfw, List.drop_eq_getElem_cons (List.getElem?_eq_some_iff.mp hw).1, (List.getElem?_eq_some_iff.mp hw).2, List.foldl_cons, hacc]
    · rintro σ' y' ⟨u2, u4, u5, u6, u7, u8, u9, u10, u11, u12, u13, u, F1, es, xp, zp, rfl, rfl, hF1, hu, hn, hl, ⟨hKp, bxp, bzp⟩, hfw⟩
      walk_at "ys"
      rw [show (cutG (prD (x :: z :: r)) (some 2) none).length = r.length from by rw [cut2, prD_len], List.drop_length] at hfw
      have hfw : fwd (x :: z :: r) = es := hfw
      exact rw_rt (q u F1 hF1 (by rw [hfw]; exact hu) (by rw [hfw]; exact hl) (by rw [hfw]; exact hn))
end

section
/-! the forward table's bends: the fewest of the rows that end so -/
theorem bnS_snoc : ∀ (t : List Int) (a h u v n : Int), bnS a h (t ++ [u, v] ++ [n]) = bnS a h (t ++ [u, v]) + bI (!decide (n = 2 * v - u))
  | [], a, h, u, v, n => by
    show bnS a h [u, v, n] = bnS a h [u, v] + _
    show bnS u v [n] + bI (!decide (v = 2 * u - h)) + bI (!decide (u = 2 * h - a)) = bnS u v [] + bI (!decide (v = 2 * u - h)) + bI (!decide (u = 2 * h - a)) + _
    show bnS v n [] + bI (!decide (n = 2 * v - u)) + _ + _ = _
    show (0 : Int) + bI (!decide (n = 2 * v - u)) + _ + _ = 0 + _ + _ + _
    omega
  | w :: t, a, h, u, v, n => by
    show bnS h w (t ++ [u, v] ++ [n]) + _ = bnS h w (t ++ [u, v]) + _ + _
    rw [bnS_snoc t h w u v n]
    omega
theorem bendN_snoc (pre : List Int) (u v n : Int) : bendN (pre ++ [u, v] ++ [n]) = bendN (pre ++ [u, v]) + bI (!decide (n = 2 * v - u)) := by
  match pre with
  | [] =>
    show bnS u v [n] = bnS u v [] + _
    show bnS v n [] + bI (!decide (n = 2 * v - u)) = 0 + _
    show (0 : Int) + _ = _
    rfl
  | [a] =>
    show bnS a u [v, n] = bnS a u [v] + _
    show bnS u v [n] + bI (!decide (v = 2 * u - a)) = bnS u v [] + bI (!decide (v = 2 * u - a)) + _
    show bnS v n [] + bI (!decide (n = 2 * v - u)) + _ = 0 + _ + _
    show (0 : Int) + _ + _ = _
    omega
  | a :: h :: t => exact bnS_snoc t a h u v n
theorem getFw_put (x : Int × Int) (u : Int × Int) (y : Int × Int) : ∀ es : FwT, getFw (putFw es x u) y = if y = x then some u else getFw es y
  | [] => by
    show (if x = y then some u else none) = _
    by_cases c : y = x
    · rw [if_pos c, if_pos c.symm]
    · rw [if_neg c, if_neg fun e => c e.symm]
      rfl
  | (q, v) :: r => by
    by_cases c : q = x
    · rw [show putFw ((q, v) :: r) x u = (q, u) :: r from if_pos c]
      subst c
      show (if q = y then some u else getFw r y) = _
      by_cases c2 : y = q
      · rw [if_pos c2, if_pos c2.symm]
      · rw [if_neg c2, if_neg fun e => c2 e.symm]
        show _ = if q = y then some v else getFw r y
        rw [if_neg fun e => c2 e.symm]
    · rw [show putFw ((q, v) :: r) x u = (q, v) :: putFw r x u from if_neg c]
      show (if q = y then some v else getFw (putFw r x u) y) = if y = x then some u else (if q = y then some v else getFw r y)
      rw [getFw_put x u y r]
      by_cases c2 : q = y
      · rw [if_pos c2, if_pos c2, if_neg fun e => c (c2.trans e)]
      · rw [if_neg c2, if_neg c2]
theorem getFw_mem {x v : Int × Int} : ∀ {es : FwT}, (es.map Prod.fst).Nodup → (x, v) ∈ es → getFw es x = some v
  | e :: r, hn, hm => by
    rw [List.map_cons] at hn
    have hn := List.nodup_cons.mp hn
    show (if e.1 = x then some e.2 else getFw r x) = _
    rcases List.mem_cons.mp hm with h | h
    · subst h
      rw [if_pos rfl]
    · rw [if_neg fun e2 => hn.1 (by rw [e2]; exact List.mem_map.mpr ⟨_, h, rfl⟩)]
      exact getFw_mem hn.2 h
theorem mem_getFw {x v : Int × Int} : ∀ {es : FwT}, getFw es x = some v → (x, v) ∈ es
  | e :: r, h => by
    have h : (if e.1 = x then some e.2 else getFw r x) = some v := h
    by_cases c : e.1 = x
    · rw [if_pos c] at h
      cases h
      subst c
      exact List.mem_cons_self
    · rw [if_neg c] at h
      exact List.mem_cons_of_mem _ (mem_getFw h)
/-- what stands comes of a row -/
def FwA (bs : List (Int × Int)) (es : FwT) : Prop := ∀ q v, getFw es q = some v → ∃ pre, (pre ++ [q.1 - q.2, q.1]) ∈ rowsR bs [[]] ∧ bendN (pre ++ [q.1 - q.2, q.1]) = v.2
/-- each row stands for no more than it has -/
def FwB (bs : List (Int × Int)) (es : FwT) : Prop := ∀ pre a h, (pre ++ [a, h]) ∈ rowsR bs [[]] → ∃ v, getFw es (h, h - a) = some v ∧ v.2 ≤ bendN (pre ++ [a, h])
theorem fwPut_get (last step m b : Int) (acc : FwT) (n : Int) (q : Int × Int) : getFw (fwPut last step m b acc n) q = if q = (n, n - last) then some (((getFw acc (n, n - last)).getD (0, b + bI (!decide (n = last + step)))).1 + m, min ((getFw acc (n, n - last)).getD (0, b + bI (!decide (n = last + step)))).2 (b + bI (!decide (n = last + step)))) else getFw acc q := by
  unfold fwPut
  rw [getFw_put]
/-- no value grows -/
theorem fwPut_low {last step m b : Int} {acc : FwT} {n : Int} {q v : Int × Int} (h : getFw acc q = some v) : ∃ v', getFw (fwPut last step m b acc n) q = some v' ∧ v'.2 ≤ v.2 := by
  rw [fwPut_get]
  by_cases c : q = (n, n - last)
  · rw [if_pos c]
    subst c
    rw [h]
    refine ⟨_, rfl, ?_⟩
    show min v.2 _ ≤ v.2
    omega
  · rw [if_neg c]
    exact ⟨v, h, Int.le_refl _⟩
theorem fwPut_here (last step m b : Int) (acc : FwT) (n : Int) : ∃ v', getFw (fwPut last step m b acc n) (n, n - last) = some v' ∧ v'.2 ≤ b + bI (!decide (n = last + step)) := by
  rw [fwPut_get, if_pos rfl]
  refine ⟨_, rfl, ?_⟩
  show min _ _ ≤ _
  omega
theorem fwRow_low {last step m b : Int} {q v : Int × Int} : ∀ (ns : List Int) {acc : FwT}, getFw acc q = some v → ∃ v', getFw (ns.foldl (fwPut last step m b) acc) q = some v' ∧ v'.2 ≤ v.2
  | [], _, h => ⟨v, h, Int.le_refl _⟩
  | n :: ns, acc, h => by
    obtain ⟨v1, h1, l1⟩ := fwPut_low (last := last) (step := step) (m := m) (b := b) (n := n) h
    obtain ⟨v2, h2, l2⟩ := fwRow_low ns h1
    exact ⟨v2, h2, by omega⟩
theorem fwRow_here {last step m b n : Int} : ∀ (ns : List Int) (acc : FwT), n ∈ ns → ∃ v', getFw (ns.foldl (fwPut last step m b) acc) (n, n - last) = some v' ∧ v'.2 ≤ b + bI (!decide (n = last + step))
  | k :: ns, acc, h => by
    rcases List.mem_cons.mp h with rfl | h
    · obtain ⟨v1, h1, l1⟩ := fwPut_here last step m b acc n
      obtain ⟨v2, h2, l2⟩ := fwRow_low (last := last) (step := step) (m := m) (b := b) ns h1
      exact ⟨v2, h2, by omega⟩
    · exact fwRow_here ns _ h
theorem fwStep_low {z : Int × Int} {q v : Int × Int} : ∀ (es acc : FwT), getFw acc q = some v → ∃ v', getFw (es.foldl (fwRow z) acc) q = some v' ∧ v'.2 ≤ v.2
  | [], _, h => ⟨v, h, Int.le_refl _⟩
  | e :: es, acc, h => by
    obtain ⟨v1, h1, l1⟩ := fwRow_low (last := e.1.1) (step := e.1.2) (m := e.2.1) (b := e.2.2) (rgI (max z.1 (e.1.1 + e.1.2)) (z.2 + 1 - max z.1 (e.1.1 + e.1.2)).toNat) h
    obtain ⟨v2, h2, l2⟩ := fwStep_low es _ h1
    exact ⟨v2, h2, by omega⟩
theorem fwStep_here {z : Int × Int} {e : (Int × Int) × (Int × Int)} {n : Int} (h1 : z.1 ≤ n) (h2 : n ≤ z.2) (h3 : e.1.1 + e.1.2 ≤ n) : ∀ (es acc : FwT), e ∈ es → ∃ v', getFw (es.foldl (fwRow z) acc) (n, n - e.1.1) = some v' ∧ v'.2 ≤ e.2.2 + bI (!decide (n = e.1.1 + e.1.2))
  | k :: es, acc, hm => by
    rcases List.mem_cons.mp hm with rfl | hm
    · obtain ⟨v1, g1, l1⟩ := fwRow_here (last := e.1.1) (step := e.1.2) (m := e.2.1) (b := e.2.2) (n := n) (rgI (max z.1 (e.1.1 + e.1.2)) (z.2 + 1 - max z.1 (e.1.1 + e.1.2)).toNat) acc (rgI_mem.mpr (by omega))
      obtain ⟨v2, g2, l2⟩ := fwStep_low es _ g1
      exact ⟨v2, g2, by omega⟩
    · exact fwStep_here h1 h2 h3 es _ hm
theorem rows_snoc {bs : List (Int × Int)} {z : Int × Int} {pre : List Int} {u v n : Int} : (pre ++ [u, v] ++ [n]) ∈ rowsR (bs ++ [z]) [[]] ↔ (pre ++ [u, v]) ∈ rowsR bs [[]] ∧ z.1 ≤ n ∧ n ≤ z.2 ∧ 2 * v - u ≤ n := by
  rw [rowsR_snoc, List.mem_flatMap]
  constructor
  · rintro ⟨row, hrow, hx⟩
    obtain ⟨k, k1, k2, k3, e⟩ := mem_step.mp hx
    obtain ⟨e1, e2⟩ := List.append_inj' e rfl
    subst e1
    cases e2
    rw [okR_two] at k3
    exact ⟨hrow, k1, k2, of_decide_eq_true k3⟩
  · rintro ⟨h1, h2, h3, h4⟩
    exact ⟨_, h1, mem_step.mpr ⟨n, h2, h3, by rw [okR_two]; exact decide_eq_true h4, rfl⟩⟩
theorem fwRow_A {bs : List (Int × Int)} {z : Int × Int} {last step m b : Int} {pre : List Int} (hp : (pre ++ [last - step, last]) ∈ rowsR bs [[]]) (hb : bendN (pre ++ [last - step, last]) = b) : ∀ (ns : List Int) (acc : FwT), (∀ n ∈ ns, z.1 ≤ n ∧ n ≤ z.2 ∧ last + step ≤ n) → FwA (bs ++ [z]) acc → FwA (bs ++ [z]) (ns.foldl (fwPut last step m b) acc)
  | [], _, _, h => h
  | n :: ns, acc, hn, h => by
    refine fwRow_A hp hb ns _ (fun k hk => hn k (List.mem_cons_of_mem _ hk)) fun q v hq => ?_
    rw [fwPut_get] at hq
    obtain ⟨n1, n2, n3⟩ := hn n List.mem_cons_self
    by_cases c : q = (n, n - last)
    · subst c
      rw [if_pos rfl] at hq
      have new : ∃ pre', (pre' ++ [n - (n - last), n]) ∈ rowsR (bs ++ [z]) [[]] ∧ bendN (pre' ++ [n - (n - last), n]) = b + bI (!decide (n = last + step)) := by
        refine ⟨pre ++ [last - step], ?_⟩
        rw [show n - (n - last) = last by omega, show pre ++ [last - step] ++ [last, n] = pre ++ [last - step, last] ++ [n] by simp, rows_snoc, bendN_snoc, hb, show 2 * last - (last - step) = last + step by omega]
        exact ⟨⟨hp, n1, n2, n3⟩, rfl⟩
      cases e : getFw acc (n, n - last) with
      | none =>
        rw [e] at hq
        cases hq
        obtain ⟨p1, p2, p3⟩ := new
        refine ⟨p1, p2, p3.trans ?_⟩
        show _ = min (b + _) (b + _)
        rw [Int.min_self]
      | some w =>
        rw [e] at hq
        cases hq
        obtain ⟨p1, p2, p3⟩ := h _ _ e
        show ∃ pre', _ ∧ bendN _ = min w.2 (b + bI (!decide (n = last + step)))
        by_cases c2 : w.2 ≤ b + bI (!decide (n = last + step))
        · rw [Int.min_eq_left c2]
          exact ⟨p1, p2, p3⟩
        · rw [Int.min_eq_right (by omega)]
          exact new
    · rw [if_neg c] at hq
      exact h q v hq
theorem fwStep_A {bs : List (Int × Int)} {z : Int × Int} : ∀ (es acc : FwT), (∀ e ∈ es, ∃ pre, (pre ++ [e.1.1 - e.1.2, e.1.1]) ∈ rowsR bs [[]] ∧ bendN (pre ++ [e.1.1 - e.1.2, e.1.1]) = e.2.2) → FwA (bs ++ [z]) acc → FwA (bs ++ [z]) (es.foldl (fwRow z) acc)
  | [], _, _, h => h
  | e :: es, acc, he, h => by
    refine fwStep_A es _ (fun k hk => he k (List.mem_cons_of_mem _ hk)) ?_
    obtain ⟨pre, p1, p2⟩ := he e List.mem_cons_self
    refine fwRow_A p1 p2 _ acc (fun n hn => ?_) h
    have := rgI_mem.mp hn
    omega
theorem fwStep_AB {bs : List (Int × Int)} {z : Int × Int} {es : FwT} (hl : 2 ≤ bs.length) (hn : (es.map Prod.fst).Nodup) (hA : FwA bs es) (hB : FwB bs es) : FwA (bs ++ [z]) (fwStep es z) ∧ FwB (bs ++ [z]) (fwStep es z) := by
  refine ⟨fwStep_A es [] (fun e he => hA e.1 e.2 (getFw_mem hn he)) (fun q v h => by cases h), fun pre a h hr => ?_⟩
  -- the row ahead
  have hlen := rows_ln (bs ++ [z]) [[]] 0 (fun r hr => by
    cases List.mem_singleton.mp hr
    rfl) _ hr
  rw [List.length_append, List.length_append] at hlen
  have hlen : pre.length + 2 = 0 + (bs.length + 1) := hlen
  obtain ⟨pre', u, rfl⟩ : ∃ pre' u, pre = pre' ++ [u] := ⟨pre.dropLast, pre.getLast (by intro e; rw [e] at hlen; simp at hlen; omega), (List.dropLast_concat_getLast _).symm⟩
  have e : pre' ++ [u] ++ [a, h] = pre' ++ [u, a] ++ [h] := by simp
  rw [e] at hr ⊢
  obtain ⟨r1, r2, r3, r4⟩ := rows_snoc.mp hr
  obtain ⟨v, hv, hvl⟩ := hB pre' u a r1
  obtain ⟨v', g1, g2⟩ := fwStep_here (z := z) (e := ((a, a - u), v)) r2 r3 (by simp only []; omega) es [] (mem_getFw hv)
  refine ⟨v', g1, ?_⟩
  rw [bendN_snoc]
  have g2 : v'.2 ≤ v.2 + bI (!decide (h = a + (a - u))) := g2
  rw [show a + (a - u) = 2 * a - u by omega] at g2
  omega
theorem putFold_nd {α : Type} (f : FwT → α → FwT) (hf : ∀ acc x, (acc.map Prod.fst).Nodup → ((f acc x).map Prod.fst).Nodup) : ∀ (l : List α) (acc : FwT), (acc.map Prod.fst).Nodup → ((l.foldl f acc).map Prod.fst).Nodup
  | [], _, h => h
  | x :: l, acc, h => putFold_nd f hf l _ (hf acc x h)
theorem fwStep_nd {z : Int × Int} {es : FwT} : ((fwStep es z).map Prod.fst).Nodup :=
  putFold_nd _ (fun acc e h => putFold_nd _ (fun acc n h => putFw_nd h) _ acc h) es [] List.nodup_nil
/-- the first two bounds -/
theorem ini_AB {x z : Int × Int} : FwA [x, z] ((rgI x.1 (x.2 + 1 - x.1).toNat).foldl (fwIni z) []) ∧ FwB [x, z] ((rgI x.1 (x.2 + 1 - x.1).toNat).foldl (fwIni z) []) := by
  have hg : ∀ (ns : List Int) (lo : Int) (acc : FwT) (q : Int × Int), getFw (ns.foldl (fun acc n => putFw acc (n, n - lo) (1, 0)) acc) q = if q.1 ∈ ns ∧ q.2 = q.1 - lo then some (1, 0) else getFw acc q := by
    intro ns lo
    induction ns with
    | nil =>
      intro acc q
      rw [if_neg (by simp)]
      rfl
    | cons n ns ih =>
      intro acc q
      rw [List.foldl_cons, ih, getFw_put]
      by_cases c1 : q.1 ∈ ns ∧ q.2 = q.1 - lo
      · rw [if_pos c1, if_pos ⟨List.mem_cons_of_mem _ c1.1, c1.2⟩]
      · rw [if_neg c1]
        by_cases c2 : q = (n, n - lo)
        · rw [if_pos c2, if_pos (by rw [c2]; exact ⟨List.mem_cons_self, rfl⟩)]
        · rw [if_neg c2, if_neg]
          rintro ⟨h1, h2⟩
          rcases List.mem_cons.mp h1 with h1 | h1
          · exact c2 (Prod.ext h1 (by rw [h2, h1]))
          · exact c1 ⟨h1, h2⟩
  have hg2 : ∀ (ls : List Int) (acc : FwT) (q : Int × Int), getFw (ls.foldl (fwIni z) acc) q = if (q.1 - q.2) ∈ ls ∧ z.1 ≤ q.1 ∧ q.1 ≤ z.2 then some (1, 0) else getFw acc q := by
    intro ls
    induction ls with
    | nil =>
      intro acc q
      rw [if_neg (by simp)]
      rfl
    | cons lo ls ih =>
      intro acc q
      rw [List.foldl_cons, ih]
      unfold fwIni
      rw [hg]
      by_cases c1 : (q.1 - q.2) ∈ ls ∧ z.1 ≤ q.1 ∧ q.1 ≤ z.2
      · rw [if_pos c1, if_pos ⟨List.mem_cons_of_mem _ c1.1, c1.2⟩]
      · rw [if_neg c1]
        by_cases c2 : q.1 ∈ rgI z.1 (z.2 + 1 - z.1).toNat ∧ q.2 = q.1 - lo
        · have := rgI_mem.mp c2.1
          rw [if_pos c2, if_pos ⟨by rw [show q.1 - q.2 = lo by omega]; exact List.mem_cons_self, by omega, by omega⟩]
        · rw [if_neg c2, if_neg]
          rintro ⟨h1, h2, h3⟩
          rcases List.mem_cons.mp h1 with h1 | h1
          · exact c2 ⟨rgI_mem.mpr (by omega), by omega⟩
          · exact c1 ⟨h1, h2, h3⟩
  have hr : ∀ a h, ([a, h] : List Int) ∈ rowsR [x, z] [[]] ↔ x.1 ≤ a ∧ a ≤ x.2 ∧ z.1 ≤ h ∧ h ≤ z.2 := fun a h => by
    rw [rows_two]
    constructor
    · rintro ⟨a', h', t, e, h1, h2, h3, h4, _⟩
      simp only [List.cons.injEq] at e
      obtain ⟨rfl, rfl, _⟩ := e
      exact ⟨h1, h2, h3, h4⟩
    · rintro ⟨h1, h2, h3, h4⟩
      exact ⟨a, h, [], rfl, h1, h2, h3, h4, rfl⟩
  refine ⟨fun q v hq => ?_, fun pre a h hm => ?_⟩
  · rw [hg2] at hq
    by_cases c : (q.1 - q.2) ∈ rgI x.1 (x.2 + 1 - x.1).toNat ∧ z.1 ≤ q.1 ∧ q.1 ≤ z.2
    · rw [if_pos c] at hq
      cases hq
      have := rgI_mem.mp c.1
      refine ⟨[], (hr _ _).mpr ⟨by omega, by omega, c.2.1, c.2.2⟩, rfl⟩
    · rw [if_neg c] at hq
      cases hq
  · have hlen := rows_ln [x, z] [[]] 0 (fun r hr => by
      cases List.mem_singleton.mp hr
      rfl) _ hm
    rw [List.length_append] at hlen
    have : pre = [] := List.length_eq_zero_iff.mp (by
      have : pre.length + 2 = 0 + 2 := hlen
      omega)
    subst this
    have := (hr a h).mp hm
    refine ⟨(1, 0), ?_, Int.le_refl _⟩
    rw [hg2, if_pos ⟨by rw [show h - (h - a) = a by omega]; exact rgI_mem.mpr (by omega), by omega, by omega⟩]
theorem fwd_AB {bs : List (Int × Int)} (hl : 2 ≤ bs.length) : FwA bs (fwd bs) ∧ FwB bs (fwd bs) := by
  match bs, hl with
  | x :: z :: r, _ =>
    have aux : ∀ (r pre : List (Int × Int)) (es : FwT), 2 ≤ pre.length → (es.map Prod.fst).Nodup → FwA pre es → FwB pre es → FwA (pre ++ r) (r.foldl fwStep es) ∧ FwB (pre ++ r) (r.foldl fwStep es) := by
      intro r
      induction r with
      | nil =>
        intro pre es _ _ h1 h2
        rw [List.append_nil]
        exact ⟨h1, h2⟩
      | cons w r ih =>
        intro pre es h0 hn h1 h2
        obtain ⟨k1, k2⟩ := fwStep_AB (z := w) h0 hn h1 h2
        have := ih (pre ++ [w]) (fwStep es w) (by rw [List.length_append]; omega) fwStep_nd k1 k2
        rw [List.append_assoc] at this
        exact this
    obtain ⟨k1, k2⟩ := ini_AB (x := x) (z := z)
    exact aux r [x, z] _ (Nat.le_refl _) (putFold_nd _ (fun acc lo h => putFold_nd _ (fun acc n h => putFw_nd h) _ acc h) _ [] List.nodup_nil) k1 k2
/-- the least of all -/
def lstS (bs : List (Int × Int)) : Int := match fewS bs with
  | none => 100
  | some x => x.1
theorem fwd_least {bs : List (Int × Int)} (hB : Bo bs) (hl : 2 ≤ bs.length) (hn : ((fwd bs).map Prod.fst).Nodup) : lstS bs ∈ ((fwd bs).map fun e => e.2.2) ++ [100] ∧ ∀ y ∈ ((fwd bs).map fun e => e.2.2) ++ [100], lstS bs ≤ y := by
  obtain ⟨hA, hBb⟩ := fwd_AB hl
  have is := fewS_is hB
  have hrow : ∀ row ∈ rowsR bs [[]], ∃ pre a h, row = pre ++ [a, h] := fun row hr => by
    have := rows_ln bs [[]] 0 (fun r hr => by
      cases List.mem_singleton.mp hr
      rfl) row hr
    exact two_last (by omega)
  unfold lstS
  cases e : fewS bs with
  | none =>
    rw [e] at is
    refine ⟨List.mem_append_right _ List.mem_cons_self, fun y hy => ?_⟩
    rcases List.mem_append.mp hy with hy | hy
    · obtain ⟨⟨q, v⟩, hq, rfl⟩ := List.mem_map.mp hy
      obtain ⟨pre, p1, _⟩ := hA q v (getFw_mem hn hq)
      exact absurd p1 (is _)
    · cases List.mem_singleton.mp hy
      exact Int.le_refl _
  | some x =>
    rw [e] at is
    obtain ⟨i1, i2, i3⟩ := is
    have hge : ∀ row ∈ rowsR bs [[]], x.1 ≤ bendN row := fun row hr => by
      have := i3 row hr
      unfold ltB at this
      simp only [Bool.or_eq_false_iff, decide_eq_false_iff_not] at this
      omega
    obtain ⟨pre, a, h, hx⟩ := hrow _ i1
    obtain ⟨v, v1, v2⟩ := hBb pre a h (by rw [← hx]; exact i1)
    rw [← hx, ← i2] at v2
    obtain ⟨pre', p1, p2⟩ := hA _ _ v1
    have := hge _ p1
    have ev : v.2 = x.1 := by omega
    refine ⟨List.mem_append_left _ (List.mem_map.mpr ⟨_, mem_getFw v1, ev⟩), fun y hy => ?_⟩
    rcases List.mem_append.mp hy with hy | hy
    · obtain ⟨⟨q, w⟩, hq, rfl⟩ := List.mem_map.mp hy
      obtain ⟨pre2, p3, p4⟩ := hA q w (getFw_mem hn hq)
      have := hge _ p3
      show x.1 ≤ w.2
      omega
    · cases List.mem_singleton.mp hy
      have hlen := rows_ln bs [[]] 0 (fun r hr => by
        cases List.mem_singleton.mp hr
        rfl) _ i1
      have hb : x.1 ≤ (x.2.length : Int) := by
        rw [i2]
        match h : x.2 with
        | [] => exact Int.le_refl _
        | [_] => show (0 : Int) ≤ _; omega
        | a :: b :: t =>
          have := (bnS_bd t a b).2
          show bnS a b t ≤ _
          rw [List.length_cons, List.length_cons]
          omega
      have := hB.l2
      show x.1 ≤ 100
      omega
end

section
/-! plain laws of the fewest bends: turned about, lesser numbers, bends counted -/
theorem bendN_front (a h n : Int) (t : List Int) : bendN (a :: h :: n :: t) = bendN (h :: n :: t) + bI (!decide (n = 2 * h - a)) := rfl
theorem bendN_rev : ∀ row : List Int, bendN row.reverse = bendN row
  | [] => rfl
  | [_] => rfl
  | [_, _] => rfl
  | a :: h :: n :: t => by
    have ih := bendN_rev (h :: n :: t)
    have e1 : (a :: h :: n :: t).reverse = t.reverse ++ [n, h] ++ [a] := by simp
    have e2 : (h :: n :: t).reverse = t.reverse ++ [n, h] := by simp
    rw [e1, bendN_snoc, ← e2, ih, bendN_front, show decide (a = 2 * h - n) = decide (n = 2 * h - a) from decide_eq_decide.mpr (by omega)]
theorem rows_rev_mem {bs : List (Int × Int)} {row : List Int} : row ∈ rowsR bs [[]] ↔ row.reverse ∈ rowsR bs.reverse [[]] := by
  rw [mem_all, mem_all]
  constructor
  · rintro ⟨h1, h2⟩
    exact ⟨h1.rev, h2.rev⟩
  · rintro ⟨h1, h2⟩
    have := h1.rev
    have k2 := h2.rev
    rw [List.reverse_reverse, List.reverse_reverse] at this
    rw [List.reverse_reverse] at k2
    exact ⟨this, k2⟩
theorem isB_ge {P : List Int → Prop} {f : List Int → Int} {x : BR} (h : IsB P f (some x)) {row : List Int} (hr : P row) : x.1 ≤ f row := by
  have := h.2.2 row hr
  unfold ltB at this
  simp only [Bool.or_eq_false_iff, decide_eq_false_iff_not] at this
  omega
theorem few_rev {bs : List (Int × Int)} (hB : Bo bs) : match fewS bs with
    | none => fewS bs.reverse = none
    | some x => ∃ y, fewS bs.reverse = some y ∧ y.1 = x.1 := by
  have i1 := fewS_is hB
  have i2 := fewS_is hB.rev
  cases e : fewS bs with
  | none =>
    rw [e] at i1
    cases e2 : fewS bs.reverse with
    | none => rfl
    | some y =>
      rw [e2] at i2
      have : y.2.reverse ∈ rowsR bs [[]] := rows_rev_mem.mpr (by rw [List.reverse_reverse]; exact i2.1)
      exact absurd this (i1 _)
  | some x =>
    rw [e] at i1
    cases e2 : fewS bs.reverse with
    | none =>
      rw [e2] at i2
      exact absurd (rows_rev_mem.mp i1.1) (i2 _)
    | some y =>
      rw [e2] at i2
      refine ⟨y, rfl, ?_⟩
      have h1 := isB_ge i2 (rows_rev_mem.mp i1.1)
      have h2 := isB_ge i1 (row := y.2.reverse) (rows_rev_mem.mpr (by rw [List.reverse_reverse]; exact i2.1))
      rw [bendN_rev] at h1 h2
      have := i1.2.1
      have := i2.2.1
      omega
theorem few_le {bs : List (Int × Int)} (hB : Bo bs) {x : BR} (h : fewS bs = some x) : x.1 ≤ 10 ∧ 0 ≤ x.1 := by
  have i1 := fewS_is hB
  rw [h] at i1
  have hlen := rows_ln bs [[]] 0 (fun r hr => by
    cases List.mem_singleton.mp hr
    rfl) _ i1.1
  have := hB.l2
  have key : 0 ≤ bendN x.2 ∧ bendN x.2 ≤ (x.2.length : Int) := by
    match x.2 with
    | [] => exact ⟨Int.le_refl _, Int.le_refl _⟩
    | [_] => exact ⟨Int.le_refl _, by show (0 : Int) ≤ _; omega⟩
    | a :: b :: t =>
      have := bnS_bd t a b
      rw [List.length_cons, List.length_cons]
      exact ⟨this.1, by show bnS a b t ≤ _; omega⟩
  rw [i1.2.1]
  omega
theorem few_tot {bs : List (Int × Int)} (hB : Bo bs) : decide (0 < totC bs) = !decide (fewS bs = none) := by
  have i1 := fewS_is hB
  rw [← rows_tot hB]
  cases e : fewS bs with
  | none =>
    rw [e] at i1
    cases c : rowsR bs [[]] with
    | nil => rfl
    | cons r _ => exact absurd (by rw [c]; exact List.mem_cons_self) (i1 r)
  | some x =>
    rw [e] at i1
    have := List.length_pos_of_mem i1.1
    rw [decide_eq_true (by omega)]
    rfl
/-- the bends, place by place -/
def bds : List Int → List Int
  | a :: h :: n :: t => (n - 2 * h + a) :: bds (h :: n :: t)
  | _ => []
theorem bds_len : ∀ ns : List Int, (bds ns).length = ns.length - 2
  | [] => rfl
  | [_] => rfl
  | [_, _] => rfl
  | a :: h :: n :: t => by
    show (bds (h :: n :: t)).length + 1 = _
    rw [bds_len (h :: n :: t)]
    rfl
theorem bds_at : ∀ (ns : List Int) (i : Nat) {a h n : Int}, ns[i]? = some a → ns[i + 1]? = some h → ns[i + 2]? = some n → (bds ns)[i]? = some (n - 2 * h + a)
  | a' :: h' :: n' :: t, 0, _, _, _, h1, h2, h3 => by
    cases h1
    cases h2
    cases h3
    rfl
  | a' :: h' :: n' :: t, i + 1, _, _, _, h1, h2, h3 => bds_at (h' :: n' :: t) i h1 h2 h3
  | [], _, _, _, _, h1, _, _ => by cases h1
  | [_], _, _, _, _, _, h2, _ => by cases h2
  | [_, _], _, _, _, _, _, _, h3 => by cases h3
theorem bds_suf : ∀ (r : List (Int × Int)) (a h : Int) (t : List Int), SufOk r a h t → (∀ b ∈ bds (a :: h :: t), 0 ≤ b) ∧ (((bds (a :: h :: t)).filter fun b => decide (0 < b)).length : Int) = bnS a h t
  | [], _, _, _, e => by
    cases (show _ = [] from e)
    exact ⟨fun b hb => (by cases hb), rfl⟩
  | z :: r, a, h, _, ⟨n, t, e, _, _, k3, k⟩ => by
    subst e
    obtain ⟨h1, h2⟩ := bds_suf r h n t k
    have e : bds (a :: h :: n :: t) = (n - 2 * h + a) :: bds (h :: n :: t) := rfl
    rw [e]
    refine ⟨fun b hb => ?_, ?_⟩
    · rcases List.mem_cons.mp hb with rfl | hb
      · omega
      · exact h1 b hb
    · rw [List.filter_cons]
      show _ = bnS h n t + bI (!decide (n = 2 * h - a))
      by_cases c : 0 < n - 2 * h + a
      · rw [if_pos (decide_eq_true c), List.length_cons, decide_eq_false (by omega)]
        show _ = _ + (1 : Int)
        omega
      · rw [if_neg (by rw [decide_eq_false c]; decide), decide_eq_true (by omega)]
        show _ = _ + (0 : Int)
        omega
theorem bds_row {bs : List (Int × Int)} (hl : 2 ≤ bs.length) {row : List Int} (h : row ∈ rowsR bs [[]]) : (∀ b ∈ bds row, 0 ≤ b) ∧ (((bds row).filter fun b => decide (0 < b)).length : Int) = bendN row := by
  match bs, hl with
  | x :: z :: r, _ =>
    obtain ⟨a, h', t, rfl, _, _, _, _, k⟩ := rows_two.mp h
    exact bds_suf r a h' t k
theorem ltL_at : ∀ (i : Nat) {y x : List Int} {a b : Int}, (∀ j, j < i → y[j]? = x[j]?) → y[i]? = some a → x[i]? = some b → a < b → ltL y x = true
  | 0, y, x, a, b, _, h1, h2, hab => by
    cases y with
    | nil => cases h1
    | cons y0 ys =>
      cases x with
      | nil => cases h2
      | cons x0 xs =>
        cases h1
        cases h2
        unfold ltL
        rw [decide_eq_true hab]
        rfl
  | i + 1, y, x, a, b, h, h1, h2, hab => by
    cases y with
    | nil => cases h1
    | cons y0 ys =>
      cases x with
      | nil => cases h2
      | cons x0 xs =>
        have e : y0 = x0 := Option.some.inj (h 0 (by omega))
        subst e
        unfold ltL
        rw [ltL_at i (y := ys) (x := xs) (fun j hj => h (j + 1) (by omega)) h1 h2 hab]
        simp
/-- the first numbers as they are, then a lesser one -/
def lesS (bs : List (Int × Int)) (row : List Int) (i : Nat) (lo here : Int) : List (Int × Int) := ((row.take i).map fun n => (n, n)) ++ [(lo, here - 1)] ++ bs.drop (i + 1)
theorem lesS_at {bs : List (Int × Int)} {row : List Int} {i : Nat} {lo here : Int} (hr : i ≤ row.length) (j : Nat) : (lesS bs row i lo here)[j]? = if j < i then (row[j]?).map (fun n => (n, n)) else if j = i then some (lo, here - 1) else bs[j]? := by
  unfold lesS
  have hl : ((row.take i).map fun n : Int => (n, n)).length = i := by rw [List.length_map, List.length_take]; omega
  by_cases c : j < i
  · rw [if_pos c, List.append_assoc, List.getElem?_append_left (by rw [hl]; exact c), List.getElem?_map, List.getElem?_take_of_lt c]
  · rw [if_neg c]
    by_cases c2 : j = i
    · rw [if_pos c2, List.append_assoc, List.getElem?_append_right (by rw [hl]; omega), hl, c2, Nat.sub_self]
      rfl
    · rw [if_neg c2, List.append_assoc, List.getElem?_append_right (by rw [hl]; omega), hl, List.getElem?_append_right (by show 1 ≤ j - i; omega), List.getElem?_drop]
      congr 1
      show i + 1 + (j - i - 1) = j
      omega
theorem lesS_bo {bs : List (Int × Int)} (hB : Bo bs) (hs : ∀ z ∈ bs, z.1.natAbs < 2 ^ 59) {row : List Int} (hb : Bnd bs row) {i : Nat} {z : Int × Int} {here : Int} (hz : bs[i]? = some z) (hh : row[i]? = some here) (hlt : z.1 < here) : Bo (lesS bs row i z.1 here) := by
  have hi := (List.getElem?_eq_some_iff.mp hz).1
  have hrl := hb.1
  have hl : (lesS bs row i z.1 here).length = bs.length := by
    unfold lesS
    rw [List.length_append, List.length_append, List.length_map, List.length_take, List.length_drop]
    show min i row.length + 1 + _ = _
    omega
  refine ⟨by rw [hl]; exact hB.l1, by rw [hl]; exact hB.l2, fun u hu => ?_⟩
  obtain ⟨j, hj⟩ := List.getElem?_of_mem hu
  rw [lesS_at (by omega)] at hj
  have hj2 : j < bs.length := by
    have := (List.getElem?_eq_some_iff.mp (List.getElem?_of_mem hu).choose_spec).1
    by_cases c : j < i
    · omega
    · rw [if_neg c] at hj
      by_cases c2 : j = i
      · omega
      · rw [if_neg c2] at hj
        exact (List.getElem?_eq_some_iff.mp hj).1
  have hw : bs[j]? = some (bs[j]'hj2) := List.getElem?_eq_getElem hj2
  generalize bs[j] = w at hw
  have bw := hB.b w (List.mem_of_getElem? hw)
  have sw := hs w (List.mem_of_getElem? hw)
  by_cases c : j < i
  · rw [if_pos c] at hj
    obtain ⟨n, hn, rfl⟩ := Option.map_eq_some_iff.mp hj
    have := hb.2 j w n hw hn
    refine ⟨Int.le_refl _, ?_, ?_⟩ <;> simp only [] <;> omega
  · rw [if_neg c] at hj
    by_cases c2 : j = i
    · rw [if_pos c2] at hj
      cases hj
      have := hb.2 i z here hz hh
      have bz := hB.b z (List.mem_of_getElem? hz)
      refine ⟨?_, ?_, ?_⟩ <;> simp only [] <;> omega
    · rw [if_neg c2, hw] at hj
      cases hj
      exact bw
theorem lesS_more {bs : List (Int × Int)} (hB : Bo bs) (hs : ∀ z ∈ bs, z.1.natAbs < 2 ^ 59) {x : BR} (hx : fewS bs = some x) {i : Nat} {z : Int × Int} {here : Int} (hz : bs[i]? = some z) (hh : x.2[i]? = some here) (hlt : z.1 < here) : x.1 < lstS (lesS bs x.2 i z.1 here) := by
  have is := fewS_is hB
  rw [hx] at is
  obtain ⟨hb, hc⟩ := mem_all.mp is.1
  have hB2 := lesS_bo hB hs hb hz hh hlt
  have is2 := fewS_is hB2
  have hle := few_le hB hx
  unfold lstS
  cases e : fewS (lesS bs x.2 i z.1 here) with
  | none =>
    show x.1 < 100
    omega
  | some y =>
    rw [e] at is2
    show x.1 < y.1
    obtain ⟨hb2, hc2⟩ := mem_all.mp is2.1
    have hi := (List.getElem?_eq_some_iff.mp hz).1
    have hrl := hb.1
    have hl : (lesS bs x.2 i z.1 here).length = bs.length := by
      unfold lesS
      rw [List.length_append, List.length_append, List.length_map, List.length_take, List.length_drop]
      show min i x.2.length + 1 + _ = _
      omega
    have same : ∀ j, j < i → y.2[j]? = x.2[j]? := fun j hj => by
      have h1 : x.2[j]? = some (x.2[j]'(by omega)) := List.getElem?_eq_getElem _
      have h2 : y.2[j]? = some (y.2[j]'(by rw [hb2.1]; omega)) := List.getElem?_eq_getElem _
      have := hb2.2 j _ _ (by rw [lesS_at (by omega), if_pos hj, h1]; rfl) h2
      rw [h1, h2]
      simp only [] at this
      congr 1
      omega
    obtain ⟨n, hyi⟩ : ∃ n, y.2[i]? = some n := ⟨_, List.getElem?_eq_getElem (by rw [hb2.1]; omega)⟩
    have hn := hb2.2 i _ _ (by rw [lesS_at (by omega), if_neg (Nat.lt_irrefl i), if_pos rfl]) hyi
    simp only [] at hn
    have hlL := ltL_at i same hyi hh (by omega)
    have hin : y.2 ∈ rowsR bs [[]] := mem_all.mpr ⟨⟨hb2.1.trans hl, fun j w m hw hm => ?_⟩, hc2⟩
    · have := is.2.2 y.2 hin
      unfold ltB at this
      rw [is2.2.1]
      simp only [Bool.or_eq_false_iff, Bool.and_eq_false_iff, Bool.not_eq_false', decide_eq_false_iff_not, decide_eq_true_eq] at this
      rcases this.2 with q | q
      · exact q
      · rw [hlL] at q
        cases q
    · by_cases c : j < i
      · have h1 := same j c
        rw [hm] at h1
        exact hb.2 j w m hw h1.symm
      · by_cases c2 : j = i
        · subst c2
          rw [hyi] at hm
          cases hm
          rw [hz] at hw
          cases hw
          have := hb.2 j z here hz hh
          omega
        · exact hb2.2 j w m (by rw [lesS_at (by omega), if_neg c, if_neg c2]; exact hw) hm
end

section
variable {P : Program} {w : World} {K : PySem.W.Frag} {mg : Str → Option Value} {base : Heap} {k : Nat}
section
variable {N : List Str} {sc : Scope} {vb lb : List Bool} {gs : List Str} {X : Cx} {σ σw : L2.St} {Ψ : Value → Sy → Prop} {pos : Pos} {F : List (V × Dt)} {O : List (Addr × OD)}
/-- [f for key in d] over a dict that stands -/
theorem l_lcKm {Φ : V → Sy → Prop} {tg iter elt : Expr} {scope : Scope} (own : List (Str × Nat)) (vs : List Nat) (vb' lb' : List Bool) (gs' : List Str) {v : V} {es : List (List Int × Dt)} (C : Cn P w K mg base k N sc vb lb gs X) (hv : own.map (·.2) = vs) (ok : blkC N sc scope own = true) (ck : chkB (relS scope sc) N vb' lb' gs' = true) [nf : NoFold iter] [wi : Wi vs σ σw]
    (hd : Hs F v (dctD es)) (hz : es.length ≤ 1000000) (hn : ∀ Φ' : V → Sy → Prop, Φ' v ⟨F, O⟩ → Lift K (wE X iter σ) ⟨F, O⟩ Φ' NoX) (f : List Int × Dt → Dt)
    (turn : ∀ (i : Nat) ns dv x, es[i]? = some (ns, dv) → ∀ X1, Cn P w K mg base k N (relS scope sc) vb' lb' gs' X1 → Lift K (wG X1 tg x σw) ⟨(x, tpD ns) :: F, O⟩ (fun σ2 y2 => wipe σ2 vs = σw ∧
      ∀ X2, Cn P w K mg base k N (relS scope sc) vb' lb' gs' X2 → Lift K (wE X2 elt σ2) y2 (fun v y4 => Hs y4.F v (f (ns, dv)) ∧ y4.O = O ∧ ∀ e, e ∈ F → e ∈ y4.F) F0) F0)
    (done : ∀ F' q, (∀ e, e ∈ F → e ∈ F') → Φ (.ref q) ⟨F', (q, .lst (es.map f)) :: O⟩) : Lift K (wE X (.ListComp elt [⟨tg, iter, [], 0⟩] scope pos) σ) ⟨F, O⟩ Φ Ψ := by
  subst hv
  have hw : wipe σ (own.map (·.2)) = σw := wi.h
  refine l_lcK (own := own) C ok ck (nf.h _) hd hz hn (fun i acc y' => acc = (es.take i).map f ∧ y'.O = O ∧ ∀ e, e ∈ F → e ∈ y'.F) ⟨by simp, rfl, fun _ h => h⟩ ?_ ?_
  · rintro i d acc ⟨F', O'⟩ x hd' ⟨rfl, hO, hF⟩ X1 C1
    cases hO
    obtain ⟨ns, dv, he, rfl⟩ := keysD_at hd'
    have ht : es.take (i + 1) = es.take i ++ [(ns, dv)] := by
      rw [List.take_add_one, he]
      rfl
    rw [hw]
    refine Lift.forget (F2 := (x, tpD ns) :: F) (fun e h => ?_) ((turn i ns dv x he X1 C1).mono (fun σ2 y2 ⟨hw2, f1⟩ => ⟨hw2, fun X2 C2 => ts_nil ⟨fun _ X3 C3 => (f1 X3 C3).mono (fun v y4 ⟨h1, h2, h3⟩ => ⟨_, h1, ?_, h2, h3⟩) (fun _ _ z => z), fun e => by cases e⟩⟩) fun _ _ z => z)
    · rcases List.mem_cons.mp h with h | h
      · rw [h]
        exact List.mem_cons_self
      · exact List.mem_cons_of_mem _ (hF _ h)
    · rw [ht, List.map_append]
      rfl
  · rintro acc ⟨F', O'⟩ hl ⟨rfl, hO, hF⟩ p
    cases hO
    rw [keysD_len, List.take_length]
    exact done F' p hF
end
end

section
variable {P : Program} {w : World} {K : PySem.W.Frag} {mg : Str → Option Value} {base : Heap} {k : Nat}
theorem fw_bn {es : FwT} : ((fwD es).map fun e => match e.2 with | .tuple [_, .int a] => PyData.int a | _ => .none) = (es.map fun e => e.2.2).map PyData.int := by
  unfold fwD
  rw [List.map_map, List.map_map]
  rfl
theorem c_minL {N : List Str} {sc : Scope} {vb lb : List Bool} {gs : List Str} {X : Cx} {y : Sy} {Ψ : Value → Sy → Prop} {Φ : V → Sy → Prop} {v : V} {ns : List Int} (C : Cn P w K mg base k N sc vb lb gs X) (r : Rb y v (.list (ns.map .int))) {m : Int} (h1 : m ∈ ns) (h2 : ∀ z, z ∈ ns → m ≤ z) (h : Φ (.int m) y) : Lift K (wC X (.builtin "min") [v]) y Φ Ψ := by
  refine c_of (cr_min C.calm) (Lift.raw fun S H ok E Q q => ?_)
  obtain ⟨a, xs, rfl, ha, rr⟩ := r.lst ok
  cases rr.ints_inv
  refine ⟨a, ns, rfl, SqL.of ha, List.length_pos_of_mem h1, fun m' k1 k2 => ?_⟩
  have e : m' = m := by
    have := h2 m' k1
    have := k2 m h1
    omega
  rw [e]
  exact q _ _ S H ok (Stp.refl _ _ _) h
/-- _law_least(bounds) -/
def R_lleast : RY := fun vs y Φ _ => ∃ (v : V) (bs : List (Int × Int)), vs = [v] ∧ Hs y.F v (.list (prD bs)) ∧ Bo bs ∧ 2 ≤ bs.length ∧ ∀ F', (∀ e, e ∈ y.F → e ∈ F') → Φ (.int (lstS bs)) ⟨F', y.O⟩
theorem ok_lleast [Bn mg "min"] [Cl P w K mg base "_law_forward" k 1 R_fwd] {f : Addr} {fd : FuncData} (F : Fun K "_law_least" "_law_least" s_l_least f fd) : FnOk P w K mg base (L2.CX P w) (k + 1) f fd ["bounds"] (SpY K 1 R_lleast) := by
  refine fn_w F sc_l_least rfl ck_l_least fun X y vs Φ Ψ C hl h => ?_
  obtain ⟨v, bs, rfl, hv, hB, h2, q⟩ := h
  obtain ⟨F0, O0⟩ := y
  have := hv.fa
  show Lift K (wSs X (_ :: _) [some v, none, none]) _ _ _
  walk_at "ys"
  refine ⟨rfl, v, bs, rfl, .fact Fa.h, hB, h2, fun u F1 hF1 hu hlu hnu => ?_⟩
  walk_at "ys"
  refine l_lcKm o_l_least0 w_l_least0 v_l_least0 b_l_least0 g_l_least0 (v := u) (es := fwD (fwd bs)) C rfl (by decide +kernel) (by decide +kernel) hu (by unfold fwD; rw [List.length_map]; omega) ?_ (fun e => match e.2 with | .tuple [_, .int a] => PyData.int a | _ => .none) ?_ ?_
  · intro Φ' hΦ
    walk_at "ys"
    exact hΦ
  · intro j ks dv xj hj X1 C1
    obtain ⟨⟨⟨last, step⟩, m, b⟩, he, rfl, rfl⟩ := fwD_at hj
    walk_at "ys"
    refine ⟨rfl, fun X2 C2 => ?_⟩
    walk_at "ys"
    refine ix_dF C2 (hu.mono fun e he => List.mem_cons_of_mem _ he) (.fact List.mem_cons_self) (fw_lk (x := (last, step)) (u := (m, b)) hnu (List.mem_of_getElem? he)) fun r => ?_
    walk_at "ys"
    exact ⟨.int _, rfl, SubF.h⟩
  · intro F2 pq hF2
    rw [fw_bn]
    refine Lift.release ?_
    walk_at "ys"
    refine ⟨by rw [List.length_map, List.length_map]; show _ + 1 ≤ _; omega, fun ps => ?_⟩
    have hle := fwd_least hB h2 hnu
    walk_at "ys"
    refine c_minL (ns := ((fwd bs).map fun e => e.2.2) ++ [100]) C (.hs (.fact ?_)) hle.1 hle.2 ?_
    · rw [List.map_append]
      exact List.mem_cons_self
    · exact rw_F (q F2 fun e he => hF2 e (hF1 e he))
end

section
variable {P : Program} {w : World} {K : PySem.W.Frag} {mg : Str → Option Value} {base : Heap} {k : Nat}
theorem cut_take {α : Type} (xs : List α) (j : Nat) (h : j ≤ xs.length) : cutG xs none (some (j : Int)) = xs.take j := by
  unfold cutG
  rw [HT.sIx_none, HT.sIx_nat, List.drop_zero, Nat.min_eq_left h, Nat.sub_zero]
theorem cut_drop {α : Type} (xs : List α) (j : Nat) (h : j ≤ xs.length) : cutG xs (some (j : Int)) none = xs.drop j := by
  unfold cutG
  rw [HT.sIx_none, HT.sIx_nat, Nat.min_eq_left h]
  exact List.take_of_length_le (by rw [List.length_drop]; exact Nat.le_refl _)
def posD : Dt → Bool
  | .int i => decide (0 < i)
  | _ => false
/-- law(script) -/
def R_law : RY := fun vs y Φ _ => ∃ (s : V) (ns : List Int), vs = [s] ∧ Hs y.F s (scrD ns) ∧ ns.length ≤ 63 ∧ y.O = [] ∧ ∀ z, Φ (.bl true) z
theorem ok_law [Bn mg "range"] [Bn mg "len"] [Bn mg "max"] [Bn mg "min"] [Bn mg "enumerate"] [Cl P w K mg base "_law_pool" k 2 R_pool] [Cl P w K mg base "_law_draw" k 2 R_draw] [Cl P w K mg base "_law_bounds" k 3 R_bounds] [Cl P w K mg base "_law_least" k 1 R_lleast] [Cl P w K mg base "is_there_one" k 1 R_there] [Cl P w K mg base "fewest_bends" k 1 R_few] {f : Addr} {fd : FuncData} (F : Fun K "law" "law" s_law f fd) : FnOk P w K mg base (L2.CX P w) (k + 1) f fd ["script"] (SpY K 1 R_law) := by
  refine fn_w F sc_law rfl ck_law fun X y vs Φ Ψ C hl h => ?_
  obtain ⟨s, ns, rfl, hs, h1, hO, q⟩ := h
  obtain ⟨F0, O0⟩ := y
  cases hO
  have := hs.faS
  show Lift K (wSs X (_ :: _) [some s, none, none, none, none, none, none, none, none, none, none, none, none, none, none, none, none, none]) _ _ _
  refine s_for C (fun x => NoFold.h _ x) ?_
  walk_at "ys"
  refine ⟨by omega, by omega, fun J sr => ?_⟩
  refine ⟨_, sr, fun i σ y' => ∃ (u1 u2 u3 u4 u5 u6 u7 u8 u9 u10 u11 u12 u13 u14 : Option V) (F' : List (V × Dt)) (O' : List (Addr × OD)), σ = [some s, u1, u2, u3, u4, u5, u6, u7, u8, u9, u10, u11, u12, u13, u14, none, none, none] ∧ y' = ⟨F', O'⟩ ∧ (∀ e, e ∈ F0 → e ∈ F'), ?_, ?_, ?_⟩
  · exact ⟨_, _, _, _, _, _, _, _, _, _, _, _, _, _, _, _, rfl, rfl, fun _ h => h⟩
  · rintro i d σ' y' x hd ⟨u1, u2, u3, u4, u5, u6, u7, u8, u9, u10, u11, u12, u13, u14, F', O', rfl, rfl, hF⟩
    obtain ⟨hi, rfl⟩ := rngD_at hd
    refine Lift.isInt (n := 0 + (i : Nat)) (.fact List.mem_cons_self) fun e => ?_
    subst e
    have := SubF.mk hF
    have hs' : Fa s F' (scrD ns) := ⟨hF _ hs.faS.h⟩
    walk_at "ys"
    refine ⟨rfl, s, ns, _, rfl, .fact (List.mem_cons_of_mem _ hs'.h), by omega, by omega, fun p a b c0 g1 g2 => ?_⟩
    walk_at "ys"
    refine ⟨rfl, p, a, b, c0, 9, O', rfl, by decide, by decide, rfl, g1, by omega, fun r1 a1 c1 h2 h3 g3 g4 => ?_⟩
    walk_at "ys"
    refine ⟨rfl, p, 2 + r1, 12, a1, b, c1, O', rfl, by omega, by omega, by decide, by decide, rfl, by omega, by omega, fun pb bs a2 c2 hbl hbs g5 g6 => ?_⟩
    have hB : Bo bs := ⟨by omega, by omega, fun x hx => by
      have := hbs x hx
      exact ⟨this.1, by omega, by omega⟩⟩
    have hl2 : 2 ≤ bs.length := by omega
    have hl10 := hB.l2
    refine Lift.release ?_
    refine Lift.lessO (O2 := []) (List.nil_sublist _) ?_
    walk_at "ys"
    refine ⟨rfl, _, bs, rfl, .fact Fa.h, hB, hl2, fun F1 hF1 => ?_⟩
    have f1 : Fa (.ref pb) F1 (.list (prD bs)) := ⟨hF1 _ Fa.h⟩
    walk_at "ys"
    refine ⟨rfl, _, bs, rfl, .fact Fa.h, hB, fun F2 hF2 => ?_⟩
    have f2 : Fa (.ref pb) F2 (.list (prD bs)) := ⟨hF2 _ f1.h⟩
    have hrev : (prD bs).reverse = prD bs.reverse := by
      unfold prD
      rw [List.map_reverse]
    have hfr := few_rev hB
    have htot := few_tot hB
    cases e : fewS bs with
    | none =>
      rw [e] at hfr htot
      show Lift K _ _ _ _
      walk_at "ys"
      refine ⟨rfl, _, bs.reverse, rfl, by rw [← hrev]; exact .fact List.mem_cons_self, hB.rev, fun F3 hF3 => ?_⟩
      rw [hfr]
      have f3 : Fa (.ref pb) F3 (.list (prD bs)) := ⟨hF3 _ (List.mem_cons_of_mem _ f2.h)⟩
      show Lift K _ _ _ _
      walk_at "ys"
      refine ⟨rfl, _, bs, rfl, .fact Fa.h, hB, fun F4 hF4 => ?_⟩
      rw [htot]
      have hls : lstS bs = 100 := by
        unfold lstS
        rw [e]
      rw [hls]
      walk_at "ys"
      refine ⟨fun e => (by simp at e), fun _ => ?_⟩
      walk_at "ys"
      refine ⟨fun e => (by simp at e), fun _ => ?_⟩
      walk_at "ys"
      refine ⟨fun e => (by simp at e), fun _ => ?_⟩
      walk_at "ys"
      exact ⟨_, _, _, _, _, _, _, _, _, _, _, _, _, _, _, _, rfl, rfl, fun e he => hF4 e (hF3 e (List.mem_cons_of_mem _ (hF2 e (hF1 e (SubF.h e (hF e he))))))⟩
    | some x =>
      rw [e] at hfr htot
      obtain ⟨y, hy, hyx⟩ := hfr
      intro t pl
      refine Lift.sw1 (Lift.release (Lift.standT (ds := [.int x.1, .list (x.2.map .int)]) (.cons (.int _) (.cons (.fact List.mem_cons_self) .nil)) ?_))
      walk_at "ys"
      refine ⟨rfl, _, bs.reverse, rfl, by rw [← hrev]; exact .fact List.mem_cons_self, hB.rev, fun F3 hF3 => ?_⟩
      rw [hy]
      intro t2 pl2
      refine Lift.sw1 (Lift.release (Lift.standT (ds := [.int y.1, .list (y.2.map .int)]) (.cons (.int _) (.cons (.fact List.mem_cons_self) .nil)) ?_))
      have f3 : Fa (.ref pb) F3 (.list (prD bs)) := ⟨hF3 _ (List.mem_cons_of_mem _ (List.mem_cons_of_mem _ (List.mem_cons_of_mem _ f2.h)))⟩
      have t3 : Fa (.ref t) F3 (.tuple [.int x.1, .list (x.2.map .int)]) := ⟨hF3 _ (List.mem_cons_of_mem _ List.mem_cons_self)⟩
      have hls : lstS bs = x.1 := by
        unfold lstS
        rw [e]
      have hle := few_le hB e
      have is := fewS_is hB
      rw [e] at is
      have hin := is.1
      obtain ⟨hbn, hcx⟩ := mem_all.mp hin
      obtain ⟨hb0, hbc⟩ := bds_row hl2 hin
      have hxl := hbn.1
      have hbl := bds_len x.2
      rw [hls]
      walk_at "ys"
      refine ⟨rfl, _, bs, rfl, .fact Fa.h, hB, fun F4 hF4 => ?_⟩
      have f4 : Fa (.ref pb) F4 (.list (prD bs)) := ⟨hF4 _ (SubF.h _ f3.h)⟩
      have t4 : Fa (.ref t) F4 (.tuple [.int x.1, .list (x.2.map .int)]) := ⟨hF4 _ (SubF.h _ t3.h)⟩
      have tt4 : Fa (.ref t2) F4 (.tuple [.int y.1, .list (y.2.map .int)]) := ⟨hF4 _ List.mem_cons_self⟩
      rw [htot]
      walk_at "ys"
      refine ⟨fun e => (by simp at e), fun _ => ?_⟩
      walk_at "ys"
      refine ⟨fun e => (by simp at e; omega), fun _ => ?_⟩
      walk_at "ys"
      refine ⟨fun _ => ?_, fun e => (by simp at e)⟩
      walk_at "ys"
      refine g_twoD C (.hs (.fact t4.h)) fun y1 xr => ?_
      refine Lift.isInt (n := x.1) (.fact List.mem_cons_self) fun e => ?_
      subst e
      walk_at "ys"
      refine s_lcB o_law0 w_law0 v_law0 b_law0 g_law0 C rfl rfl (by decide +kernel) (by decide +kernel) rfl rfl ?_
      walk_at "ys"
      rw [List.length_map]
      refine ⟨by omega, fun J1 sr1 => ?_⟩
      have iz : ∀ (j : Nat) (m : Int), x.2[j]? = some m → ∀ t : Int, t = (j : Int) → atI (x.2.map PyData.int) t = some (.int m) := fun j m hj t ht => by
        subst ht
        refine atI_nat ?_
        rw [List.getElem?_map, hj]
        rfl
      refine lcb_to ((bds x.2).map .int) (by rw [List.length_map, rngD_len, hbl]; omega) sr1 (by rw [rngD_len]; omega) ?_ ?_
      · intro j dj rj xj hdj hrj X1 C1
        obtain ⟨hj, rfl⟩ := rngD_at hdj
        refine Lift.isInt (n := 2 + (j : Nat)) (.fact List.mem_cons_self) fun e => ?_
        subst e
        obtain ⟨n0, e1⟩ : ∃ n, x.2[j]? = some n := ⟨_, List.getElem?_eq_getElem (by omega)⟩
        obtain ⟨n1, e2⟩ : ∃ n, x.2[j + 1]? = some n := ⟨_, List.getElem?_eq_getElem (by omega)⟩
        obtain ⟨n2, e3⟩ : ∃ n, x.2[j + 2]? = some n := ⟨_, List.getElem?_eq_getElem (by omega)⟩
        rw [List.getElem?_map, bds_at x.2 j e1 e2 e3] at hrj
        cases hrj
        walk_at "ys"
        refine ⟨rfl, fun X3 C3 => ?_⟩
        walk_at "ys"
        refine ix_lstI Rc.h (iz (j + 2) n2 e3 _ (by omega)) C3.hK ?_
        walk_at "ys"
        refine ix_lstI Rc.h (iz (j + 1) n1 e2 _ (by omega)) C3.hK ?_
        walk_at "ys"
        refine o_mulL (.inl (by decide)) ?_
        walk_at "ys"
        refine ix_lstI Rc.h (iz j n0 e1 _ (by omega)) C3.hK ?_
        walk_at "ys"
        exact ⟨.int _, rfl, SubF.h⟩
      · intro F5 pbd hF5
        have f5 : Fa (.ref pb) F5 (.list (prD bs)) := ⟨hF5 _ (SubF.h _ f4.h)⟩
        have t5 : Fa (.ref t) F5 (.tuple [.int x.1, .list (x.2.map .int)]) := ⟨hF5 _ (SubF.h _ t4.h)⟩
        have tt5 : Fa (.ref t2) F5 (.tuple [.int y.1, .list (y.2.map .int)]) := ⟨hF5 _ (SubF.h _ tt4.h)⟩
        have r5 : Fa xr F5 (.list (x.2.map .int)) := ⟨hF5 _ (List.mem_cons_of_mem _ List.mem_cons_self)⟩
        refine Lift.release ?_
        walk_at "ys"
        refine nyes rfl ?_
        walk_at "ys"
        refine ⟨fun e => (by simp at e; omega), fun _ => ?_⟩
        walk_at "ys"
        rw [List.length_map, prD_len]
        refine ⟨fun e => (by simp at e; omega), fun _ => ?_⟩
        walk_at "ys"
        refine ⟨by rw [List.length_map, hbl]; show _ + 1 ≤ _; omega, fun pm => ?_⟩
        walk_at "ys"
        refine c_minL (ns := bds x.2 ++ [0]) C (.hs (.fact ?_)) (List.mem_append_right _ List.mem_cons_self) (fun z hz => ?_) ?_
        · rw [List.map_append]
          exact List.mem_cons_self
        · rcases List.mem_append.mp hz with hz | hz
          · exact hb0 z hz
          · cases List.mem_singleton.mp hz
            exact Int.le_refl _
        walk_at "ys"
        refine ⟨fun e => (by simp at e), fun _ => ?_⟩
        walk_at "ys"
        refine l_lcB o_law1 w_law1 v_law1 b_law1 g_law1 C rfl (by decide +kernel) (by decide +kernel) ?_
        walk_at "ys"
        rename_i J2 sr2
        refine lcb_pure posD id sr2 (by rw [List.length_map, hbl]; omega) ?_ ?_
        · intro j dj xj hdj X1 C1
          rw [List.getElem?_map] at hdj
          obtain ⟨m, hm, rfl⟩ := Option.map_eq_some_iff.mp hdj
          refine Lift.isInt (n := m) (.fact List.mem_cons_self) fun e => ?_
          subst e
          walk_at "ys"
          refine ⟨rfl, fun X2 C2 => ?_⟩
          walk_at "ys"
          refine ⟨rfl, fun _ X3 C3 => ?_, fun _ => ⟨rfl, SubF.h⟩⟩
          walk_at "ys"
          exact ⟨.int _, rfl, SubF.h⟩
        · intro F6 pf hF6
          have f6 : Fa (.ref pb) F6 (.list (prD bs)) := ⟨hF6 _ (SubF.h _ f5.h)⟩
          have r6 : Fa xr F6 (.list (x.2.map .int)) := ⟨hF6 _ (SubF.h _ r5.h)⟩
          refine Lift.release ?_
          walk_at "ys"
          have hcnt : (((List.map id (List.filter posD ((bds x.2).map PyData.int))).length : Nat) : Int) = x.1 := by
            rw [List.map_id, List.filter_map, List.length_map, is.2.1, ← hbc]
            rfl
          refine ⟨fun e => (by rw [hcnt] at e; simp at e), fun _ => ?_⟩
          walk_at "yf"
          refine s_for C (fun x => NoFold.h _ x) ?_
          walk_at "ys"
          rename_i J3 sr3
          refine ⟨_, sr3, fun j σ y' => ∃ (u10 u11 u12 u13 u14 : Option V) (F7 : List (V × Dt)), σ = [some s, some (.int (0 + (i : Nat))), some (.ref p), some (.ref pb), some (.int x.1), some (.ref t), some (.ref t2), some (.int x.1), some xr, some (.ref pbd), u10, u11, u12, u13, u14, none, none, none] ∧ y' = ⟨F7, []⟩ ∧ (∀ e, e ∈ F6 → e ∈ F7), ?_, ?_, ?_⟩
          · exact ⟨_, _, _, _, _, _, rfl, rfl, fun e he => SubF.h e he⟩
          · rintro j dj σ7 y7 xj hdj ⟨u10, u11, u12, u13, u14, F7, rfl, rfl, hF7⟩
            obtain ⟨here, hhere, rfl⟩ := enum_at hdj
            have hjl := (List.getElem?_eq_some_iff.mp hhere).1
            obtain ⟨z, hz⟩ : ∃ z, bs[j]? = some z := ⟨_, List.getElem?_eq_getElem (by omega)⟩
            have bz := hB.b z (List.mem_of_getElem? hz)
            have hin2 := hbn.2 j z here hz hhere
            refine g_pair C (.hs (.fact List.mem_cons_self)) fun F8 hF8 => ?_
            have f8 : Fa (.ref pb) F8 (.list (prD bs)) := ⟨hF8 _ (List.mem_cons_of_mem _ (hF7 _ f6.h))⟩
            have r8 : Fa xr F8 (.list (x.2.map .int)) := ⟨hF8 _ (List.mem_cons_of_mem _ (hF7 _ r6.h))⟩
            walk_at "ys"
            refine ix_lst Rc.h (at_prD (by omega) hz) C.hK fun z1 => ?_
            refine g_two C (.hs (.fact List.mem_cons_self)) ?_
            walk_at "ys"
            refine l_lcB o_law2 w_law2 v_law2 b_law2 g_law2 C rfl (by decide +kernel) (by decide +kernel) ?_
            walk_at "ys"
            rename_i pcut J4 sr4
            rw [cut_take _ j (by rw [List.length_map]; omega), ← List.map_take] at sr4 ⊢
            refine lcb_to (prD ((x.2.take j).map fun n => (n, n))) (by rw [prD_len, List.length_map, List.length_map]) sr4 (by rw [List.length_map, List.length_take]; omega) ?_ ?_
            · intro l dl rl xl hdl hrl X1 C1
              rw [List.getElem?_map] at hdl
              obtain ⟨m, hm, rfl⟩ := Option.map_eq_some_iff.mp hdl
              obtain ⟨z', hz', rfl⟩ := prD_at hrl
              rw [List.getElem?_map, hm] at hz'
              cases hz'
              refine Lift.isInt (n := m) (.fact List.mem_cons_self) fun e => ?_
              subst e
              walk_at "ys"
              refine ⟨rfl, fun X3 C3 => ?_⟩
              walk_at "ys"
              exact ⟨.fact List.mem_cons_self, rfl, SubF.h⟩
            · intro F9 p9 hF9
              have f9 : Fa (.ref pb) F9 (.list (prD bs)) := ⟨hF9 _ (SubF.h _ f8.h)⟩
              refine Lift.release ?_
              walk_at "ys"
              refine ⟨by rw [prD_len, List.length_map, List.length_take]; show _ + 1 ≤ _; omega, fun pq => ?_⟩
              walk_at "ys"
              have hcd : cutG (prD bs) (some ((j : Int) + 1)) none = prD (bs.drop (j + 1)) := by
                rw [show (j : Int) + 1 = ((j + 1 : Nat) : Int) from rfl, cut_drop _ _ (by rw [prD_len]; omega)]
                unfold prD
                rw [List.map_drop]
              have hles : prD ((x.2.take j).map fun n => (n, n)) ++ [PyData.tuple [.int z.1, .int (here - 1)]] ++ prD (bs.drop (j + 1)) = prD (lesS bs x.2 j z.1 here) := by
                unfold lesS prD
                rw [List.map_append, List.map_append]
                rfl
              rw [hcd, hles]
              refine ⟨by rw [List.length_append, prD_len, prD_len, List.length_map, List.length_take, List.length_drop]; show _ + 1 + _ ≤ _; omega, fun pz => ?_⟩
              walk_at "ys"
              refine ⟨fun _ => ?_, fun e => (by simp at e; omega)⟩
              walk_at "ys"
              refine ⟨fun e => (by simp at e; omega), fun _ => ?_⟩
              walk_at "ys"
              refine ⟨fun c => ?_, fun c => ?_⟩
              · have c := of_decide_eq_true c
                have hs59 : ∀ z ∈ bs, z.1.natAbs < 2 ^ 59 := fun z hz => by
                  have := hbs z hz
                  omega
                have hB' := lesS_bo hB hs59 hbn hz hhere c
                have hmore := lesS_more hB hs59 e hz hhere c
                walk_at "ys"
                refine ⟨rfl, _, _, rfl, .fact Fa.h, hB', ?_, fun F10 hF10 => ?_⟩
                · unfold lesS
                  rw [List.length_append, List.length_append, List.length_map, List.length_take, List.length_drop]
                  show 2 ≤ min j x.2.length + 1 + _
                  omega
                walk_at "ys"
                refine ⟨fun e => (by simp at e; omega), fun _ => ?_⟩
                walk_at "ys"
                exact ⟨_, _, _, _, _, _, rfl, rfl, fun e he => hF10 e (SubF.h e (hF9 e (SubF.h e (hF8 e (List.mem_cons_of_mem _ (hF7 e he))))))⟩
              · have c := of_decide_eq_false c
                walk_at "ys"
                exact ⟨_, _, _, _, _, _, rfl, rfl, fun e he => SubF.h e (hF9 e (SubF.h e (hF8 e (List.mem_cons_of_mem _ (hF7 e he)))))⟩
          · rintro σ7 y7 ⟨u10, u11, u12, u13, u14, F7, rfl, rfl, hF7⟩
            walk_at "ys"
            exact ⟨_, _, _, _, _, _, _, _, _, _, _, _, _, _, _, _, rfl, rfl, fun e he => hF7 e (hF6 e (SubF.h e (hF5 e (SubF.h e (hF4 e (SubF.h e (hF3 e (SubF.h e (hF2 e (hF1 e (SubF.h e (hF e he))))))))))))⟩
  · rintro σ' y' ⟨u1, u2, u3, u4, u5, u6, u7, u8, u9, u10, u11, u12, u13, u14, F', O', rfl, rfl, hF⟩
    have := SubF.mk hF
    walk_at "ys"
    exact ⟨_, fun _ h => h, List.Sublist.refl _, q _⟩
end

theorem em_of {K : PySem.W.Frag} {S B : Addr} (h1 : PySem.W.subIn K (.ref B) (.type "BaseException") = some true) (h2 : PySem.W.isClsIn K B = true) (h3 : PySem.W.typeIn K (.ref B) = some (.type "type")) (h4 : PySem.W.subIn K (.ref S) (.ref B) = some true) : Em K S (.ref B) := by
  have e1 : (PySem.W.subIn K (.ref B) (.type "BaseException") == some true) = true := by rw [h1] <;> rfl
  have e2 : ((PySem.W.clsIn K B).isSome && PySem.W.typeIn K (.ref B) == some (.type "type")) = true := by
    have h2' : (PySem.W.clsIn K B).isSome = true := h2
    rw [h2', h3] <;> rfl
  refine ⟨?_⟩
  show (if (PySem.W.subIn K (.ref B) (.type "BaseException") == some true) = true then (if ((PySem.W.clsIn K B).isSome && PySem.W.typeIn K (.ref B) == some (.type "type")) = true then PySem.W.subIn K (.ref S) (.ref B) else none) else none) = some true
  rw [if_pos e1, if_pos e2]
  exact h4
theorem all_mk {l : PySem.W.OpenLaw} {w : World} {K : PySem.W.Frag} {h : Heap} {mg : Str → Option Value} {fa f1 f2 f3 f4 f5 f6 f7 f8 f9 f10 f11 f12 f13 f14 f15 f16 : Addr} (X : K.In h) (G : h.Ns mainGlobals mg) (hfa : mg "law" = some (.ref fa))
    {od1 an1 od2 an2 od3 an3 od4 an4 od5 an5 od6 an6 od7 an7 od8 an8 od9 an9 od10 an10 od11 an11 od12 an12 od13 an13 od14 an14 od15 an15 od16 an16 : Option Addr} {sl1 sl2 sl3 sl4 sl5 sl6 sl7 sl8 sl9 sl10 sl11 sl12 sl13 sl14 sl15 sl16 : Array (Option Value)} {oc1 kV1 dc1 pm1 cd1 ct1 oc2 kV2 dc2 pm2 cd2 ct2 oc3 kV3 dc3 pm3 cd3 ct3 oc4 kV4 dc4 pm4 cd4 ct4 oc5 kV5 dc5 pm5 cd5 ct5 oc6 kV6 dc6 pm6 cd6 ct6 oc7 kV7 dc7 pm7 cd7 ct7 oc8 kV8 dc8 pm8 cd8 ct8 oc9 kV9 dc9 pm9 cd9 ct9 oc10 kV10 dc10 pm10 cd10 ct10 oc11 kV11 dc11 pm11 cd11 ct11 oc12 kV12 dc12 pm12 cd12 ct12 oc13 kV13 dc13 pm13 cd13 ct13 oc14 kV14 dc14 pm14 cd14 ct14 oc15 kV15 dc15 pm15 cd15 ct15 oc16 kV16 dc16 pm16 cd16 ct16 : Value}
    {c_BendError c_NoBounds : Addr}
    (g_BendError : PySem.W.nsIn K mainGlobals "BendError" = some (some (.ref c_BendError)))
    (g_NoBounds : PySem.W.nsIn K mainGlobals "NoBounds" = some (some (.ref c_NoBounds)))
    (bS : PySem.W.subIn K (.ref c_BendError) (.type "BaseException") = some true) (bI : PySem.W.isClsIn K c_BendError = true) (bT : PySem.W.typeIn K (.ref c_BendError) = some (.type "type"))
    (cn : PySem.W.specialIn K (.builtin "object.__class__") "__get__" = some (some (.builtin "getset_descriptor.__get__"))) (tk : PySem.W.takesIn K (.builtin "object.__class__") = some true)
    (kp_NoBounds : PySem.W.keepIn K (.ref c_NoBounds) = true)
    (xc_NoBounds : PySem.W.excIn K c_NoBounds veBm "ValueError.__new__" = true)
    (sb_NoBounds : PySem.W.subIn K (.ref c_NoBounds) (.type "BaseException") = some true)
    (ty_NoBounds : PySem.W.typeIn K (.ref c_NoBounds) = some (.type "type"))
    (cl_NoBounds : PySem.W.isClsIn K c_NoBounds = true)
    (ga_NoBounds : PySem.W.findIn K (.ref c_NoBounds) "__getattribute__" = some (some (.builtin "BaseException.__getattribute__")))
    (gt_NoBounds : PySem.W.findIn K (.ref c_NoBounds) "__getattr__" = some none)
    (ca_NoBounds : PySem.W.findIn K (.ref c_NoBounds) "__class__" = some (some (.builtin "object.__class__")))
    (mo_NoBounds : PySem.W.mroIn K c_NoBounds (.type "object") = some true)
    (sB_NoBounds : PySem.W.subIn K (.ref c_NoBounds) (.ref c_BendError) = some true)
    (o_NoBounds_BendError : PySem.W.kitOne K (.ref c_NoBounds) (.ref c_BendError) = some true)
    (o_NoBounds_NoBounds : PySem.W.kitOne K (.ref c_NoBounds) (.ref c_NoBounds) = some true)
    (o_NoBounds_VE : PySem.W.kitOne K (.ref c_NoBounds) (.type "ValueError") = some true)
    {t0 t1 : Value}
    (a1 : PySem.W.nsIn K mainGlobals "is_whole" = some (some (.ref f1))) (l1 : K.lookup f1 = some ⟨oc1, od1, .func (PySem.W.fnOf "is_whole" "is_whole" (defArgs s_is_whole) (defBody s_is_whole) (defScope s_is_whole) .none kV1 dc1 pm1 an1 cd1 ct1), sl1⟩) (c1 : PySem.W.codeIn K cd1 "is_whole" = true) (k1 : PySem.W.keepIn K (.ref f1) = true)
    (a2 : PySem.W.nsIn K mainGlobals "is_bound" = some (some (.ref f2))) (l2 : K.lookup f2 = some ⟨oc2, od2, .func (PySem.W.fnOf "is_bound" "is_bound" (defArgs s_is_bound) (defBody s_is_bound) (defScope s_is_bound) .none kV2 dc2 pm2 an2 cd2 ct2), sl2⟩) (c2 : PySem.W.codeIn K cd2 "is_bound" = true) (k2 : PySem.W.keepIn K (.ref f2) = true)
    (a3 : PySem.W.nsIn K mainGlobals "need_bounds" = some (some (.ref f3))) (l3 : K.lookup f3 = some ⟨oc3, od3, .func (PySem.W.fnOf "need_bounds" "need_bounds" (defArgs s_need_bounds) (defBody s_need_bounds) (defScope s_need_bounds) .none kV3 dc3 pm3 an3 cd3 ct3), sl3⟩) (c3 : PySem.W.codeIn K cd3 "need_bounds" = true) (k3 : PySem.W.keepIn K (.ref f3) = true)
    (a4 : PySem.W.nsIn K mainGlobals "counts_from" = some (some (.ref f4))) (l4 : K.lookup f4 = some ⟨oc4, od4, .func (PySem.W.fnOf "counts_from" "counts_from" (defArgs s_counts_from) (defBody s_counts_from) (defScope s_counts_from) .none kV4 dc4 pm4 an4 cd4 ct4), sl4⟩) (c4 : PySem.W.codeIn K cd4 "counts_from" = true) (k4 : PySem.W.keepIn K (.ref f4) = true)
    (a5 : PySem.W.nsIn K mainGlobals "first_counts" = some (some (.ref f5))) (l5 : K.lookup f5 = some ⟨oc5, od5, .func (PySem.W.fnOf "first_counts" "first_counts" (defArgs s_first_counts) (defBody s_first_counts) (defScope s_first_counts) .none kV5 dc5 pm5 an5 cd5 ct5), sl5⟩) (c5 : PySem.W.codeIn K cd5 "first_counts" = true) (k5 : PySem.W.keepIn K (.ref f5) = true)
    (a6 : PySem.W.nsIn K mainGlobals "how_many_within" = some (some (.ref f6))) (l6 : K.lookup f6 = some ⟨oc6, od6, .func (PySem.W.fnOf "how_many_within" "how_many_within" (defArgs s_how_many_within) (defBody s_how_many_within) (defScope s_how_many_within) .none kV6 dc6 pm6 an6 cd6 ct6), sl6⟩) (c6 : PySem.W.codeIn K cd6 "how_many_within" = true) (k6 : PySem.W.keepIn K (.ref f6) = true)
    (a7 : PySem.W.nsIn K mainGlobals "is_there_one" = some (some (.ref f7))) (l7 : K.lookup f7 = some ⟨oc7, od7, .func (PySem.W.fnOf "is_there_one" "is_there_one" (defArgs s_is_there_one) (defBody s_is_there_one) (defScope s_is_there_one) .none kV7 dc7 pm7 an7 cd7 ct7), sl7⟩) (c7 : PySem.W.codeIn K cd7 "is_there_one" = true) (k7 : PySem.W.keepIn K (.ref f7) = true)
    (a8 : PySem.W.nsIn K mainGlobals "goings_on" = some (some (.ref f8))) (l8 : K.lookup f8 = some ⟨oc8, od8, .func (PySem.W.fnOf "goings_on" "goings_on" (defArgs s_goings_on) (defBody s_goings_on) (defScope s_goings_on) .none kV8 dc8 pm8 an8 cd8 ct8), sl8⟩) (c8 : PySem.W.codeIn K cd8 "goings_on" = true) (k8 : PySem.W.keepIn K (.ref f8) = true)
    (a9 : PySem.W.nsIn K mainGlobals "best_from" = some (some (.ref f9))) (l9 : K.lookup f9 = some ⟨oc9, od9, .func (PySem.W.fnOf "best_from" "best_from" (defArgs s_best_from) (defBody s_best_from) (defScope s_best_from) .none kV9 dc9 pm9 an9 cd9 ct9), sl9⟩) (c9 : PySem.W.codeIn K cd9 "best_from" = true) (k9 : PySem.W.keepIn K (.ref f9) = true)
    (a10 : PySem.W.nsIn K mainGlobals "fewest_bends" = some (some (.ref f10))) (l10 : K.lookup f10 = some ⟨oc10, od10, .func (PySem.W.fnOf "fewest_bends" "fewest_bends" (defArgs s_fewest_bends) (defBody s_fewest_bends) (defScope s_fewest_bends) .none kV10 dc10 pm10 an10 cd10 ct10), sl10⟩) (c10 : PySem.W.codeIn K cd10 "fewest_bends" = true) (k10 : PySem.W.keepIn K (.ref f10) = true)
    (a11 : PySem.W.nsIn K mainGlobals "_law_pool" = some (some (.ref f11))) (l11 : K.lookup f11 = some ⟨oc11, od11, .func (PySem.W.fnOf "_law_pool" "_law_pool" (defArgs s_l_pool) (defBody s_l_pool) (defScope s_l_pool) .none kV11 dc11 pm11 an11 cd11 ct11), sl11⟩) (c11 : PySem.W.codeIn K cd11 "_law_pool" = true) (k11 : PySem.W.keepIn K (.ref f11) = true)
    (a12 : PySem.W.nsIn K mainGlobals "_law_draw" = some (some (.ref f12))) (l12 : K.lookup f12 = some ⟨oc12, od12, .func (PySem.W.fnOf "_law_draw" "_law_draw" (defArgs s_l_draw) (defBody s_l_draw) (defScope s_l_draw) .none kV12 dc12 pm12 an12 cd12 ct12), sl12⟩) (c12 : PySem.W.codeIn K cd12 "_law_draw" = true) (k12 : PySem.W.keepIn K (.ref f12) = true)
    (a13 : PySem.W.nsIn K mainGlobals "_law_bounds" = some (some (.ref f13))) (l13 : K.lookup f13 = some ⟨oc13, od13, .func (PySem.W.fnOf "_law_bounds" "_law_bounds" (defArgs s_l_bounds) (defBody s_l_bounds) (defScope s_l_bounds) .none kV13 dc13 pm13 an13 cd13 ct13), sl13⟩) (c13 : PySem.W.codeIn K cd13 "_law_bounds" = true) (k13 : PySem.W.keepIn K (.ref f13) = true)
    (a14 : PySem.W.nsIn K mainGlobals "_law_forward" = some (some (.ref f14))) (l14 : K.lookup f14 = some ⟨oc14, od14, .func (PySem.W.fnOf "_law_forward" "_law_forward" (defArgs s_l_forward) (defBody s_l_forward) (defScope s_l_forward) .none kV14 dc14 pm14 an14 cd14 ct14), sl14⟩) (c14 : PySem.W.codeIn K cd14 "_law_forward" = true) (k14 : PySem.W.keepIn K (.ref f14) = true)
    (a15 : PySem.W.nsIn K mainGlobals "_law_least" = some (some (.ref f15))) (l15 : K.lookup f15 = some ⟨oc15, od15, .func (PySem.W.fnOf "_law_least" "_law_least" (defArgs s_l_least) (defBody s_l_least) (defScope s_l_least) .none kV15 dc15 pm15 an15 cd15 ct15), sl15⟩) (c15 : PySem.W.codeIn K cd15 "_law_least" = true) (k15 : PySem.W.keepIn K (.ref f15) = true)
    (a16 : PySem.W.nsIn K mainGlobals "law" = some (some (.ref f16))) (l16 : K.lookup f16 = some ⟨oc16, od16, .func (PySem.W.fnOf "law" "law" (defArgs s_law) (defBody s_law) (defScope s_law) .none kV16 dc16 pm16 an16 cd16 ct16), sl16⟩) (c16 : PySem.W.codeIn K cd16 "law" = true) (k16 : PySem.W.keepIn K (.ref f16) = true)
    (z_isinstance : PySem.W.nsIn K mainGlobals "isinstance" = some none)
    (z_int : PySem.W.nsIn K mainGlobals "int" = some none)
    (z_bool : PySem.W.nsIn K mainGlobals "bool" = some none)
    (z_list : PySem.W.nsIn K mainGlobals "list" = some none)
    (z_len : PySem.W.nsIn K mainGlobals "len" = some none)
    (z_tuple : PySem.W.nsIn K mainGlobals "tuple" = some none)
    (z_min : PySem.W.nsIn K mainGlobals "min" = some none)
    (z_max : PySem.W.nsIn K mainGlobals "max" = some none)
    (z_range : PySem.W.nsIn K mainGlobals "range" = some none)
    (z_sum : PySem.W.nsIn K mainGlobals "sum" = some none)
    (z_enumerate : PySem.W.nsIn K mainGlobals "enumerate" = some none)
    (mc0 : PySem.W.nsIn K mainGlobals "MOST_WIDE" = some (some t0)) (mr0 : RelV (.int 12) t0)
    (mc1 : PySem.W.nsIn K mainGlobals "MOST_BOUNDS" = some (some t1)) (mr1 : RelV (.int 10) t1)
    : ∃ fd : FuncData, (∀ (s : Shared) (v : Value), BindsTo s fd ⟨[v], []⟩ [("script", v)]) ∧ ∀ base : Heap, K.In base → base.Ns mainGlobals mg → FnOk l.prog w K mg base (L2.CX l.prog w) 16 fa fd ["script"] (SpY K 1 R_law) := by
  have e := hfa.symm.trans (PySem.W.mg_of X G a16)
  cases e
  have : Bn mg "isinstance" := ⟨PySem.W.mg_none_of X G z_isinstance⟩
  have : Bn mg "int" := ⟨PySem.W.mg_none_of X G z_int⟩
  have : Bn mg "bool" := ⟨PySem.W.mg_none_of X G z_bool⟩
  have : Bn mg "list" := ⟨PySem.W.mg_none_of X G z_list⟩
  have : Bn mg "len" := ⟨PySem.W.mg_none_of X G z_len⟩
  have : Bn mg "tuple" := ⟨PySem.W.mg_none_of X G z_tuple⟩
  have : Bn mg "min" := ⟨PySem.W.mg_none_of X G z_min⟩
  have : Bn mg "max" := ⟨PySem.W.mg_none_of X G z_max⟩
  have : Bn mg "range" := ⟨PySem.W.mg_none_of X G z_range⟩
  have : Bn mg "sum" := ⟨PySem.W.mg_none_of X G z_sum⟩
  have : Bn mg "enumerate" := ⟨PySem.W.mg_none_of X G z_enumerate⟩
  have : Gv mg "BendError" (.ref c_BendError) := ⟨_, PySem.W.mg_of X G g_BendError, rfl⟩
  have : Gv mg "NoBounds" (.ref c_NoBounds) := ⟨_, PySem.W.mg_of X G g_NoBounds, rfl⟩
  have : Ex K mg "NoBounds" c_NoBounds := ⟨PySem.W.mg_of X G g_NoBounds, kp_NoBounds, xc_NoBounds, sb_NoBounds, ty_NoBounds⟩
  have : Ei K c_NoBounds := ⟨cl_NoBounds, ga_NoBounds, gt_NoBounds, sb_NoBounds, ca_NoBounds, cn, tk, mo_NoBounds⟩
  have : Ko K c_NoBounds (.ref c_BendError) true := ⟨o_NoBounds_BendError⟩
  have : Ko K c_NoBounds (.ref c_NoBounds) true := ⟨o_NoBounds_NoBounds⟩
  have : Ko K c_NoBounds (.type "ValueError") true := ⟨o_NoBounds_VE⟩
  have : Em K c_NoBounds (.ref c_BendError) := em_of bS bI bT sB_NoBounds
  have : Gv mg "MOST_WIDE" (.int 12) := Gv.int (PySem.W.mg_of X G mc0) mr0
  have : Gv mg "MOST_BOUNDS" (.int 10) := Gv.int (PySem.W.mg_of X G mc1) mr1
  refine ⟨PySem.W.fnOf "law" "law" (defArgs s_law) (defBody s_law) (defScope s_law) .none kV16 dc16 pm16 an16 cd16 ct16, fun s v => .of_eq rfl, fun base _ _ => ?_⟩
  have F1 := fun_mk (st := s_is_whole) l1 c1 k1
  have b1 := F1.binds (ps := ["thing"]) fun _ _ _ _ _ _ us hl => match us, hl with | [_], _ => rfl
  have P1 : FnOk l.prog w K mg base (L2.CX l.prog w) 1 f1 (PySem.W.fnOf "is_whole" "is_whole" (defArgs s_is_whole) (defBody s_is_whole) (defScope s_is_whole) .none kV1 dc1 pm1 an1 cd1 ct1) ["thing"] (SpY K 1 R_whole) := by
    exact ok_whole (k := 0) F1
  have C1 : ∀ k, 1 ≤ k → Cl l.prog w K mg base "is_whole" k 1 R_whole := fun k hk => Cl.of (PySem.W.mg_of X G a1) F1 b1 P1 hk
  have F2 := fun_mk (st := s_is_bound) l2 c2 k2
  have b2 := F2.binds (ps := ["thing"]) fun _ _ _ _ _ _ us hl => match us, hl with | [_], _ => rfl
  have P2 : FnOk l.prog w K mg base (L2.CX l.prog w) 2 f2 (PySem.W.fnOf "is_bound" "is_bound" (defArgs s_is_bound) (defBody s_is_bound) (defScope s_is_bound) .none kV2 dc2 pm2 an2 cd2 ct2) ["thing"] (SpY K 1 R_isb) := by
    have := C1 1 (by decide)
    exact ok_isb (k := 1) F2
  have C2 : ∀ k, 2 ≤ k → Cl l.prog w K mg base "is_bound" k 1 R_isb := fun k hk => Cl.of (PySem.W.mg_of X G a2) F2 b2 P2 hk
  have F3 := fun_mk (st := s_need_bounds) l3 c3 k3
  have b3 := F3.binds (ps := ["bounds"]) fun _ _ _ _ _ _ us hl => match us, hl with | [_], _ => rfl
  have P3 : FnOk l.prog w K mg base (L2.CX l.prog w) 3 f3 (PySem.W.fnOf "need_bounds" "need_bounds" (defArgs s_need_bounds) (defBody s_need_bounds) (defScope s_need_bounds) .none kV3 dc3 pm3 an3 cd3 ct3) ["bounds"] (SpY K 1 (R_needb c_NoBounds)) := by
    have := C1 2 (by decide)
    have := C2 2 (by decide)
    exact ok_needb (k := 2) F3
  have C3 : ∀ k, 3 ≤ k → Cl l.prog w K mg base "need_bounds" k 1 (R_needb c_NoBounds) := fun k hk => Cl.of (PySem.W.mg_of X G a3) F3 b3 P3 hk
  have F4 := fun_mk (st := s_counts_from) l4 c4 k4
  have b4 := F4.binds (ps := ["bounds"]) fun _ _ _ _ _ _ us hl => match us, hl with | [_], _ => rfl
  have P4 : FnOk l.prog w K mg base (L2.CX l.prog w) 4 f4 (PySem.W.fnOf "counts_from" "counts_from" (defArgs s_counts_from) (defBody s_counts_from) (defScope s_counts_from) .none kV4 dc4 pm4 an4 cd4 ct4) ["bounds"] (SpY K 1 R_counts) := by
    have := C1 3 (by decide)
    have := C2 3 (by decide)
    have := C3 3 (by decide)
    exact ok_counts (k := 3) F4
  have C4 : ∀ k, 4 ≤ k → Cl l.prog w K mg base "counts_from" k 1 R_counts := fun k hk => Cl.of (PySem.W.mg_of X G a4) F4 b4 P4 hk
  have F5 := fun_mk (st := s_first_counts) l5 c5 k5
  have b5 := F5.binds (ps := ["bounds"]) fun _ _ _ _ _ _ us hl => match us, hl with | [_], _ => rfl
  have P5 : FnOk l.prog w K mg base (L2.CX l.prog w) 5 f5 (PySem.W.fnOf "first_counts" "first_counts" (defArgs s_first_counts) (defBody s_first_counts) (defScope s_first_counts) .none kV5 dc5 pm5 an5 cd5 ct5) ["bounds"] (SpY K 1 R_first) := by
    have := C1 4 (by decide)
    have := C2 4 (by decide)
    have := C3 4 (by decide)
    have := C4 4 (by decide)
    exact ok_first (k := 4) F5
  have C5 : ∀ k, 5 ≤ k → Cl l.prog w K mg base "first_counts" k 1 R_first := fun k hk => Cl.of (PySem.W.mg_of X G a5) F5 b5 P5 hk
  have F6 := fun_mk (st := s_how_many_within) l6 c6 k6
  have b6 := F6.binds (ps := ["bounds"]) fun _ _ _ _ _ _ us hl => match us, hl with | [_], _ => rfl
  have P6 : FnOk l.prog w K mg base (L2.CX l.prog w) 6 f6 (PySem.W.fnOf "how_many_within" "how_many_within" (defArgs s_how_many_within) (defBody s_how_many_within) (defScope s_how_many_within) .none kV6 dc6 pm6 an6 cd6 ct6) ["bounds"] (SpY K 1 R_many) := by
    have := C1 5 (by decide)
    have := C2 5 (by decide)
    have := C3 5 (by decide)
    have := C4 5 (by decide)
    have := C5 5 (by decide)
    exact ok_many (k := 5) F6
  have C6 : ∀ k, 6 ≤ k → Cl l.prog w K mg base "how_many_within" k 1 R_many := fun k hk => Cl.of (PySem.W.mg_of X G a6) F6 b6 P6 hk
  have F7 := fun_mk (st := s_is_there_one) l7 c7 k7
  have b7 := F7.binds (ps := ["bounds"]) fun _ _ _ _ _ _ us hl => match us, hl with | [_], _ => rfl
  have P7 : FnOk l.prog w K mg base (L2.CX l.prog w) 7 f7 (PySem.W.fnOf "is_there_one" "is_there_one" (defArgs s_is_there_one) (defBody s_is_there_one) (defScope s_is_there_one) .none kV7 dc7 pm7 an7 cd7 ct7) ["bounds"] (SpY K 1 R_there) := by
    have := C1 6 (by decide)
    have := C2 6 (by decide)
    have := C3 6 (by decide)
    have := C4 6 (by decide)
    have := C5 6 (by decide)
    have := C6 6 (by decide)
    exact ok_there (k := 6) F7
  have C7 : ∀ k, 7 ≤ k → Cl l.prog w K mg base "is_there_one" k 1 R_there := fun k hk => Cl.of (PySem.W.mg_of X G a7) F7 b7 P7 hk
  have F8 := fun_mk (st := s_goings_on) l8 c8 k8
  have b8 := F8.binds (ps := ["bounds", "best", "at", "ahead", "here"]) fun _ _ _ _ _ _ us hl => match us, hl with | [_, _, _, _, _], _ => rfl
  have P8 : FnOk l.prog w K mg base (L2.CX l.prog w) 8 f8 (PySem.W.fnOf "goings_on" "goings_on" (defArgs s_goings_on) (defBody s_goings_on) (defScope s_goings_on) .none kV8 dc8 pm8 an8 cd8 ct8) ["bounds", "best", "at", "ahead", "here"] (SpY K 5 R_goings) := by
    have := C1 7 (by decide)
    have := C2 7 (by decide)
    have := C3 7 (by decide)
    have := C4 7 (by decide)
    have := C5 7 (by decide)
    have := C6 7 (by decide)
    have := C7 7 (by decide)
    exact ok_goings (k := 7) F8
  have C8 : ∀ k, 8 ≤ k → Cl l.prog w K mg base "goings_on" k 5 R_goings := fun k hk => Cl.of (PySem.W.mg_of X G a8) F8 b8 P8 hk
  have F9 := fun_mk (st := s_best_from) l9 c9 k9
  have b9 := F9.binds (ps := ["bounds"]) fun _ _ _ _ _ _ us hl => match us, hl with | [_], _ => rfl
  have P9 : FnOk l.prog w K mg base (L2.CX l.prog w) 9 f9 (PySem.W.fnOf "best_from" "best_from" (defArgs s_best_from) (defBody s_best_from) (defScope s_best_from) .none kV9 dc9 pm9 an9 cd9 ct9) ["bounds"] (SpY K 1 R_best) := by
    have := C1 8 (by decide)
    have := C2 8 (by decide)
    have := C3 8 (by decide)
    have := C4 8 (by decide)
    have := C5 8 (by decide)
    have := C6 8 (by decide)
    have := C7 8 (by decide)
    have := C8 8 (by decide)
    exact ok_best (k := 8) F9
  have C9 : ∀ k, 9 ≤ k → Cl l.prog w K mg base "best_from" k 1 R_best := fun k hk => Cl.of (PySem.W.mg_of X G a9) F9 b9 P9 hk
  have F10 := fun_mk (st := s_fewest_bends) l10 c10 k10
  have b10 := F10.binds (ps := ["bounds"]) fun _ _ _ _ _ _ us hl => match us, hl with | [_], _ => rfl
  have P10 : FnOk l.prog w K mg base (L2.CX l.prog w) 10 f10 (PySem.W.fnOf "fewest_bends" "fewest_bends" (defArgs s_fewest_bends) (defBody s_fewest_bends) (defScope s_fewest_bends) .none kV10 dc10 pm10 an10 cd10 ct10) ["bounds"] (SpY K 1 R_few) := by
    have := C1 9 (by decide)
    have := C2 9 (by decide)
    have := C3 9 (by decide)
    have := C4 9 (by decide)
    have := C5 9 (by decide)
    have := C6 9 (by decide)
    have := C7 9 (by decide)
    have := C8 9 (by decide)
    have := C9 9 (by decide)
    exact ok_few (k := 9) F10
  have C10 : ∀ k, 10 ≤ k → Cl l.prog w K mg base "fewest_bends" k 1 R_few := fun k hk => Cl.of (PySem.W.mg_of X G a10) F10 b10 P10 hk
  have F11 := fun_mk (st := s_l_pool) l11 c11 k11
  have b11 := F11.binds (ps := ["script", "k"]) fun _ _ _ _ _ _ us hl => match us, hl with | [_, _], _ => rfl
  have P11 : FnOk l.prog w K mg base (L2.CX l.prog w) 11 f11 (PySem.W.fnOf "_law_pool" "_law_pool" (defArgs s_l_pool) (defBody s_l_pool) (defScope s_l_pool) .none kV11 dc11 pm11 an11 cd11 ct11) ["script", "k"] (SpY K 2 R_pool) := by
    have := C1 10 (by decide)
    have := C2 10 (by decide)
    have := C3 10 (by decide)
    have := C4 10 (by decide)
    have := C5 10 (by decide)
    have := C6 10 (by decide)
    have := C7 10 (by decide)
    have := C8 10 (by decide)
    have := C9 10 (by decide)
    have := C10 10 (by decide)
    exact ok_pool (k := 10) F11
  have C11 : ∀ k, 11 ≤ k → Cl l.prog w K mg base "_law_pool" k 2 R_pool := fun k hk => Cl.of (PySem.W.mg_of X G a11) F11 b11 P11 hk
  have F12 := fun_mk (st := s_l_draw) l12 c12 k12
  have b12 := F12.binds (ps := ["pool", "many"]) fun _ _ _ _ _ _ us hl => match us, hl with | [_, _], _ => rfl
  have P12 : FnOk l.prog w K mg base (L2.CX l.prog w) 12 f12 (PySem.W.fnOf "_law_draw" "_law_draw" (defArgs s_l_draw) (defBody s_l_draw) (defScope s_l_draw) .none kV12 dc12 pm12 an12 cd12 ct12) ["pool", "many"] (SpY K 2 R_draw) := by
    have := C1 11 (by decide)
    have := C2 11 (by decide)
    have := C3 11 (by decide)
    have := C4 11 (by decide)
    have := C5 11 (by decide)
    have := C6 11 (by decide)
    have := C7 11 (by decide)
    have := C8 11 (by decide)
    have := C9 11 (by decide)
    have := C10 11 (by decide)
    have := C11 11 (by decide)
    exact ok_draw (k := 11) F12
  have C12 : ∀ k, 12 ≤ k → Cl l.prog w K mg base "_law_draw" k 2 R_draw := fun k hk => Cl.of (PySem.W.mg_of X G a12) F12 b12 P12 hk
  have F13 := fun_mk (st := s_l_bounds) l13 c13 k13
  have b13 := F13.binds (ps := ["pool", "many", "wide"]) fun _ _ _ _ _ _ us hl => match us, hl with | [_, _, _], _ => rfl
  have P13 : FnOk l.prog w K mg base (L2.CX l.prog w) 13 f13 (PySem.W.fnOf "_law_bounds" "_law_bounds" (defArgs s_l_bounds) (defBody s_l_bounds) (defScope s_l_bounds) .none kV13 dc13 pm13 an13 cd13 ct13) ["pool", "many", "wide"] (SpY K 3 R_bounds) := by
    have := C1 12 (by decide)
    have := C2 12 (by decide)
    have := C3 12 (by decide)
    have := C4 12 (by decide)
    have := C5 12 (by decide)
    have := C6 12 (by decide)
    have := C7 12 (by decide)
    have := C8 12 (by decide)
    have := C9 12 (by decide)
    have := C10 12 (by decide)
    have := C11 12 (by decide)
    have := C12 12 (by decide)
    exact ok_bounds (k := 12) F13
  have C13 : ∀ k, 13 ≤ k → Cl l.prog w K mg base "_law_bounds" k 3 R_bounds := fun k hk => Cl.of (PySem.W.mg_of X G a13) F13 b13 P13 hk
  have F14 := fun_mk (st := s_l_forward) l14 c14 k14
  have b14 := F14.binds (ps := ["bounds"]) fun _ _ _ _ _ _ us hl => match us, hl with | [_], _ => rfl
  have P14 : FnOk l.prog w K mg base (L2.CX l.prog w) 14 f14 (PySem.W.fnOf "_law_forward" "_law_forward" (defArgs s_l_forward) (defBody s_l_forward) (defScope s_l_forward) .none kV14 dc14 pm14 an14 cd14 ct14) ["bounds"] (SpY K 1 R_fwd) := by
    have := C1 13 (by decide)
    have := C2 13 (by decide)
    have := C3 13 (by decide)
    have := C4 13 (by decide)
    have := C5 13 (by decide)
    have := C6 13 (by decide)
    have := C7 13 (by decide)
    have := C8 13 (by decide)
    have := C9 13 (by decide)
    have := C10 13 (by decide)
    have := C11 13 (by decide)
    have := C12 13 (by decide)
    have := C13 13 (by decide)
    exact ok_fwd (k := 13) F14
  have C14 : ∀ k, 14 ≤ k → Cl l.prog w K mg base "_law_forward" k 1 R_fwd := fun k hk => Cl.of (PySem.W.mg_of X G a14) F14 b14 P14 hk
  have F15 := fun_mk (st := s_l_least) l15 c15 k15
  have b15 := F15.binds (ps := ["bounds"]) fun _ _ _ _ _ _ us hl => match us, hl with | [_], _ => rfl
  have P15 : FnOk l.prog w K mg base (L2.CX l.prog w) 15 f15 (PySem.W.fnOf "_law_least" "_law_least" (defArgs s_l_least) (defBody s_l_least) (defScope s_l_least) .none kV15 dc15 pm15 an15 cd15 ct15) ["bounds"] (SpY K 1 R_lleast) := by
    have := C1 14 (by decide)
    have := C2 14 (by decide)
    have := C3 14 (by decide)
    have := C4 14 (by decide)
    have := C5 14 (by decide)
    have := C6 14 (by decide)
    have := C7 14 (by decide)
    have := C8 14 (by decide)
    have := C9 14 (by decide)
    have := C10 14 (by decide)
    have := C11 14 (by decide)
    have := C12 14 (by decide)
    have := C13 14 (by decide)
    have := C14 14 (by decide)
    exact ok_lleast (k := 14) F15
  have C15 : ∀ k, 15 ≤ k → Cl l.prog w K mg base "_law_least" k 1 R_lleast := fun k hk => Cl.of (PySem.W.mg_of X G a15) F15 b15 P15 hk
  have F16 := fun_mk (st := s_law) l16 c16 k16
  have := C1 15 (by decide)
  have := C2 15 (by decide)
  have := C3 15 (by decide)
  have := C4 15 (by decide)
  have := C5 15 (by decide)
  have := C6 15 (by decide)
  have := C7 15 (by decide)
  have := C8 15 (by decide)
  have := C9 15 (by decide)
  have := C10 15 (by decide)
  have := C11 15 (by decide)
  have := C12 15 (by decide)
  have := C13 15 (by decide)
  have := C14 15 (by decide)
  have := C15 15 (by decide)
  exact ok_law (k := 15) F16
end Kx
open PySem PySem.W PyProof.Rows in
set_option maxRecDepth 100000 in
set_option maxHeartbeats 0 in
theorem PySem.Challenge.cw_onebend_k19_whole_fewest_bends_in_wide_b_holds : PySem.Challenge.rw_onebend_k19_whole_fewest_bends_in_wide_b.Holds := by
  w_on; o_law; k_head; (case hw => w_witness2)
  k_fill
  refine L2.walk_of (l := PySem.Challenge.rw_onebend_k19_whole_fewest_bends_in_wide_b) (n := 63) (k := 16) (x := "script") (CX := fun w => L2.CX PySem.Challenge.rw_onebend_k19_whole_fewest_bends_in_wide_b.prog w) (sp := fun w => Yl.SpY _ 1 Kx.R_law) rfl (by decide) rfl ⟨rfl, by decide, by decide⟩ (fun w h Y => PySem.W.kIn_of Y) ?F (fun _ _ a ns hl _ hS => Yl.law_start hS ⟨_, ns, rfl, .fact List.mem_cons_self, hl, rfl, fun _ => rfl⟩) (fun _ _ _ _ _ h => ?hCX)
  case F =>
    intro w mg fa h KX G hmg
    refine' Kx.all_mk KX G hmg ?g_BendError ?g_NoBounds ?bS ?bI ?bT ?cn ?tk ?kp_NoBounds ?xc_NoBounds ?sb_NoBounds ?ty_NoBounds ?cl_NoBounds ?ga_NoBounds ?gt_NoBounds ?ca_NoBounds ?mo_NoBounds ?sB_NoBounds ?o_NoBounds_BendError ?o_NoBounds_NoBounds ?o_NoBounds_VE ?a1 ?l1 ?c1 ?k1 ?a2 ?l2 ?c2 ?k2 ?a3 ?l3 ?c3 ?k3 ?a4 ?l4 ?c4 ?k4 ?a5 ?l5 ?c5 ?k5 ?a6 ?l6 ?c6 ?k6 ?a7 ?l7 ?c7 ?k7 ?a8 ?l8 ?c8 ?k8 ?a9 ?l9 ?c9 ?k9 ?a10 ?l10 ?c10 ?k10 ?a11 ?l11 ?c11 ?k11 ?a12 ?l12 ?c12 ?k12 ?a13 ?l13 ?c13 ?k13 ?a14 ?l14 ?c14 ?k14 ?a15 ?l15 ?c15 ?k15 ?a16 ?l16 ?c16 ?k16 ?z_isinstance ?z_int ?z_bool ?z_list ?z_len ?z_tuple ?z_min ?z_max ?z_range ?z_sum ?z_enumerate ?mc0 ?mr0 ?mc1 ?mr1
    (case g_BendError => k_is)
    (case g_NoBounds => k_is)
    (case bS => k_is)
    (case bI => k_is)
    (case bT => k_is)
    (case cn => k_is)
    (case tk => k_is)
    (case kp_NoBounds => first | k_is | rfl)
    (case xc_NoBounds => first | k_exc | k_is)
    (case sb_NoBounds => first | k_is | rfl)
    (case ty_NoBounds => first | k_is | rfl)
    (case cl_NoBounds => first | k_is | rfl)
    (case ga_NoBounds => first | k_is | rfl)
    (case gt_NoBounds => first | k_is | rfl)
    (case ca_NoBounds => first | k_is | rfl)
    (case mo_NoBounds => first | k_is | rfl)
    (case sB_NoBounds => first | k_is | rfl)
    (case o_NoBounds_BendError => kit_is)
    (case o_NoBounds_NoBounds => kit_is)
    (case o_NoBounds_VE => kit_is)
    (case a1 => k_is)
    (case l1 => k_is)
    (case c1 => k_is)
    (case k1 => k_is)
    (case a2 => k_is)
    (case l2 => k_is)
    (case c2 => k_is)
    (case k2 => k_is)
    (case a3 => k_is)
    (case l3 => k_is)
    (case c3 => k_is)
    (case k3 => k_is)
    (case a4 => k_is)
    (case l4 => k_is)
    (case c4 => k_is)
    (case k4 => k_is)
    (case a5 => k_is)
    (case l5 => k_is)
    (case c5 => k_is)
    (case k5 => k_is)
    (case a6 => k_is)
    (case l6 => k_is)
    (case c6 => k_is)
    (case k6 => k_is)
    (case a7 => k_is)
    (case l7 => k_is)
    (case c7 => k_is)
    (case k7 => k_is)
    (case a8 => k_is)
    (case l8 => k_is)
    (case c8 => k_is)
    (case k8 => k_is)
    (case a9 => k_is)
    (case l9 => k_is)
    (case c9 => k_is)
    (case k9 => k_is)
    (case a10 => k_is)
    (case l10 => k_is)
    (case c10 => k_is)
    (case k10 => k_is)
    (case a11 => k_is)
    (case l11 => k_is)
    (case c11 => k_is)
    (case k11 => k_is)
    (case a12 => k_is)
    (case l12 => k_is)
    (case c12 => k_is)
    (case k12 => k_is)
    (case a13 => k_is)
    (case l13 => k_is)
    (case c13 => k_is)
    (case k13 => k_is)
    (case a14 => k_is)
    (case l14 => k_is)
    (case c14 => k_is)
    (case k14 => k_is)
    (case a15 => k_is)
    (case l15 => k_is)
    (case c15 => k_is)
    (case k15 => k_is)
    (case a16 => k_is)
    (case l16 => k_is)
    (case c16 => k_is)
    (case k16 => k_is)
    (case z_isinstance => k_is)
    (case z_int => k_is)
    (case z_bool => k_is)
    (case z_list => k_is)
    (case z_len => k_is)
    (case z_tuple => k_is)
    (case z_min => k_is)
    (case z_max => k_is)
    (case z_range => k_is)
    (case z_sum => k_is)
    (case z_enumerate => k_is)
    (case mc0 => k_is)
    (case mr0 => exact ⟨_, rfl⟩)
    (case mc1 => k_is)
    (case mr1 => exact ⟨_, rfl⟩)
  case hCX =>
    obtain ⟨_, _, _, _, _, _, _, _, _, _, _, _, e⟩ := h
    exact e

