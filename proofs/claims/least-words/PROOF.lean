import PyProof.Rows.All
import Wide.All
import OpenK.AllK
import Wide.FinOn
import HandS.ForMost
import HandS.TupAny
import HandS.TupLe
import HandS.IsInst
import HandS.Deep
import HandS.SetFor
import HandS.Replace
import HandS.Conv
import KE.SortData
import KE.GoesEnum
import HandS.More
import PySem.Challenge.RW_chumwords_k11_whole_great_least_words
set_option Elab.async false
set_option linter.all false
set_option maxRecDepth 100000
set_option maxHeartbeats 4000000
/-! DLog: a logic over HandS at the level of data: slots hold data, the state is what stands still (G), what may change (M), the heap (H). -/
namespace DL
open PySem PySem.Spec PyProof.Rows L2

/-! ### data at a value -/
mutual
inductive Dv (G : Hp) : V → PyData → Prop
  | non : Dv G .non .none
  | bl (b : Bool) : Dv G (.bl b) (.bool b)
  | int (i : Int) : Dv G (.int i) (.int i)
  | str (x : Str) : Dv G (.str x) (.str x)
  | lst {a : Addr} {xs : List V} {ds : List PyData} : G a = some (.lst xs) → Dvs G xs ds → Dv G (.ref a) (.list ds)
  | tup {a : Addr} {xs : List V} {ds : List PyData} : G a = some (.tup xs) → Dvs G xs ds → Dv G (.ref a) (.tuple ds)
inductive Dvs (G : Hp) : List V → List PyData → Prop
  | nil : Dvs G [] []
  | cons {v : V} {vs : List V} {d : PyData} {ds : List PyData} : Dv G v d → Dvs G vs ds → Dvs G (v :: vs) (d :: ds)
end
mutual
theorem Dv.mono {G H : Hp} (e : Same G H) : ∀ {v : V} {d : PyData}, Dv G v d → Dv H v d
  | _, _, .non => .non
  | _, _, .bl b => .bl b
  | _, _, .int i => .int i
  | _, _, .str x => .str x
  | _, _, .lst h t => .lst (e _ _ h) (Dvs.mono e t)
  | _, _, .tup h t => .tup (e _ _ h) (Dvs.mono e t)
theorem Dvs.mono {G H : Hp} (e : Same G H) : ∀ {v : List V} {d : List PyData}, Dvs G v d → Dvs H v d
  | _, _, .nil => .nil
  | _, _, .cons h t => .cons (Dv.mono e h) (Dvs.mono e t)
end
mutual
theorem Dv.dp {G : Hp} {K : PySem.W.Frag} : ∀ {v : V} {d : PyData}, Dv G v d → Dp K G v d
  | _, _, .non => .non
  | _, _, .bl b => .bl b
  | _, _, .int i => .int i
  | _, _, .str x => .str x
  | _, _, .lst h t => .lst (SqL.of h) (Dvs.dp t)
  | _, _, .tup h t => .tup (SqT.of h) (Dvs.dp t)
theorem Dvs.dp {G : Hp} {K : PySem.W.Frag} : ∀ {v : List V} {d : List PyData}, Dvs G v d → DpAll K G v d
  | _, _, .nil => .nil
  | _, _, .cons h t => .cons (Dv.dp h) (Dvs.dp t)
end
theorem Dv.int_of {G : Hp} {v : V} {i : Int} (h : Dv G v (.int i)) : v = .int i := by cases h <;> rfl
theorem Dv.str_of {G : Hp} {v : V} {i : Str} (h : Dv G v (.str i)) : v = .str i := by cases h <;> rfl
theorem Dv.bl_of {G : Hp} {v : V} {i : Bool} (h : Dv G v (.bool i)) : v = .bl i := by cases h <;> rfl
theorem Dv.non_of {G : Hp} {v : V} (h : Dv G v .none) : v = .non := by cases h <;> rfl
theorem Dv.lst_of {G : Hp} {v : V} {ds : List PyData} (h : Dv G v (.list ds)) : ∃ a xs, v = .ref a ∧ G a = some (.lst xs) ∧ Dvs G xs ds := by
  cases h with
  | lst h t => exact ⟨_, _, rfl, h, t⟩
theorem Dv.tup_of {G : Hp} {v : V} {ds : List PyData} (h : Dv G v (.tuple ds)) : ∃ a xs, v = .ref a ∧ G a = some (.tup xs) ∧ Dvs G xs ds := by
  cases h with
  | tup h t => exact ⟨_, _, rfl, h, t⟩
theorem Dvs.length {G : Hp} : ∀ {xs : List V} {ds : List PyData}, Dvs G xs ds → xs.length = ds.length
  | _, _, .nil => rfl
  | _, _, .cons _ t => congrArg (· + 1) (Dvs.length t)
theorem Dvs.get {G : Hp} : ∀ {xs : List V} {ds : List PyData} {i : Nat} {d : PyData}, Dvs G xs ds → ds[i]? = some d → ∃ v, xs[i]? = some v ∧ Dv G v d
  | _, _, i, d, .nil, h => by simp at h
  | _, _, 0, d, .cons a t, h => by
    simp at h
    subst h
    exact ⟨_, rfl, a⟩
  | _, _, i + 1, d, .cons a t, h => by
    obtain ⟨v, e, q⟩ := Dvs.get (i := i) t (by simpa using h)
    exact ⟨v, by simpa using e, q⟩
theorem Dvs.getV {G : Hp} : ∀ {xs : List V} {ds : List PyData} {i : Nat} {v : V}, Dvs G xs ds → xs[i]? = some v → ∃ d, ds[i]? = some d ∧ Dv G v d
  | _, _, i, d, .nil, h => by simp at h
  | _, _, 0, d, .cons a t, h => by
    simp at h
    subst h
    exact ⟨_, rfl, a⟩
  | _, _, i + 1, d, .cons a t, h => by
    obtain ⟨v, e, q⟩ := Dvs.getV (i := i) t (by simpa using h)
    exact ⟨v, by simpa using e, q⟩
theorem Dvs.append {G : Hp} : ∀ {xs ys : List V} {ds es : List PyData}, Dvs G xs ds → Dvs G ys es → Dvs G (xs ++ ys) (ds ++ es)
  | _, _, _, _, .nil, s => s
  | _, _, _, _, .cons r t, s => .cons r (Dvs.append t s)
theorem Dvs.snoc {G : Hp} {xs : List V} {ds : List PyData} {v : V} {d : PyData} (h : Dvs G xs ds) (q : Dv G v d) : Dvs G (xs ++ [v]) (ds ++ [d]) := h.append (.cons q .nil)
theorem Dvs.ints {G : Hp} : ∀ {xs : List V} {ns : List Int}, Dvs G xs (ns.map .int) → xs = ns.map V.int
  | _, [], .nil => rfl
  | _, n :: ns, .cons a t => by
    rw [a.int_of, Dvs.ints t]
    rfl
theorem Dvs.strs {G : Hp} : ∀ {xs : List V} {ns : List Str}, Dvs G xs (ns.map .str) → xs = ns.map V.str
  | _, [], .nil => rfl
  | _, n :: ns, .cons a t => by
    rw [a.str_of, Dvs.strs t]
    rfl
theorem Dvs.bls {G : Hp} : ∀ {xs : List V} {ns : List Bool}, Dvs G xs (ns.map .bool) → xs = ns.map V.bl
  | _, [], .nil => rfl
  | _, n :: ns, .cons a t => by
    rw [a.bl_of, Dvs.bls t]
    rfl
theorem Dvs.of_ints {G : Hp} : ∀ (ns : List Int), Dvs G (ns.map V.int) (ns.map .int)
  | [] => .nil
  | n :: ns => .cons (.int n) (Dvs.of_ints ns)
theorem Dvs.of_strs {G : Hp} : ∀ (ns : List Str), Dvs G (ns.map V.str) (ns.map .str)
  | [] => .nil
  | n :: ns => .cons (.str n) (Dvs.of_strs ns)
theorem Dvs.take {G : Hp} : ∀ {xs : List V} {ds : List PyData} (n : Nat), Dvs G xs ds → Dvs G (xs.take n) (ds.take n)
  | _, _, 0, _ => .nil
  | _, _, _ + 1, .nil => .nil
  | _, _, n + 1, .cons a t => .cons a (Dvs.take n t)
theorem Dvs.drop {G : Hp} : ∀ {xs : List V} {ds : List PyData} (n : Nat), Dvs G xs ds → Dvs G (xs.drop n) (ds.drop n)
  | _, _, 0, h => h
  | _, _, _ + 1, .nil => .nil
  | _, _, n + 1, .cons a t => Dvs.drop n t
/-- what a slot is known to hold -/
inductive Da where
  | d (x : PyData)
  | dic (kvs : List (List Key × V))
  | ref (a : Addr)
  | ty (n : String)
  | lk (K : PySem.W.Frag) (a : Addr) (ns : List Int)
  | rw (K : PySem.W.Frag) (a sc : Addr) (ns : List Int)
def DaOk (G : Hp) (v : V) : Da → Prop
  | .d x => Dv G v x
  | .dic kvs => ∃ a, v = .ref a ∧ G a = some (.dT kvs)
  | .ref a => v = .ref a
  | .ty n => v = .ty n
  | .lk K a ns => v = .ref a ∧ SqL K G a (ns.map V.int)
  | .rw K a sc ns => v = .ref a ∧ SqL K G sc (ns.map V.int)
theorem SqL.same {K : PySem.W.Frag} {G H : Hp} {a : Addr} {xs : List V} (e : Same G H) (h : SqL K G a xs) : SqL K H a xs :=
  h.elim (fun h => .inl (h.elim (fun h => .inl (e _ _ h)) fun ⟨o, h⟩ => .inr ⟨o, e _ _ h⟩)) fun h => .inr h
theorem DaOk.mono {G H : Hp} (e : Same G H) {v : V} : ∀ {x : Da}, DaOk G v x → DaOk H v x
  | .d _, h => Dv.mono e h
  | .dic _, ⟨a, q, h⟩ => ⟨a, q, e _ _ h⟩
  | .ref _, h => h
  | .ty _, h => h
  | .lk _ _ _, h => ⟨h.1, SqL.same e h.2⟩
  | .rw _ _ _ _, h => ⟨h.1, SqL.same e h.2⟩
abbrev di (i : Int) : Da := .d (.int i)
abbrev ds (x : Str) : Da := .d (.str x)
abbrev db (x : Bool) : Da := .d (.bool x)
abbrev dn : Da := .d .none
inductive DaAll (G : Hp) : List V → List Da → Prop
  | nil : DaAll G [] []
  | cons {v : V} {vs : List V} {d : Da} {ds : List Da} : DaOk G v d → DaAll G vs ds → DaAll G (v :: vs) (d :: ds)
theorem DaAll.mono {G H : Hp} (e : Same G H) : ∀ {vs : List V} {xs : List Da}, DaAll G vs xs → DaAll H vs xs
  | _, _, .nil => .nil
  | _, _, .cons h t => .cons (h.mono e) (t.mono e)
theorem DaAll.length {G : Hp} : ∀ {xs : List V} {ds : List Da}, DaAll G xs ds → xs.length = ds.length
  | _, _, .nil => rfl
  | _, _, .cons _ t => congrArg (· + 1) (DaAll.length t)

/-! ### states -/
def isT : HO → Bool
  | .tup _ => true
  | _ => false
structure Stt (G M H : Hp) : Prop where
  g : Same G H
  m : Same M H
  gm : ∀ a, M a ≠ Option.none → G a = Option.none
  nt : ∀ a o, M a = some o → isT o = false
structure Rl (G M H G2 M2 H2 : Hp) : Prop where
  g : Same G G2
  keep : ∀ a o, H a = some o → M a = Option.none → H2 a = some o
  dom : ∀ a, H a ≠ Option.none → H2 a ≠ Option.none
  out : ∀ a, H a ≠ Option.none → M a = Option.none → G a = Option.none → (G2 a = Option.none ∨ ∃ xs, H a = some (.tup xs)) ∧ M2 a = Option.none
theorem Rl.refl (G M H : Hp) : Rl G M H G M H := ⟨Same.refl G, fun _ _ h _ => h, fun _ h => h, fun _ _ m g => ⟨.inl g, m⟩⟩
theorem Rl.trans {G M H G2 M2 H2 G3 M3 H3 : Hp} (s2 : Stt G2 M2 H2) (s3 : Stt G3 M3 H3) (s1 : Stt G M H) (a : Rl G M H G2 M2 H2) (b : Rl G2 M2 H2 G3 M3 H3) : Rl G M H G3 M3 H3 := by
  refine ⟨a.g.trans b.g, fun c o h m => ?_, fun c h => b.dom c (a.dom c h), fun c h m g => ?_⟩
  · cases q : G c with
    | some u =>
      have e1 := s1.g c u q
      rw [h] at e1
      cases e1
      exact s3.g _ _ (b.g _ _ (a.g _ _ q))
    | none =>
      have hc : H c ≠ Option.none := by
        rw [h]
        exact Option.some_ne_none _
      exact b.keep c o (a.keep c o h m) (a.out c hc m q).2
  · obtain ⟨g2, m2⟩ := a.out c h m g
    rcases g2 with g2 | g2
    · obtain ⟨g3, m3⟩ := b.out c (a.dom c h) m2 g2
      refine ⟨?_, m3⟩
      rcases g3 with g3 | ⟨xs, g3⟩
      · exact .inl g3
      · refine .inr ⟨xs, ?_⟩
        cases q : H c with
        | none => exact absurd q h
        | some o =>
          rw [a.keep c o q m] at g3
          exact g3
    · refine ⟨.inr g2, ?_⟩
      cases q : G2 c with
      | none => exact (b.out c (a.dom c h) m2 q).2
      | some u =>
        cases q2 : M3 c with
        | none => rfl
        | some o =>
          have e := s3.gm c (by rw [q2]; exact Option.some_ne_none _)
          rw [b.g c u q] at e
          cases e
/-- a new object that stands still -/
theorem Stt.new {G M H : Hp} {p : Addr} {o : HO} (s : Stt G M H) (hp : H p = Option.none) : Stt (upd G p o) M (upd H p o) := by
  have gp : G p = Option.none := s.g.free hp
  have mp : M p = Option.none := s.m.free hp
  refine ⟨fun b u h => ?_, fun b u h => ?_, fun a h => ?_, fun a o' h => ?_⟩
  · by_cases e : b = p
    · subst e
      rw [upd_same] at h ⊢
      exact h
    · rw [upd_ne e] at h ⊢
      exact s.g _ _ h
  · rw [upd_ne (ne_of_none h mp)]
    exact s.m _ _ h
  · have e : a ≠ p := fun z => h (by rw [z]; exact mp)
    rw [upd_ne e]
    exact s.gm a h
  · exact s.nt a o' h
theorem Rl.new {G M H : Hp} {p : Addr} {o : HO} (s : Stt G M H) (hp : H p = Option.none) : Rl G M H (upd G p o) M (upd H p o) := by
  have gp : G p = Option.none := s.g.free hp
  refine ⟨fun b u h => ?_, fun b u h _ => ?_, fun b h => ?_, fun b h m g => ⟨.inl ?_, m⟩⟩
  · rw [upd_ne (ne_of_none h gp)]
    exact h
  · rw [upd_ne (ne_of_none h hp)]
    exact h
  · have e : b ≠ p := fun z => h (by rw [z]; exact hp)
    rw [upd_ne e]
    exact h
  · have e : b ≠ p := fun z => h (by rw [z]; exact hp)
    rw [upd_ne e]
    exact g
/-- a new object that may change -/
theorem Stt.newM {G M H : Hp} {p : Addr} {o : HO} (s : Stt G M H) (hp : H p = Option.none) (ho : isT o = false := by rfl) : Stt G (upd M p o) (upd H p o) := by
  have gp : G p = Option.none := s.g.free hp
  have mp : M p = Option.none := s.m.free hp
  refine ⟨fun b u h => ?_, fun b u h => ?_, fun a h => ?_, fun a o' h => ?_⟩
  · rw [upd_ne (ne_of_none h gp)]
    exact s.g _ _ h
  · by_cases e : b = p
    · subst e
      rw [upd_same] at h ⊢
      exact h
    · rw [upd_ne e] at h ⊢
      exact s.m _ _ h
  · by_cases e : a = p
    · rw [e]
      exact gp
    · rw [upd_ne e] at h
      exact s.gm a h
  · by_cases e : a = p
    · rw [e, upd_same] at h
      cases h
      exact ho
    · rw [upd_ne e] at h
      exact s.nt a o' h
theorem Rl.newM {G M H : Hp} {p : Addr} {o : HO} (s : Stt G M H) (hp : H p = Option.none) : Rl G M H G (upd M p o) (upd H p o) := by
  have gp : G p = Option.none := s.g.free hp
  refine ⟨Same.refl G, fun b u h _ => ?_, fun b h => ?_, fun b h m g => ⟨.inl g, ?_⟩⟩
  · rw [upd_ne (ne_of_none h hp)]
    exact h
  · have e : b ≠ p := fun z => h (by rw [z]; exact hp)
    rw [upd_ne e]
    exact h
  · have e : b ≠ p := fun z => h (by rw [z]; exact hp)
    rw [upd_ne e]
    exact m
/-- an object that may change is changed -/
theorem Stt.write {G M H : Hp} {p : Addr} {o u : HO} (s : Stt G M H) (hp : M p = some u) (ho : isT o = false := by rfl) : Stt G (upd M p o) (upd H p o) := by
  have gp : G p = Option.none := s.gm p (by rw [hp]; exact Option.some_ne_none _)
  refine ⟨fun b z h => ?_, fun b z h => ?_, fun a h => ?_, fun a o' h => ?_⟩
  · rw [upd_ne (ne_of_none h gp)]
    exact s.g _ _ h
  · by_cases e : b = p
    · subst e
      rw [upd_same] at h ⊢
      exact h
    · rw [upd_ne e] at h ⊢
      exact s.m _ _ h
  · by_cases e : a = p
    · rw [e]
      exact gp
    · rw [upd_ne e] at h
      exact s.gm a h
  · by_cases e : a = p
    · rw [e, upd_same] at h
      cases h
      exact ho
    · rw [upd_ne e] at h
      exact s.nt a o' h
theorem Rl.write {G M H : Hp} {p : Addr} {o u : HO} (s : Stt G M H) (hp : M p = some u) : Rl G M H G (upd M p o) (upd H p o) := by
  have hne : ∀ b, M b = Option.none → b ≠ p := fun b m z => by
    rw [z, hp] at m
    cases m
  refine ⟨Same.refl G, fun b z h m => ?_, fun b h => ?_, fun b h m g => ⟨.inl g, ?_⟩⟩
  · rw [upd_ne (hne b m)]
    exact h
  · by_cases e : b = p
    · rw [e, upd_same]
      exact Option.some_ne_none _
    · rw [upd_ne e]
      exact h
  · rw [upd_ne (hne b m)]
    exact m
/-- an object that may change stands still from now on -/
theorem Stt.freeze {G M H : Hp} {p : Addr} {u : HO} (s : Stt G (upd M p u) H) (hp : M p = Option.none) : Stt (upd G p u) M H := by
  refine ⟨fun b z h => ?_, fun b z h => ?_, fun a h => ?_, fun a o' h => ?_⟩
  · by_cases e : b = p
    · subst e
      rw [upd_same] at h
      rw [← h]
      exact s.m _ _ upd_same
    · rw [upd_ne e] at h
      exact s.g _ _ h
  · refine s.m _ _ ?_
    rw [upd_ne (ne_of_none h hp)]
    exact h
  · have e : a ≠ p := fun z => h (by rw [z]; exact hp)
    rw [upd_ne e]
    exact s.gm a (by rw [upd_ne e]; exact h)
  · have e : a ≠ p := fun z => by
      rw [z, hp] at h
      cases h
    exact s.nt a o' (by rw [upd_ne e]; exact h)
theorem Rl.freeze {G M H : Hp} {p : Addr} {u : HO} (s : Stt G (upd M p u) H) (hp : M p = Option.none) : Rl G (upd M p u) H (upd G p u) M H := by
  have gp : G p = Option.none := s.gm p (by rw [upd_same]; exact Option.some_ne_none _)
  refine ⟨fun b z h => ?_, fun b z h m => h, fun b h => h, fun b h m g => ?_⟩
  · rw [upd_ne (ne_of_none h gp)]
    exact h
  · have e : b ≠ p := fun z => by
      rw [z, upd_same] at m
      cases m
    rw [upd_ne e] at m ⊢
    exact ⟨.inl g, m⟩
/-- the tuples of the heap are known, too -/
def wt (G H : Hp) : Hp := fun a => match G a with
  | some o => some o
  | Option.none => match H a with
    | some (.tup xs) => some (.tup xs)
    | _ => Option.none
theorem wt_g {G H : Hp} : Same G (wt G H) := fun a o h => by
  show (match G a with | some o => some o | Option.none => _) = some o
  rw [h]
theorem wt_t {G H : Hp} {a : Addr} {xs : List V} (s : Same G H) (h : H a = some (.tup xs)) : wt G H a = some (.tup xs) := by
  unfold wt
  cases q : G a with
  | some o =>
    have e := s a o q
    rw [h] at e
    show some o = _
    exact e.symm
  | none =>
    simp only
    rw [h]
theorem wt_get {G H : Hp} {a : Addr} {o : HO} (h : wt G H a = some o) : G a = some o ∨ (G a = Option.none ∧ H a = some o ∧ isT o = true) := by
  unfold wt at h
  cases q : G a with
  | some u =>
    rw [q] at h
    exact .inl h
  | none =>
    rw [q] at h
    simp only at h
    split at h
    · rename_i xs e
      cases h
      exact .inr ⟨rfl, e, rfl⟩
    · cases h
theorem Stt.wt {G M H : Hp} (s : Stt G M H) : Stt (DL.wt G H) M H := by
  refine ⟨fun a o h => ?_, s.m, fun a h => ?_, s.nt⟩
  · rcases wt_get h with h | ⟨_, h, _⟩
    · exact s.g _ _ h
    · exact h
  · cases q : DL.wt G H a with
    | none => rfl
    | some o =>
      rcases wt_get q with z | ⟨_, z, t⟩
      · rw [s.gm a h] at z
        cases z
      · cases r : M a with
        | none => exact absurd r h
        | some u =>
          have e := s.m a u r
          rw [z] at e
          cases e
          rw [s.nt a _ r] at t
          cases t
theorem Rl.wt {G M H : Hp} (s : Stt G M H) : Rl G M H (DL.wt G H) M H := by
  refine ⟨wt_g, fun _ _ h _ => h, fun _ h => h, fun a h m g => ⟨?_, m⟩⟩
  cases q : DL.wt G H a with
  | none => exact .inl rfl
  | some o =>
    rcases wt_get q with z | ⟨_, z, t⟩
    · rw [g] at z
      cases z
    · cases o with
      | tup xs => exact .inr ⟨xs, z⟩
      | _ => cases t

/-! ### slots -/
abbrev Dl := List (Option Da)
def Slots (G : Hp) (σ : L2.St) (δ : Dl) : Prop := σ.length = δ.length ∧ ∀ (i : Nat) (x : Da), δ[i]? = some (some x) → ∃ v, σ[i]? = some (some v) ∧ DaOk G v x
theorem Slots.mono {G H : Hp} {σ : L2.St} {δ : Dl} (e : Same G H) (h : Slots G σ δ) : Slots H σ δ := ⟨h.1, fun i x q => let ⟨v, a, b⟩ := h.2 i x q; ⟨v, a, b.mono e⟩⟩
theorem Slots.set {G : Hp} {σ : L2.St} {δ : Dl} {i : Nat} {v : V} {x : Da} (h : Slots G σ δ) (r : DaOk G v x) : Slots G (σ.set i (some v)) (δ.set i (some x)) := by
  refine ⟨by rw [List.length_set, List.length_set]; exact h.1, fun j y q => ?_⟩
  by_cases e : i = j
  · subst e
    by_cases hl : i < δ.length
    · rw [List.getElem?_set_self hl] at q
      cases q
      exact ⟨v, by rw [List.getElem?_set_self (by rw [h.1]; exact hl)], r⟩
    · rw [List.getElem?_eq_none (by rw [List.length_set]; omega)] at q
      cases q
  · rw [List.getElem?_set_ne e] at q
    obtain ⟨u, a, b⟩ := h.2 j y q
    exact ⟨u, by rw [List.getElem?_set_ne e]; exact a, b⟩
theorem Slots.forget {G : Hp} {σ : L2.St} {δ : Dl} {i : Nat} {z : Option V} (h : Slots G σ δ) : Slots G (σ.set i z) (δ.set i Option.none) := by
  refine ⟨by rw [List.length_set, List.length_set]; exact h.1, fun j y q => ?_⟩
  by_cases e : i = j
  · subst e
    by_cases hl : i < δ.length
    · rw [List.getElem?_set_self hl] at q
      cases q
    · rw [List.getElem?_eq_none (by rw [List.length_set]; omega)] at q
      cases q
  · rw [List.getElem?_set_ne e] at q
    obtain ⟨u, a, b⟩ := h.2 j y q
    exact ⟨u, by rw [List.getElem?_set_ne e]; exact a, b⟩
/-- d says no more than c -/
def Fo : Dl → Dl → Prop
  | [], [] => True
  | _ :: c, Option.none :: d => Fo c d
  | x :: c, some y :: d => x = some y ∧ Fo c d
  | _, _ => False
theorem Fo.get : ∀ {c d : Dl}, Fo c d → c.length = d.length ∧ ∀ (i : Nat) (x : Da), d[i]? = some (some x) → c[i]? = some (some x)
  | [], [], _ => ⟨rfl, fun i x h => by simp at h⟩
  | y :: c, Option.none :: d, h => by
    obtain ⟨l, g⟩ := Fo.get (c := c) (d := d) h
    refine ⟨by simp [l], fun i x q => ?_⟩
    cases i with
    | zero => simp at q
    | succ i => simpa using g i x (by simpa using q)
  | y :: c, some z :: d, h => by
    obtain ⟨e, h⟩ := h
    obtain ⟨l, g⟩ := Fo.get (c := c) (d := d) h
    refine ⟨by simp [l], fun i x q => ?_⟩
    cases i with
    | zero =>
      rw [e]
      simpa using q
    | succ i => simpa using g i x (by simpa using q)
  | [], Option.none :: _, h => h.elim
  | [], some _ :: _, h => h.elim
  | _ :: _, [], h => h.elim
theorem Slots.fo {G : Hp} {σ : L2.St} {c d : Dl} (h : Slots G σ c) (f : Fo c d) : Slots G σ d := ⟨h.1.trans f.get.1, fun i x q => h.2 i x (f.get.2 i x q)⟩
theorem Fo.refl : ∀ (c : Dl), Fo c c
  | [] => trivial
  | Option.none :: c => Fo.refl c
  | some _ :: c => ⟨rfl, Fo.refl c⟩
def wipeD (δ : Dl) : List Nat → Dl
  | [] => δ
  | v :: vs => (wipeD δ vs).set v Option.none
theorem Slots.wipe {G : Hp} {σ : L2.St} {δ : Dl} (h : Slots G σ δ) : ∀ vs : List Nat, Slots G (L2.wipe σ vs) (wipeD δ vs)
  | [] => h
  | v :: vs => (h.wipe vs).forget
def startD (n : Nat) (xs : List Da) : Dl := xs.map some ++ List.replicate (n - xs.length) Option.none
theorem slots_start {G : Hp} {N : List Str} {vs : List V} {xs : List Da} (h : DaAll G vs xs) : Slots G (L2.start N vs) (startD N.length xs) := by
  have hl := h.length
  refine ⟨by simp only [L2.start, startD, List.length_append, List.length_map, List.length_replicate, hl], fun i x q => ?_⟩
  unfold startD at q
  by_cases hi : i < xs.length
  · rw [List.getElem?_append_left (by rw [List.length_map]; exact hi), List.getElem?_map] at q
    have : ∀ {vs : List V} {xs : List Da} {i : Nat} {x : Da}, DaAll G vs xs → (xs[i]?).map some = some (some x) → ∃ v, vs[i]? = some v ∧ DaOk G v x := by
      intro vs xs i x h
      induction h generalizing i with
      | nil => intro q; simp at q
      | cons a t ih =>
        intro q
        cases i with
        | zero =>
          simp at q
          subst q
          exact ⟨_, rfl, a⟩
        | succ i =>
          obtain ⟨v, e, r⟩ := ih (i := i) (by simpa using q)
          exact ⟨v, by simpa using e, r⟩
    obtain ⟨v, e, r⟩ := this h q
    refine ⟨v, ?_, r⟩
    unfold L2.start
    rw [List.getElem?_append_left (by rw [List.length_map, hl]; exact hi), List.getElem?_map, e] <;> rfl
  · rw [List.getElem?_append_right (by rw [List.length_map]; omega), List.getElem?_replicate] at q
    split at q <;> cases q

/-! ### the judgements -/
def EvM (te : TE) (δ : Dl) (M : Hp) (x : Da) (M2 : Hp) : Prop := ∀ (σ : L2.St) (G H : Hp), Stt G M H → Slots G σ δ → ∀ Q : VK, (∀ v G2 H2, Stt G2 M2 H2 → Rl G M H G2 M2 H2 → DaOk G2 v x → Q v H2) → te σ H Q
def ETM (tt : TT) (δ : Dl) (M : Hp) (b : Bool) (M2 : Hp) : Prop := ∀ (σ : L2.St) (G H : Hp), Stt G M H → Slots G σ δ → ∀ Q : Bool → Hp → Prop, (∀ G2 H2, Stt G2 M2 H2 → Rl G M H G2 M2 H2 → Q b H2) → tt σ H Q
def EAM (ta : TA) (δ : Dl) (M : Hp) (xs : List Da) (M2 : Hp) : Prop := ∀ (σ : L2.St) (G H : Hp), Stt G M H → Slots G σ δ → ∀ Q : List V → Hp → Prop, (∀ vs G2 H2, Stt G2 M2 H2 → Rl G M H G2 M2 H2 → DaAll G2 vs xs → Q vs H2) → ta σ H Q
/-- a two-place operation on values -/
def RvM (r : R2) (x y z : Da) : Prop := ∀ (G M H : Hp) (v w : V), Stt G M H → DaOk G v x → DaOk G w y → ∀ Q : VK, (∀ u G2 H2, Stt G2 M H2 → Rl G M H G2 M H2 → DaOk G2 u z → Q u H2) → r v w H Q
/-- a call on values -/
def RcM (r : List V → Hp → VK → Prop) (xs : List Da) (z : Da) : Prop := ∀ (G M H : Hp) (vs : List V), Stt G M H → DaAll G vs xs → ∀ Q : VK, (∀ u G2 H2, Stt G2 M H2 → Rl G M H G2 M H2 → DaOk G2 u z → Q u H2) → r vs H Q
/-- .. where nothing is made -/
theorem rv_of {r : R2} {x y z : Da} (h : ∀ (G H : Hp) (v w : V), Same G H → DaOk G v x → DaOk G w y → ∀ Q : VK, (∀ u, DaOk G u z → Q u H) → r v w H Q) : RvM r x y z :=
  fun G M H v w s a b Q k => h G H v w s.g a b Q fun u q => k u G H s (Rl.refl _ _ _) q
theorem rc_of {r : List V → Hp → VK → Prop} {xs : List Da} {z : Da} (h : ∀ (G H : Hp) (vs : List V), Same G H → DaAll G vs xs → ∀ Q : VK, (∀ u, DaOk G u z → Q u H) → r vs H Q) : RcM r xs z :=
  fun G M H v s a Q k => h G H v s.g a Q fun u q => k u G H s (Rl.refl _ _ _) q

section
variable {δ δ' : Dl} {M M1 M2 M3 : Hp} {ta tb tc te : TE} {t u : TT} {x y z : Da}
theorem em_var {i : Nat} (h : δ[i]? = some (some x)) : EvM (tVar i) δ M x M := fun σ G H s sl Q k => by
  obtain ⟨v, e, r⟩ := sl.2 i x h
  exact ⟨v, e, k v G H s (Rl.refl _ _ _) r⟩
theorem em_int {i : Int} : EvM (tC (.int i)) δ M (di i) M := fun σ G H s sl Q k => k _ G H s (Rl.refl _ _ _) (Dv.int i)
theorem em_str {i : Str} : EvM (tC (.str i)) δ M (ds i) M := fun σ G H s sl Q k => k _ G H s (Rl.refl _ _ _) (Dv.str i)
theorem em_bl {i : Bool} : EvM (tC (.bl i)) δ M (db i) M := fun σ G H s sl Q k => k _ G H s (Rl.refl _ _ _) (Dv.bl i)
theorem em_non : EvM (tC .non) δ M dn M := fun σ G H s sl Q k => k _ G H s (Rl.refl _ _ _) Dv.non
theorem EvM.is (h : EvM te δ M x M2) (e : x = y) : EvM te δ M y M2 := e ▸ h
theorem ETM.is {a b : Bool} (h : ETM t δ M a M2) (e : a = b) : ETM t δ M b M2 := e ▸ h
/-- one after another -/
theorem em_then {k : V → Hp → VK → Prop} (h : EvM ta δ M x M1) (hk : ∀ (σ : L2.St) (G H : Hp) (v : V), Stt G M1 H → Slots G σ δ → DaOk G v x → ∀ Q : VK, (∀ u G2 H2, Stt G2 M2 H2 → Rl G M1 H G2 M2 H2 → DaOk G2 u y → Q u H2) → k v H Q) :
    EvM (fun σ H Q => ta σ H fun v H1 => k v H1 Q) δ M y M2 := fun σ G H s sl Q q => h σ G H s sl _ fun v G1 H1 s1 r1 d1 => hk σ G1 H1 v s1 (sl.mono r1.g) d1 Q fun u G2 H2 s2 r2 d2 => q u G2 H2 s2 (Rl.trans s1 s2 s r1 r2) d2
theorem em_op {r : R2} (ha : EvM ta δ M x M1) (hb : EvM tb δ M1 y M2) (hr : RvM r x y z) : EvM (tOp r ta tb) δ M z M2 := fun σ G H s sl Q k =>
  ha σ G H s sl _ fun v G1 H1 s1 r1 d1 => hb σ G1 H1 s1 (sl.mono r1.g) _ fun w G2 H2 s2 r2 d2 => hr G2 M2 H2 v w s2 (d1.mono r2.g) d2 Q fun u G3 H3 s3 r3 d3 =>
    k u G3 H3 s3 (Rl.trans s1 s3 s r1 (Rl.trans s2 s3 s1 r2 r3)) d3
theorem ea_nil : EAM tNil δ M [] M := fun σ G H s sl Q k => k [] G H s (Rl.refl _ _ _) .nil
theorem ea_cons {tr : TA} {xs : List Da} (ha : EvM ta δ M x M1) (hr : EAM tr δ M1 xs M2) : EAM (tCons ta tr) δ M (x :: xs) M2 := fun σ G H s sl Q k =>
  ha σ G H s sl _ fun v G1 H1 s1 r1 d1 => hr σ G1 H1 s1 (sl.mono r1.g) _ fun vs G2 H2 s2 r2 d2 => k (v :: vs) G2 H2 s2 (Rl.trans s1 s2 s r1 r2) (.cons (d1.mono r2.g) d2)
theorem em_cb {r : List V → Hp → VK → Prop} {ta : TA} {xs : List Da} (h : EAM ta δ M xs M1) (hr : RcM r xs z) : EvM (tCB r ta) δ M z M1 := fun σ G H s sl Q k =>
  h σ G H s sl _ fun vs G1 H1 s1 r1 d1 => hr G1 M1 H1 vs s1 d1 Q fun u G2 H2 s2 r2 d2 => k u G2 H2 s2 (Rl.trans s1 s2 s r1 r2) d2
theorem em_if {b : Bool} (h : ETM t δ M b M1) (h1 : b = true → EvM ta δ M1 x M2) (h2 : b = false → EvM tb δ M1 x M2) : EvM (tIf t ta tb) δ M x M2 := fun σ G H s sl Q k =>
  h σ G H s sl _ fun G1 H1 s1 r1 => by
    cases b with
    | true => exact h1 rfl σ G1 H1 s1 (sl.mono r1.g) Q fun u G2 H2 s2 r2 d2 => k u G2 H2 s2 (Rl.trans s1 s2 s r1 r2) d2
    | false => exact h2 rfl σ G1 H1 s1 (sl.mono r1.g) Q fun u G2 H2 s2 r2 d2 => k u G2 H2 s2 (Rl.trans s1 s2 s r1 r2) d2
theorem et_test {b : Bool} (h : EvM te δ M (db b) M1) : ETM (tTest te) δ M b M1 := fun σ G H s sl Q k =>
  h σ G H s sl _ fun v G1 H1 s1 r1 d1 => ⟨b, Dv.bl_of d1, k G1 H1 s1 r1⟩
theorem et_B {b : Bool} (h : EvM te δ M (db b) M1) : ETM (tB te) δ M b M1 := fun σ G H s sl Q k =>
  h σ G H s sl _ fun v G1 H1 s1 r1 d1 => ⟨b, Dv.bl_of d1, k G1 H1 s1 r1⟩
theorem et_not {b : Bool} (h : ETM t δ M b M1) : ETM (tNot t) δ M (!b) M1 := fun σ G H s sl Q k => h σ G H s sl _ fun G1 H1 s1 r1 => k G1 H1 s1 r1
theorem et_and {a b : Bool} (h1 : ETM t δ M a M1) (h2 : a = true → ETM u δ M1 b M2) (h3 : a = false → M2 = M1) : ETM (tAnd t u) δ M (a && b) M2 := fun σ G H s sl Q k =>
  h1 σ G H s sl _ fun G1 H1 s1 r1 => by
    cases a with
    | true => exact h2 rfl σ G1 H1 s1 (sl.mono r1.g) Q fun G2 H2 s2 r2 => k G2 H2 s2 (Rl.trans s1 s2 s r1 r2)
    | false =>
      cases h3 rfl
      exact k G1 H1 s1 r1
theorem et_or {a b : Bool} (h1 : ETM t δ M a M1) (h2 : a = false → ETM u δ M1 b M2) (h3 : a = true → M2 = M1) : ETM (tOr t u) δ M (a || b) M2 := fun σ G H s sl Q k =>
  h1 σ G H s sl _ fun G1 H1 s1 r1 => by
    cases a with
    | false => exact h2 rfl σ G1 H1 s1 (sl.mono r1.g) Q fun G2 H2 s2 r2 => k G2 H2 s2 (Rl.trans s1 s2 s r1 r2)
    | true =>
      cases h3 rfl
      exact k G1 H1 s1 r1
theorem em_andV {a b : Bool} (h1 : EvM ta δ M (db a) M1) (h2 : a = true → EvM tb δ M1 (db b) M1) : EvM (tAndV ta tb) δ M (db (a && b)) M1 := fun σ G H s sl Q k =>
  h1 σ G H s sl _ fun v G1 H1 s1 r1 d1 => ⟨a, Dv.bl_of d1, by
    cases a with
    | true => exact h2 rfl σ G1 H1 s1 (sl.mono r1.g) Q fun w G2 H2 s2 r2 d2 => k w G2 H2 s2 (Rl.trans s1 s2 s r1 r2) d2
    | false => exact k _ G1 H1 s1 r1 (Dv.bl false)⟩
theorem em_orV {a b : Bool} (h1 : EvM ta δ M (db a) M1) (h2 : a = false → EvM tb δ M1 (db b) M1) : EvM (tOrV ta tb) δ M (db (a || b)) M1 := fun σ G H s sl Q k =>
  h1 σ G H s sl _ fun v G1 H1 s1 r1 d1 => ⟨a, Dv.bl_of d1, by
    cases a with
    | false => exact h2 rfl σ G1 H1 s1 (sl.mono r1.g) Q fun w G2 H2 s2 r2 d2 => k w G2 H2 s2 (Rl.trans s1 s2 s r1 r2) d2
    | true => exact k _ G1 H1 s1 r1 (Dv.bl true)⟩
theorem em_notV {a : Bool} (h1 : EvM ta δ M (db a) M1) : EvM (tNotV ta) δ M (db (!a)) M1 := fun σ G H s sl Q k =>
  h1 σ G H s sl _ fun v G1 H1 s1 r1 d1 => ⟨a, Dv.bl_of d1, k _ G1 H1 s1 r1 (Dv.bl _)⟩
theorem em_chain {r r' : R2} {a b : Bool} (ha : EvM ta δ M x M) (hb : EvM tb δ M y M) (hr : RvM r x y (db a)) (hc : a = true → EvM tc δ M z M) (hr' : a = true → RvM r' y z (db b)) : EvM (tChain r r' ta tb tc) δ M (db (a && b)) M := fun σ G H s sl Q k =>
  ha σ G H s sl _ fun v G1 H1 s1 r1 d1 => hb σ G1 H1 s1 (sl.mono r1.g) _ fun w G2 H2 s2 r2 d2 => hr G2 M H2 v w s2 (d1.mono r2.g) d2 _ fun e G3 H3 s3 r3 d3 => by
    have r13 := Rl.trans s1 s3 s r1 (Rl.trans s2 s3 s1 r2 r3)
    refine ⟨a, Dv.bl_of d3, ?_⟩
    cases a with
    | true => exact hc rfl σ G3 H3 s3 (sl.mono r13.g) _ fun c G4 H4 s4 r4 d4 => hr' rfl G4 M H4 w c s4 (d2.mono (r3.g.trans r4.g)) d4 Q fun e G5 H5 s5 r5 d5 => k e G5 H5 s5 (Rl.trans s3 s5 s r13 (Rl.trans s4 s5 s3 r4 r5)) d5
    | false => exact k _ G3 H3 s3 r13 (Dv.bl false)
/-- displays -/
theorem Dvs_of_all {G : Hp} : ∀ {vs : List V} {xs : List PyData}, DaAll G vs (xs.map .d) → Dvs G vs xs
  | _, [], .nil => .nil
  | _, x :: xs, .cons h t => .cons h (Dvs_of_all t)
theorem em_tup {ta : TA} {xs : List PyData} (h : EAM ta δ M (xs.map .d) M1) (hl : xs.length ≤ 1000) : EvM (tTup ta) δ M (.d (.tuple xs)) M1 := fun σ G H s sl Q k =>
  h σ G H s sl _ fun vs G1 H1 s1 r1 d1 => by
    have e := d1.length
    rw [List.length_map] at e
    refine ⟨Nat.le_of_lt (small1000 (by omega)), fun p hp => ?_⟩
    have s2 := s1.new (o := .tup vs) hp
    have r2 := Rl.new (o := .tup vs) s1 hp
    exact k _ _ _ s2 (Rl.trans s1 s2 s r1 r2) (Dv.tup upd_same ((Dvs_of_all d1).mono r2.g))
theorem em_lst {ta : TA} {xs : List PyData} (h : EAM ta δ M (xs.map .d) M1) (hl : xs.length ≤ 1000) : EvM (tLst ta) δ M (.d (.list xs)) M1 := fun σ G H s sl Q k =>
  h σ G H s sl _ fun vs G1 H1 s1 r1 d1 => by
    have e := d1.length
    rw [List.length_map] at e
    refine ⟨Nat.le_of_lt (small1000 (by omega)), fun p hp => ?_⟩
    have s2 := s1.new (o := .lst vs) hp
    have r2 := Rl.new (o := .lst vs) s1 hp
    exact k _ _ _ s2 (Rl.trans s1 s2 s r1 r2) (Dv.lst upd_same ((Dvs_of_all d1).mono r2.g))
end
end DL

set_option Elab.async false
set_option linter.all false
set_option maxRecDepth 100000
set_option maxHeartbeats 4000000
/-! DStm: statements, loops, comprehensions, promises over DLog. -/
namespace DL
open PySem PySem.Spec PyProof.Rows L2

/-! ### statements -/
inductive Out where
  | nx (δ : Dl) (M : Hp)
  | rt (x : Da) (M : Hp)
  | bk (δ : Dl) (M : Hp)
  | ct (δ : Dl) (M : Hp)
def WS (t : TS) (δ : Dl) (M : Hp) (P : Out → Prop) : Prop := ∀ (σ : L2.St) (G H : Hp) (D : Ends), Stt G M H → Slots G σ δ →
  (∀ σ2 δ2 M2 G2 H2, P (.nx δ2 M2) → Stt G2 M2 H2 → Rl G M H G2 M2 H2 → Slots G2 σ2 δ2 → D.nx σ2 H2) →
  (∀ x v M2 G2 H2, P (.rt x M2) → Stt G2 M2 H2 → Rl G M H G2 M2 H2 → DaOk G2 v x → D.rt v H2) →
  (∀ σ2 δ2 M2 G2 H2, P (.bk δ2 M2) → Stt G2 M2 H2 → Rl G M H G2 M2 H2 → Slots G2 σ2 δ2 → D.bk σ2 H2) →
  (∀ σ2 δ2 M2 G2 H2, P (.ct δ2 M2) → Stt G2 M2 H2 → Rl G M H G2 M2 H2 → Slots G2 σ2 δ2 → D.ct σ2 H2) → t D σ H
def Then (u : TS) (P : Out → Prop) : Out → Prop
  | .nx δ M => WS u δ M P
  | .rt x M => P (.rt x M)
  | .bk δ M => P (.bk δ M)
  | .ct δ M => P (.ct δ M)
section
variable {δ δ' : Dl} {M M1 M2 M3 : Hp} {ta tb tc te : TE} {t u : TS} {c : TT} {x y z : Da} {P P' : Out → Prop}
theorem ws_imp (h : WS t δ M P) (k : ∀ o, P o → P' o) : WS t δ M P' := fun σ G H D s sl h1 h2 h3 h4 =>
  h σ G H D s sl (fun σ2 δ2 M2 G2 H2 p => h1 σ2 δ2 M2 G2 H2 (k _ p)) (fun x v M2 G2 H2 p => h2 x v M2 G2 H2 (k _ p)) (fun σ2 δ2 M2 G2 H2 p => h3 σ2 δ2 M2 G2 H2 (k _ p)) (fun σ2 δ2 M2 G2 H2 p => h4 σ2 δ2 M2 G2 H2 (k _ p))
theorem ws_fo (f : Fo δ δ') (h : WS t δ' M P) : WS t δ M P := fun σ G H D s sl => h σ G H D s (sl.fo f)
theorem ws_seq (h : WS t δ M (Then u P)) : WS (tSeq t u) δ M P := fun σ G H D s sl h1 h2 h3 h4 =>
  h σ G H { D with nx := u D } s sl
    (fun σ2 δ2 M2 G2 H2 p s2 r2 sl2 => p σ2 G2 H2 D s2 sl2 (fun σ3 δ3 M3 G3 H3 p s3 r3 => h1 σ3 δ3 M3 G3 H3 p s3 (Rl.trans s2 s3 s r2 r3)) (fun x v M3 G3 H3 p s3 r3 => h2 x v M3 G3 H3 p s3 (Rl.trans s2 s3 s r2 r3))
      (fun σ3 δ3 M3 G3 H3 p s3 r3 => h3 σ3 δ3 M3 G3 H3 p s3 (Rl.trans s2 s3 s r2 r3)) (fun σ3 δ3 M3 G3 H3 p s3 r3 => h4 σ3 δ3 M3 G3 H3 p s3 (Rl.trans s2 s3 s r2 r3)))
    h2 h3 h4
theorem ws_next (h : P (.nx δ M)) : WS tNext δ M P := fun σ G H D s sl h1 h2 h3 h4 => h1 σ δ M G H h s (Rl.refl _ _ _) sl
theorem ws_break (h : P (.bk δ M)) : WS tBreak δ M P := fun σ G H D s sl h1 h2 h3 h4 => h3 σ δ M G H h s (Rl.refl _ _ _) sl
theorem ws_ret (h : EvM te δ M x M1) (k : P (.rt x M1)) : WS (tRet te) δ M P := fun σ G H D s sl h1 h2 h3 h4 =>
  h σ G H s sl _ fun v G1 H1 s1 r1 d1 => h2 x v M1 G1 H1 k s1 r1 d1
theorem ws_set {i : Nat} (h : EvM te δ M x M1) (k : P (.nx (δ.set i (some x)) M1)) : WS (tAsg te (gName i)) δ M P := fun σ G H D s sl h1 h2 h3 h4 =>
  h σ G H s sl _ fun v G1 H1 s1 r1 d1 => h1 _ _ M1 G1 H1 k s1 r1 ((sl.mono r1.g).set d1)
theorem ws_drop (h : EvM te δ M x M1) (k : P (.nx δ M1)) : WS (tDrop te) δ M P := fun σ G H D s sl h1 h2 h3 h4 =>
  h σ G H s sl _ fun v G1 H1 s1 r1 d1 => h1 _ _ M1 G1 H1 k s1 r1 (sl.mono r1.g)
theorem ws_mid {G H : Hp} {G1 H1 : Hp} {D : Ends} {σ : L2.St} (s : Stt G M H) (s1 : Stt G1 M1 H1) (r1 : Rl G M H G1 M1 H1) (sl : Slots G1 σ δ) (h : WS t δ M1 P)
    (h1 : ∀ σ2 δ2 M2 G2 H2, P (.nx δ2 M2) → Stt G2 M2 H2 → Rl G M H G2 M2 H2 → Slots G2 σ2 δ2 → D.nx σ2 H2)
    (h2 : ∀ x v M2 G2 H2, P (.rt x M2) → Stt G2 M2 H2 → Rl G M H G2 M2 H2 → DaOk G2 v x → D.rt v H2)
    (h3 : ∀ σ2 δ2 M2 G2 H2, P (.bk δ2 M2) → Stt G2 M2 H2 → Rl G M H G2 M2 H2 → Slots G2 σ2 δ2 → D.bk σ2 H2)
    (h4 : ∀ σ2 δ2 M2 G2 H2, P (.ct δ2 M2) → Stt G2 M2 H2 → Rl G M H G2 M2 H2 → Slots G2 σ2 δ2 → D.ct σ2 H2) : t D σ H1 :=
  h σ G1 H1 D s1 sl (fun σ3 δ3 M3 G3 H3 p s3 r3 => h1 σ3 δ3 M3 G3 H3 p s3 (Rl.trans s1 s3 s r1 r3)) (fun x v M3 G3 H3 p s3 r3 => h2 x v M3 G3 H3 p s3 (Rl.trans s1 s3 s r1 r3))
    (fun σ3 δ3 M3 G3 H3 p s3 r3 => h3 σ3 δ3 M3 G3 H3 p s3 (Rl.trans s1 s3 s r1 r3)) (fun σ3 δ3 M3 G3 H3 p s3 r3 => h4 σ3 δ3 M3 G3 H3 p s3 (Rl.trans s1 s3 s r1 r3))
theorem ws_if {b : Bool} (h : ETM c δ M b M1) (k1 : b = true → WS t δ M1 P) (k2 : b = false → WS u δ M1 P) : WS (tIfS c t u) δ M P := fun σ G H D s sl h1 h2 h3 h4 =>
  h σ G H s sl _ fun G1 H1 s1 r1 => by
    cases b with
    | true => exact ws_mid s s1 r1 (sl.mono r1.g) (k1 rfl) h1 h2 h3 h4
    | false => exact ws_mid s s1 r1 (sl.mono r1.g) (k2 rfl) h1 h2 h3 h4
/-- a test that does not hold: no else -/
theorem ws_pass (h : ETM c δ M false M1) (k : P (.nx δ M1)) : WS (tIfS c t tNext) δ M P := ws_if h (fun q => nomatch q) fun _ => ws_next k
theorem ws_par {i j : Nat} {ta : TA} (h : EAM ta δ M [x, y] M1) (k : P (.nx ((δ.set i (some x)).set j (some y)) M1)) : WS (tPar i j ta) δ M P := fun σ G H D s sl h1 h2 h3 h4 =>
  h σ G H s sl _ fun vs G1 H1 s1 r1 d1 => by
    cases d1 with
    | cons a t =>
      cases t with
      | cons b t =>
        cases t
        exact ⟨_, _, rfl, h1 _ _ M1 G1 H1 k s1 r1 (((sl.mono r1.g).set a).set b)⟩

/-! ### targets -/
/-- data goes to a target -/
def TgM (g : TG) (x : PyData) (δ δ' : Dl) (js : List Nat) : Prop := ∀ (σ : L2.St) (G H : Hp) (v : V) (Q : L2.St → Hp → Prop), Same G H → Slots G σ δ → Dv G v x →
  (∀ σ', Slots G σ' δ' → (∀ vs : List Nat, (∀ j ∈ js, j ∈ vs) → wipe σ' vs = wipe σ vs) → Q σ' H) → g v σ H Q
theorem wipe_get (σ : L2.St) (k : Nat) : ∀ vs : List Nat, (wipe σ vs)[k]? = if k ∈ vs then (σ[k]?).map (fun _ => Option.none) else σ[k]?
  | [] => by simp [wipe]
  | v :: vs => by
    unfold wipe
    by_cases e : v = k
    · subst e
      by_cases hl : v < σ.length
      · rw [List.getElem?_set_self (by rw [wipe_length]; exact hl)]
        simp [hl]
      · rw [List.getElem?_eq_none (by rw [List.length_set, wipe_length]; omega)]
        simp [hl]
    · rw [List.getElem?_set_ne e, wipe_get σ k vs]
      have e' : ¬ k = v := fun z => e z.symm
      simp [e']
theorem wipe_set {σ : L2.St} {j : Nat} {z : Option V} {vs : List Nat} (h : j ∈ vs) : wipe (σ.set j z) vs = wipe σ vs := by
  refine List.ext_getElem? fun k => ?_
  rw [wipe_get, wipe_get]
  by_cases hk : k ∈ vs
  · rw [if_pos hk, if_pos hk]
    by_cases e : j = k
    · subst e
      by_cases hl : j < σ.length
      · rw [List.getElem?_set_self hl]
        simp [hl]
      · rw [List.getElem?_eq_none (by rw [List.length_set]; omega), List.getElem?_eq_none (by omega)]
    · rw [List.getElem?_set_ne e]
  · have e : j ≠ k := fun z => hk (z ▸ h)
    rw [if_neg hk, if_neg hk, List.getElem?_set_ne e]
theorem wipe_wipe {σ : L2.St} {vs : List Nat} : wipe (wipe σ vs) vs = wipe σ vs := by
  refine List.ext_getElem? fun k => ?_
  rw [wipe_get, wipe_get]
  by_cases hk : k ∈ vs
  · rw [if_pos hk, if_pos hk]
    cases σ[k]? <;> rfl
  · rw [if_neg hk, if_neg hk]
theorem tg_name {i : Nat} {x : PyData} : TgM (gName i) x δ (δ.set i (some (.d x))) [i] := fun σ G H v Q e sl d k => k _ (sl.set (x := .d x) d) fun vs h => wipe_set (h i List.mem_cons_self)
theorem tg_two {K : PySem.W.Frag} {i j : Nat} {x y : PyData} : TgM (gTup K 2 (gCons (gName i) (gCons (gName j) gNil))) (.tuple [x, y]) δ ((δ.set i (some (.d x))).set j (some (.d y))) [i, j] := fun σ G H v Q e sl d k => by
  obtain ⟨a, xs, rfl, ha, hd⟩ := d.tup_of
  cases hd with
  | cons d1 t =>
    cases t with
    | cons d2 t =>
      cases t
      refine ⟨a, _, rfl, SqT.of (e _ _ ha), rfl, _, _, rfl, _, _, rfl, rfl, ?_⟩
      refine k _ ((sl.set (x := .d x) d1).set (x := .d y) d2) fun vs h => ?_
      rw [wipe_set (h j (by simp)), wipe_set (h i (by simp))]
theorem ws_tup {K : PySem.W.Frag} {i j : Nat} {x y : PyData} (h : EvM te δ M (.d (.tuple [x, y])) M1) (k : P (.nx ((δ.set i (some (.d x))).set j (some (.d y))) M1)) : WS (tAsg te (gTup K 2 (gCons (gName i) (gCons (gName j) gNil)))) δ M P := fun σ G H D s sl h1 h2 h3 h4 =>
  h σ G H s sl _ fun v G1 H1 s1 r1 d1 => tg_two σ G1 H1 v _ s1.g (sl.mono r1.g) d1 fun σ' sl' _ => h1 _ _ M1 G1 H1 k s1 r1 sl'

/-! ### what is walked -/
structure ItD (J : It) (G1 : Hp) (xs : List PyData) : Prop where
  go : ∀ (i : Nat) (G M H : Hp), i < xs.length → Same G1 G → Stt G M H → J.go i H ∧ ∀ v H', J.yld i H v H' → ∃ G' x, xs[i]? = some x ∧ Stt G' M H' ∧ Rl G M H G' M H' ∧ Dv G' v x
  stop : ∀ (i : Nat) (G M H : Hp), xs.length ≤ i → Same G1 G → Stt G M H → J.stop i H
def IvM (wi : TI) (δ : Dl) (M : Hp) (xs : List PyData) (M2 : Hp) : Prop := ∀ (σ : L2.St) (G H : Hp), Stt G M H → Slots G σ δ → ∀ R : It → Hp → Prop, (∀ J G2 H2, Stt G2 M2 H2 → Rl G M H G2 M2 H2 → ItD J G2 xs → R J H2) → wi σ H R
theorem iv_list {K : PySem.W.Frag} {xs : List PyData} (h : EvM te δ M (.d (.list xs)) M1) : IvM (iList K te) δ M xs M1 := fun σ G H s sl R k =>
  h σ G H s sl _ fun v G1 H1 s1 r1 d1 => by
    obtain ⟨a, vs, rfl, ha, hd⟩ := Dv.lst_of d1
    refine ⟨a, rfl, ⟨vs, SqL.of (s1.g _ _ ha)⟩, k _ G1 H1 s1 r1 ⟨fun i G2 M2 H2 hi e s2 => ?_, fun i G2 M2 H2 hi e s2 => ⟨vs, SqL.of (s2.g _ _ (e _ _ ha)), by rw [hd.length]; exact hi⟩⟩⟩
    have hl := hd.length
    have hv : vs[i]? = some (vs[i]'(by omega)) := List.getElem?_eq_getElem (by omega)
    refine ⟨⟨vs, _, SqL.of (s2.g _ _ (e _ _ ha)), hv⟩, fun v H' y => ?_⟩
    obtain ⟨rfl, q⟩ := y
    have qv := q vs (SqL.of (s2.g _ _ (e _ _ ha)))
    obtain ⟨d, e1, e2⟩ := hd.getV qv
    exact ⟨G2, d, e1, s2, Rl.refl _ _ _, e2.mono e⟩
theorem iv_tup {K : PySem.W.Frag} {xs : List PyData} (h : EvM te δ M (.d (.tuple xs)) M1) : IvM (iTup K te) δ M xs M1 := fun σ G H s sl R k =>
  h σ G H s sl _ fun v G1 H1 s1 r1 d1 => by
    obtain ⟨a, vs, rfl, ha, hd⟩ := Dv.tup_of d1
    refine ⟨a, rfl, ⟨vs, SqT.of (s1.g _ _ ha)⟩, k _ G1 H1 s1 r1 ⟨fun i G2 M2 H2 hi e s2 => ?_, fun i G2 M2 H2 hi e s2 => ⟨vs, SqT.of (s2.g _ _ (e _ _ ha)), by rw [hd.length]; exact hi⟩⟩⟩
    have hl := hd.length
    have hv : vs[i]? = some (vs[i]'(by omega)) := List.getElem?_eq_getElem (by omega)
    refine ⟨⟨vs, _, SqT.of (s2.g _ _ (e _ _ ha)), hv⟩, fun v H' y => ?_⟩
    obtain ⟨rfl, q⟩ := y
    have qv := q vs (SqT.of (s2.g _ _ (e _ _ ha)))
    obtain ⟨d, e1, e2⟩ := hd.getV qv
    exact ⟨G2, d, e1, s2, Rl.refl _ _ _, e2.mono e⟩
/-- lo, lo + c, .. -/
def rgD (lo c : Int) (n : Nat) : List PyData := (List.range n).map fun i => .int (lo + (i : Nat) * c)
theorem rgD_len (lo c : Int) (n : Nat) : (rgD lo c n).length = n := by simp [rgD]
theorem rgD_get {lo c : Int} {n i : Nat} (h : i < n) : (rgD lo c n)[i]? = some (.int (lo + (i : Nat) * c)) := by simp [rgD, h]
theorem itd_rc {lo c : Int} {n : Nat} {G1 : Hp} : ItD (Itc lo c n) G1 (rgD lo c n) := by
  refine ⟨fun i G2 M2 H2 hi e s2 => ?_, fun i G2 M2 H2 hi e s2 => by rw [rgD_len] at hi; exact hi⟩
  rw [rgD_len] at hi
  refine ⟨hi, fun v H' y => ?_⟩
  obtain ⟨rfl, rfl⟩ := y
  exact ⟨G2, _, rgD_get hi, s2, Rl.refl _ _ _, .int _⟩
theorem itd_r {lo : Int} {n : Nat} {G1 : Hp} : ItD (Itr lo n) G1 (rgD lo 1 n) := by
  refine ⟨fun i G2 M2 H2 hi e s2 => ?_, fun i G2 M2 H2 hi e s2 => by rw [rgD_len] at hi; exact hi⟩
  rw [rgD_len] at hi
  refine ⟨hi, fun v H' y => ?_⟩
  obtain ⟨rfl, rfl⟩ := y
  refine ⟨G2, _, rgD_get hi, s2, Rl.refl _ _ _, ?_⟩
  rw [Int.mul_one]
  exact .int _
theorem iv_r1 {ta : TA} {n : Int} (h : EAM ta δ M [di n] M1) (hn : -100000 ≤ n ∧ n ≤ 100000) : IvM (iRng1 ta) δ M (rgD 0 1 n.toNat) M1 := fun σ G H s sl R k =>
  h σ G H s sl _ fun vs G1 H1 s1 r1 d1 => by
    cases d1 with
    | cons a t =>
      cases t
      cases Dv.int_of a
      exact ⟨n, rfl, by omega, by omega, k _ G1 H1 s1 r1 itd_r⟩
theorem iv_r2 {ta : TA} {lo n : Int} (h : EAM ta δ M [di lo, di n] M1) (hn : -100000 ≤ n ∧ n ≤ 100000) (hl : -100000 ≤ lo ∧ lo ≤ 100000) : IvM (iRng2 ta) δ M (rgD lo 1 (n - lo).toNat) M1 := fun σ G H s sl R k =>
  h σ G H s sl _ fun vs G1 H1 s1 r1 d1 => by
    cases d1 with
    | cons a t =>
      cases t with
      | cons b t =>
        cases t
        cases Dv.int_of a
        cases Dv.int_of b
        exact ⟨lo, n, rfl, ⟨by omega, by omega, by omega, by omega⟩, k _ G1 H1 s1 r1 itd_r⟩
theorem iv_r3 {ta : TA} {lo n c : Int} {m : Nat} (h : EAM ta δ M [di lo, di n, di c] M1) (hr : RgC lo n c m) : IvM (iRng3 ta) δ M (rgD lo c m) M1 := fun σ G H s sl R k =>
  h σ G H s sl _ fun vs G1 H1 s1 r1 d1 => by
    cases d1 with
    | cons a t =>
      cases t with
      | cons b t =>
        cases t with
        | cons d t =>
          cases t
          cases Dv.int_of a
          cases Dv.int_of b
          cases Dv.int_of d
          exact ⟨lo, n, c, m, rfl, hr, k _ G1 H1 s1 r1 itd_rc⟩
/-- the signs of a text, one by one -/
def sgD (x : Str) : List PyData := x.cps.toList.map fun c => .str ⟨#[c]⟩
theorem iv_str {i : Str} (h : EvM te δ M (.d (.str i)) M1) : IvM (iStr te) δ M (sgD i) M1 := fun σ G H s sl R k =>
  h σ G H s sl _ fun v G1 H1 s1 r1 d1 => by
    refine ⟨i, Dv.str_of d1, k _ G1 H1 s1 r1 ⟨fun j G2 M2 H2 hi e s2 => ?_, fun j G2 M2 H2 hi e s2 => by simpa [sgD, Its] using hi⟩⟩
    have hj : j < i.cps.size := by simpa [sgD] using hi
    refine ⟨hj, fun v H' y => ?_⟩
    obtain ⟨rfl, c, hc, rfl⟩ := y
    refine ⟨G2, .str ⟨#[c]⟩, ?_, s2, Rl.refl _ _ _, .str _⟩
    have e2 : i.cps.toList[j]? = some c := by simpa using hc
    simp [sgD, e2]

/-! ### for -/
def LoopP (N : Dl → Hp → Prop) (P : Out → Prop) : Out → Prop
  | .nx δ M => N δ M
  | .ct δ M => N δ M
  | .bk δ M => P (.nx δ M)
  | .rt x M => P (.rt x M)
theorem ws_for {wi : TI} {g : TG} {xs : List PyData} (hi : IvM wi δ M xs M1) (inv : Nat → Dl → Hp → Prop) (h0 : inv 0 δ M1)
    (ht : ∀ (i : Nat) (x : PyData) (δ1 : Dl) (M' : Hp), xs[i]? = some x → inv i δ1 M' → ∃ δ2 js, TgM g x δ1 δ2 js ∧ WS t δ2 M' (LoopP (inv (i + 1)) P)) (hd : ∀ δ1 M', inv xs.length δ1 M' → P (.nx δ1 M')) : WS (tFor wi g t) δ M P := fun σ G H D s sl h1 h2 h3 h4 =>
  hi σ G H s sl _ fun J G1 H1 s1 r1 d1 => by
    refine ⟨fun i m σ' H' => m = xs.length - i ∧ i ≤ xs.length ∧ ∃ δ1 M' G', inv i δ1 M' ∧ Stt G' M' H' ∧ Rl G M H G' M' H' ∧ Same G1 G' ∧ Slots G' σ' δ1, ⟨xs.length, by simp, Nat.zero_le _, δ, M1, G1, h0, s1, r1, Same.refl _, sl.mono r1.g⟩, ?_⟩
    rintro i m σ' H' ⟨rfl, hle, δ1, M', G', hinv, s', r', e', sl'⟩
    by_cases hlt : i < xs.length
    · refine .inr ⟨(d1.go i G' M' H' hlt e' s').1, fun σ3 H3 => ∃ δ3 M3 G3, inv (i + 1) δ3 M3 ∧ Stt G3 M3 H3 ∧ Rl G M H G3 M3 H3 ∧ Same G1 G3 ∧ Slots G3 σ3 δ3, fun σ3 H3 ⟨δ3, M3, G3, a1, a2, a3, a4, a5⟩ => ⟨xs.length - (i + 1), by omega, rfl, hlt, δ3, M3, G3, a1, a2, a3, a4, a5⟩, fun v H2 y => ?_⟩
      obtain ⟨G2, x, hx, s2, r2, hv⟩ := (d1.go i G' M' H' hlt e' s').2 v H2 y
      obtain ⟨δ2, js, tg, ws⟩ := ht i x δ1 M' hx hinv
      refine tg σ' G2 H2 v _ s2.g (sl'.mono r2.g) hv fun σ2 sl2 _ => ?_
      have rr := Rl.trans s' s2 s r' r2
      exact ws σ2 G2 H2 _ s2 sl2 (fun σ3 δ3 M3 G3 H3 p s3 r3 sl3 => ⟨δ3, M3, G3, p, s3, Rl.trans s2 s3 s rr r3, e'.trans (r2.g.trans r3.g), sl3⟩)
        (fun x v M3 G3 H3 p s3 r3 d3 => h2 x v M3 G3 H3 p s3 (Rl.trans s2 s3 s rr r3) d3)
        (fun σ3 δ3 M3 G3 H3 p s3 r3 sl3 => h1 σ3 δ3 M3 G3 H3 p s3 (Rl.trans s2 s3 s rr r3) sl3)
        (fun σ3 δ3 M3 G3 H3 p s3 r3 sl3 => ⟨δ3, M3, G3, p, s3, Rl.trans s2 s3 s rr r3, e'.trans (r2.g.trans r3.g), sl3⟩)
    · have e : i = xs.length := by omega
      subst e
      exact .inl ⟨d1.stop _ G' M' H' (Nat.le_refl _) e' s', h1 σ' δ1 M' G' H' (hd δ1 M' hinv) s' r' sl'⟩
theorem ws_while (W : Nat → Dl → Hp → Prop) (m0 : Nat) (h0 : W m0 δ M)
    (ht : ∀ m δ1 M', W m δ1 M' → ∃ b, ETM c δ1 M' b M' ∧ (b = true → WS t δ1 M' (LoopP (fun δ2 M2 => ∃ m', m' < m ∧ W m' δ2 M2) P)) ∧ (b = false → P (.nx δ1 M'))) : WS (tWhile c t) δ M P := fun σ G H D s sl h1 h2 h3 h4 => by
  refine ⟨fun m σ' H' => ∃ δ1 M' G', W m δ1 M' ∧ Stt G' M' H' ∧ Rl G M H G' M' H' ∧ Slots G' σ' δ1, ⟨m0, δ, M, G, h0, s, Rl.refl _ _ _, sl⟩, ?_⟩
  rintro m σ' H' ⟨δ1, M', G', w, s', r', sl'⟩
  obtain ⟨b, hb, k1, k2⟩ := ht m δ1 M' w
  refine hb σ' G' H' s' sl' _ fun G2 H2 s2 r2 => ?_
  have rr := Rl.trans s' s2 s r' r2
  cases b with
  | true =>
    refine ⟨fun σ3 H3 => ∃ m', m' < m ∧ ∃ δ3 M3 G3, W m' δ3 M3 ∧ Stt G3 M3 H3 ∧ Rl G M H G3 M3 H3 ∧ Slots G3 σ3 δ3, fun σ3 H3 z => z, ?_⟩
    exact k1 rfl σ' G2 H2 _ s2 (sl'.mono r2.g) (fun σ3 δ3 M3 G3 H3 ⟨m', hm, w'⟩ s3 r3 sl3 => ⟨m', hm, δ3, M3, G3, w', s3, Rl.trans s2 s3 s rr r3, sl3⟩)
      (fun x v M3 G3 H3 p s3 r3 d3 => h2 x v M3 G3 H3 p s3 (Rl.trans s2 s3 s rr r3) d3)
      (fun σ3 δ3 M3 G3 H3 p s3 r3 sl3 => h1 σ3 δ3 M3 G3 H3 p s3 (Rl.trans s2 s3 s rr r3) sl3)
      (fun σ3 δ3 M3 G3 H3 ⟨m', hm, w'⟩ s3 r3 sl3 => ⟨m', hm, δ3, M3, G3, w', s3, Rl.trans s2 s3 s rr r3, sl3⟩)
  | false => exact h1 σ' δ1 M' G2 H2 (k2 rfl) s2 rr (sl'.mono r2.g)

/-! ### comprehensions -/
theorem ne_some {o : Option HO} {u : HO} (h : o = some u) : o ≠ Option.none := by
  rw [h]
  exact Option.some_ne_none _
/-- any comprehension: what may change goes through mu -/
theorem em_lcM {wi : TI} {g : TG} {tt : TT} {vs : List Nat} {xs : List PyData} (mu : Nat → Hp) (b : Nat → Bool) (f : Nat → PyData) (hi : IvM wi δ M xs (mu 0)) (hz : xs.length ≤ 50000)
    (ht : ∀ (i : Nat) (x : PyData), xs[i]? = some x → ∃ δ2 js, TgM g x (wipeD δ vs) δ2 js ∧ (∀ j ∈ js, j ∈ vs) ∧ ∀ (D : Addr) (o : HO), (mu i) D = Option.none → ∃ M', M' D = Option.none ∧ ETM tt δ2 (upd (mu i) D o) (b i) (upd M' D o) ∧
      (b i = true → (mu (i + 1)) D = Option.none ∧ EvM te δ2 (upd M' D o) (.d (f i)) (upd (mu (i + 1)) D o)) ∧ (b i = false → M' = mu (i + 1))) :
    EvM (tLc wi g tt te vs) δ M (.d (.list (((List.range xs.length).filter b).map f))) (mu xs.length) := fun σ G H s sl Q k =>
  hi σ G H s sl _ fun J G1 H1 s1 r1 d1 D hD => by
    let acc : Nat → List PyData := fun i => ((List.range i).filter b).map f
    have hDM : ∀ a, (mu 0) a ≠ Option.none → a ≠ D := fun a h z => h (by rw [z]; exact s1.m.free hD)
    have gD : G1 D = Option.none := s1.g.free hD
    refine ⟨fun i m H' => m = xs.length - i ∧ i ≤ xs.length ∧ ∃ G' ws, (mu i) D = Option.none ∧ Dvs G' ws (acc i) ∧ Stt G' (upd (mu i) D (.lst ws)) H' ∧ Rl G1 (upd (mu 0) D (.lst [])) (upd H1 D (.lst [])) G' (upd (mu i) D (.lst ws)) H',
      ⟨xs.length, by simp, Nat.zero_le _, G1, [], s1.m.free hD, .nil, s1.newM hD, Rl.refl _ _ _⟩, ?_⟩
    have s0 := s1.newM (o := .lst []) hD
    have r0 := Rl.newM (o := .lst []) s1 hD
    rintro i m H' ⟨rfl, hle, G', ws, mD, hws, s', r'⟩
    have e' : Same G1 G' := r'.g
    by_cases hlt : i < xs.length
    · have hgo := d1.go i G' _ H' hlt e' s'
      refine .inr ⟨hgo.1, fun H3 => ∃ G3 ws3, (mu (i + 1)) D = Option.none ∧ Dvs G3 ws3 (acc (i + 1)) ∧ Stt G3 (upd (mu (i + 1)) D (.lst ws3)) H3 ∧ Rl G1 (upd (mu 0) D (.lst [])) (upd H1 D (.lst [])) G3 (upd (mu (i + 1)) D (.lst ws3)) H3,
        fun H3 ⟨G3, ws3, a1, a2, a3, a4⟩ => ⟨xs.length - (i + 1), by omega, rfl, hlt, G3, ws3, a1, a2, a3, a4⟩, fun v H2 y => ?_⟩
      obtain ⟨G2, x, hx, s2, r2, hv⟩ := hgo.2 v H2 y
      obtain ⟨δ2, js, tg, hjs, hD2⟩ := ht i x hx
      obtain ⟨M', m'D, ett, eve, evn⟩ := hD2 D (.lst ws) mD
      refine tg (wipe σ vs) G2 H2 v _ s2.g (((sl.mono r1.g).wipe vs).mono (e'.trans r2.g)) hv fun σ2 sl2 hw => ⟨(hw vs hjs).trans wipe_wipe, ?_⟩
      have rr := Rl.trans s' s2 s0 r' r2
      refine ett σ2 G2 H2 s2 sl2 _ fun G3 H3 s3 r3 => ?_
      have rr3 := Rl.trans s2 s3 s0 rr r3
      cases hb : b i with
      | true =>
        show te σ2 H3 _
        obtain ⟨m1D, ev⟩ := eve hb
        refine ev σ2 G3 H3 s3 (sl2.mono r3.g) _ fun w G4 H4 s4 r4 d4 => ?_
        have rr4 := Rl.trans s3 s4 s0 rr3 r4
        have hwl : ws.length ≤ i := by
          rw [hws.length]
          show (((List.range i).filter b).map f).length ≤ i
          rw [List.length_map]
          have := List.length_filter_le b (List.range i)
          rw [List.length_range] at this
          exact this
        refine ⟨ws, s4.m _ _ upd_same, Nat.lt_of_le_of_lt hwl (Nat.lt_of_lt_of_le (by omega : i < 100000) (by decide)), ?_⟩
        have s5 := s4.write (o := .lst (ws ++ [w])) upd_same
        have r5 := Rl.write (o := .lst (ws ++ [w])) s4 upd_same
        have rr5 := Rl.trans s4 s5 s0 rr4 r5
        rw [upd_upd] at s5 rr5
        refine ⟨G4, ws ++ [w], m1D, ?_, s5, rr5⟩
        have ea : acc (i + 1) = acc i ++ [f i] := by
          show ((List.range (i + 1)).filter b).map f = _
          rw [List.range_succ, List.filter_append, List.map_append, List.filter_cons, if_pos hb] <;> rfl
        rw [ea]
        exact Dvs.snoc (hws.mono (r2.g.trans (r3.g.trans r4.g))) d4
      | false =>
        show ∃ G3, _
        rw [evn hb] at s3 rr3 m'D
        refine ⟨G3, ws, m'D, ?_, s3, rr3⟩
        have ea : acc (i + 1) = acc i := by
          show ((List.range (i + 1)).filter b).map f = _
          rw [List.range_succ, List.filter_append, List.map_append, List.filter_cons, if_neg (by rw [hb]; decide)]
          show _ ++ [] = _
          rw [List.append_nil]
        rw [ea]
        exact hws.mono (r2.g.trans r3.g)
    · have e : i = xs.length := by omega
      subst e
      refine .inl ⟨d1.stop _ G' _ H' (Nat.le_refl _) e' s', ?_⟩
      have s5 := s'.freeze mD
      have r5 := Rl.freeze s' mD
      have rr := Rl.trans s0 s5 s1 r0 (Rl.trans s' s5 s0 r' r5)
      have gpD : G' D = Option.none := s'.gm D (by rw [upd_same]; exact Option.some_ne_none _)
      refine k _ _ H' s5 (Rl.trans s1 s5 s r1 rr) (Dv.lst upd_same (hws.mono fun a u h => ?_))
      rw [upd_ne (ne_of_none h gpD)]
      exact h
/-- .. where nothing changes, told by the items -/
theorem filter_at {α β : Type} (l : List α) (p : α → Bool) (f : α → β) (df : α) : ((List.range l.length).filter fun i => p (l.getD i df)).map (fun i => f (l.getD i df)) = (l.filter p).map f := by
  have h : (List.range l.length).map (fun i => l.getD i df) = l := by
    refine List.ext_getElem (by simp) fun i h1 h2 => ?_
    simp at h1
    simp [List.getD_eq_getElem?_getD, List.getElem?_eq_getElem h1]
  conv =>
    rhs
    rw [← h, List.filter_map, List.map_map]
  rfl
theorem em_lc {wi : TI} {g : TG} {tt : TT} {vs : List Nat} {xs : List PyData} (b : PyData → Bool) (f : PyData → PyData) (tgd : PyData → Dl) (js : List Nat) (hi : IvM wi δ M xs M1) (hz : xs.length ≤ 50000) (hj : ∀ j ∈ js, j ∈ vs)
    (hg : ∀ x, x ∈ xs → TgM g x (wipeD δ vs) (tgd x) js) (ht : ∀ x, x ∈ xs → ∀ M', ETM tt (tgd x) M' (b x) M') (he : ∀ x, x ∈ xs → b x = true → ∀ M', EvM te (tgd x) M' (.d (f x)) M') :
    EvM (tLc wi g tt te vs) δ M (.d (.list ((xs.filter b).map f))) M1 := by
  rw [← filter_at xs b f .none]
  refine em_lcM (fun _ => M1) _ _ hi hz fun i x hx => ?_
  have hm : x ∈ xs := List.mem_of_getElem? hx
  have ex : xs.getD i .none = x := by rw [List.getD_eq_getElem?_getD, hx] <;> rfl
  refine ⟨tgd x, js, hg x hm, hj, fun D o hD => ⟨M1, hD, ?_, fun hb => ⟨hD, ?_⟩, fun _ => rfl⟩⟩
  · rw [ex]
    exact ht x hm _
  · rw [ex] at hb ⊢
    exact he x hm hb _
theorem et_yes : ETM tYes δ M true M := fun σ G H s sl Q k => k G H s (Rl.refl _ _ _)
/-- no test -/
theorem em_lc1 {wi : TI} {g : TG} {vs : List Nat} {xs : List PyData} (f : PyData → PyData) (tgd : PyData → Dl) (js : List Nat) (hi : IvM wi δ M xs M1) (hz : xs.length ≤ 50000) (hj : ∀ j ∈ js, j ∈ vs)
    (hg : ∀ x, x ∈ xs → TgM g x (wipeD δ vs) (tgd x) js) (he : ∀ x, x ∈ xs → ∀ M', EvM te (tgd x) M' (.d (f x)) M') :
    EvM (tLc wi g tYes te vs) δ M (.d (.list (xs.map f))) M1 := by
  have h := em_lc (fun _ => true) f tgd js hi hz hj hg (fun x _ M' => et_yes) (fun x hx _ M' => he x hx M')
  have e : xs.filter (fun _ => true) = xs := List.filter_eq_self.mpr fun _ _ => rfl
  rw [e] at h
  exact h
end

/-! ### promises -/
def nom : Hp := fun _ => Option.none
def one (a : Addr) (o : HO) : Hp := upd nom a o
/-- a def that changes nothing: from data to data -/
def SpP (f : List Da → Da → Prop) : Sp := fun vs H Q _ => ∃ G xs x, Stt G nom H ∧ DaAll G vs xs ∧ f xs x ∧ ∀ v G2 H2, Stt G2 nom H2 → Rl G nom H G2 nom H2 → DaOk G2 v x → Q v H2
/-- a def that changes one thing -/
def SpR (f : List Da → Addr → HO → Da → HO → Prop) : Sp := fun vs H Q _ => ∃ G xs x a o o2, Stt G (one a o) H ∧ DaAll G vs xs ∧ f xs a o x o2 ∧ ∀ v G2 H2, Stt G2 (one a o2) H2 → Rl G (one a o) H G2 (one a o2) H2 → DaOk G2 v x → Q v H2
theorem Stt.low {G M H : Hp} (s : Stt G M H) : Stt G nom H := ⟨s.g, (fun a o h => nomatch h), (fun a h => absurd rfl h), fun a o h => nomatch h⟩
section
variable {δ : Dl} {M M1 : Hp}
theorem em_call {f : List Da → Da → Prop} {E : XK} {ta : TA} {xs : List Da} {x : Da} (h : EAM ta δ M xs M1) (hf : f xs x) : EvM (tCall (SpP f) [] E ta) δ M x M1 := fun σ G H s sl Q k =>
  h σ G H s sl _ fun vs G1 H1 s1 r1 d1 => by
    rw [List.append_nil]
    refine ⟨G1, xs, x, s1.low, d1, hf, fun v G2 H2 s2 r2 d2 => ?_⟩
    have hk : ∀ a o, M1 a = some o → H2 a = some o := fun a o e => r2.keep a o (s1.m _ _ e) rfl
    have s3 : Stt G2 M1 H2 := by
      refine ⟨s2.g, hk, fun a e => ?_, s1.nt⟩
      cases q : M1 a with
      | none => exact absurd q e
      | some o =>
        rcases (r2.out a (ne_some (s1.m _ _ q)) rfl (s1.gm a e)).1 with z | ⟨xs, z⟩
        · exact z
        · rw [s1.m _ _ q] at z
          cases z
          have := s1.nt a _ q
          cases this
    have r3 : Rl G1 M1 H1 G2 M1 H2 := ⟨r2.g, fun a o e _ => r2.keep a o e rfl, r2.dom, fun a e m g => ⟨(r2.out a e rfl g).1, m⟩⟩
    exact k v G2 H2 s3 (Rl.trans s1 s3 s r1 r3) d2
theorem em_callR {f : List Da → Addr → HO → Da → HO → Prop} {E : XK} {ta : TA} {xs : List Da} {x : Da} {a : Addr} {o o2 : HO} (h : EAM ta δ M xs M1) (ha : M1 a = some o) (hf : f xs a o x o2) : EvM (tCall (SpR f) [] E ta) δ M x (upd M1 a o2) := fun σ G H s sl Q k =>
  h σ G H s sl _ fun vs G1 H1 s1 r1 d1 => by
    rw [List.append_nil]
    have ga : G1 a = Option.none := s1.gm a (ne_some ha)
    have s1' : Stt G1 (one a o) H1 := by
      refine ⟨s1.g, fun b u e => ?_, fun b e => ?_, fun b u e => ?_⟩
      · unfold one at e
        by_cases hb : b = a
        · subst hb
          rw [upd_same] at e
          cases e
          exact s1.m _ _ ha
        · rw [upd_ne hb] at e
          cases e
      · by_cases hb : b = a
        · rw [hb]
          exact ga
        · unfold one at e
          rw [upd_ne hb] at e
          exact absurd rfl e
      · unfold one at e
        by_cases hb : b = a
        · rw [hb, upd_same] at e
          cases e
          exact s1.nt _ _ ha
        · rw [upd_ne hb] at e
          cases e
    refine ⟨G1, xs, x, a, o, o2, s1', d1, hf, fun v G2 H2 s2 r2 d2 => ?_⟩
    have no : ∀ b, b ≠ a → one a o b = Option.none := fun b hb => by
      unfold one
      rw [upd_ne hb] <;> rfl
    have h2a : H2 a = some o2 := s2.m a o2 upd_same
    have s3 : Stt G2 (upd M1 a o2) H2 := by
      refine ⟨s2.g, fun b u e => ?_, fun b e => ?_, fun b u e => ?_⟩
      · by_cases hb : b = a
        · subst hb
          rw [upd_same] at e
          cases e
          exact h2a
        · rw [upd_ne hb] at e
          exact r2.keep b u (s1.m _ _ e) (no b hb)
      · by_cases hb : b = a
        · rw [hb]
          exact s2.gm a (ne_some upd_same)
        · rw [upd_ne hb] at e
          cases q : M1 b with
          | none => exact absurd q e
          | some u =>
            rcases (r2.out b (ne_some (s1.m _ _ q)) (no b hb) (s1.gm b e)).1 with z | ⟨xs, z⟩
            · exact z
            · rw [s1.m _ _ q] at z
              cases z
              have z2 := s1.nt b _ q
              cases z2
      · by_cases hb : b = a
        · rw [hb, upd_same] at e
          cases e
          exact s2.nt a _ upd_same
        · rw [upd_ne hb] at e
          exact s1.nt _ _ e
    have r3 : Rl G1 M1 H1 G2 (upd M1 a o2) H2 := ⟨r2.g, fun b u e m => by
      have hb : b ≠ a := fun z => by
        rw [z, ha] at m
        cases m
      exact r2.keep b u e (no b hb), r2.dom, fun b e m g => by
      have hb : b ≠ a := fun z => by
        rw [z, ha] at m
        cases m
      refine ⟨(r2.out b e (no b hb) g).1, ?_⟩
      rw [upd_ne hb]
      exact m⟩
    exact k v G2 H2 s3 (Rl.trans s1 s3 s r1 r3) d2
end
/-- what a body is to reach -/
def PostP (x : Da) : Out → Prop
  | .rt y _ => y = x
  | .nx _ _ => x = dn
  | _ => False
def PostR (x : Da) (a : Addr) (o2 : HO) : Out → Prop
  | .rt y M => y = x ∧ M a = some o2
  | .nx _ M => x = dn ∧ M a = some o2
  | _ => False
section
variable {P : Program} {w : World} {K : PySem.W.Frag} {mg : Str → Option Value} {base : Heap}
theorem fn_pure {x qual : Str} {st : Stmt} {f : Addr} {fd : FuncData} {N ps : List Str} {k : Nat} {fr : List Da → Da → Prop} (F : Fun K x qual st f fd) (S : FnScope N ps (defScope st)) (len : ∀ xs y, fr xs y → xs.length = ps.length)
    (hbody : ∀ (cdv : Value) (A : Around) (outer : List Env) (s : Shared) (H : Hp) (E : XK), Room k (A.deeper (envOfC qual (defScope st) s.heap.objs.size f cdv)) →
      ∃ t, PSs (cxOf CX0 P w K mg base N qual (defScope st) f cdv A outer s H E).nox (defBody st) t ∧ ∀ xs y, fr xs y → WS t (startD N.length xs) nom (PostP y)) : FnOk P w K mg base CX0 (k + 1) f fd ps (SpP fr) := by
  refine F.ok S (fun vs H Q E ⟨G, xs, y, _, hd, hf, _⟩ => hd.length.trans (len xs y hf)) (fun cdv A outer s H vs Q E hr ⟨G, xs, y, s0, hd, hf, kk⟩ => ?_)
  obtain ⟨t, h, q⟩ := hbody cdv A outer s H E hr
  refine ⟨t, h, q xs y hf _ G H _ s0 (slots_start hd) (fun σ2 δ2 M2 G2 H2 p s2 r2 _ => ?_) (fun z v M2 G2 H2 p s2 r2 d2 => ?_) (fun _ _ _ _ _ p => p.elim) (fun _ _ _ _ _ p => p.elim)⟩
  · have e : y = dn := p
    exact kk .non G2 H2 s2.low ⟨r2.g, fun a o h m => r2.keep a o h m, r2.dom, fun a h m g => ⟨(r2.out a h m g).1, rfl⟩⟩ (by rw [e]; exact Dv.non)
  · have e : z = y := p
    subst e
    exact kk v G2 H2 s2.low ⟨r2.g, fun a o h m => r2.keep a o h m, r2.dom, fun a h m g => ⟨(r2.out a h m g).1, rfl⟩⟩ d2
theorem fn_row {x qual : Str} {st : Stmt} {f : Addr} {fd : FuncData} {N ps : List Str} {k : Nat} {fr : List Da → Addr → HO → Da → HO → Prop} (F : Fun K x qual st f fd) (S : FnScope N ps (defScope st)) (len : ∀ xs a o y o2, fr xs a o y o2 → xs.length = ps.length)
    (hbody : ∀ (cdv : Value) (A : Around) (outer : List Env) (s : Shared) (H : Hp) (E : XK), Room k (A.deeper (envOfC qual (defScope st) s.heap.objs.size f cdv)) →
      ∃ t, PSs (cxOf CX0 P w K mg base N qual (defScope st) f cdv A outer s H E).nox (defBody st) t ∧ ∀ xs a o y o2, fr xs a o y o2 → WS t (startD N.length xs) (one a o) (PostR y a o2)) : FnOk P w K mg base CX0 (k + 1) f fd ps (SpR fr) := by
  refine F.ok S (fun vs H Q E ⟨G, xs, y, a, o, o2, _, hd, hf, _⟩ => hd.length.trans (len xs a o y o2 hf)) (fun cdv A outer s H vs Q E hr ⟨G, xs, y, a, o, o2, s0, hd, hf, kk⟩ => ?_)
  obtain ⟨t, h, q⟩ := hbody cdv A outer s H E hr
  have low : ∀ {G2 M2 H2 : Hp}, M2 a = some o2 → Stt G2 M2 H2 → Rl G (one a o) H G2 M2 H2 → Stt G2 (one a o2) H2 ∧ Rl G (one a o) H G2 (one a o2) H2 := by
    intro G2 M2 H2 ha s2 r2
    refine ⟨⟨s2.g, fun b u e => ?_, fun b e => ?_, fun b u e => ?_⟩, ⟨r2.g, r2.keep, r2.dom, fun b e m g => ⟨(r2.out b e m g).1, ?_⟩⟩⟩
    · unfold one at e
      by_cases hb : b = a
      · subst hb
        rw [upd_same] at e
        cases e
        exact s2.m _ _ ha
      · rw [upd_ne hb] at e
        cases e
    · by_cases hb : b = a
      · rw [hb]
        exact s2.gm a (ne_some ha)
      · unfold one at e
        rw [upd_ne hb] at e
        exact absurd rfl e
    · unfold one at e
      by_cases hb : b = a
      · rw [hb, upd_same] at e
        cases e
        exact s2.nt _ _ ha
      · rw [upd_ne hb] at e
        cases e
    · have hb : b ≠ a := fun z => by
        rw [z] at m
        unfold one at m
        rw [upd_same] at m
        cases m
      unfold one
      rw [upd_ne hb] <;> rfl
  refine ⟨t, h, q xs a o y o2 hf _ G H _ s0 (slots_start hd) (fun σ2 δ2 M2 G2 H2 p s2 r2 _ => ?_) (fun z v M2 G2 H2 p s2 r2 d2 => ?_) (fun _ _ _ _ _ p => p.elim) (fun _ _ _ _ _ p => p.elim)⟩
  · obtain ⟨e, ha⟩ := p
    obtain ⟨q1, q2⟩ := low ha s2 r2
    exact kk .non G2 H2 q1 q2 (by rw [e]; exact Dv.non)
  · obtain ⟨e, ha⟩ := p
    subst e
    obtain ⟨q1, q2⟩ := low ha s2 r2
    exact kk v G2 H2 q1 q2 d2
end
end DL

set_option Elab.async false
set_option linter.all false
set_option maxRecDepth 100000
set_option maxHeartbeats 4000000
/-! DOps: what the operators and built-ins do with data. -/
namespace DL
open PySem PySem.Spec PyProof.Rows L2

/-! ### ints -/
theorem ri_0 {g : Int → Int → V} {i j : Int} {z : Da} (h : ∀ G, DaOk G (g i j) z) : RvM (rI0 g) (di i) (di j) z := rv_of fun G H v w e a b Q k => ⟨i, j, Dv.int_of a, Dv.int_of b, k _ (h G)⟩
theorem ri_c {C : Int → Int → Prop} {g : Int → Int → V} {i j : Int} {z : Da} (hc : C i j) (h : ∀ G, DaOk G (g i j) z) : RvM (rI C g) (di i) (di j) z := rv_of fun G H v w e a b Q k => ⟨i, j, Dv.int_of a, Dv.int_of b, hc, k _ (h G)⟩
section
variable {i j : Int}
theorem rv_add : RvM (rI0 fun i j => .int (i + j)) (di i) (di j) (di (i + j)) := ri_0 fun G => .int _
theorem rv_sub : RvM (rI0 fun i j => .int (i - j)) (di i) (di j) (di (i - j)) := ri_0 fun G => .int _
theorem rv_mul (h : CMul i j) : RvM (rI CMul fun i j => .int (i * j)) (di i) (di j) (di (i * j)) := ri_c h fun G => .int _
theorem rv_mod (h : 0 < j) : RvM (rI (fun _ j => 0 < j) fun i j => .int (i % j)) (di i) (di j) (di (i % j)) := ri_c h fun G => .int _
theorem rv_div (h : CDiv i j) : RvM (rI CDiv fun i j => .int (i / j)) (di i) (di j) (di (i / j)) := ri_c h fun G => .int _
theorem rv_pow (h : CPow i j) : RvM (rI CPow fun i j => .int (i ^ j.toNat)) (di i) (di j) (di (i ^ j.toNat)) := ri_c h fun G => .int _
theorem rv_shl (h : CPow i j) : RvM (rI CPow fun i j => .int (i * 2 ^ j.toNat)) (di i) (di j) (di (i * 2 ^ j.toNat)) := ri_c h fun G => .int _
theorem rv_shr (h : 0 ≤ j) : RvM (rI (fun _ j => 0 ≤ j) fun i j => .int (i / 2 ^ j.toNat)) (di i) (di j) (di (i / 2 ^ j.toNat)) := ri_c h fun G => .int _
theorem rv_and : RvM (rI0 fun i j => .int (Builtin.bitAnd i j)) (di i) (di j) (di (Builtin.bitAnd i j)) := ri_0 fun G => .int _
theorem rv_xor : RvM (rI0 fun i j => .int (Builtin.bitXor i j)) (di i) (di j) (di (Builtin.bitXor i j)) := ri_0 fun G => .int _
theorem rv_lt : RvM (rI0 fun i j => .bl (decide (i < j))) (di i) (di j) (db (decide (i < j))) := ri_0 fun G => .bl _
theorem rv_le : RvM (rI0 fun i j => .bl (decide (i ≤ j))) (di i) (di j) (db (decide (i ≤ j))) := ri_0 fun G => .bl _
theorem rv_gt : RvM (rI0 fun i j => .bl (decide (j < i))) (di i) (di j) (db (decide (j < i))) := ri_0 fun G => .bl _
theorem rv_ge : RvM (rI0 fun i j => .bl (decide (j ≤ i))) (di i) (di j) (db (decide (j ≤ i))) := ri_0 fun G => .bl _
theorem rv_eq : RvM rEq (di i) (di j) (db (decide (i = j))) := rv_of fun G H v w e a b Q k => by
  rw [Dv.int_of a, Dv.int_of b]
  refine ⟨rfl, k _ ?_⟩
  rw [dec_int]
  have e : (i == j) = decide (i = j) := by by_cases h : i = j <;> simp [h]
  rw [e]
  exact .bl _
theorem rv_ne : RvM rNe (di i) (di j) (db (!decide (i = j))) := rv_of fun G H v w e a b Q k => by
  rw [Dv.int_of a, Dv.int_of b]
  refine ⟨rfl, k _ ?_⟩
  rw [dec_int]
  have e : (i == j) = decide (i = j) := by by_cases h : i = j <;> simp [h]
  rw [e]
  exact .bl _
end
/-! ### texts, bools, none -/
section
variable {x y : Str} {p q : Bool}
theorem rv_eqS : RvM rEq (ds x) (ds y) (db (decide (x = y))) := rv_of fun G H v w e a b Q k => by
  rw [Dv.str_of a, Dv.str_of b]
  refine ⟨rfl, k _ ?_⟩
  have e : decide (V.str x = V.str y) = decide (x = y) := by by_cases h : x = y <;> simp [h]
  rw [e]
  exact .bl _
theorem rv_eqB : RvM rEq (db p) (db q) (db (decide (p = q))) := rv_of fun G H v w e a b Q k => by
  rw [Dv.bl_of a, Dv.bl_of b]
  refine ⟨rfl, k _ ?_⟩
  have e : decide (V.bl p = V.bl q) = decide (p = q) := by by_cases h : p = q <;> simp [h]
  rw [e]
  exact .bl _
theorem rv_neB : RvM rNe (db p) (db q) (db (!decide (p = q))) := rv_of fun G H v w e a b Q k => by
  rw [Dv.bl_of a, Dv.bl_of b]
  refine ⟨rfl, k _ ?_⟩
  have e : decide (V.bl p = V.bl q) = decide (p = q) := by by_cases h : p = q <;> simp [h]
  rw [e]
  exact .bl _
abbrev rLtS : R2 := fun x y H Q => ∃ i j, x = .str i ∧ y = .str j ∧ Q (.bl (decide (i.cps.toList < j.cps.toList))) H
theorem op_ltS {X : Cx} : OpR X (compareOp .Lt) rLtS := op_lt_str
theorem rv_ltS : RvM rLtS (ds x) (ds y) (db (decide (x.cps.toList < y.cps.toList))) := rv_of fun G H v w e a b Q k => ⟨x, y, Dv.str_of a, Dv.str_of b, k _ (.bl _)⟩
abbrev rAddS : R2 := fun x y H Q => ∃ i j, x = .str i ∧ y = .str j ∧ i.length + j.length ≤ sizeLine ∧ Q (.str (i ++ j)) H
theorem op_addS {X : Cx} : OpR X (binaryOp .Add) rAddS := op_add_str
theorem rv_addS (h : x.length + y.length ≤ 100000) : RvM rAddS (ds x) (ds y) (ds (x ++ y)) := rv_of fun G H v w e a b Q k => ⟨x, y, Dv.str_of a, Dv.str_of b, Nat.le_trans h (by decide), k _ (.str _)⟩
abbrev rInS : R2 := fun x y H Q => ∃ (c : Nat) (z : Str), x = .str ⟨#[c]⟩ ∧ y = .str z ∧ Q (.bl (decide (c ∈ z.cps.toList))) H
theorem op_inS {X : Cx} : OpR X (compareOp .In) rInS := op_in_sign
theorem rv_inS {c : Nat} : RvM rInS (ds ⟨#[c]⟩) (ds y) (db (decide (c ∈ y.cps.toList))) := rv_of fun G H v w e a b Q k => ⟨c, y, Dv.str_of a, Dv.str_of b, k _ (.bl _)⟩
abbrev rIsNn : R2 := fun x y H Q => y = .non ∧ Q (.bl (decide (x = .non))) H
abbrev rNotNn : R2 := fun x y H Q => y = .non ∧ Q (.bl (!decide (x = .non))) H
theorem op_isNn {X : Cx} : OpR X (compareOp .Is) rIsNn := op_isN
theorem op_notNn {X : Cx} : OpR X (compareOp .IsNot) rNotNn := op_notN
def isN : PyData → Bool
  | .none => true
  | _ => false
theorem dv_non {G : Hp} {v : V} {d : PyData} (h : Dv G v d) : decide (v = .non) = isN d := by
  cases h <;> simp [isN]
theorem rv_isN {d : PyData} : RvM rIsNn (.d d) dn (db (isN d)) := rv_of fun G H v w e a b Q k => ⟨Dv.non_of b, by rw [dv_non a]; exact k _ (.bl _)⟩
theorem rv_notN {d : PyData} : RvM rNotNn (.d d) dn (db (!isN d)) := rv_of fun G H v w e a b Q k => ⟨Dv.non_of b, by rw [dv_non a]; exact k _ (.bl _)⟩
end
/-! ### lists, tuples: ==, in, +, items, slices -/
section
variable {K : PySem.W.Frag} {d e : PyData} {xs ys : List PyData}
theorem rv_eqD (h1 : SeqAt.shaped d = true) (h2 : SeqAt.shaped e = true) : RvM (rEqD K) (.d d) (.d e) (db (PyData.eqv d e)) := rv_of fun G H v w s a b Q k => ⟨d, e, (Dv.mono s a).dp, (Dv.mono s b).dp, h1, h2, k _ (.bl _)⟩
theorem rv_neD (h1 : SeqAt.shaped d = true) (h2 : SeqAt.shaped e = true) : RvM (rNeD K) (.d d) (.d e) (db (!PyData.eqv d e)) := rv_of fun G H v w s a b Q k => ⟨d, e, (Dv.mono s a).dp, (Dv.mono s b).dp, h1, h2, k _ (.bl _)⟩
def rInT (K : PySem.W.Frag) : R2 := fun x y H Q => ∃ d xs, Dp K H x d ∧ Dp K H y (.tuple xs) ∧ SeqAt.shaped (.tuple xs) = true ∧ SeqAt.shaped d = true ∧ Q (.bl (xs.any fun z => PyData.eqv z d)) H
theorem op_inT {X : Cx} (hu : X.A.units + 65 < cLine) : OpR X (compareOp .In) (rInT X.K) := by
  intro pins s σ H x y v u Q I rx ry h
  obtain ⟨d, xs, hd, he, sd, se, q⟩ := h
  obtain ⟨as, r1⟩ := Dp.reads I d x v hd rx
  obtain ⟨bs, r2⟩ := Dp.reads I (.tuple xs) y u he ry
  exact SeqAt.in_tuple_reads r2 r1 (SeqAt.canLay_of_shaped sd) (SeqAt.canLay_of_shaped se) (room_in_shaped se hu) ⟨.bl _, H, I, rfl, q⟩
theorem rv_inT (h1 : SeqAt.shaped (.tuple xs) = true) (h2 : SeqAt.shaped d = true) : RvM (rInT K) (.d d) (.d (.tuple xs)) (db (xs.any fun z => PyData.eqv z d)) := rv_of fun G H v w s a b Q k => ⟨d, xs, (Dv.mono s a).dp, (Dv.mono s b).dp, h1, h2, k _ (.bl _)⟩
theorem rv_catL (h : xs.length + ys.length ≤ 50000) : RvM rCat (.d (.list xs)) (.d (.list ys)) (.d (.list (xs ++ ys))) := fun G M H v w s a b Q k => by
  obtain ⟨l, vs, rfl, hl, hx⟩ := Dv.lst_of a
  obtain ⟨m, ws, rfl, hm, hy⟩ := Dv.lst_of b
  refine ⟨l, m, vs, ws, rfl, rfl, s.g _ _ hl, s.g _ _ hm, ?_, fun p hp => ?_⟩
  · rw [hx.length, hy.length]
    exact Nat.le_trans h (by decide)
  · have r := Rl.new (o := .lst (vs ++ ws)) s hp
    exact k _ _ _ (s.new hp) r (Dv.lst upd_same ((hx.append hy).mono r.g))
theorem rv_catT (h : xs.length + ys.length ≤ 50000) : RvM (rCatA K) (.d (.tuple xs)) (.d (.tuple ys)) (.d (.tuple (xs ++ ys))) := fun G M H v w s a b Q k => by
  obtain ⟨l, vs, rfl, hl, hx⟩ := Dv.tup_of a
  obtain ⟨m, ws, rfl, hm, hy⟩ := Dv.tup_of b
  have e1 := hx.length
  have e2 := hy.length
  refine ⟨l, m, vs, ws, rfl, rfl, SqT.of (s.g _ _ hl), SqT.of (s.g _ _ hm), Nat.le_trans (by omega) (by decide : 50000 ≤ sizeLine), fun z => ?_, fun z1 z2 => ?_, fun z1 z2 p hp => ?_⟩
  · subst z
    cases hx
    exact k _ G H s (Rl.refl _ _ _) b
  · subst z2
    cases hy
    rw [List.append_nil] at k
    exact k _ G H s (Rl.refl _ _ _) a
  · have r := Rl.new (o := .tup (vs ++ ws)) s hp
    exact k _ _ _ (s.new hp) r (Dv.tup upd_same ((hx.append hy).mono r.g))
theorem atI_dv {G : Hp} {vs : List V} {i : Int} (h : Dvs G vs xs) (e : atI xs i = some d) : ∃ v, atI vs i = some v ∧ Dv G v d := by
  unfold atI at e ⊢
  rw [h.length]
  cases q : ixN xs.length i with
  | none =>
    rw [q] at e
    cases e
  | some j =>
    rw [q] at e
    exact h.get e
theorem rv_ixL {i : Int} (h : atI xs i = some d) : RvM (rIx K) (.d (.list xs)) (di i) (.d d) := rv_of fun G H v w s a b Q k => by
  obtain ⟨l, vs, rfl, hl, hx⟩ := Dv.lst_of a
  obtain ⟨u, e, q⟩ := atI_dv hx h
  exact .inl ⟨l, vs, i, u, rfl, Dv.int_of b, SqL.of (s _ _ hl), e, k _ q⟩
theorem rv_ixT {i : Int} (h : atI xs i = some d) : RvM (rIx K) (.d (.tuple xs)) (di i) (.d d) := rv_of fun G H v w s a b Q k => by
  obtain ⟨l, vs, rfl, hl, hx⟩ := Dv.tup_of a
  obtain ⟨u, e, q⟩ := atI_dv hx h
  exact .inr (.inl ⟨l, vs, i, u, rfl, Dv.int_of b, SqT.of (s _ _ hl), e, k _ q⟩)
theorem rv_ixS {i : Int} {x : Str} {c : Nat} (hz : x.length ≤ 100000) (h : atI x.cps.toList i = some c) : RvM (rIx K) (ds x) (di i) (ds ⟨#[c]⟩) := rv_of fun G H v w s a b Q k =>
  .inr (.inr ⟨x, i, c, Dv.str_of a, Dv.int_of b, Nat.le_trans hz (by decide), h, k _ (.str _)⟩)
theorem rv_le2 {a b c d : Int} : RvM (rLeT K) (.d (.tuple [.int a, .int b])) (.d (.tuple [.int c, .int d])) (db (if a = c then (if b = d then true else decide (b ≤ d)) else decide (a ≤ c))) := rv_of fun G H v w s h1 h2 Q k => by
  obtain ⟨l, vs, rfl, hl, hx⟩ := Dv.tup_of h1
  obtain ⟨m, ws, rfl, hm, hy⟩ := Dv.tup_of h2
  have e1 : vs = [a, b].map V.int := hx.ints (ns := [a, b])
  have e2 : ws = [c, d].map V.int := hy.ints (ns := [c, d])
  subst e1 e2
  refine ⟨l, m, [a, b], [c, d], rfl, rfl, SqT.of (s _ _ hl), SqT.of (s _ _ hm), k _ ?_⟩
  show Dv G (.bl (if decide (a = c) = true then (if decide (b = d) = true then true else decide (b ≤ d)) else decide (a ≤ c))) _
  simp only [decide_eq_true_eq]
  exact .bl _
/-- x * n of a list -/
theorem rv_rep1 {x : PyData} {n : Int} (h0 : 0 ≤ n) (h1 : n ≤ 50000) : RvM rRep (.d (.list [x])) (di n) (.d (.list (List.replicate n.toNat x))) := fun G M H v w s a b Q k => by
  obtain ⟨l, vs, rfl, hl, hx⟩ := Dv.lst_of a
  cases hx with
  | @cons v1 vs1 _ _ q t =>
    cases t
    refine ⟨l, n, [v1], rfl, Dv.int_of b, s.g _ _ hl, by omega, by omega, Nat.le_trans (by simp; omega) (by decide : 50000 ≤ sizeLine), fun p hp => ?_⟩
    have e : (List.replicate n.toNat [v1]).flatten = List.replicate n.toNat v1 := by
      generalize n.toNat = m
      induction m with
      | zero => rfl
      | succ m ih =>
        rw [List.replicate_succ, List.flatten_cons, ih, List.replicate_succ]
        rfl
    have hr : ∀ m : Nat, Dvs G (List.replicate m v1) (List.replicate m x) := fun m => by
      induction m with
      | zero => exact .nil
      | succ m ih => exact .cons q ih
    rw [e]
    have r := Rl.new (o := .lst (List.replicate n.toNat v1)) s hp
    exact k _ _ _ (s.new hp) r (Dv.lst upd_same ((hr _).mono r.g))
end
/-! ### slices of texts -/
section
variable {δ : Dl} {M M1 M2 M3 : Hp} {te ta : TE}
def EoM (to : TO) (δ : Dl) (M : Hp) (o : Option Int) (M2 : Hp) : Prop := ∀ (σ : L2.St) (G H : Hp), Stt G M H → Slots G σ δ → ∀ Q : Option Int → Hp → Prop, (∀ G2 H2, Stt G2 M2 H2 → Rl G M H G2 M2 H2 → Q o H2) → to σ H Q
theorem eo_none : EoM tNoPart δ M none M := fun σ G H s sl Q k => k G H s (Rl.refl _ _ _)
theorem eo_some {i : Int} (h : EvM te δ M (di i) M1) : EoM (tPart te) δ M (some i) M1 := fun σ G H s sl Q k => h σ G H s sl _ fun v G1 H1 s1 r1 d1 => ⟨i, Dv.int_of d1, k G1 H1 s1 r1⟩
theorem em_slS {tl th : TO} {x : Str} {lo hi : Option Int} (h : EvM te δ M (ds x) M1) (h1 : EoM tl δ M1 lo M2) (h2 : EoM th δ M2 hi M3) (hz : x.length ≤ 100000) : EvM (tSl rSlS te tl th) δ M (ds (cutS x lo hi)) M3 := fun σ G H s sl Q k =>
  h σ G H s sl _ fun v G1 H1 s1 r1 d1 => h1 σ G1 H1 s1 (sl.mono r1.g) _ fun G2 H2 s2 r2 => h2 σ G2 H2 s2 (sl.mono (r1.g.trans r2.g)) _ fun G3 H3 s3 r3 =>
    ⟨x, Dv.str_of d1, Nat.le_trans hz (by decide), k _ G3 H3 s3 (Rl.trans s1 s3 s r1 (Rl.trans s2 s3 s1 r2 r3)) (.str _)⟩
/-! ### methods -/
theorem em_bm {K : PySem.W.Frag} {T : String} {r : V → List V → Hp → VK → Prop} {ta : TA} {x z : Da} {xs : List Da} (h : EvM te δ M x M1) (ha : EAM ta δ M1 xs M2) (ht : ∀ G H v, Same G H → DaOk G v x → tyV K T v H)
    (hr : ∀ (G M H : Hp) (v : V) (vs : List V), Stt G M H → DaOk G v x → DaAll G vs xs → ∀ Q : VK, (∀ u G2 H2, Stt G2 M H2 → Rl G M H G2 M H2 → DaOk G2 u z → Q u H2) → r v vs H Q) : EvM (tBM K T r te ta) δ M z M2 := fun σ G H s sl Q k =>
  h σ G H s sl _ fun v G1 H1 s1 r1 d1 => ⟨ht G1 H1 v s1.g d1, ha σ G1 H1 s1 (sl.mono r1.g) _ fun vs G2 H2 s2 r2 d2 => hr G2 M2 H2 v vs s2 (d1.mono r2.g) d2 Q fun u G3 H3 s3 r3 d3 => k u G3 H3 s3 (Rl.trans s1 s3 s r1 (Rl.trans s2 s3 s1 r2 r3)) d3⟩
abbrev rSIndex : V → List V → Hp → VK → Prop := fun x xs H Q => ∃ a b i rest, x = .str a ∧ xs = [.str b] ∧ Builtin.Str.occurrences a b 0 a.length 1 = i :: rest ∧ Q (.int (i : Nat)) H
theorem mt_sIndex {X : Cx} : MtR X "str.index" rSIndex := mt_sindex
theorem em_sIndex {K : PySem.W.Frag} {ta : TA} {a b : Str} {i : Nat} {rest : List Nat} (h : EvM te δ M (ds a) M1) (ha : EAM ta δ M1 [ds b] M2) (ho : Builtin.Str.occurrences a b 0 a.length 1 = i :: rest) : EvM (tBM K "str" rSIndex te ta) δ M (di (i : Nat)) M2 :=
  em_bm h ha (fun G H v e d => by rw [Dv.str_of d]; rfl) fun G M H v vs s d da Q k => by
    cases da with
    | cons q t =>
      cases t
      exact ⟨a, b, i, rest, Dv.str_of d, by rw [Dv.str_of q], ho, k _ G H s (Rl.refl _ _ _) (.int _)⟩
abbrev rSCount : V → List V → Hp → VK → Prop := fun x xs H Q => ∃ a b, x = .str a ∧ xs = [.str b] ∧ Q (.int (Txt.count a b)) H
theorem mt_sCount {X : Cx} : MtR X "str.count" rSCount := mt_count
theorem em_sCount {K : PySem.W.Frag} {ta : TA} {a b : Str} (h : EvM te δ M (ds a) M1) (ha : EAM ta δ M1 [ds b] M2) : EvM (tBM K "str" rSCount te ta) δ M (di (Txt.count a b)) M2 :=
  em_bm h ha (fun G H v e d => by rw [Dv.str_of d]; rfl) fun G M H v vs s d da Q k => by
    cases da with
    | cons q t =>
      cases t
      exact ⟨a, b, Dv.str_of d, by rw [Dv.str_of q], k _ G H s (Rl.refl _ _ _) (.int _)⟩
theorem em_lCount {K : PySem.W.Frag} {ta : TA} {ns : List Int} {i : Int} (h : EvM te δ M (.d (.list (ns.map .int))) M1) (ha : EAM ta δ M1 [di i] M2) : EvM (tBM K "list" (rCntI K) te ta) δ M (di (ns.count i : Nat)) M2 :=
  em_bm h ha (fun G H v e d => by
    obtain ⟨l, vs, rfl, hl, hx⟩ := Dv.lst_of d
    exact .inl ⟨rfl, _, SqL.of (e _ _ hl)⟩) fun G M H v vs s d da Q k => by
    obtain ⟨l, ws, rfl, hl, hx⟩ := Dv.lst_of d
    have e := hx.ints
    subst e
    cases da with
    | cons q t =>
      cases t
      exact ⟨l, ns, i, rfl, by rw [Dv.int_of q], SqL.of (s.g _ _ hl), k _ G H s (Rl.refl _ _ _) (.int _)⟩
abbrev rSJoin (K : PySem.W.Frag) : V → List V → Hp → VK → Prop := fun x xs H Q => ∃ a p, ∃ ys : List Str, x = .str a ∧ xs = [.ref p] ∧ (SqL K H p (ys.map V.str) ∨ SqT K H p (ys.map V.str)) ∧
    (ys.map (·.length)).sum + ys.length * a.length ≤ 16777216 ∧ Q (.str (Txt.join a ys)) H
theorem mt_sJoin {X : Cx} : MtR X "str.join" (rSJoin X.K) := mt_join
theorem em_sJoin {K : PySem.W.Frag} {ta : TA} {a : Str} {ys : List Str} (h : EvM te δ M (ds a) M1) (ha : EAM ta δ M1 [.d (.list (ys.map .str))] M2) (hz : (ys.map (·.length)).sum + ys.length * a.length ≤ 16777216) : EvM (tBM K "str" (rSJoin K) te ta) δ M (ds (Txt.join a ys)) M2 :=
  em_bm h ha (fun G H v e d => by rw [Dv.str_of d]; rfl) fun G M H v vs s d da Q k => by
    cases da with
    | cons q t =>
      cases t
      obtain ⟨l, ws, rfl, hl, hx⟩ := Dv.lst_of q
      have e := hx.strs
      subst e
      exact ⟨a, l, ys, Dv.str_of d, rfl, .inl (SqL.of (s.g _ _ hl)), hz, k _ G H s (Rl.refl _ _ _) (.str _)⟩
end
/-! ### calls of built-ins -/
section
variable {K : PySem.W.Frag} {d e : PyData} {xs ys : List PyData}
theorem rc1 {r : List V → Hp → VK → Prop} {x z : Da} (h : ∀ (G M H : Hp) (v : V), Stt G M H → DaOk G v x → ∀ Q : VK, (∀ u G2 H2, Stt G2 M H2 → Rl G M H G2 M H2 → DaOk G2 u z → Q u H2) → r [v] H Q) : RcM r [x] z := fun G M H vs s da Q k => by
  cases da with
  | cons q t =>
    cases t
    exact h G M H _ s q Q k
abbrev rLenX (K : PySem.W.Frag) : List V → Hp → VK → Prop := fun xs H Q => ∃ x n, xs = [x] ∧ LenV K x H n ∧ Q (.int (n : Nat)) H
theorem call_lenX {X : Cx} : CallR X (.builtin "len") (rLenX X.K) := call_len
theorem rc_lenS {x : Str} (hz : x.length ≤ 100000) : RcM (rLenX K) [ds x] (di x.length) := rc1 fun G M H v s d Q k => by
  rw [Dv.str_of d]
  exact ⟨_, x.length, rfl, ⟨Nat.le_trans hz (by decide), rfl⟩, k _ G H s (Rl.refl _ _ _) (.int _)⟩
theorem rc_lenL : RcM (rLenX K) [.d (.list xs)] (di xs.length) := rc1 fun G M H v s d Q k => by
  obtain ⟨l, vs, rfl, hl, hx⟩ := Dv.lst_of d
  exact ⟨_, vs.length, rfl, .inl ⟨vs, SqL.of (s.g _ _ hl), rfl⟩, k _ G H s (Rl.refl _ _ _) (by rw [hx.length]; exact .int _)⟩
theorem rc_lenT : RcM (rLenX K) [.d (.tuple xs)] (di xs.length) := rc1 fun G M H v s d Q k => by
  obtain ⟨l, vs, rfl, hl, hx⟩ := Dv.tup_of d
  exact ⟨_, vs.length, rfl, .inr ⟨vs, SqT.of (s.g _ _ hl), rfl⟩, k _ G H s (Rl.refl _ _ _) (by rw [hx.length]; exact .int _)⟩
theorem rc_sum {ns : List Int} : RcM (rSum K) [.d (.list (ns.map .int))] (di ns.sum) := rc1 fun G M H v s d Q k => by
  obtain ⟨l, vs, rfl, hl, hx⟩ := Dv.lst_of d
  have e := hx.ints
  subst e
  exact ⟨l, ns, rfl, SqL.of (s.g _ _ hl), k _ G H s (Rl.refl _ _ _) (.int _)⟩
theorem rc_max {ns : List Int} {m : Int} (h0 : m ∈ ns) (hm : ∀ y ∈ ns, y ≤ m) : RcM (rMax K) [.d (.list (ns.map .int))] (di m) := rc1 fun G M H v s d Q k => by
  obtain ⟨l, vs, rfl, hl, hx⟩ := Dv.lst_of d
  have e := hx.ints
  subst e
  refine ⟨l, ns, rfl, SqL.of (s.g _ _ hl), List.length_pos_of_mem h0, fun m' h1 h2 => ?_⟩
  have e : m' = m := Int.le_antisymm (hm m' h1) (h2 m h0)
  rw [e]
  exact k _ G H s (Rl.refl _ _ _) (.int _)
abbrev rAllX (K : PySem.W.Frag) : List V → Hp → VK → Prop := fun vs H Q => ∃ (a : Addr) (bs : List Bool), vs = [V.ref a] ∧ SqL K H a (bs.map V.bl) ∧ Q (.bl (bs.all id)) H
abbrev rAnyX (K : PySem.W.Frag) : List V → Hp → VK → Prop := fun vs H Q => ∃ (a : Addr) (bs : List Bool), vs = [V.ref a] ∧ SqL K H a (bs.map V.bl) ∧ Q (.bl (bs.any id)) H
theorem rc_all {bs : List Bool} : RcM (rAllX K) [.d (.list (bs.map .bool))] (db (bs.all id)) := rc1 fun G M H v s d Q k => by
  obtain ⟨l, vs, rfl, hl, hx⟩ := Dv.lst_of d
  have e := hx.bls
  subst e
  exact ⟨l, bs, rfl, SqL.of (s.g _ _ hl), k _ G H s (Rl.refl _ _ _) (.bl _)⟩
theorem rc_any {bs : List Bool} : RcM (rAnyX K) [.d (.list (bs.map .bool))] (db (bs.any id)) := rc1 fun G M H v s d Q k => by
  obtain ⟨l, vs, rfl, hl, hx⟩ := Dv.lst_of d
  have e := hx.bls
  subst e
  exact ⟨l, bs, rfl, SqL.of (s.g _ _ hl), k _ G H s (Rl.refl _ _ _) (.bl _)⟩
abbrev rTupX (K : PySem.W.Frag) : List V → Hp → VK → Prop := fun xs H Q => ∃ p ys, xs = [.ref p] ∧ ((SqL K H p ys ∧ ∀ l, H l = none → Q (.ref l) (upd H l (.tup ys))) ∨ (SqT K H p ys ∧ Q (.ref p) H))
theorem call_tupX {X : Cx} : CallR X (.type "tuple") (rTupX X.K) := call_tuple_of
theorem rc_tupL : RcM (rTupX K) [.d (.list xs)] (.d (.tuple xs)) := rc1 fun G M H v s d Q k => by
  obtain ⟨l, vs, rfl, hl, hx⟩ := Dv.lst_of d
  refine ⟨l, vs, rfl, .inl ⟨SqL.of (s.g _ _ hl), fun p hp => ?_⟩⟩
  have r := Rl.new (o := .tup vs) s hp
  exact k _ _ _ (s.new hp) r (Dv.tup upd_same (hx.mono r.g))
abbrev rIntX : List V → Hp → VK → Prop := fun xs H Q => (∃ i, xs = [.int i] ∧ Q (.int i) H) ∨ ∃ k, xs = [.bl k] ∧ Q (.int (if k then 1 else 0)) H
theorem call_intX {X : Cx} : CallR X (.type "int") rIntX := call_int1
theorem rc_int {i : Int} : RcM rIntX [di i] (di i) := rc1 fun G M H v s d Q k => by
  rw [Dv.int_of d]
  exact .inl ⟨i, rfl, k _ G H s (Rl.refl _ _ _) (.int _)⟩
abbrev rMax2 : List V → Hp → VK → Prop := fun xs H Q => ∃ i j, xs = [.int i, .int j] ∧ Q (.int (if j > i then j else i)) H
abbrev rMin2 : List V → Hp → VK → Prop := fun xs H Q => ∃ i j, xs = [.int i, .int j] ∧ Q (.int (if j < i then j else i)) H
theorem call_max2X {X : Cx} (hc : X.calm = true) : CallR X (.builtin "max") rMax2 := call_max2 hc
theorem call_min2X {X : Cx} (hc : X.calm = true) : CallR X (.builtin "min") rMin2 := call_min2 hc
theorem rc_max2 {i j : Int} : RcM rMax2 [di i, di j] (di (if j > i then j else i)) := fun G M H vs s da Q k => by
  cases da with
  | cons a t =>
    cases t with
    | cons b t =>
      cases t
      exact ⟨i, j, by rw [Dv.int_of a, Dv.int_of b], k _ G H s (Rl.refl _ _ _) (.int _)⟩
theorem rc_min2 {i j : Int} : RcM rMin2 [di i, di j] (di (if j < i then j else i)) := fun G M H vs s da Q k => by
  cases da with
  | cons a t =>
    cases t with
    | cons b t =>
      cases t
      exact ⟨i, j, by rw [Dv.int_of a, Dv.int_of b], k _ G H s (Rl.refl _ _ _) (.int _)⟩
/-- the name of a type -/
def tyn : PyData → String
  | .none => "NoneType"
  | .bool _ => "bool"
  | .int _ => "int"
  | .str _ => "str"
  | .list _ => "list"
  | .tuple _ => "tuple"
  | .dict _ => "dict"
theorem dv_ty {G H : Hp} {v : V} (e : Same G H) (h : Dv G v d) : TyX K H v (.type (tyn d)) := by
  cases h with
  | non => exact .base .non
  | bl b => exact .base (.bl b)
  | int i => exact .base (.int i)
  | str x => exact .base (.str x)
  | lst h t => exact .base (.lst (e _ _ h))
  | tup h t => exact .base (.tup (e _ _ h))
theorem rc_isi {t n : String} {b : Bool} (ht : tyn d = t) (h : kitB t n = some b) : RcM (rIsi K) [.d d, .ty n] (db b) := fun G M H vs s da Q k => by
  cases da with
  | cons a t =>
    cases t with
    | cons c t =>
      cases t
      have e : _ = V.ty n := c
      subst e
      exact ⟨_, .ty n, .type (tyn d), .type n, b, rfl, .ty n, dv_ty s.g a, kit_ty (by rw [ht]; exact h), k _ G H s (Rl.refl _ _ _) (.bl b)⟩
theorem em_ty {δ : Dl} {M : Hp} {n : String} : EvM (tC (.ty n)) δ M (.ty n) M := fun σ G H s sl Q k => k _ G H s (Rl.refl _ _ _) rfl
/-- isinstance(x, (A, B)) -/
theorem em_isi2 {δ : Dl} {M M1 : Hp} {te : TE} {t m n : String} {a b : Bool} (h : EvM te δ M (.d d) M1) (ht : tyn d = t) (ha : kitB t m = some a) (hb : kitB t n = some b) :
    EvM (tCB (rIsiT K) (tCons te (tCons (tTup (tCons (tC (.ty m)) (tCons (tC (.ty n)) tNil))) tNil))) δ M (db (a || b)) M1 := fun σ G H s sl Q k =>
  h σ G H s sl _ fun v G1 H1 s1 r1 d1 => by
    refine ⟨by show 2 ≤ sizeLine; decide, fun p hp => ?_⟩
    have s2 := s1.new (o := .tup [.ty m, .ty n]) hp
    have r2 := Rl.new (o := .tup [.ty m, .ty n]) s1 hp
    refine ⟨v, p, [.ty m, .ty n], .type (tyn d), [.type m, .type n], a || b, rfl, upd_same, .cons (.ty m) (.cons (.ty n) .nil), dv_ty s2.g (Dv.mono r2.g d1), ?_, k _ _ _ s2 (Rl.trans s1 s2 s r1 r2) (.bl _)⟩
    refine kitAny_cons (kit_ty (by rw [ht]; exact ha)) (fun z => ?_) (fun z => by rw [z] <;> rfl)
    rw [z]
    exact kitAny_cons (kit_ty (by rw [ht]; exact hb)) (fun z => by rw [z] <;> rfl) (fun z => by rw [z] <;> rfl)
end
/-! ### three comparisons in a row -/
def tChain3 (r r' r'' : R2) (ta tb tc td : TE) : TE := fun σ H Q => ta σ H fun x H1 => tb σ H1 fun y H2 => r x y H2 fun z H3 => ∃ k, z = .bl k ∧
  (if k = true then tc σ H3 fun w' H4 => r' y w' H4 fun z2 H5 => ∃ k2, z2 = .bl k2 ∧ (if k2 = true then td σ H5 fun u H6 => r'' w' u H6 Q else Q (.bl false) H5) else Q (.bl false) H3)
theorem pe_chain3 {X : Cx} {a b c e : Expr} {ta tb tc td : TE} {pos : Pos} {op op' op'' : CmpOp} {r r' r'' : R2} (ho : OpR X (compareOp op) r) (ho' : OpR X (compareOp op') r') (ho'' : OpR X (compareOp op'') r'') (ha : PE X a ta) (hb : PE X b tb) (hc : PE X c tc) (hd : PE X e td)
    (hm : lastMarks [op, op', op''] [b, c, e] = false := by with_unfolding_all rfl) : PE X (.Compare a [op, op', op''] [b, c, e] pos) (tChain3 r r' r'' ta tb tc td) := by
  refine ⟨fun pins s σ H Q I h => ?_⟩
  refine Compare_chain (thn (ha.run pins s σ H _ I h) fun v s1 ⟨x, H1, I1, r1, q1⟩ => chain_link (thn (hb.run pins s1 σ H1 _ I1 q1) fun u s2 ⟨y, H2, I2, r2, q2⟩ =>
    thn (ho pins s2 σ H2 x y v u _ I2 r1 r2 q2) fun d s3 ⟨z, H3, I3, r3, k, e, q3⟩ => ?_)) hm
  subst e
  cases r3
  refine wpAny_truthy_bool ?_
  cases k with
  | false => exact ite_ff ⟨.bl false, H3, I3, rfl, q3⟩
  | true =>
    refine ite_tt (chain_link (thn (hc.run pins s3 σ H3 _ I3 q3) fun w' s4 ⟨z', H4, I4, r4, q4⟩ => thn (ho' pins s4 σ H4 y z' u w' _ I4 r2 r4 q4) fun d' s5 ⟨z2, H5, I5, r5, k2, e2, q5⟩ => ?_))
    subst e2
    cases r5
    refine wpAny_truthy_bool ?_
    cases k2 with
    | false => exact ite_ff ⟨.bl false, H5, I5, rfl, q5⟩
    | true => exact ite_tt (chain_last (thn (hd.run pins s5 σ H5 _ I5 q5) fun w2 s6 ⟨z3, H6, I6, r6, q6⟩ => ho'' pins s6 σ H6 z' z3 w' w2 Q I6 r4 r6 q6))
theorem em_chain3 {δ : Dl} {M : Hp} {ta tb tc td : TE} {x y z w : Da} {r r' r'' : R2} {a b c : Bool} (ha : EvM ta δ M x M) (hb : EvM tb δ M y M) (hr : RvM r x y (db a)) (hc : a = true → EvM tc δ M z M) (hr' : a = true → RvM r' y z (db b))
    (hd : a = true → b = true → EvM td δ M w M) (hr'' : a = true → b = true → RvM r'' z w (db c)) : EvM (tChain3 r r' r'' ta tb tc td) δ M (db (a && (b && c))) M := fun σ G H s sl Q k =>
  ha σ G H s sl _ fun v G1 H1 s1 r1 d1 => hb σ G1 H1 s1 (sl.mono r1.g) _ fun w G2 H2 s2 r2 d2 => hr G2 M H2 v w s2 (d1.mono r2.g) d2 _ fun e G3 H3 s3 r3 d3 => by
    have r13 := Rl.trans s1 s3 s r1 (Rl.trans s2 s3 s1 r2 r3)
    refine ⟨a, Dv.bl_of d3, ?_⟩
    cases a with
    | true =>
      refine hc rfl σ G3 H3 s3 (sl.mono r13.g) _ fun c' G4 H4 s4 r4 d4 => hr' rfl G4 M H4 w c' s4 (d2.mono (r3.g.trans r4.g)) d4 _ fun e G5 H5 s5 r5 d5 => ?_
      have r35 := Rl.trans s4 s5 s3 r4 r5
      have r15 := Rl.trans s3 s5 s r13 r35
      refine ⟨b, Dv.bl_of d5, ?_⟩
      cases b with
      | true => exact hd rfl rfl σ G5 H5 s5 (sl.mono r15.g) _ fun f G6 H6 s6 r6 d6 => hr'' rfl rfl G6 M H6 c' f s6 (d4.mono (r5.g.trans r6.g)) d6 Q fun e G7 H7 s7 r7 d7 => k e G7 H7 s7 (Rl.trans s5 s7 s r15 (Rl.trans s6 s7 s5 r6 r7)) d7
      | false => exact k _ G5 H5 s5 r15 (Dv.bl false)
    | false => exact k _ G3 H3 s3 r13 (Dv.bl false)
end DL

set_option Elab.async false
set_option linter.all false
set_option maxRecDepth 100000
set_option maxHeartbeats 4000000
/-! DMore: comprehensions over told lists. -/
namespace DL
open PySem PySem.Spec PyProof.Rows L2
section
variable {β : Type}
theorem filter_opt {γ : Type} (l : List β) (p : β → Bool) (f : β → γ) (d : γ) : ∀ n, n ≤ l.length →
    ((List.range n).filter fun i => ((l[i]?).map p).getD false).map (fun i => ((l[i]?).map f).getD d) = ((l.take n).filter p).map f
  | 0, _ => rfl
  | n + 1, h => by
    have ih := filter_opt l p f d n (by omega)
    have hn : l[n]? = some (l[n]'(by omega)) := List.getElem?_eq_getElem (by omega)
    rw [List.range_succ, List.filter_append, List.map_append, ih, List.take_add_one, hn]
    simp only [Option.toList_some, List.filter_append, List.map_append]
    congr 1
    by_cases hp : p (l[n]'(by omega)) = true
    · simp [hn, hp]
    · simp [hn, hp]
variable {δ δ' : Dl} {M M1 M2 M3 : Hp} {ta tb tc te : TE} {wi : TI} {g : TG} {tt : TT} {vs : List Nat}
/-- [f for b in bs if p] -/
theorem em_lcB (bs : List β) (enc : β → PyData) (p : β → Bool) (f : β → PyData) (tgd : β → Dl) (js : List Nat) (hi : IvM wi δ M (bs.map enc) M1) (hz : bs.length ≤ 50000) (hj : ∀ j ∈ js, j ∈ vs)
    (hg : ∀ b, b ∈ bs → TgM g (enc b) (wipeD δ vs) (tgd b) js) (ht : ∀ b, b ∈ bs → ∀ M', ETM tt (tgd b) M' (p b) M') (he : ∀ b, b ∈ bs → p b = true → ∀ M', EvM te (tgd b) M' (.d (f b)) M') :
    EvM (tLc wi g tt te vs) δ M (.d (.list ((bs.filter p).map f))) M1 := by
  have e := filter_opt bs p f PyData.none bs.length (Nat.le_refl _)
  rw [List.take_of_length_le (Nat.le_refl _)] at e
  rw [← e]
  have hl : (bs.map enc).length = bs.length := List.length_map ..
  have h := em_lcM (δ := δ) (M := M) (te := te) (g := g) (tt := tt) (vs := vs) (fun _ => M1) (fun i => ((bs[i]?).map p).getD false) (fun i => ((bs[i]?).map f).getD .none) hi (by rw [hl]; exact hz) fun i x hx => by
    rw [List.getElem?_map] at hx
    cases q : bs[i]? with
    | none =>
      rw [q] at hx
      cases hx
    | some b =>
      rw [q] at hx
      have ex : x = enc b := (Option.some.inj hx).symm
      subst ex
      have hm : b ∈ bs := List.mem_of_getElem? q
      refine ⟨tgd b, js, hg b hm, hj, fun D o hD => ⟨M1, hD, ht b hm _, fun hb => ⟨hD, he b hm hb _⟩, fun _ => rfl⟩⟩
  rw [hl] at h
  exact h
theorem em_lcB1 (bs : List β) (enc : β → PyData) (f : β → PyData) (tgd : β → Dl) (js : List Nat) (hi : IvM wi δ M (bs.map enc) M1) (hz : bs.length ≤ 50000) (hj : ∀ j ∈ js, j ∈ vs)
    (hg : ∀ b, b ∈ bs → TgM g (enc b) (wipeD δ vs) (tgd b) js) (he : ∀ b, b ∈ bs → ∀ M', EvM te (tgd b) M' (.d (f b)) M') : EvM (tLc wi g tYes te vs) δ M (.d (.list (bs.map f))) M1 := by
  have h := em_lcB bs enc (fun _ => true) f tgd js hi hz hj hg (fun x _ M' => et_yes) (fun x hx _ M' => he x hx M')
  have e : bs.filter (fun _ => true) = bs := List.filter_eq_self.mpr fun _ _ => rfl
  rw [e] at h
  exact h
/-- one name -/
theorem em_lcN (bs : List β) (enc : β → PyData) (f : β → PyData) {j : Nat} (hi : IvM wi δ M (bs.map enc) M1) (hz : bs.length ≤ 50000)
    (he : ∀ b, b ∈ bs → ∀ M', EvM te ((wipeD δ [j]).set j (some (.d (enc b)))) M' (.d (f b)) M') : EvM (tLc wi (gName j) tYes te [j]) δ M (.d (.list (bs.map f))) M1 :=
  em_lcB1 bs enc f (fun b => (wipeD δ [j]).set j (some (.d (enc b)))) [j] hi hz (fun _ h => h) (fun _ _ => tg_name) he
theorem em_lcNF (bs : List β) (enc : β → PyData) (p : β → Bool) (f : β → PyData) {j : Nat} (hi : IvM wi δ M (bs.map enc) M1) (hz : bs.length ≤ 50000)
    (ht : ∀ b, b ∈ bs → ∀ M', ETM tt ((wipeD δ [j]).set j (some (.d (enc b)))) M' (p b) M')
    (he : ∀ b, b ∈ bs → p b = true → ∀ M', EvM te ((wipeD δ [j]).set j (some (.d (enc b)))) M' (.d (f b)) M') : EvM (tLc wi (gName j) tt te [j]) δ M (.d (.list ((bs.filter p).map f))) M1 :=
  em_lcB bs enc p f (fun b => (wipeD δ [j]).set j (some (.d (enc b)))) [j] hi hz (fun _ h => h) (fun _ _ => tg_name) ht he
/-- a pair of names -/
theorem em_lc2 {K : PySem.W.Frag} (bs : List β) (e1 e2 : β → PyData) (f : β → PyData) {i j : Nat} (hi : IvM wi δ M (bs.map fun b => .tuple [e1 b, e2 b]) M1) (hz : bs.length ≤ 50000)
    (he : ∀ b, b ∈ bs → ∀ M', EvM te (((wipeD δ [i, j]).set i (some (.d (e1 b)))).set j (some (.d (e2 b)))) M' (.d (f b)) M') : EvM (tLc wi (gTup K 2 (gCons (gName i) (gCons (gName j) gNil))) tYes te [i, j]) δ M (.d (.list (bs.map f))) M1 :=
  em_lcB1 bs _ f (fun b => ((wipeD δ [i, j]).set i (some (.d (e1 b)))).set j (some (.d (e2 b)))) [i, j] hi hz (fun _ h => h) (fun _ _ => tg_two) he
theorem em_lc2F {K : PySem.W.Frag} (bs : List β) (e1 e2 : β → PyData) (p : β → Bool) (f : β → PyData) {i j : Nat} (hi : IvM wi δ M (bs.map fun b => .tuple [e1 b, e2 b]) M1) (hz : bs.length ≤ 50000)
    (ht : ∀ b, b ∈ bs → ∀ M', ETM tt (((wipeD δ [i, j]).set i (some (.d (e1 b)))).set j (some (.d (e2 b)))) M' (p b) M')
    (he : ∀ b, b ∈ bs → p b = true → ∀ M', EvM te (((wipeD δ [i, j]).set i (some (.d (e1 b)))).set j (some (.d (e2 b)))) M' (.d (f b)) M') : EvM (tLc wi (gTup K 2 (gCons (gName i) (gCons (gName j) gNil))) tt te [i, j]) δ M (.d (.list ((bs.filter p).map f))) M1 :=
  em_lcB bs _ p f (fun b => ((wipeD δ [i, j]).set i (some (.d (e1 b)))).set j (some (.d (e2 b)))) [i, j] hi hz (fun _ h => h) (fun _ _ => tg_two) ht he
theorem rgD_eq (n : Nat) : rgD 0 1 n = (List.range n).map fun i => .int (i : Nat) := by
  unfold rgD
  refine List.map_congr_left fun i _ => ?_
  rw [Int.zero_add, Int.mul_one]
theorem iv_rg {ta : TA} {n : Nat} (h : EAM ta δ M [di n] M1) (hn : n ≤ 100000) : IvM (iRng1 ta) δ M ((List.range n).map fun i => .int (i : Nat)) M1 := by
  have q := iv_r1 h (by omega)
  rw [Int.toNat_natCast, rgD_eq] at q
  exact q
theorem iv_rgi {ta : TA} {z : Int} {k : Nat} (h : EAM ta δ M [di z] M1) (hn : -100000 ≤ z ∧ z ≤ 100000) (e : z.toNat = k) : IvM (iRng1 ta) δ M ((List.range k).map fun i => .int (i : Nat)) M1 := by
  have q := iv_r1 h hn
  rw [e, rgD_eq] at q
  exact q
variable {K : PySem.W.Frag}
theorem rc_allB {bs : List β} {g : β → Bool} : RcM (rAllX K) [.d (.list (bs.map fun b => .bool (g b)))] (db (bs.all g)) := by
  have h := rc_all (K := K) (bs := bs.map g)
  rw [List.map_map, List.all_map] at h
  exact h
theorem rc_anyB {bs : List β} {g : β → Bool} : RcM (rAnyX K) [.d (.list (bs.map fun b => .bool (g b)))] (db (bs.any g)) := by
  have h := rc_any (K := K) (bs := bs.map g)
  rw [List.map_map, List.any_map] at h
  exact h
theorem rc_sumB {bs : List β} {g : β → Int} : RcM (rSum K) [.d (.list (bs.map fun b => .int (g b)))] (di (bs.map g).sum) := by
  have h := rc_sum (K := K) (ns := bs.map g)
  rw [List.map_map] at h
  exact h
theorem rc_maxB {bs : List β} {g : β → Int} {m : Int} (h0 : ∃ b ∈ bs, g b = m) (hm : ∀ b ∈ bs, g b ≤ m) : RcM (rMax K) [.d (.list (bs.map fun b => .int (g b)))] (di m) := by
  have h := rc_max (K := K) (ns := bs.map g) (m := m) (List.mem_map.mpr h0) (fun y hy => by
    obtain ⟨b, hb, rfl⟩ := List.mem_map.mp hy
    exact hm b hb)
  rw [List.map_map] at h
  exact h
theorem em_sJoinB {a : Str} {bs : List β} {g : β → Str} (h : EvM te δ M (ds a) M1) (ha : EAM ta' δ M1 [.d (.list (bs.map fun b => .str (g b)))] M2) (hz : ((bs.map g).map (·.length)).sum + (bs.map g).length * a.length ≤ 16777216) : EvM (tBM K "str" (rSJoin K) te ta') δ M (ds (Txt.join a (bs.map g))) M2 := by
  refine em_sJoin h ?_ hz
  rw [List.map_map]
  exact ha
theorem em_lCountB {ta : TA} {bs : List β} {g : β → Int} {i : Int} (h : EvM te δ M (.d (.list (bs.map fun b => .int (g b)))) M1) (ha : EAM ta δ M1 [di i] M2) : EvM (tBM K "list" (rCntI K) te ta) δ M (di ((bs.map g).count i : Nat)) M2 := by
  refine em_lCount ?_ ha
  rw [List.map_map]
  exact h
end
end DL

set_option Elab.async false
set_option linter.all false
set_option maxRecDepth 100000
set_option maxHeartbeats 4000000
/-! DBase: the text by places, what its top has left, calls of its defs. -/
namespace DL
open PySem PySem.Spec PyProof.Rows L2
def top (i : Nat) : Stmt := PySem.Challenge.pw_chumwords_k11_whole_great_least_words.main.body.getD i (.Pass ⟨0, 0, 0, 0⟩)
/-- the built-ins' names are the program's nowhere -/
structure Bi (mg : Str → Option Value) : Prop where
  isinstance_ : mg "isinstance" = none
  bool_ : mg "bool" = none
  int_ : mg "int" = none
  str_ : mg "str" = none
  tuple_ : mg "tuple" = none
  list_ : mg "list" = none
  len_ : mg "len" = none
  all_ : mg "all" = none
  any_ : mg "any" = none
  range_ : mg "range" = none
  enumerate_ : mg "enumerate" = none
  sum_ : mg "sum" = none
  sorted_ : mg "sorted" = none
  max_ : mg "max" = none
  min_ : mg "min" = none
/-- the constants -/
structure Co (mg : Str → Option Value) : Prop where
  ALPHABET_ : ∃ u, mg "ALPHABET" = some u ∧ RelV (.str "abcdefgh") u
  MOST_LETTERS_ : ∃ u, mg "MOST_LETTERS" = some u ∧ RelV (.int 8) u
  MOST_WORD_ : ∃ u, mg "MOST_WORD" = some u ∧ RelV (.int 60) u
theorem boot_isinstance : bootBuiltins "isinstance" = some (.builtin "isinstance") := by decide +kernel
theorem boot_bool : bootBuiltins "bool" = some (.type "bool") := by decide +kernel
theorem boot_int : bootBuiltins "int" = some (.type "int") := by decide +kernel
theorem boot_str : bootBuiltins "str" = some (.type "str") := by decide +kernel
theorem boot_tuple : bootBuiltins "tuple" = some (.type "tuple") := by decide +kernel
theorem boot_list : bootBuiltins "list" = some (.type "list") := by decide +kernel
theorem boot_len : bootBuiltins "len" = some (.builtin "len") := by decide +kernel
theorem boot_all : bootBuiltins "all" = some (.builtin "all") := by decide +kernel
theorem boot_any : bootBuiltins "any" = some (.builtin "any") := by decide +kernel
theorem boot_sum : bootBuiltins "sum" = some (.builtin "sum") := by decide +kernel
theorem boot_sorted : bootBuiltins "sorted" = some (.builtin "sorted") := by decide +kernel
theorem boot_max : bootBuiltins "max" = some (.builtin "max") := by decide +kernel
theorem boot_min : bootBuiltins "min" = some (.builtin "min") := by decide +kernel
/-! the rules with the written part by name (within a comprehension's block) -/
section
variable {X : Cx} {K : PySem.W.Frag} {tg e : Expr} {te : TE}
theorem op_eqDK (h : X.K = K) (hu : X.A.units + 64 < cLine) : OpR X (compareOp .Eq) (rEqD K) := h ▸ op_eqD hu
theorem op_neDK (h : X.K = K) (hu : X.A.units + 64 < cLine) : OpR X (compareOp .NotEq) (rNeD K) := h ▸ op_neD hu
theorem op_inTK (h : X.K = K) (hu : X.A.units + 65 < cLine) : OpR X (compareOp .In) (rInT K) := h ▸ op_inT hu
theorem op_leTK (h : X.K = K) (hu : X.A.units < cLine) : OpR X (compareOp .LtE) (rLeT K) := h ▸ op_leT hu
theorem op_in_seqK (h : X.K = K) : OpR X (compareOp .In) (rIn K false) := h ▸ op_in_seq
theorem op_catAK (h : X.K = K) : OpR X (binaryOp .Add) (rCatA K) := h ▸ op_catA
theorem ix_seqK (h : X.K = K) : IxR X (rIx K) := h ▸ ix_seq
theorem call_lenK (h : X.K = K) : CallR X (.builtin "len") (rLenX K) := h ▸ call_lenX
theorem call_isiK' (h : X.K = K) : CallR X (.builtin "isinstance") (rIsi K) := h ▸ call_isi
theorem call_isiTK (h : X.K = K) : CallR X (.builtin "isinstance") (rIsiT K) := h ▸ call_isiT
theorem cr_allK (h : X.K = K) (hc : X.calm = true) : CallR X (.builtin "all") (rAllX K) := h ▸ cr_all hc
theorem cr_anyK (h : X.K = K) (hc : X.calm = true) : CallR X (.builtin "any") (rAnyX K) := h ▸ cr_any hc
theorem cr_sumK (h : X.K = K) (hc : X.calm = true) : CallR X (.builtin "sum") (rSum K) := h ▸ cr_sum hc
theorem cr_maxK (h : X.K = K) (hc : X.calm = true) : CallR X (.builtin "max") (rMax K) := h ▸ cr_max hc
theorem call_tupK (h : X.K = K) : CallR X (.type "tuple") (rTupX K) := h ▸ call_tupX
theorem mt_sJoinK (h : X.K = K) : MtR X "str.join" (rSJoin K) := h ▸ mt_sJoin
theorem mt_lcountK (h : X.K = K) : MtR X "list.count" (rCntI K) := h ▸ mt_lcount
theorem pe_bmK {o : Expr} {es : List Expr} {to : TE} {t : TA} {name : Str} {apos cpos : Pos} {T id : String} {r : V → List V → Hp → VK → Prop} (h : X.K = K) (pa : PlainAttrs T) (slot : Slot T name id) (hty : typeOf (.builtin id) = pure (.type "method_descriptor")) (hm : MtR X id r) (ho : PE X o to) (ha : PA X (e :: es) t)
    (hbase : attributeBase o name X.env (eval o X.env) = eval o X.env := by rfl)
    (hfew : ((backTo cpos (starEach (e :: es) X.env)).all (fun x => !x.1) && (backToKw cpos (keywordEach [] X.env)).all (fun x => x.1.isSome)
      && decide ((e :: es).length + ([] : List Keyword).length + (if ([] : List Keyword).isEmpty then 0 else 1) < 30)) = true := by rfl)
    (hline : (apos.endLine == cpos.line) = true := by rfl) (hs : starEach (e :: es) X.env = (false, eval e X.env) :: starEach es X.env := by rfl) (hplain : (backTo cpos (starEach es X.env)).any (·.1) = false := by rfl) :
    PE X (.Call (.Attribute o name apos) (e :: es) [] cpos) (tBM K T r to t) := h ▸ pe_bm pa slot hty hm ho ha hbase hfew hline hs hplain
theorem pi_listK (h : X.K = K) (hl : PE X e te) : PI X tg e (iList K te) := h ▸ pi_list hl
theorem pi_tupK (h : X.K = K) (hl : PE X e te) : PI X tg e (iTup K te) := h ▸ pi_tup hl
end
theorem un65 {A : Around} {k : Nat} (hr : Room k A) : A.units + 65 < cLine := by
  have := hr.un
  omega
theorem pe_gl {X : Cx} {x : Str} {v : V} {pos : Pos} (hg : Gl X x) (h : ∃ u, X.mg x = some u ∧ RelV v u) (hd : (x == ("__debug__" : Str)) = false := by decide) : PE X (.Name x pos) (tC v) := by
  obtain ⟨u, hm, r⟩ := h
  exact pe_glob hg hm r hd
/-- a def that can be called -/
def Cal (P : Program) (w : World) (K : PySem.W.Frag) (mg : Str → Option Value) (base : Heap) (x : Str) (ps : List Str) (k : Nat) (sp : Sp) : Prop :=
  ∃ (f : Addr) (fd : FuncData), mg x = some (.ref f) ∧ PySem.W.keepIn K (.ref f) = true ∧ Binds K fd ps [] ∧ FnOk P w K mg base CX0 k f fd ps sp
theorem pe_cal {X : Cx} {x : Str} {ps : List Str} {k : Nat} {sp : Sp} {p pos : Pos} {e : Expr} {es : List Expr} {t : TA} (c : Cal X.prog X.w X.K X.mg X.base x ps k sp) (hr : Room k X.A) (hg : Gl X x) (ha : PA X (e :: es) t)
    (hdb : (x == ("__debug__" : Str)) = false := by decide) (he : starEach (e :: es) X.env = (false, eval e X.env) :: starEach es X.env := by rfl) (hpl : (backTo pos (starEach es X.env)).any (·.1) = false := by rfl) :
    PE X (.Call (.Name x p) (e :: es) [] pos) (tCall sp [] E0 t) := by
  obtain ⟨f, fd, m, kp, b, F⟩ := c
  exact pe_call F hr hg m kp b .nil pass0 ha hdb he hpl
end DL

/-! Md: the model: companies, kinds, words, as plain numbers and lists; core Lean. -/
set_option autoImplicit false
set_option linter.all false
set_option maxRecDepth 100000
namespace Md
structure Com where
  n : Nat
  ps : List (Nat × Nat)
def ltP (p q : Nat × Nat) : Prop := p.1 < q.1 ∨ (p.1 = q.1 ∧ p.2 < q.2)
structure Com.Ok (C : Com) : Prop where
  lo : 2 ≤ C.n
  hi : C.n ≤ 8
  pr : ∀ p ∈ C.ps, p.1 < p.2 ∧ p.2 < C.n
  srt : C.ps.Pairwise ltP
  fr : ∀ a, a < C.n → ∃ p ∈ C.ps, p.1 = a ∨ p.2 = a
  sz : C.ps.length ≤ 28
abbrev Knd := Nat × Nat
def bs (m : Nat) : List Nat := (List.range 8).filter m.testBit
def pc (m : Nat) : Nat := (bs m).length
def cr (C : Com) (a b : Nat) : Nat := (C.ps.filter fun p => a.testBit p.2 && b.testBit p.1).length
def jn (C : Com) (x y : Knd) : Knd := (x.1 ^^^ y.1, (x.2 + y.2 + cr C x.1 y.1 + pc (x.1 &&& y.1)) % 2)
def fw (C : Com) (m : Nat) : Nat := (C.ps.filter fun p => m.testBit p.1 && m.testBit p.2).length
def ll (C : Com) (k : Knd) : Nat := if k.1 = 0 then (if k.2 = 1 then 2 else 4) else if k.2 = 0 ∨ 0 < fw C k.1 then pc k.1 else pc k.1 + 2
def hasL (C : Com) (k : Knd) (L : Nat) : Bool := decide (ll C k ≤ L) && decide ((L + pc k.1) % 2 = 0)
def bh (C : Com) (a : Nat) (k : Knd) : Knd := ((jn C (2 ^ a, 0) k).1, 1 - (jn C (2 ^ a, 0) k).2)
def isOpen (C : Com) (k : Knd) (L : Nat) : Bool := if L = 0 then decide (k = (0, 0)) else hasL C k L
def gw (C : Com) : Nat → Knd → List Nat
  | 0, _ => []
  | L + 1, k => match (List.range C.n).find? (fun a => isOpen C (bh C a k) L) with
    | some a => a :: gw C L (bh C a k)
    | none => []
/-- a word's kind, letter by letter -/
def kw (C : Com) (l : List Nat) : Knd := l.foldl (fun k a => jn C k (2 ^ a, 0)) (0, 0)
structure Kok (C : Com) (k : Knd) : Prop where
  m : k.1 < 2 ^ C.n
  s : k.2 < 2

/-! ### bits -/
theorem tb_pow (a i : Nat) : (2 ^ a).testBit i = decide (a = i) := Nat.testBit_two_pow
theorem flip_lt {m a n : Nat} (hm : m < 2 ^ n) (ha : a < n) : m ^^^ 2 ^ a < 2 ^ n := Nat.xor_lt_two_pow hm (Nat.pow_lt_pow_right (by decide) ha)
theorem lt256 {m n : Nat} (hn : n ≤ 8) (hm : m < 2 ^ n) : m < 256 := Nat.lt_of_lt_of_le hm (Nat.pow_le_pow_right (n := 2) (by decide) hn : 2 ^ n ≤ 2 ^ 8)
theorem pc_flip1 : ∀ m, m < 256 → ∀ a, a < 8 → m.testBit a = true → pc (m ^^^ 2 ^ a) + 1 = pc m := by decide +kernel
theorem pc_flip0 : ∀ m, m < 256 → ∀ a, a < 8 → m.testBit a = false → pc (m ^^^ 2 ^ a) = pc m + 1 := by decide +kernel
theorem pc_and : ∀ m, m < 256 → ∀ a, a < 8 → pc (2 ^ a &&& m) = if m.testBit a then 1 else 0 := by decide +kernel
theorem pc_and' : ∀ m, m < 256 → ∀ a, a < 8 → pc (m &&& 2 ^ a) = if m.testBit a then 1 else 0 := by decide +kernel
theorem pc_zero : ∀ m, m < 256 → pc m = 0 → m = 0 := by decide +kernel
theorem pc_one : ∀ m, m < 256 → pc m = 1 → ∃ a, a < 8 ∧ m = 2 ^ a := by decide +kernel
theorem pc_bit : ∀ m, m < 256 → m ≠ 0 → ∃ a, a < 8 ∧ m.testBit a = true ∧ ∀ b, b < a → m.testBit b = false := by decide +kernel
theorem pc_third0 : ∀ m, m < 256 → ∀ x, x < 8 → ∀ y, y < 8 → (decide (3 ≤ pc m) && !((List.range 8).any fun a => m.testBit a && (a != x) && (a != y))) = false := by decide +kernel
theorem pc_third (m : Nat) (hm : m < 256) (h : 3 ≤ pc m) (x : Nat) (hx : x < 8) (y : Nat) (hy : y < 8) : ∃ a, a < 8 ∧ m.testBit a = true ∧ a ≠ x ∧ a ≠ y := by
  have q := pc_third0 m hm x hx y hy
  rw [decide_eq_true h] at q
  simp only [Bool.true_and, Bool.not_eq_false', List.any_eq_true, List.mem_range] at q
  obtain ⟨a, h1, h2⟩ := q
  simp at h2
  exact ⟨a, h1, h2.1.1, h2.1.2, h2.2⟩
theorem pc_two0 : ∀ m, m < 256 → ∀ x, x < 8 → ∀ y, y < 8 → (decide (pc m = 2) && decide (x < y) && m.testBit x && m.testBit y && (m != 2 ^ x ^^^ 2 ^ y)) = false := by decide +kernel
theorem pc_two (m : Nat) (hm : m < 256) (h : pc m = 2) (x : Nat) (hx : x < 8) (y : Nat) (hy : y < 8) (hxy : x < y) (h1 : m.testBit x = true) (h2 : m.testBit y = true) : m = 2 ^ x ^^^ 2 ^ y := by
  have q := pc_two0 m hm x hx y hy
  rw [decide_eq_true h, decide_eq_true hxy, h1, h2] at q
  simpa using q
theorem bit_lt {m a n : Nat} (hm : m < 2 ^ n) (h : m.testBit a = true) : a < n := by
  refine Nat.lt_of_not_le fun hle => ?_
  have e := Nat.testBit_lt_two_pow (Nat.lt_of_lt_of_le hm (Nat.pow_le_pow_right (n := 2) (by decide) hle))
  rw [e] at h
  cases h
theorem tb_xor (m a i : Nat) : (m ^^^ 2 ^ a).testBit i = (m.testBit i ^^ decide (a = i)) := by rw [Nat.testBit_xor, tb_pow]

section
variable {C : Com} (hC : C.Ok)
include hC
/-- what is behind a letter -/
theorem bh_eq {k : Knd} {a : Nat} (hk : Kok C k) (ha : a < C.n) : bh C a k = (k.1 ^^^ 2 ^ a, (k.2 + cr C (2 ^ a) k.1 + (if k.1.testBit a then 0 else 1)) % 2) := by
  unfold bh jn
  simp only
  rw [pc_and _ (lt256 hC.hi hk.m) a (by have := hC.hi; omega), Nat.xor_comm]
  congr 1
  by_cases h : k.1.testBit a = true
  · rw [if_pos h, if_pos h]; omega
  · rw [if_neg h, if_neg h]; omega
theorem bh_ok {k : Knd} {a : Nat} (hk : Kok C k) (ha : a < C.n) : Kok C (bh C a k) := by
  rw [bh_eq hC hk ha]
  exact ⟨flip_lt hk.m ha, Nat.mod_lt _ (by decide)⟩
theorem cr_self {m a : Nat} : cr C (2 ^ a) (m ^^^ 2 ^ a) = cr C (2 ^ a) m := by
  unfold cr
  congr 1
  refine List.filter_congr fun p hp => ?_
  rw [tb_pow, tb_xor]
  have := (hC.pr p hp).1
  by_cases e : a = p.2
  · have e2 : ¬ a = p.1 := by omega
    simp [e2]
  · simp [e]
theorem jn_bh {k : Knd} {a : Nat} (hk : Kok C k) (ha : a < C.n) : jn C (2 ^ a, 0) (bh C a k) = k := by
  have h8 : a < 8 := by have := hC.hi; omega
  rw [bh_eq hC hk ha]
  unfold jn
  simp only
  rw [cr_self hC, pc_and _ (lt256 hC.hi (flip_lt hk.m ha)) a h8, tb_xor]
  have e1 : 2 ^ a ^^^ (k.1 ^^^ 2 ^ a) = k.1 := by
    rw [Nat.xor_comm k.1, ← Nat.xor_assoc, Nat.xor_self, Nat.zero_xor]
  rw [e1]
  have hs := hk.s
  have e2 : ∀ b : Bool, (0 + (k.2 + cr C (2 ^ a) k.1 + (if b = true then 0 else 1)) % 2 + cr C (2 ^ a) k.1 + if (b ^^ decide (a = a)) = true then 1 else 0) % 2 = k.2 := by
    intro b
    cases b <;> simp <;> omega
  rw [e2]
theorem ll_le {k : Knd} (hk : Kok C k) : ll C k ≤ pc k.1 + 4 := by
  unfold ll
  split
  · split <;> omega
  · split <;> omega
theorem ll_par {k : Knd} (hk : Kok C k) : (ll C k + pc k.1) % 2 = 0 := by
  unfold ll
  split
  · rename_i h
    have e : pc k.1 = 0 := by rw [h]; decide
    rw [e]
    split <;> rfl
  · split <;> omega
theorem hasL_ll {k : Knd} (hk : Kok C k) : hasL C k (ll C k) = true := by
  unfold hasL
  simp [ll_par hC hk]
/-- a pair of friends within -/
theorem fw_pos {m x y : Nat} (h : (x, y) ∈ C.ps) (hx : m.testBit x = true) (hy : m.testBit y = true) : 0 < fw C m :=
  List.length_pos_of_mem (List.mem_filter.mpr ⟨h, by simp [hx, hy]⟩)
theorem fw_get {m : Nat} (h : 0 < fw C m) : ∃ x y, (x, y) ∈ C.ps ∧ m.testBit x = true ∧ m.testBit y = true := by
  unfold fw at h
  obtain ⟨p, hp⟩ := List.exists_mem_of_length_pos h
  obtain ⟨h1, h2⟩ := List.mem_filter.mp hp
  simp at h2
  exact ⟨p.1, p.2, h1, h2.1, h2.2⟩
theorem hasL_of {k : Knd} {L : Nat} (h1 : ll C k ≤ L) (h2 : (L + pc k.1) % 2 = 0) : hasL C k L = true := by
  unfold hasL
  simp [h1, h2]
theorem hasL_get {k : Knd} {L : Nat} (h : hasL C k L = true) : ll C k ≤ L ∧ (L + pc k.1) % 2 = 0 := by
  unfold hasL at h
  simpa using h
theorem open_of {k : Knd} {L : Nat} (hL : L ≠ 0) (h : hasL C k L = true) : isOpen C k L = true := by
  unfold isOpen
  rw [if_neg hL]
  exact h
theorem ll_set {m s : Nat} (hm : m ≠ 0) (h : s = 0 ∨ 0 < fw C m) : ll C (m, s) = pc m := by
  unfold ll
  rw [if_neg hm, if_pos h]
theorem ll_two {m s : Nat} (hm : m ≠ 0) : ll C (m, s) ≤ pc m + 2 := by
  unfold ll
  rw [if_neg hm]
  simp only
  split <;> omega
theorem ll_pos {k : Knd} (hk : Kok C k) : 1 ≤ ll C k := by
  unfold ll
  split
  · split <;> omega
  · rename_i h
    have : pc k.1 ≠ 0 := fun z => h (pc_zero _ (lt256 hC.hi hk.m) z)
    split <;> omega
/-- there is a letter to go on with -/
theorem step_ex {k : Knd} {L : Nat} (hk : Kok C k) (h : hasL C k (L + 1) = true) : ∃ a, a < C.n ∧ isOpen C (bh C a k) L = true := by
  obtain ⟨h1, h2⟩ := hasL_get hC h
  obtain ⟨m, s⟩ := k
  have h256 : m < 256 := lt256 hC.hi hk.m
  have hlt : ∀ a, m.testBit a = true → a < C.n := fun a e => bit_lt hk.m e
  have h8 : ∀ a, a < C.n → a < 8 := fun a e => by have := hC.hi; omega
  have hsm : s < 2 := hk.s
  simp only at h1 h2
  by_cases hm : m = 0
  · -- no letters
    subst hm
    have e0 : pc 0 = 0 := by decide
    rw [e0] at h2
    have hn : 0 < C.n := by have := hC.lo; omega
    refine ⟨0, hn, ?_⟩
    have hb := bh_eq hC hk hn
    have eb : (bh C 0 (0, s)).1 = 1 := by rw [hb]; simp
    have hc0 : cr C (2 ^ 0) 0 = 0 := by
      unfold cr
      rw [List.length_eq_zero_iff, List.filter_eq_nil_iff]
      intro p _
      simp
    have es : (bh C 0 (0, s)).2 = (s + 1) % 2 := by
      rw [hb, hc0]
      simp
    have hL0 : L ≠ 0 := by
      intro z
      subst z
      unfold ll at h1
      simp only [if_true] at h1
      split at h1 <;> omega
    refine open_of hC hL0 (hasL_of hC ?_ ?_)
    · have e : bh C 0 (0, s) = (1, (s + 1) % 2) := Prod.ext eb es
      rw [e]
      have p1 : pc 1 = 1 := by decide
      by_cases hs : s = 1
      · subst hs
        rw [ll_set hC (by decide) (.inl rfl), p1]
        omega
      · have hs0 : s = 0 := by omega
        subst hs0
        have := ll_two hC (m := 1) (s := (0 + 1) % 2) (by decide)
        rw [p1] at this
        unfold ll at h1
        simp only [if_true] at h1
        rw [if_neg (by decide)] at h1
        omega
    · rw [eb]
      have p1 : pc 1 = 1 := by decide
      rw [p1]
      omega
  · have hpm : pc m ≠ 0 := fun z => hm (pc_zero m h256 z)
    -- a letter taken away
    have down : ∀ a, m.testBit a = true → (bh C a (m, s)).1 = m ^^^ 2 ^ a ∧ pc (m ^^^ 2 ^ a) + 1 = pc m ∧ (bh C a (m, s)).2 = (s + cr C (2 ^ a) m) % 2 := by
      intro a ea
      have hb := bh_eq hC hk (hlt a ea)
      refine ⟨by rw [hb], pc_flip1 m h256 a (h8 a (hlt a ea)) ea, ?_⟩
      rw [hb]
      simp only
      rw [ea]
      rfl
    have hle : pc m ≤ L + 1 := by
      unfold ll at h1
      rw [if_neg hm] at h1
      simp only at h1
      split at h1 <;> omega
    by_cases hbig : pc m + 4 ≤ L + 1
    · -- room enough
      obtain ⟨a, ha, ea, _⟩ := pc_bit m h256 hm
      refine ⟨a, hlt a ea, open_of hC (by omega) (hasL_of hC ?_ ?_)⟩
      · have := ll_le hC (bh_ok hC hk (hlt a ea))
        obtain ⟨d1, d2, _⟩ := down a ea
        rw [d1] at this
        omega
      · obtain ⟨d1, d2, _⟩ := down a ea
        rw [d1]
        omega
    · by_cases hmid : pc m + 2 = L + 1
      · -- two more
        by_cases hp1 : pc m = 1
        · -- one letter
          obtain ⟨a, ha8, rfl⟩ := pc_one m h256 hp1
          have ea : (2 ^ a).testBit a = true := by rw [tb_pow]; simp
          have han := hlt a ea
          by_cases hs : s = 1
          · subst hs
            obtain ⟨d1, d2, d3⟩ := down a ea
            refine ⟨a, han, open_of hC (by omega) (hasL_of hC ?_ ?_)⟩
            · have z : 2 ^ a ^^^ 2 ^ a = 0 := Nat.xor_self _
              rw [z] at d1
              have c0 : cr C (2 ^ a) (2 ^ a) = 0 := by
                unfold cr
                rw [List.length_eq_zero_iff, List.filter_eq_nil_iff]
                intro p hp
                have := (hC.pr p hp).1
                rw [tb_pow, tb_pow]
                simp
                omega
              rw [c0] at d3
              have e : bh C a (2 ^ a, 1) = (0, 1) := by
                rw [← d1]
                exact Prod.ext rfl d3
              rw [e]
              unfold ll
              rw [if_pos rfl, if_pos rfl]
              omega
            · rw [d1, Nat.xor_self]
              have : pc 0 = 0 := by decide
              omega
          · -- a friend comes
            obtain ⟨p, hp, hpa⟩ := hC.fr a han
            have hpp := hC.pr p hp
            have hex : ∃ b, b < C.n ∧ b ≠ a ∧ ((a, b) ∈ C.ps ∨ (b, a) ∈ C.ps) := by
              rcases hpa with e | e
              · exact ⟨p.2, hpp.2, by omega, .inl (by rw [← e]; exact hp)⟩
              · exact ⟨p.1, by omega, by omega, .inr (by rw [← e]; exact hp)⟩
            obtain ⟨b, hbn, hba, hf⟩ := hex
            have eb : (2 ^ a).testBit b = false := by rw [tb_pow]; simp; omega
            have hb := bh_eq hC hk hbn
            have e1 : (bh C b (2 ^ a, s)).1 = 2 ^ a ^^^ 2 ^ b := by rw [hb]
            have e2 : pc (2 ^ a ^^^ 2 ^ b) = 2 := by rw [pc_flip0 _ h256 b (h8 b hbn) eb, hp1]
            have ta : (2 ^ a ^^^ 2 ^ b).testBit a = true := by rw [tb_xor, tb_pow]; simp [hba]
            have tb : (2 ^ a ^^^ 2 ^ b).testBit b = true := by rw [tb_xor, eb]; simp
            refine ⟨b, hbn, open_of hC (by omega) (hasL_of hC ?_ ?_)⟩
            · have hne : 2 ^ a ^^^ 2 ^ b ≠ 0 := fun z => by
                rw [z] at e2
                exact absurd e2 (by decide)
              have hfw : 0 < fw C (2 ^ a ^^^ 2 ^ b) := by
                rcases hf with hf | hf
                · exact fw_pos hC hf ta tb
                · exact fw_pos hC hf tb ta
              have e : bh C b (2 ^ a, s) = (2 ^ a ^^^ 2 ^ b, (bh C b (2 ^ a, s)).2) := Prod.ext e1 rfl
              rw [e, ll_set hC hne (.inr hfw), e2]
              omega
            · rw [e1, e2]
              omega
        · obtain ⟨a, ha, ea, _⟩ := pc_bit m h256 hm
          obtain ⟨d1, d2, _⟩ := down a ea
          refine ⟨a, hlt a ea, open_of hC (by omega) (hasL_of hC ?_ ?_)⟩
          · have hne : m ^^^ 2 ^ a ≠ 0 := fun z => by
              rw [z] at d2
              have : pc 0 = 0 := by decide
              omega
            have e : bh C a (m, s) = (m ^^^ 2 ^ a, (bh C a (m, s)).2) := Prod.ext d1 rfl
            rw [e]
            have := ll_two hC (s := (bh C a (m, s)).2) hne
            omega
          · rw [d1]
            omega
      · -- exactly the letters
        have hex : pc m = L + 1 := by omega
        have hcond : s = 0 ∨ 0 < fw C m := by
          unfold ll at h1
          rw [if_neg hm] at h1
          split at h1
          · assumption
          · simp only at h1
            omega
        -- enough: a letter whose rest has sign 0, or friends, or is nothing with sign 0
        have fin : ∀ a, m.testBit a = true → ((bh C a (m, s)).2 = 0 ∨ 0 < fw C (m ^^^ 2 ^ a)) → ∃ a, a < C.n ∧ isOpen C (bh C a (m, s)) L = true := by
          intro a ea hor
          obtain ⟨d1, d2, d3⟩ := down a ea
          refine ⟨a, hlt a ea, ?_⟩
          by_cases hz : m ^^^ 2 ^ a = 0
          · have hL : L = 0 := by
              rw [hz] at d2
              have : pc 0 = 0 := by decide
              omega
            have hs0 : (bh C a (m, s)).2 = 0 := by
              rcases hor with e | e
              · exact e
              · obtain ⟨x, y, _, hx, _⟩ := fw_get hC e
                rw [hz] at hx
                simp at hx
            unfold isOpen
            rw [if_pos hL]
            refine decide_eq_true ?_
            exact Prod.ext (by rw [d1, hz]) hs0
          · have hp : pc (m ^^^ 2 ^ a) ≠ 0 := fun z => hz (pc_zero _ (lt256 hC.hi (flip_lt hk.m (hlt a ea))) z)
            refine open_of hC (by omega) (hasL_of hC ?_ ?_)
            · have e : bh C a (m, s) = (m ^^^ 2 ^ a, (bh C a (m, s)).2) := Prod.ext d1 rfl
              rw [e, ll_set hC hz hor]
              omega
            · rw [d1]
              omega
        by_cases hs : s = 0
        · subst hs
          obtain ⟨a, ha, ea, hmin⟩ := pc_bit m h256 hm
          refine fin a ea (.inl ?_)
          obtain ⟨d1, d2, d3⟩ := down a ea
          rw [d3]
          have c0 : cr C (2 ^ a) m = 0 := by
            unfold cr
            rw [List.length_eq_zero_iff, List.filter_eq_nil_iff]
            intro p hp
            have := (hC.pr p hp).1
            rw [tb_pow]
            simp only [Bool.and_eq_true, decide_eq_true_eq, not_and]
            intro e
            rw [hmin p.1 (by omega)]
            simp
          rw [c0]
        · have hs1 : s = 1 := by omega
          subst hs1
          have hfw : 0 < fw C m := by
            rcases hcond with e | e
            · omega
            · exact e
          obtain ⟨x, y, hxy, hx, hy⟩ := fw_get hC hfw
          have hpp := hC.pr _ hxy
          simp only at hpp
          have x8 : x < 8 := by have := hC.hi; omega
          have y8 : y < 8 := by have := hC.hi; omega
          by_cases h3 : 3 ≤ pc m
          · obtain ⟨a, ha, ea, hax, hay⟩ := pc_third m h256 h3 x x8 y y8
            refine fin a ea (.inr (fw_pos hC hxy ?_ ?_))
            · rw [tb_xor, hx]; simp [hax]
            · rw [tb_xor, hy]; simp [hay]
          · have h2' : pc m = 2 := by
              have h2'' : ¬ pc m = 1 := fun z => by
                obtain ⟨a, ha8, rfl⟩ := pc_one m h256 z
                rw [tb_pow] at hx hy
                simp at hx hy
                omega
              omega
            have em := pc_two m h256 h2' x x8 y y8 hpp.1 hx hy
            refine fin y hy (.inl ?_)
            obtain ⟨d1, d2, d3⟩ := down y hy
            rw [d3]
            have c1 : cr C (2 ^ y) m = 1 := by
              unfold cr
              have e : C.ps.filter (fun p => (2 ^ y).testBit p.2 && m.testBit p.1) = C.ps.filter (fun p => decide (p = (x, y))) := by
                refine List.filter_congr fun p hp => ?_
                have := (hC.pr p hp).1
                rw [tb_pow, em, Nat.testBit_xor, tb_pow, tb_pow]
                by_cases e : y = p.2
                · by_cases e2 : x = p.1
                  · have : p = (x, y) := Prod.ext e2.symm e.symm
                    subst this
                    simp
                    omega
                  · have : ¬ p = (x, y) := fun z => e2 (by rw [z])
                    simp [e2, this]
                    omega
                · have : ¬ p = (x, y) := fun z => e (by rw [z])
                  simp [e, this]
              rw [e]
              have hnd : C.ps.Nodup := hC.srt.imp fun {a b} h => by
                intro z
                subst z
                rcases h with h | h <;> omega
              have : ∀ (l : List (Nat × Nat)), l.Nodup → (x, y) ∈ l → (l.filter fun p => decide (p = (x, y))).length = 1 := by
                intro l
                induction l with
                | nil => intro _ h; cases h
                | cons q l ih =>
                  intro nd h
                  rw [List.nodup_cons] at nd
                  rw [List.filter_cons]
                  by_cases e : q = (x, y)
                  · rw [if_pos (decide_eq_true e)]
                    have : l.filter (fun p => decide (p = (x, y))) = [] := by
                      rw [List.filter_eq_nil_iff]
                      intro p hp z
                      have := of_decide_eq_true z
                      exact nd.1 (by rw [e, ← this]; exact hp)
                    rw [this]
                    rfl
                  · rw [if_neg (by simp [e])]
                    rcases List.mem_cons.mp h with z | z
                    · exact absurd z.symm e
                    · exact ih nd.2 z
              exact this _ hnd hxy
            rw [c1]
end
end Md

/-! Mth: the mathematics: kinds by counting are kinds by joining; the greedy word has its kind; core Lean. -/
set_option autoImplicit false
set_option linter.all false
set_option maxRecDepth 100000
namespace Md
/-- masks of the letters that stand oddly often -/
def om : List Nat → Nat
  | [] => 0
  | a :: l => 2 ^ a ^^^ om l
/-- later letters that are lesser friends -/
def lat (C : Com) (a : Nat) (l : List Nat) : Nat := (l.filter fun b => decide (b < a) && decide ((b, a) ∈ C.ps)).length
def cro (C : Com) : List Nat → Nat
  | [] => 0
  | a :: l => lat C a l + cro C l
def hv (n : Nat) (l : List Nat) : Nat := ((List.range n).map fun a => l.count a / 2).sum
/-- the kind by counting -/
def lk (C : Com) (l : List Nat) : Knd := (om l, (hv C.n l + cro C l) % 2)
def Wok (C : Com) (l : List Nat) : Prop := ∀ a ∈ l, a < C.n

theorem om_bit (i : Nat) : ∀ l : List Nat, (om l).testBit i = decide (l.count i % 2 = 1)
  | [] => by simp [om]
  | a :: l => by
    unfold om
    rw [Nat.testBit_xor, tb_pow, om_bit i l, List.count_cons]
    by_cases e : a = i
    · subst e
      simp
      by_cases h : l.count a % 2 = 1
      · rw [decide_eq_true h]
        simp
        omega
      · rw [decide_eq_false h]
        simp
        omega
    · have e' : ¬ (a == i) = true := by simpa using e
      rw [if_neg e']
      simp [e]
theorem om_lt {n : Nat} : ∀ l : List Nat, (∀ a ∈ l, a < n) → om l < 2 ^ n
  | [], _ => by
    show 0 < 2 ^ n
    exact Nat.pow_pos (by decide)
  | a :: l, h => by
    unfold om
    rw [Nat.xor_comm]
    exact flip_lt (om_lt l fun b hb => h b (List.mem_cons_of_mem _ hb)) (h a List.mem_cons_self)
theorem om_snoc (a : Nat) : ∀ l : List Nat, om (l ++ [a]) = om l ^^^ 2 ^ a
  | [] => by simp [om]
  | b :: l => by
    show 2 ^ b ^^^ om (l ++ [a]) = (2 ^ b ^^^ om l) ^^^ 2 ^ a
    rw [om_snoc a l, Nat.xor_assoc]
theorem hv_cons (n : Nat) (a : Nat) (ha : a < n) (l : List Nat) : hv n (a :: l) = hv n l + (if l.count a % 2 = 1 then 1 else 0) := by
  unfold hv
  have : ∀ m, ((List.range m).map fun b => (a :: l).count b / 2).sum = ((List.range m).map fun b => l.count b / 2).sum + (if a < m then (if l.count a % 2 = 1 then 1 else 0) else 0) := by
    intro m
    induction m with
    | zero => simp
    | succ m ih =>
      rw [List.range_succ, List.map_append, List.sum_append, List.map_append, List.sum_append, ih]
      simp only [List.map_cons, List.map_nil, List.sum_cons, List.sum_nil, Nat.add_zero]
      rw [List.count_cons]
      by_cases e : a = m
      · subst e
        rw [if_neg (show ¬ a < a by omega), if_pos (show a < a + 1 by omega)]
        simp only [beq_self_eq_true, if_true]
        by_cases h : l.count a % 2 = 1
        · rw [if_pos h]; omega
        · rw [if_neg h]; omega
      · have e' : ¬ (a == m) = true := by simpa using e
        rw [if_neg e']
        by_cases h : a < m
        · rw [if_pos h, if_pos (show a < m + 1 by omega)]; omega
        · rw [if_neg h, if_neg (show ¬ a < m + 1 by omega)]; omega
  rw [this n, if_pos ha]
theorem hv_perm (n : Nat) {l m : List Nat} (h : l.Perm m) : hv n l = hv n m := by
  unfold hv
  congr 1
  refine List.map_congr_left fun a _ => ?_
  rw [h.count_eq]
/-- cr is a sum, over both, of ones -/
theorem cr_xor_r (C : Com) (x y z : Nat) : cr C x (y ^^^ z) % 2 = (cr C x y + cr C x z) % 2 := by
  unfold cr
  generalize C.ps = ps
  induction ps with
  | nil => rfl
  | cons p ps ih =>
    simp only [List.filter_cons, Nat.testBit_xor] at ih ⊢
    cases x.testBit p.2 <;> cases y.testBit p.1 <;> cases z.testBit p.1 <;> simp <;> omega
theorem cr_xor_l (C : Com) (x y z : Nat) : cr C (y ^^^ z) x % 2 = (cr C y x + cr C z x) % 2 := by
  unfold cr
  generalize C.ps = ps
  induction ps with
  | nil => rfl
  | cons p ps ih =>
    simp only [List.filter_cons, Nat.testBit_xor] at ih ⊢
    cases x.testBit p.1 <;> cases y.testBit p.2 <;> cases z.testBit p.2 <;> simp <;> omega
section
variable {C : Com} (hC : C.Ok)
include hC
theorem ps_nd : C.ps.Nodup := hC.srt.imp fun {a b} h => by
  intro z
  subst z
  rcases h with h | h <;> omega
theorem filter_one : ∀ (l : List (Nat × Nat)) (q : Nat × Nat), l.Nodup → (l.filter fun p => decide (p = q)).length = if q ∈ l then 1 else 0 := by
  intro l q
  induction l with
  | nil => intro _; rfl
  | cons p l ih =>
    intro nd
    rw [List.nodup_cons] at nd
    rw [List.filter_cons]
    by_cases e : p = q
    · subst e
      have : l.filter (fun r => decide (r = p)) = [] := by
        rw [List.filter_eq_nil_iff]
        intro r hr z
        have := of_decide_eq_true z
        exact nd.1 (by rw [← this]; exact hr)
      rw [if_pos (decide_eq_true rfl), this]
      simp
    · have e' : ¬ q = p := fun z => e z.symm
      rw [if_neg (by simp [e]), ih nd.2]
      simp [e']
theorem cr_bits (a b : Nat) : cr C (2 ^ a) (2 ^ b) = if (b, a) ∈ C.ps then 1 else 0 := by
  rw [← filter_one hC C.ps (b, a) (ps_nd hC)]
  unfold cr
  congr 1
  refine List.filter_congr fun p hp => ?_
  rw [tb_pow, tb_pow]
  by_cases e : a = p.2
  · by_cases e2 : b = p.1
    · subst e e2
      simp
    · have : ¬ p = (b, a) := fun z => e2 (by rw [z])
      simp [e2, this]
  · have : ¬ p = (b, a) := fun z => e (by rw [z])
    simp [e, this]
theorem cr_zero_r (x : Nat) : cr C x 0 = 0 := by
  unfold cr
  rw [List.length_eq_zero_iff, List.filter_eq_nil_iff]
  intro p _
  simp
theorem cr_zero_l (x : Nat) : cr C 0 x = 0 := by
  unfold cr
  rw [List.length_eq_zero_iff, List.filter_eq_nil_iff]
  intro p _
  simp
theorem lat_cr (a : Nat) : ∀ l : List Nat, lat C a l % 2 = cr C (2 ^ a) (om l) % 2
  | [] => by
    rw [show om [] = 0 from rfl, cr_zero_r hC]
    rfl
  | b :: l => by
    have ih := lat_cr a l
    rw [show om (b :: l) = 2 ^ b ^^^ om l from rfl, cr_xor_r, cr_bits hC]
    unfold lat at ih ⊢
    rw [List.filter_cons]
    by_cases h : (b, a) ∈ C.ps
    · have hlt : b < a := (hC.pr _ h).1
      rw [if_pos h, if_pos (by simp [h, hlt]), List.length_cons]
      omega
    · rw [if_neg h, if_neg (by simp [h])]
      omega
theorem lk_cons {a : Nat} {l : List Nat} (ha : a < C.n) (hl : Wok C l) : lk C (a :: l) = jn C (2 ^ a, 0) (lk C l) := by
  unfold lk jn
  simp only
  have h8 : a < 8 := by have := hC.hi; omega
  rw [pc_and _ (lt256 hC.hi (om_lt l hl)) a h8, om_bit, hv_cons _ _ ha]
  refine Prod.ext rfl ?_
  show (hv C.n l + (if l.count a % 2 = 1 then 1 else 0) + (lat C a l + cro C l)) % 2 = (0 + (hv C.n l + cro C l) % 2 + cr C (2 ^ a) (om l) + if decide (l.count a % 2 = 1) = true then 1 else 0) % 2
  have q := lat_cr hC a l
  by_cases h : l.count a % 2 = 1
  · rw [if_pos h, if_pos (decide_eq_true h)]
    omega
  · rw [if_neg h, if_neg (by simp [h])]
    omega
/-- letters ahead that are greater friends -/
def ahe (C : Com) (a : Nat) (l : List Nat) : Nat := (l.filter fun b => decide (a < b) && decide ((a, b) ∈ C.ps)).length
omit hC in
theorem cro_snoc (a : Nat) : ∀ l : List Nat, cro C (l ++ [a]) = cro C l + ahe C a l
  | [] => by simp [cro, lat, ahe]
  | b :: l => by
    have ih := cro_snoc a l
    show lat C b (l ++ [a]) + cro C (l ++ [a]) = lat C b l + cro C l + ahe C a (b :: l)
    rw [ih]
    unfold lat ahe
    rw [List.filter_append, List.length_append, List.filter_cons, List.filter_cons]
    by_cases h : (decide (a < b) && decide ((a, b) ∈ C.ps)) = true
    · rw [if_pos h, if_pos h]
      simp only [List.filter_nil, List.length_cons, List.length_nil]
      omega
    · rw [if_neg h, if_neg h]
      simp only [List.filter_nil, List.length_nil]
      omega
theorem ahe_cr (a : Nat) : ∀ l : List Nat, ahe C a l % 2 = cr C (om l) (2 ^ a) % 2
  | [] => by
    rw [show om [] = 0 from rfl, cr_zero_l hC]
    rfl
  | b :: l => by
    have ih := ahe_cr a l
    rw [show om (b :: l) = 2 ^ b ^^^ om l from rfl, cr_xor_l, cr_bits hC]
    unfold ahe at ih ⊢
    rw [List.filter_cons]
    by_cases h : (a, b) ∈ C.ps
    · have hlt : a < b := (hC.pr _ h).1
      rw [if_pos h, if_pos (by simp [h, hlt]), List.length_cons]
      omega
    · rw [if_neg h, if_neg (by simp [h])]
      omega
theorem lk_snoc {a : Nat} {l : List Nat} (ha : a < C.n) (hl : Wok C l) : lk C (l ++ [a]) = jn C (lk C l) (2 ^ a, 0) := by
  unfold lk jn
  simp only
  have h8 : a < 8 := by have := hC.hi; omega
  have hp : (l ++ [a]).Perm (a :: l) := List.perm_append_comm (l₁ := l) (l₂ := [a])
  rw [pc_and' _ (lt256 hC.hi (om_lt l hl)) a h8, om_bit, om_snoc, hv_perm _ hp, hv_cons _ _ ha, cro_snoc]
  refine Prod.ext rfl ?_
  show (hv C.n l + (if l.count a % 2 = 1 then 1 else 0) + (cro C l + ahe C a l)) % 2 = ((hv C.n l + cro C l) % 2 + 0 + cr C (om l) (2 ^ a) + if decide (l.count a % 2 = 1) = true then 1 else 0) % 2
  have q := ahe_cr hC a l
  by_cases h : l.count a % 2 = 1
  · rw [if_pos h, if_pos (decide_eq_true h)]
    omega
  · rw [if_neg h, if_neg (by simp [h])]
    omega
omit hC in
theorem kw_snoc (a : Nat) (l : List Nat) : kw C (l ++ [a]) = jn C (kw C l) (2 ^ a, 0) := by
  unfold kw
  rw [List.foldl_append]
  rfl
omit hC in
theorem lk_nil : lk C [] = (0, 0) := by
  unfold lk
  refine Prod.ext rfl ?_
  show (hv C.n [] + 0) % 2 = 0
  have : ∀ n, hv n [] = 0 := by
    intro n
    unfold hv
    induction n with
    | zero => rfl
    | succ n ih =>
      rw [List.range_succ, List.map_append, List.sum_append, ih]
      simp
  rw [this]
theorem kw_lk (l : List Nat) (hl : Wok C l) : kw C l = lk C l := by
  have : ∀ (n : Nat) (l : List Nat), l.length = n → Wok C l → kw C l = lk C l := by
    intro n
    induction n with
    | zero =>
      intro l e _
      cases List.length_eq_zero_iff.mp e
      rw [lk_nil]
      rfl
    | succ n ih =>
      intro l e h
      have hne : l ≠ [] := fun z => by rw [z] at e; cases e
      have el : l = l.dropLast ++ [l.getLast hne] := (List.dropLast_concat_getLast hne).symm
      have h1 : Wok C l.dropLast := fun a ha => h a ((List.dropLast_sublist l).subset ha)
      have h2 : l.getLast hne < C.n := h _ (List.getLast_mem hne)
      have h3 := ih l.dropLast (by rw [List.length_dropLast, e]; rfl) h1
      rw [el, kw_snoc, lk_snoc hC h2 h1, h3]
  exact this _ l rfl hl
theorem lk_ok {l : List Nat} (hl : Wok C l) : Kok C (lk C l) := ⟨om_lt l hl, Nat.mod_lt _ (by decide)⟩
theorem kw_ok {l : List Nat} (hl : Wok C l) : Kok C (kw C l) := by
  rw [kw_lk hC l hl]
  exact lk_ok hC hl
/-- the greedy letter -/
theorem find_ex {k : Knd} {L : Nat} (hk : Kok C k) (h : hasL C k (L + 1) = true) : ∃ a, (List.range C.n).find? (fun a => isOpen C (bh C a k) L) = some a ∧ a < C.n ∧ isOpen C (bh C a k) L = true := by
  obtain ⟨a, ha, ho⟩ := step_ex hC hk h
  cases e : (List.range C.n).find? (fun a => isOpen C (bh C a k) L) with
  | none =>
    have := List.find?_eq_none.mp e a (List.mem_range.mpr ha)
    exact absurd ho this
  | some b => exact ⟨b, rfl, List.mem_range.mp (List.mem_of_find?_eq_some e), by simpa using List.find?_some e⟩
theorem gw_good : ∀ (L : Nat) (k : Knd), Kok C k → isOpen C k L = true → (gw C L k).length = L ∧ Wok C (gw C L k) ∧ lk C (gw C L k) = k
  | 0, k, hk, h => by
    have e : k = (0, 0) := by
      unfold isOpen at h
      rw [if_pos rfl] at h
      exact of_decide_eq_true h
    refine ⟨rfl, fun a ha => (by cases ha), ?_⟩
    rw [e]
    exact lk_nil
  | L + 1, k, hk, h => by
    have h' : hasL C k (L + 1) = true := by
      unfold isOpen at h
      rw [if_neg (by omega)] at h
      exact h
    obtain ⟨a, e, ha, ho⟩ := find_ex hC hk h'
    obtain ⟨g1, g2, g3⟩ := gw_good L (bh C a k) (bh_ok hC hk ha) ho
    have eg : gw C (L + 1) k = a :: gw C L (bh C a k) := by
      show (match (List.range C.n).find? (fun a => isOpen C (bh C a k) L) with
        | some a => a :: gw C L (bh C a k)
        | none => []) = _
      rw [e]
    rw [eg]
    refine ⟨by rw [List.length_cons, g1], fun b hb => ?_, ?_⟩
    · rcases List.mem_cons.mp hb with z | z
      · rw [z]
        exact ha
      · exact g2 b z
    · rw [lk_cons hC ha g2, g3]
      exact jn_bh hC hk ha
end
end Md

set_option Elab.async false
set_option linter.all false
set_option maxRecDepth 100000
set_option maxHeartbeats 4000000
/-! DSpec: companies, kinds, words as data; what each def hands back. -/
namespace DL
open PySem PySem.Spec PyProof.Rows L2 Md
/-! ### as data -/
def wd (l : List Nat) : Str := ⟨(l.map (· + 97)).toArray⟩
def lt (m : Nat) : Str := wd (bs m)
def prD (p : Nat × Nat) : PyData := .tuple [.int (p.1 : Nat), .int (p.2 : Nat)]
def comD (C : Com) : PyData := .tuple [.int (C.n : Nat), .tuple (C.ps.map prD)]
def kD (k : Knd) : PyData := .tuple [.str (lt k.1), .int (k.2 : Nat)]
/-- the sorted kinds -/
def allk (n : Nat) : List Knd := ((List.range (2 ^ n)).map fun m => [((m, 0) : Knd), (m, 1)]).flatten
def ks (n : Nat) : List Knd := (allk n).mergeSort (PySem.W.dataLe false kD)
def mxl (C : Com) : Nat := ((ks C.n).map (ll C)).foldl max 0
/-! ### what each def hands back -/
abbrev Fr := List Da → Da → Prop
def fr_whole : Fr := fun xs y => ∃ i : Int, xs = [di i] ∧ y = db true
def fr_within : Fr := fun xs y => ∃ i lo hi : Int, xs = [di i, di lo, di hi] ∧ y = db (decide (lo ≤ i) && decide (i ≤ hi))
def fr_need_number : Fr := fun xs y => ∃ i lo hi : Int, (lo ≤ i ∧ i ≤ hi) ∧ xs = [di i, di lo, di hi] ∧ y = dn
def fr_tuple_of : Fr := fun xs y => ∃ (t : List PyData) (lo hi : Int), xs = [.d (.tuple t), di lo, di hi] ∧ y = db (decide (lo ≤ (t.length : Int)) && decide ((t.length : Int) ≤ hi))
def fr_is_pair : Fr := fun xs y => ∃ n a b : Int, xs = [di n, .d (.tuple [.int a, .int b])] ∧ y = db (decide (0 ≤ a) && (decide (a < b) && decide (b < n)))
def fr_need_company : Fr := fun xs y => ∃ C : Com, C.Ok ∧ xs = [.d (comD C)] ∧ y = dn
def fr_is_word : Fr := fun xs y => ∃ (C : Com) (l : List Nat) (most : Int), (C.Ok ∧ Wok C l ∧ 1 ≤ l.length ∧ (l.length : Int) ≤ most ∧ l.length ≤ 60) ∧ xs = [.d (comD C), ds (wd l), di most] ∧ y = db true
def fr_need_word : Fr := fun xs y => ∃ (C : Com) (l : List Nat), (C.Ok ∧ Wok C l ∧ 1 ≤ l.length ∧ l.length ≤ 60) ∧ xs = [.d (comD C), ds (wd l)] ∧ y = dn
def fr_is_set : Fr := fun xs y => ∃ (C : Com) (m : Nat), (C.Ok ∧ m < 2 ^ C.n) ∧ xs = [.d (comD C), ds (lt m)] ∧ y = db true
def fr_need_set : Fr := fun xs y => ∃ (C : Com) (m : Nat), (C.Ok ∧ m < 2 ^ C.n) ∧ xs = [.d (comD C), ds (lt m)] ∧ y = dn
def fr_is_kind : Fr := fun xs y => ∃ (C : Com) (k : Knd), (C.Ok ∧ Kok C k) ∧ xs = [.d (comD C), .d (kD k)] ∧ y = db true
def fr_need_kind : Fr := fun xs y => ∃ (C : Com) (k : Knd), (C.Ok ∧ Kok C k) ∧ xs = [.d (comD C), .d (kD k)] ∧ y = dn
def fr_mask_of : Fr := fun xs y => ∃ m : Nat, m < 256 ∧ xs = [ds (lt m)] ∧ y = di (m : Nat)
def fr_letters_of : Fr := fun xs y => ∃ m : Nat, m < 256 ∧ xs = [di (m : Nat)] ∧ y = ds (lt m)
def fr_bits : Fr := fun xs y => ∃ m : Nat, m < 256 ∧ xs = [di (m : Nat)] ∧ y = di (pc m : Nat)
def fr_crossed : Fr := fun xs y => ∃ (C : Com) (a b : Nat), (C.Ok ∧ a < 256 ∧ b < 256) ∧ xs = [.d (comD C), di (a : Nat), di (b : Nat)] ∧ y = di (cr C a b : Nat)
def fr_joined : Fr := fun xs y => ∃ (C : Com) (a b : Knd), (C.Ok ∧ a.1 < 256 ∧ b.1 < 256) ∧ xs = [.d (comD C), .d (prD a), .d (prD b)] ∧ y = .d (prD (jn C a b))
def fr_inner : Fr := fun xs y => ∃ k : Knd, k.1 < 256 ∧ xs = [.d (kD k)] ∧ y = .d (prD k)
def fr_outer : Fr := fun xs y => ∃ k : Knd, k.1 < 256 ∧ xs = [.d (prD k)] ∧ y = .d (kD k)
def fr_all_kinds : Fr := fun xs y => ∃ C : Com, C.Ok ∧ xs = [.d (comD C)] ∧ y = .d (.list ((ks C.n).map kD))
def fr_friends_within : Fr := fun xs y => ∃ (C : Com) (m : Nat), (C.Ok ∧ m < 2 ^ C.n) ∧ xs = [.d (comD C), ds (lt m)] ∧ y = di (fw C m : Nat)
def fr_need_both : Fr := fr_need_word
def fr_kind_of : Fr := fun xs y => ∃ (C : Com) (l : List Nat), (C.Ok ∧ Wok C l ∧ l.length ≤ 60) ∧ xs = [.d (comD C), ds (wd l)] ∧ y = .d (prD (kw C l))
def fr_length_of : Fr := fun xs y => ∃ (C : Com) (k : Knd), (C.Ok ∧ Kok C k) ∧ xs = [.d (comD C), .d (kD k)] ∧ y = di (ll C k : Nat)
def fr_has_length : Fr := fun xs y => ∃ (C : Com) (k : Knd) (L : Nat), (C.Ok ∧ Kok C k) ∧ xs = [.d (comD C), .d (kD k), di (L : Nat)] ∧ y = db (hasL C k L)
def fr_is_length : Fr := fun xs y => ∃ (C : Com) (k : Knd) (L : Nat), (C.Ok ∧ Kok C k ∧ 1 ≤ L ∧ L ≤ 60) ∧ xs = [.d (comD C), .d (kD k), di (L : Nat)] ∧ y = db (hasL C k L)
def fr_behind : Fr := fun xs y => ∃ (C : Com) (a : Nat) (k : Knd), (C.Ok ∧ Kok C k ∧ a < C.n) ∧ xs = [.d (comD C), di (a : Nat), .d (prD k)] ∧ y = .d (prD (bh C a k))
def fr_is_open : Fr := fun xs y => ∃ (C : Com) (k : Knd) (L : Nat), (C.Ok ∧ Kok C k) ∧ xs = [.d (comD C), .d (prD k), di (L : Nat)] ∧ y = db (isOpen C k L)
def fwD (C : Com) (k : Knd) (L : Nat) : PyData := if hasL C k L = true then .str (wd (gw C L k)) else .none
def fr_first_word : Fr := fun xs y => ∃ (C : Com) (k : Knd) (L : Nat), (C.Ok ∧ Kok C k ∧ 1 ≤ L ∧ L ≤ 60) ∧ xs = [.d (comD C), .d (kD k), di (L : Nat)] ∧ y = .d (fwD C k L)
def topD (C : Com) : PyData := .tuple (((ks C.n).filter fun k => decide (ll C k = mxl C)).map kD)
def cntD (C : Com) : PyData := .tuple ((List.range (mxl C + 1)).map fun i => .int (((ks C.n).map (ll C)).count i : Nat))
def fr_longest_least : Fr := fun xs y => ∃ C : Com, C.Ok ∧ xs = [.d (comD C)] ∧ y = .d (.tuple [.int (mxl C : Nat), topD C])
def fr_count_by_least : Fr := fun xs y => ∃ C : Com, C.Ok ∧ xs = [.d (comD C)] ∧ y = .d (cntD C)
def fr_cut_down : Fr := fun xs y => ∃ (C : Com) (l : List Nat), (C.Ok ∧ Wok C l ∧ 1 ≤ l.length ∧ l.length ≤ 60) ∧ xs = [.d (comD C), ds (wd l)] ∧ y = ds (wd (gw C (ll C (kw C l)) (kw C l)))
/-! ### texts of letters -/
theorem wd_len (l : List Nat) : (wd l).length = l.length := by simp [wd, Str.length]
theorem wd_tl (l : List Nat) : (wd l).cps.toList = l.map (· + 97) := by simp [wd]
theorem wd_sg (l : List Nat) : sgD (wd l) = l.map fun a => .str ⟨#[a + 97]⟩ := by simp [sgD, wd_tl]
theorem alph : ("abcdefgh" : Str) = wd (List.range 8) := by decide +kernel
theorem wd_app (a b : List Nat) : wd a ++ wd b = wd (a ++ b) := by
  refine TL.ext_tl ?_
  rw [TL.tl_append]
  show (wd a).cps.toList ++ (wd b).cps.toList = (wd (a ++ b)).cps.toList
  rw [wd_tl, wd_tl, wd_tl, List.map_append]
theorem wd_one (a : Nat) : (⟨#[a + 97]⟩ : Str) = wd [a] := rfl
theorem alph_cut {n : Nat} (h : n ≤ 8) : cutS "abcdefgh" none (some (n : Nat)) = wd (List.range n) := by
  rw [alph]
  unfold cutS
  rw [wd_len, List.length_range]
  have e1 : HT.sIx 8 0 none = 0 := rfl
  have e2 : HT.sIx 8 8 (some (n : Nat)) = n := by
    rw [HT.sIx_nat]
    omega
  rw [e1, e2, wd_tl, List.drop_zero, Nat.sub_zero, ← List.map_take]
  have : (List.range 8).take n = List.range n := by rw [List.take_range]; congr 1
  rw [this]
  rfl
theorem alph_at {i : Nat} (h : i < 8) : atI ("abcdefgh" : Str).cps.toList (i : Nat) = some (i + 97) := by
  rw [alph, wd_tl]
  refine atI_nat ?_
  simp [h]
theorem alph_ix : ∀ i, i < 8 → Builtin.Str.occurrences "abcdefgh" ⟨#[i + 97]⟩ 0 ("abcdefgh" : Str).length 1 = [i] := by decide +kernel
theorem join_wd (ls : List (List Nat)) : Txt.join "" (ls.map wd) = wd ls.flatten := by
  rw [TL.join_eq]
  refine TL.ext_tl ?_
  rw [TL.tl_join]
  have e0 : TL.tl ("" : Str) = [] := by decide +kernel
  rw [e0]
  show TL.joinL [] ((ls.map wd).map TL.tl) = (wd ls.flatten).cps.toList
  rw [wd_tl]
  induction ls with
  | nil => rfl
  | cons a ls ih =>
    cases ls with
    | nil =>
      show TL.tl (wd a) = _
      show (wd a).cps.toList = _
      rw [wd_tl]
      simp
    | cons b ls =>
      show TL.tl (wd a) ++ ([] ++ TL.joinL [] (((b :: ls).map wd).map TL.tl)) = _
      rw [ih, List.nil_append]
      show (wd a).cps.toList ++ _ = _
      rw [wd_tl]
      simp
theorem bs_lt {m a : Nat} (h : a ∈ bs m) : a < 8 := List.mem_range.mp (List.mem_filter.mp h).1
theorem bs_bit {m a : Nat} (h : a ∈ bs m) : m.testBit a = true := (List.mem_filter.mp h).2
theorem bs_len (m : Nat) : (bs m).length ≤ 8 := by
  have := List.length_filter_le m.testBit (List.range 8)
  rw [List.length_range] at this
  exact this
theorem lt_len (m : Nat) : (lt m).length = pc m := wd_len _
theorem lt_nil : ∀ m, m < 256 → (lt m = "" ↔ m = 0) := by decide +kernel
theorem eqv_ii {a b c d : Nat} : PyData.eqv (.tuple [.int (a : Nat), .int (b : Nat)]) (.tuple [.int (c : Nat), .int (d : Nat)]) = decide ((a, b) = (c, d)) := by
  simp only [PyData.eqv, PyData.eqvAll, Bool.and_true]
  by_cases h1 : a = c
  · by_cases h2 : b = d
    · simp [h1, h2]
    · have h2' : ¬ (b : Int) = d := by omega
      simp [h2, h2']
  · have h1' : ¬ (a : Int) = c := by omega
    simp [h1, h1']
theorem sh_ii {a b : Int} : SeqAt.shaped (.tuple [.int a, .int b]) = true := by rfl
end DL

set_option Elab.async false
set_option linter.all false
set_option maxRecDepth 100000
set_option maxHeartbeats 4000000
/-! DRul: rules that the layer lacks: enumerate of a tuple, min and max of two texts, sorted of data, sorted of a dict with tuple keys. -/
namespace PySem
open Sem (wp)
/-! ### enumerate(tuple) -/
theorem meets_enumerate_new1 {v : Value} {o : Obj} {H : Heap → Prop} (B : Begins v o H) :
    Meets (Builtin.«enumerate.__new__» ⟨[.type "enumerate", v], []⟩) (fun _ R s => H s.heap ∧
      R (.ok (.ret (.ref (s.heap.push o).objs.size))) { s with heap := (s.heap.push o).push { cls := .type "enumerate", data := .fields #[.none, .bool false, .ref s.heap.objs.size, rawInt 0, .none, .none] } }) :=
  .of_wp fun prog w A R s h => by
    obtain ⟨hp, g, d, tk, os⟩ := s; obtain ⟨h1, h⟩ := h
    have hsub := sub_enumerate
    have q1 : ∀ {A' : Around} {E : Value → Shared → Prop} {Q : Value → Shared → Prop}, Q (.ref hp.objs.size) ⟨hp.push o, g, d, tk, os⟩ → wpAny (model prog w) A' (pyIter v) Q E ⟨hp, g, d, tk, os⟩ :=
      fun q => B.iter prog w _ _ ⟨hp, g, d, tk, os⟩ _ h1 q
    wp_walk using q1
    refine wpAny_stack_any fun st => wpAny_pure ?_
    split
    · rename_i c _ _ _ _ _
      cases (c == Value.type "enumerate")
      · wp_walk using q1
        exact ⟨_, rfl, h⟩
      · wp_walk using q1
        exact ⟨_, rfl, h⟩
    · wp_walk using q1
      exact ⟨_, rfl, h⟩
section
variable {prog : Program} {w : World} {A : Around} {E : Value → Shared → Prop} {s : Shared}
theorem enum_begins1 {v : Value} {o : Obj} {H : Heap → Prop} {Q : Value → Shared → Prop} (B : Begins v o H) (h1 : H s.heap)
    (h : ∀ h', IsEnum h' (s.heap.objs.size + 1) s.heap.objs.size 0 .none → h'.get? s.heap.objs.size = some o → h'.objs.size = s.heap.objs.size + 2 →
      (∀ b o, s.heap.get? b = some o → h'.get? b = some o) → Q (.ref (s.heap.objs.size + 1)) { s with heap := h' }) :
    wpAny (model prog w) A (call (.type "enumerate") [v]) Q E s := by
  refine callType_new F.called_enumerate (by decide) (F.typeCall_enumerate_1 _) (F.newCall_enumerate_1 _) (fun obj => F.args_object_init_2 obj _) F.entry_enumerate_new
    (meets_enumerate_new1 B) ⟨h1, ?_⟩
  have hz : (s.heap.push o).objs.size = s.heap.objs.size + 1 := Heap.size_push ..
  show _ ∧ _
  rw [hz]
  have he : IsEnum ((s.heap.push o).push { cls := .type "enumerate", data := .fields #[.none, .bool false, .ref s.heap.objs.size, rawInt 0, .none, .none] }) (s.heap.objs.size + 1) s.heap.objs.size 0 .none := by
    have := Heap.get?_push_size (s.heap.push o) (o := { cls := .type "enumerate", data := .fields #[.none, .bool false, .ref s.heap.objs.size, rawInt 0, .none, .none] }) rfl
    rw [hz] at this; exact this
  refine ⟨⟨_, he, rfl⟩, h _ he (Heap.get?_push_of_some _ (Heap.get?_push_size _ B.free)) (by rw [Heap.size_push, hz]) fun b o x => Heap.get?_push_of_some _ (Heap.get?_push_of_some _ x)⟩

theorem enum_endT {e it t : Addr} {items : Array Value} {i : Int} {j : Nat} {old : Value} {Q : Option Value → Shared → Prop} (hh : A.handled = none) (he : IsEnum s.heap e it i old) (hit : s.heap.IsTupleIter it t j) (ht : s.heap.IsTuple t items) (hx : items[j]? = none)
    (hQ : ∀ h', Heap.ExtBut it s.heap h' → Q none { s with heap := h' }) : wpAny (model prog w) A (pyNext (.ref e)) Q E s := by
  have hT : s.TypeIs (.ref e) "enumerate" := ⟨_, he, rfl⟩
  unfold pyNext
  refine wpAny_bind (wpAny_attempt (wpAny_callSpecial?_slot (name := Str.ofString "__next__") hT F.slot_enumerate_next
    (wpAny_call_entry F.slot_enumerate_next hT F.entry_enumerate_next ?_ (F.args_enumerate_next_1 _))))
  show wpAny _ _ (field (.ref e) 2 >>= _) _ _ _
  refine wpAny_bind (wpAny_field he rfl (x := .ref it) rfl ?_)
  refine wpAny_bind (wpAny_nextOf_tuple_end (A := A.in1) hh hit ht hx fun h' x he' hx' => ?_)
  obtain ⟨o, ho, hc⟩ := hx'
  refine wpAny_bind (wpAny_isInstance (T := "StopIteration") (b := true) ⟨o, ho, hc⟩ isSubtype_stop ?_)
  exact wpAny_pure (hQ _ he')
/-! ### min, max of two texts -/
theorem CmpOf.strs_gt {A : Around} {P : Nat → Value → Prop} (val : Nat → Str) (hval : ∀ i v, P i v → ∃ t, v = .str (val i) t) :
    CmpOf prog w A .Gt P (fun i j => decide ((val j).cps.toList < (val i).cps.toList)) := fun i j vi vj s Q E hi hj h => by
  obtain ⟨t, rfl⟩ := hval i vi hi
  obtain ⟨u, rfl⟩ := hval j vj hj
  exact PySem.P.gt_str h
theorem CmpOf.strs_lt {A : Around} {P : Nat → Value → Prop} (val : Nat → Str) (hval : ∀ i v, P i v → ∃ t, v = .str (val i) t) :
    CmpOf prog w A .Lt P (fun i j => decide ((val i).cps.toList < (val j).cps.toList)) := fun i j vi vj s Q E hi hj h => by
  obtain ⟨t, rfl⟩ := hval i vi hi
  obtain ⟨u, rfl⟩ := hval j vj hj
  exact PySem.P.lt_str h
def strAt (a b : Str) (i : Nat) : Str := if i = 0 then a else b
theorem two_at {a b : Str} {t u : Tok} {i : Nat} {v : Value} (h : (#[Value.str a t, Value.str b u] : Array Value)[i]? = some v) : ∃ t, v = .str (strAt a b i) t := by
  match i, h with
  | 0, h =>
    have e : v = .str a t := by simpa using h.symm
    exact ⟨t, e⟩
  | 1, h =>
    have e : v = .str b u := by simpa using h.symm
    exact ⟨u, e⟩
  | i + 2, h => simp at h
theorem max_two_strs {a b : Str} {t u : Tok} {Q : Value → Shared → Prop} (hh : A.handled = none)
    (h : ∀ h' tk, (∀ c o, s.heap.get? c = some o → h'.get? c = some o) → Q (if a.cps.toList < b.cps.toList then .str b u else .str a t) { s with heap := h', toks := tk }) :
    wpAny (model prog w) A (call (.builtin "max") [.str a t, .str b u]) Q E s := by
  have hT : (s.heap.push { cls := .type "tuple", data := .seq #[.str a t, .str b u] }).IsTuple s.heap.objs.size #[.str a t, .str b u] := ⟨_, Heap.get?_push_size _ rfl, rfl, 0, rfl⟩
  refine call_max_two (wpAny_pyIter_tuple hT ?_)
  have hsz : (s.heap.push { cls := .type "tuple", data := .seq #[.str a t, .str b u] }).objs.size = s.heap.objs.size + 1 := Heap.size_push ..
  refine ⟨_, [_, s.heap.objs.size], [_], _, _, _, _, rfl, Walks.tuple (A := A.in1) hh _ s.heap.objs.size (by rw [hsz]; exact Nat.ne_of_lt (Nat.lt_succ_self _)) #[.str a t, .str b u],
    ⟨⟨_, Heap.get?_push_size _ rfl, rfl, rfl⟩, hT.push _⟩, fun c hc => ?_, by simp, CmpOf.strs_gt (strAt a b) (fun _ _ => two_at), fun v h' tk hP hk => ?_⟩
  · show c < ((s.heap.push _).push _).objs.size
    rw [Heap.size_push, hsz]
    rcases List.mem_cons.mp hc with rfl | hc
    · rw [hsz]; exact Nat.lt_succ_self _
    · rcases List.mem_cons.mp hc with rfl | hc
      · exact Nat.lt_succ_of_lt (Nat.lt_succ_self _)
      · cases hc
  · have hold : ∀ c o, s.heap.get? c = some o → h'.get? c = some o := fun c o e => by
      refine hk c o (fun hm => ?_) (Heap.get?_push_of_some _ (Heap.get?_push_of_some _ e))
      rcases List.mem_cons.mp hm with e1 | hm
      · have := Heap.lt_size e; rw [e1, hsz] at this; exact Nat.lt_irrefl _ (Nat.lt_of_succ_lt this)
      · cases hm
    have := h h' tk hold
    have hv : v = if a.cps.toList < b.cps.toList then Value.str b u else Value.str a t := by
      have hP' : (#[Value.str a t, Value.str b u] : Array Value)[argBest (fun i j => decide ((strAt a b j).cps.toList < (strAt a b i).cps.toList)) 1]? = some v := hP
      by_cases hba : a.cps.toList < b.cps.toList
      · have e : argBest (fun i j => decide ((strAt a b j).cps.toList < (strAt a b i).cps.toList)) 1 = 1 := by simp [argBest, strAt, hba]
        rw [e] at hP'
        simpa [hba] using hP'.symm
      · have e : argBest (fun i j => decide ((strAt a b j).cps.toList < (strAt a b i).cps.toList)) 1 = 0 := by simp [argBest, strAt, hba]
        rw [e] at hP'
        simpa [hba] using hP'.symm
    rw [hv]; exact this
theorem min_two_strs {a b : Str} {t u : Tok} {Q : Value → Shared → Prop} (hh : A.handled = none)
    (h : ∀ h' tk, (∀ c o, s.heap.get? c = some o → h'.get? c = some o) → Q (if b.cps.toList < a.cps.toList then .str b u else .str a t) { s with heap := h', toks := tk }) :
    wpAny (model prog w) A (call (.builtin "min") [.str a t, .str b u]) Q E s := by
  have hT : (s.heap.push { cls := .type "tuple", data := .seq #[.str a t, .str b u] }).IsTuple s.heap.objs.size #[.str a t, .str b u] := ⟨_, Heap.get?_push_size _ rfl, rfl, 0, rfl⟩
  refine call_min_two (wpAny_pyIter_tuple hT ?_)
  have hsz : (s.heap.push { cls := .type "tuple", data := .seq #[.str a t, .str b u] }).objs.size = s.heap.objs.size + 1 := Heap.size_push ..
  refine ⟨_, [_, s.heap.objs.size], [_], _, _, _, _, rfl, Walks.tuple (A := A.in1) hh _ s.heap.objs.size (by rw [hsz]; exact Nat.ne_of_lt (Nat.lt_succ_self _)) #[.str a t, .str b u],
    ⟨⟨_, Heap.get?_push_size _ rfl, rfl, rfl⟩, hT.push _⟩, fun c hc => ?_, by simp, CmpOf.strs_lt (strAt a b) (fun _ _ => two_at), fun v h' tk hP hk => ?_⟩
  · show c < ((s.heap.push _).push _).objs.size
    rw [Heap.size_push, hsz]
    rcases List.mem_cons.mp hc with rfl | hc
    · rw [hsz]; exact Nat.lt_succ_self _
    · rcases List.mem_cons.mp hc with rfl | hc
      · exact Nat.lt_succ_of_lt (Nat.lt_succ_self _)
      · cases hc
  · have hold : ∀ c o, s.heap.get? c = some o → h'.get? c = some o := fun c o e => by
      refine hk c o (fun hm => ?_) (Heap.get?_push_of_some _ (Heap.get?_push_of_some _ e))
      rcases List.mem_cons.mp hm with e1 | hm
      · have := Heap.lt_size e; rw [e1, hsz] at this; exact Nat.lt_irrefl _ (Nat.lt_of_succ_lt this)
      · cases hm
    have := h h' tk hold
    have hv : v = if b.cps.toList < a.cps.toList then Value.str b u else Value.str a t := by
      have hP' : (#[Value.str a t, Value.str b u] : Array Value)[argBest (fun i j => decide ((strAt a b i).cps.toList < (strAt a b j).cps.toList)) 1]? = some v := hP
      by_cases hba : b.cps.toList < a.cps.toList
      · have e : argBest (fun i j => decide ((strAt a b i).cps.toList < (strAt a b j).cps.toList)) 1 = 1 := by simp [argBest, strAt, hba]
        rw [e] at hP'
        simpa [hba] using hP'.symm
      · have e : argBest (fun i j => decide ((strAt a b i).cps.toList < (strAt a b j).cps.toList)) 1 = 0 := by simp [argBest, strAt, hba]
        rw [e] at hP'
        simpa [hba] using hP'.symm
    rw [hv]; exact this
end
end PySem
namespace DL
open PySem PySem.Spec PyProof.Rows L2
abbrev rMax2S : List V → Hp → VK → Prop := fun xs H Q => ∃ i j : Str, xs = [.str i, .str j] ∧ Q (.str (if i.cps.toList < j.cps.toList then j else i)) H
abbrev rMin2S : List V → Hp → VK → Prop := fun xs H Q => ∃ i j : Str, xs = [.str i, .str j] ∧ Q (.str (if j.cps.toList < i.cps.toList then j else i)) H
theorem call_max2S {X : Cx} (hc : X.calm = true) : CallR X (.builtin "max") rMax2S := by
  intro pins s σ H xs us Q I r h
  obtain ⟨i, j, rfl, q⟩ := h
  obtain ⟨u, w', rfl, ⟨t, rfl⟩, ⟨t', rfl⟩⟩ := vals2 r
  refine max_two_strs (I.ok.hd hc) fun h' tk k => ⟨_, H, I.kept k, ?_, q⟩
  by_cases hj : i.cps.toList < j.cps.toList
  · rw [if_pos hj, if_pos hj]; exact ⟨_, rfl⟩
  · rw [if_neg hj, if_neg hj]; exact ⟨_, rfl⟩
theorem call_min2S {X : Cx} (hc : X.calm = true) : CallR X (.builtin "min") rMin2S := by
  intro pins s σ H xs us Q I r h
  obtain ⟨i, j, rfl, q⟩ := h
  obtain ⟨u, w', rfl, ⟨t, rfl⟩, ⟨t', rfl⟩⟩ := vals2 r
  refine min_two_strs (I.ok.hd hc) fun h' tk k => ⟨_, H, I.kept k, ?_, q⟩
  by_cases hj : j.cps.toList < i.cps.toList
  · rw [if_pos hj, if_pos hj]; exact ⟨_, rfl⟩
  · rw [if_neg hj, if_neg hj]; exact ⟨_, rfl⟩
theorem rc_max2S {i j : Str} : RcM rMax2S [ds i, ds j] (ds (if i.cps.toList < j.cps.toList then j else i)) := fun G M H vs s da Q k => by
  cases da with
  | cons a t =>
    cases t with
    | cons b t =>
      cases t
      exact ⟨i, j, by rw [Dv.str_of a, Dv.str_of b], k _ G H s (Rl.refl _ _ _) (.str _)⟩
theorem rc_min2S {i j : Str} : RcM rMin2S [ds i, ds j] (ds (if j.cps.toList < i.cps.toList then j else i)) := fun G M H vs s da Q k => by
  cases da with
  | cons a t =>
    cases t with
    | cons b t =>
      cases t
      exact ⟨i, j, by rw [Dv.str_of a, Dv.str_of b], k _ G H s (Rl.refl _ _ _) (.str _)⟩
/-! ### enumerate of a tuple -/
def IteT (K : PySem.W.Frag) (a : Addr) : It :=
  ⟨fun i H => ∃ (xs : List V) (x : V), SqT K H a xs ∧ xs[i]? = some x, fun i H v H' => ∃ T x, v = .ref T ∧ H T = none ∧ H' = upd H T (.tup [.int (i : Nat), x]) ∧ ∀ xs, SqT K H a xs → xs[i]? = some x, fun i H => ∃ xs : List V, SqT K H a xs ∧ xs.length ≤ i⟩
theorem turn_enumT {P : Program} {w : World} {K : PySem.W.Frag} {elts : List Expr} {kk : Nat} {tpos : Pos} (a e it : Addr) :
    Turn P w K (.Tuple elts kk tpos) (IteT K a) [e, it] e (fun i h => (∃ old, IsEnum h e it ((i : Nat) : Int) old) ∧ h.IsTupleIter it a i ∧ e ≠ it) where
  mem := by simp
  obj := fun i h st b hb => by
    obtain ⟨⟨old, he⟩, ⟨o, ho, hc, hd⟩, _⟩ := st
    have e' : b = e ∨ b = it := by simpa using hb
    rcases e' with z | z
    · rw [z]; exact ⟨_, he, fun v q => nomatch q⟩
    · rw [z]; exact ⟨o, ho, fun v q => by rw [hd] at q; cases q⟩
  keep := fun i h h' st k => let ⟨⟨old, he⟩, hi, hne⟩ := st; ⟨⟨old, k e (by simp) _ he⟩, hi.at fun o q => k it (by simp) o q, hne⟩
  item := by
    intro X hP hw hK hc i pins s σ H E I hf st hg
    subst hP hw hK
    obtain ⟨⟨old, he⟩, hit, hne⟩ := st
    obtain ⟨xs, x, hq, hx⟩ := hg
    obtain ⟨its, rv, p, hz⟩ := I.tuple hq
    obtain ⟨u, hu, ru⟩ := rv.get hx
    have hel : e < s.heap.objs.size := Heap.lt_size he
    have hil : it < s.heap.objs.size := by obtain ⟨_, q, _⟩ := hit; exact Heap.lt_size q
    have hai : a ≠ it := fun z => by
      obtain ⟨o1, g1, c1, _⟩ := hit
      obtain ⟨o2, g2, c2, _⟩ := p
      rw [z, g1] at g2
      cases g2
      rw [c1] at c2
      injection c2 with c3
      exact absurd c3 (by decide)
    have hae : a ≠ e := fun z => by
      obtain ⟨o2, g2, c2, _⟩ := p
      have he2 : s.heap.get? e = some _ := he
      rw [z, he2] at g2
      cases g2
      injection c2 with c3
      exact absurd c3 (by decide)
    have hi : i < its.toArray.size := by
      have := (List.getElem?_eq_some_iff.mp hu).1
      simpa using this
    refine wpAny_pyNext_enum_itemD (Draws.tuple (A := X.A.in1) (I.ok.hd hc) it a hai its.toArray) he ⟨hit, p⟩ hi hne (by simp [Ne.symm hae, hne]) fun u' h' tk hP ho hst' hT hsz hk => ?_
    have eu : u' = u := by
      rw [List.getElem?_toArray, hu] at hP
      exact (Option.some.inj hP).symm
    subst eu
    refine ⟨_, rfl, wpAny_letOwnedTupleGo_enum (s := { s with heap := h', toks := tk + 1 }) ho fun h'' he' sb => ?_⟩
    have hT2 : h''.get? s.heap.objs.size = some { cls := .type "tuple", data := .seq #[.int i tk, u'] } := (sb.2 _ (Nat.ne_of_gt hel)).trans hT
    have new : ObjOk X.prog X.w (upd H s.heap.objs.size (.tup [.int (i : Nat), x])) h'' s.heap.objs.size (.tup [.int (i : Nat), x]) :=
      ⟨by show 2 ≤ sizeLine; decide, [.int i tk, u'], .cons ⟨_, rfl⟩ (.cons ru .nil), ⟨_, hT2, rfl, _, rfl⟩⟩
    have I1 : Inv X pins σ (upd H s.heap.objs.size (.tup [.int (i : Nat), x])) { s with heap := h'', toks := tk + 1 } :=
      I.turnedNew (ch := [e, it]) (fun b ob hb q => (sb.2 b (fun z => hb (by simp [z]))).trans (hk b ob (fun z => hb (by simp [z])) (fun z => hb (by simp [z])) q)) hf (Nat.le_refl _) new
    refine ⟨.ref s.heap.objs.size, _, I1, rfl, ⟨_, x, rfl, I.hok.fresh (Nat.le_refl _), rfl, fun ys hy => by rw [I.tuple_inj hy hq]; exact hx⟩, ⟨⟨u', ?_⟩, hst'.1.at fun o q => (sb.2 it (Ne.symm hne)).trans q, hne⟩, fun b hb => ?_⟩
    · have e1 : ((i + 1 : Nat) : Int) = (i : Int) + 1 := by omega
      rw [e1]; exact he'
    · have hb' : b < s.heap.objs.size := by
        have e' : b = e ∨ b = it := by simpa using hb
        rcases e' with z | z
        · rw [z]; exact hel
        · rw [z]; exact hil
      rw [upd_ne (Nat.ne_of_lt hb')]
      exact (hf b hb).1
  done := by
    intro X hP hw hK hc i pins s σ H E I hf st hg
    subst hP hw hK
    obtain ⟨⟨old, he⟩, hit, hne⟩ := st
    obtain ⟨xs, hq, hx⟩ := hg
    obtain ⟨its, rv, p, hz⟩ := I.tuple hq
    obtain ⟨f0, f1, f2, f3, f4, f5⟩ := hf it (by simp)
    have hl := rv.length
    have hai : a ≠ it := fun z => by
      obtain ⟨o1, g1, c1, _⟩ := hit
      obtain ⟨o2, g2, c2, _⟩ := p
      rw [z, g1] at g2
      cases g2
      rw [c1] at c2
      injection c2 with c3
      exact absurd c3 (by decide)
    exact enum_endT (I.ok.hd hc) he hit p (by simp; omega) fun h' eb => ⟨rfl, I.turned (t' := s.toks) (fun b o hb q => eb b o hb q) f0 f1 f3 f4 f5⟩
  self := fun A i s Q E st h => let ⟨⟨_, he⟩, _⟩ := st; wpAny_pyIter_enum he h
def iEnumT (K : PySem.W.Frag) (ta : TA) : TI := fun σ H R => ta σ H fun vs H1 => ∃ a xs, vs = [.ref a] ∧ SqT K H1 a xs ∧ R (IteT K a) H1
theorem pi_enumT {X : Cx} {e : Expr} {ta : TA} {p pos tpos : Pos} {elts : List Expr} {kk : Nat} (hg : Gl X "enumerate") (hm : X.mg "enumerate" = none) (ha : PA X [e] ta) (hs : starEach [e] X.env = [(false, eval e X.env)] := by rfl) :
    PI X (.Tuple elts kk tpos) (.Call (.Name "enumerate" p) [e] [] pos) (iEnumT X.K ta) := by
  refine ⟨fun pins s σ H R I h => ?_⟩
  refine Call_ (ld_blt I hg hm boot_enumerate (PyProof.Rows.callWith_type1 (thn (ha.run pos pins s σ H _ I h) fun us s1 ⟨vs, H1, I1, r1, q1⟩ => ?_) hs rfl))
  obtain ⟨a, xs, ex, hq, q⟩ := q1
  subst ex
  cases r1 with
  | cons r rr =>
    cases rr
    cases r
    obtain ⟨its, rv, p', hz⟩ := I1.tuple hq
    refine enum_begins1 (begins_tuple a its.toArray) p' fun h' he hit hsz hk => wpAny_pyIter_enum he ?_
    have I2 : Inv X pins σ H1 { s1 with heap := h' } := I1.kept (t' := s1.toks) hk
    refine ⟨s1.heap.objs.size + 1, [s1.heap.objs.size + 1, s1.heap.objs.size], _, _, H1, rfl, I2, turn_enumT a (s1.heap.objs.size + 1) s1.heap.objs.size, ⟨⟨.none, he⟩, ⟨_, hit, rfl, rfl⟩, Nat.succ_ne_self _⟩, fun b hb => ?_, q⟩
    have e' : b = s1.heap.objs.size + 1 ∨ b = s1.heap.objs.size := by simpa using hb
    have hle : s1.heap.objs.size ≤ b := by
      rcases e' with z | z
      · rw [z]; exact Nat.le_add_right _ _
      · rw [z]; exact Nat.le_refl _
    exact I1.fpOk hle (I1.hok.fresh hle)
/-- the items of enumerate -/
def enD (ds : List PyData) : List PyData := (List.range ds.length).map fun i => .tuple [.int (i : Nat), ds.getD i .none]
theorem iv_enumT {K : PySem.W.Frag} {δ : Dl} {M M1 : Hp} {ta : TA} {xs : List PyData} (h : EAM ta δ M [.d (.tuple xs)] M1) : IvM (iEnumT K ta) δ M (enD xs) M1 := fun σ G H s sl R k =>
  h σ G H s sl _ fun vs G1 H1 s1 r1 d1 => by
    cases d1 with
    | cons q t =>
      cases t
      obtain ⟨a, ws, rfl, ha, hd⟩ := Dv.tup_of q
      have hlen : (enD xs).length = ws.length := by rw [hd.length]; simp [enD]
      refine ⟨a, ws, rfl, SqT.of (s1.g _ _ ha), k _ G1 H1 s1 r1 ⟨fun i G2 M2 H2 hi e s2 => ?_, fun i G2 M2 H2 hi e s2 => ⟨ws, SqT.of (s2.g _ _ (e _ _ ha)), by rw [← hlen]; exact hi⟩⟩⟩
      have hv : ws[i]? = some (ws[i]'(by omega)) := List.getElem?_eq_getElem (by omega)
      refine ⟨⟨ws, _, SqT.of (s2.g _ _ (e _ _ ha)), hv⟩, fun v H' y => ?_⟩
      obtain ⟨T, x, rfl, hT, rfl, q⟩ := y
      have qv := q ws (SqT.of (s2.g _ _ (e _ _ ha)))
      obtain ⟨d, e1, e2⟩ := hd.getV qv
      have s3 := s2.new (o := .tup [.int (i : Nat), x]) hT
      have r3 := Rl.new (o := .tup [.int (i : Nat), x]) s2 hT
      refine ⟨_, .tuple [.int (i : Nat), d], ?_, s3, r3, .tup upd_same (.cons (.int _) (.cons (e2.mono (e.trans r3.g)) .nil))⟩
      have hi' : i < xs.length := by rw [hlen, hd.length] at hi; exact hi
      unfold enD
      rw [List.getElem?_map, List.getElem?_range hi', Option.map_some, List.getD_eq_getElem?_getD, e1] <;> rfl
end DL

set_option Elab.async false
set_option linter.all false
set_option maxRecDepth 100000
set_option maxHeartbeats 4000000
/-! DSort: sorted of a list of data, of a dict with tuple keys. -/
namespace DL
open PySem PySem.Spec PyProof.Rows L2 PySem.W
abbrev VD := V × PyData
def leV : VD → VD → Bool := dataLe false Prod.snd
def rSortD (K : PySem.W.Frag) : List V → Hp → VK → Prop := fun vs H Q => ∃ (a : Addr) (zs : List VD), vs = [V.ref a] ∧ SqL K H a (zs.map (·.1)) ∧ (∀ z ∈ zs, Dp K H z.1 z.2) ∧ AllAlike (zs.map (·.2)) ∧ Sortable (zs.map (·.2)) ∧ (∀ z ∈ zs, z.2.depth ≤ 60) ∧
  ∀ p, H p = none → Q (.ref p) (upd H p (.lst ((zs.mergeSort leV).map (·.1))))
theorem each_zip {R : Value → VD → Prop} {F : V → Value → Prop} : ∀ {zs : List VD} {us : List Value}, Paired F (zs.map (·.1)) us → (∀ z ∈ zs, ∀ u, F z.1 u → R u z) → EachIs R us zs
  | [], _, .nil, _ => .nil
  | z :: zs, _, .cons r t, h => .cons (h z List.mem_cons_self _ r) (each_zip t fun y hy => h y (List.mem_cons_of_mem _ hy))
theorem zip_each : ∀ {zs : List VD} {us : List Value}, EachIs (fun u z => RelV z.1 u) us zs → Vals (zs.map (·.1)) us
  | _, _, .nil => .nil
  | _, _, .cons r t => .cons r (zip_each t)
theorem call_sortD {X : Cx} {K : PySem.W.Frag} (hK : X.K = K) (hu : X.A.units + 64 < cLine) : CallR X (.builtin "sorted") (rSortD K) := by
  subst hK
  intro pins s σ H xs us Q I r h
  obtain ⟨a, zs, rfl, hs, hd, hal, hso, hdp, q⟩ := h
  obtain ⟨its, rv, hl, hz⟩ := I.list hs
  rw [Vals.ref1 r]
  have e1 : EachIs (fun u z => RelV z.1 u) its zs := each_zip rv fun _ _ _ h => h
  have e2 : EachIs (fun u (z : VD) => ∃ as, Reads s.heap u z.2 as) its zs := each_zip rv fun z hz u ru => Dp.reads I z.2 z.1 u (hd z hz) ru
  rw [List.length_map] at hz
  refine sorted_data (enc := Prod.snd) hl.isList e1 e2 hal hso hz (fun b hb => by have := hdp b hb; omega) fun out ho eo => ?_
  obtain ⟨ep, he'⟩ := PyProof.Rows.sortedAll_at s.heap its out.toArray
  have rv2 : Vals ((zs.mergeSort leV).map (·.1)) out := zip_each eo
  have hlen : ((zs.mergeSort leV).map (·.1)).length ≤ sizeLine := by rw [List.length_map, List.length_mergeSort]; exact hz
  exact ⟨.ref _, upd H (s.heap.objs.size + 1) (.lst ((zs.mergeSort leV).map (·.1))), I.laid (t' := s.toks) (fun _ _ => PyProof.Rows.sortedAll_old) (Nat.le_succ _) ⟨hlen, out, ep, rv2, he'⟩, rfl, q _ (I.hok.fresh (Nat.le_succ _))⟩
theorem dv_zip {G : Hp} : ∀ {xs : List V} {ds : List PyData}, Dvs G xs ds → ∃ zs : List VD, zs.map (·.1) = xs ∧ zs.map (·.2) = ds ∧ ∀ z ∈ zs, Dv G z.1 z.2
  | _, _, .nil => ⟨[], rfl, rfl, fun _ h => (by cases h)⟩
  | _, _, .cons (v := v) (d := d) h t => by
    obtain ⟨zs, e1, e2, e3⟩ := dv_zip t
    refine ⟨(v, d) :: zs, by rw [List.map_cons, e1], by rw [List.map_cons, e2], fun z hz => ?_⟩
    rcases List.mem_cons.mp hz with rfl | hz
    · exact h
    · exact e3 z hz
theorem zip_dv {G : Hp} : ∀ {zs : List VD}, (∀ z ∈ zs, Dv G z.1 z.2) → Dvs G (zs.map (·.1)) (zs.map (·.2))
  | [], _ => .nil
  | z :: zs, h => .cons (h z List.mem_cons_self) (zip_dv fun y hy => h y (List.mem_cons_of_mem _ hy))
theorem sort_snd (zs : List VD) : (zs.mergeSort leV).map (·.2) = (zs.map (·.2)).mergeSort (dataLe false id) := List.map_mergeSort fun a _ b _ => rfl
theorem sort_enc {β : Type} (bs : List β) (enc : β → PyData) : (bs.map enc).mergeSort (dataLe false id) = (bs.mergeSort (dataLe false enc)).map enc := (List.map_mergeSort (f := enc) (r := dataLe false enc) (s := dataLe false id) (l := bs) fun a _ b _ => rfl).symm
theorem rc_sortD {K : PySem.W.Frag} {β : Type} {bs : List β} {enc : β → PyData} (hal : AllAlike (bs.map enc)) (hso : Sortable (bs.map enc)) (hdp : ∀ b ∈ bs, (enc b).depth ≤ 60) : RcM (rSortD K) [.d (.list (bs.map enc))] (.d (.list ((bs.mergeSort (dataLe false enc)).map enc))) := rc1 fun G M H v s d Q k => by
  obtain ⟨a, xs, rfl, ha, hx⟩ := Dv.lst_of d
  obtain ⟨zs, e1, e2, e3⟩ := dv_zip hx
  subst e1
  refine ⟨a, zs, rfl, SqL.of (s.g _ _ ha), fun z hz => ((e3 z hz).mono s.g).dp, by rw [e2]; exact hal, by rw [e2]; exact hso, fun z hz => ?_, fun p hp => ?_⟩
  · have hm : z.2 ∈ bs.map enc := by
      rw [← e2]
      exact List.mem_map_of_mem hz
    obtain ⟨b, hb, e⟩ := List.mem_map.mp hm
    rw [← e]
    exact hdp b hb
  · have r := Rl.new (o := .lst ((zs.mergeSort leV).map (·.1))) s hp
    refine k _ _ _ (s.new hp) r (Dv.lst upd_same ?_)
    have h := zip_dv (G := G) (zs := zs.mergeSort leV) fun z hz => e3 z (List.mem_mergeSort.mp hz)
    rw [sort_snd, e2, sort_enc] at h
    exact h.mono r.g
/-! ### sorted(d), d a dict whose keys are pairs of ints -/
def keyP (p : Nat × Nat) : List Key := [.inl (p.1 : Nat), .inl (p.2 : Nat)]
def datP (p : Nat × Nat) : PyData := .tuple [.int (p.1 : Nat), .int (p.2 : Nat)]
abbrev AP := Addr × (Nat × Nat)
def leA : AP → AP → Bool := dataLe false fun z => datP z.2
def rSortDT : List V → Hp → VK → Prop := fun vs H Q => ∃ (a : Addr) (kvs : List (List Key × V)) (ps : List (Nat × Nat)), vs = [V.ref a] ∧ H a = some (.dT kvs) ∧ kvs.map (·.1) = ps.map keyP ∧ ps.length ≤ 50000 ∧
  ∀ p (zs : List AP), H p = none → zs.map (·.2) = ps → (∀ z ∈ zs, H z.1 = some (.tup [.int (z.2.1 : Nat), .int (z.2.2 : Nat)])) → Q (.ref p) (upd H p (.lst ((zs.mergeSort leA).map fun z => .ref z.1)))
theorem al_pairs (ps : List (Nat × Nat)) : AllAlike (ps.map datP) := AllAlike.of fun b b' => by simp [datP, alike, alikeAll]
theorem so_pairs (ps : List (Nat × Nat)) : Sortable (ps.map datP) := Sortable.tuples fun b => ⟨_, _, rfl⟩
theorem dp_pair (p : Nat × Nat) : (datP p).depth = 1 := by simp [datP, PyData.depth, PyData.depthAll]
theorem keys_zip {H : Hp} : ∀ {ks : List (List Key × Addr × Value)} {ps : List (Nat × Nat)}, ks.map (·.1) = ps.map keyP → (∀ x ∈ ks, H x.2.1 = some (.tup (x.1.map kV))) → ∃ zs : List AP, zs.map (·.1) = ks.map (fun x => x.2.1) ∧ zs.map (·.2) = ps ∧ ∀ z ∈ zs, H z.1 = some (.tup [.int (z.2.1 : Nat), .int (z.2.2 : Nat)])
  | [], [], _, _ => ⟨[], rfl, rfl, fun _ h => (by cases h)⟩
  | [], _ :: _, e, _ => by cases e
  | _ :: _, [], e, _ => by cases e
  | x :: ks, p :: ps, e, h => by
    rw [List.map_cons, List.map_cons] at e
    injection e with e0 e1
    obtain ⟨zs, a1, a2, a3⟩ := keys_zip (ps := ps) e1 fun y hy => h y (List.mem_cons_of_mem _ hy)
    refine ⟨(x.2.1, p) :: zs, by rw [List.map_cons, a1, List.map_cons], by rw [List.map_cons, a2], fun z hz => ?_⟩
    rcases List.mem_cons.mp hz with rfl | hz
    · have q := h x List.mem_cons_self
      rw [e0] at q
      exact q
    · exact a3 z hz
theorem each_zipA {R : Value → AP → Prop} : ∀ {zs : List AP} {us : List Value}, us = zs.map (fun z => Value.ref z.1) → (∀ z ∈ zs, R (.ref z.1) z) → EachIs R us zs
  | [], _, rfl, _ => .nil
  | z :: zs, _, rfl, h => .cons (h z List.mem_cons_self) (each_zipA rfl fun y hy => h y (List.mem_cons_of_mem _ hy))
theorem zip_eachA : ∀ {zs : List AP} {us : List Value}, EachIs (fun u (z : AP) => u = Value.ref z.1) us zs → Vals (zs.map fun z => V.ref z.1) us
  | _, _, .nil => .nil
  | _, _, .cons r t => .cons r (zip_eachA t)
theorem call_sortDT {X : Cx} (hcalm : X.calm = true) (hu : X.A.units + 64 < cLine) : CallR X (.builtin "sorted") rSortDT := by
  intro pins s σ H xs us Q I r q
  obtain ⟨a, kvs, ps, ex, hd, hks, hsz, q⟩ := q
  subst ex
  obtain ⟨u, eu, rx⟩ := vals1 r
  subst eu
  cases rx
  obtain ⟨z, hs, ks, pr, o, es, ep, ho, hx, hdt, he, hn⟩ := (show ObjOk X.prog X.w H s.heap a (.dT kvs) from I.hok a _ hd)
  have l1 : es.size = ks.length := size_of_entries he
  have l2 : kvs.length = ks.length := Paired.length pr
  have kk : ks.map (·.1) = ps.map keyP := by
    rw [← hks]
    clear hks hn he q l1 l2 hd z
    induction pr with
    | nil => rfl
    | cons h t ih => rw [List.map_cons, List.map_cons, ih, h.1]
  have kt : ∀ x ∈ ks, H x.2.1 = some (.tup (x.1.map kV)) := by
    intro x hx2
    clear hks hn he q l1 l2 kk hd z
    induction pr with
    | nil => cases hx2
    | cons h t ih =>
      rcases List.mem_cons.mp hx2 with e | e
      · rw [e, ← h.1]
        exact h.2.1
      · exact ih e
  obtain ⟨zs, z1, z2, z3⟩ := keys_zip kk kt
  have lz : zs.length = ps.length := by rw [← z2, List.length_map]
  have lk : ks.length = ps.length := by
    have := congrArg List.length kk
    rw [List.length_map, List.length_map] at this
    exact this
  have hline : ps.length ≤ sizeLine := Nat.le_trans hsz (by decide)
  refine Calls.call_function_entry PyProof.Rows.kind_sorted PyProof.Rows.plain_sorted PyProof.Rows.entry_sorted (PyProof.Rows.args_sorted1 _) ?_
  unfold Builtin.«sorted»
  refine wpAny_bind (wpAny_pure ?_)
  refine wpAny_bind (PySem.W.kdu_collect (A := X.A.in1) (kdl_raw hs hx hdt) (I.ok.hd hcalm) ho (by omega) fun h' tk acc hk hacc => ?_)
  have ea : acc.toList = ks.map fun x => Value.ref x.2.1 := by
    have hl : acc.toList.length = ks.length := by rw [Array.length_toList, hacc.1]; exact l1
    apply List.ext_getElem?
    intro j
    rw [List.getElem?_map]
    cases hj : acc.toList[j]? with
    | none =>
      have h1 := List.getElem?_eq_none_iff.mp hj
      rw [List.getElem?_eq_none (by omega)]
      all_goals rfl
    | some v =>
      obtain ⟨en, hen, hv⟩ := hacc.2 j v (by rw [← Array.getElem?_toList]; exact hj)
      have qe := entry_at he j
      rw [hen] at qe
      cases hb : ks[j]? with
      | none =>
        rw [hb] at qe
        exact nomatch (show some en = none from qe)
      | some b =>
        rw [hb] at qe
        have e2 : en = entryOfKey (tupleKind (mixKind X.prog X.w)) b := Option.some.inj qe
        rw [hv, e2]
        all_goals rfl
  have ez : acc.toList = zs.map fun z => Value.ref z.1 := by
    rw [ea]
    have := congrArg (List.map Value.ref) z1
    rw [List.map_map, List.map_map] at this
    exact this.symm
  have I1 : Inv X pins σ H { s with heap := h', toks := tk } := I.kept hk
  have hal : acc.toList.length = zs.length := by rw [ez, List.length_map]
  refine wpAny_bind (wpAny_newList ?_ (by rw [hal, lz]; exact hline))
  have hoL : (h'.push (seqObj "list" acc.toList.toArray 0)).get? h'.objs.size = some (seqObj "list" acc.toList.toArray 0) := Heap.get?_push_size _ rfl
  show wpAny _ _ _ _ _ { s with heap := h'.push (seqObj "list" acc.toList.toArray 0), toks := tk }
  have er : EachIs (fun v (b : AP) => ∃ as, Reads (h'.push (seqObj "list" acc.toList.toArray 0)) v (datP b.2) as ∧ h'.objs.size ∉ as) acc.toList zs := each_zipA ez fun z hz => by
    obtain ⟨_, its2, rv2, o2, ho2, hc2, n2, hd2⟩ := (show ObjOk X.prog X.w H h' z.1 (.tup [.int (z.2.1 : Nat), .int (z.2.2 : Nat)]) from I1.hok _ _ (z3 z hz))
    obtain ⟨u1, u2, rfl, ⟨t1, e1⟩, ⟨t2, e2⟩⟩ := vals2 rv2
    subst e1 e2
    refine ⟨_, Reads.tuple (Heap.get?_push_of_some _ ho2) hc2 hd2 (.cons (.int _ _) (.cons (.int _ _) .nil)), by simp⟩
  refine wpAny_bind (wpAny_holding (list_sort_data (A := X.A.in1) (s := { s with heap := h'.push (seqObj "list" acc.toList.toArray 0), toks := tk }) (R := fun u (z : AP) => u = Value.ref z.1) (enc := fun z => datP z.2) hoL (each_zipA ez fun _ _ => rfl) er
    (by have := al_pairs ps; rw [← z2, List.map_map] at this; exact this) (by have := so_pairs ps; rw [← z2, List.map_map] at this; exact this) (by rw [lz]; exact hline) (fun b _ => by rw [dp_pair]; show X.A.units + 1 + 1 + 1 < cLine; omega) fun out hout eo => ?_))
  obtain ⟨e', he'⟩ := PyProof.Rows.sortedHeap_at (vs := acc.toList) (out := out.toArray) hoL
  have rv3 : Vals ((zs.mergeSort leA).map fun z => V.ref z.1) out := zip_eachA eo
  have hlen : ((zs.mergeSort leA).map fun z => V.ref z.1).length ≤ sizeLine := by rw [List.length_map, List.length_mergeSort, lz]; exact hline
  refine wpAny_pure ⟨_, rfl, .ref h'.objs.size, upd H h'.objs.size (.lst ((zs.mergeSort leA).map fun z => V.ref z.1)), I1.laid (t' := tk) (fun b u e => ?_) (Nat.le_refl _)
    (show ObjOk X.prog X.w _ _ _ (.lst ((zs.mergeSort leA).map fun z => V.ref z.1)) from ⟨hlen, out, e', rv3, he'⟩), rfl, q _ zs (I1.hok.fresh (Nat.le_refl _)) z2 z3⟩
  have hb : b < h'.objs.size := Heap.lt_size e
  rw [PyProof.Rows.sortedHeap_old (Nat.ne_of_lt hb) (by rw [size_push']; exact Nat.lt_succ_of_lt hb)]
  exact Heap.get?_push_of_some _ e
end DL

set_option Elab.async false
set_option linter.all false
set_option maxRecDepth 100000
set_option maxHeartbeats 4000000
/-! DNum: numbers as sets, in ints. -/
namespace DL
open PySem PySem.Spec PyProof.Rows L2 Md
theorem band_nat (a b : Nat) : Builtin.bitAnd (a : Int) (b : Int) = ((a &&& b : Nat) : Int) := by
  have h : ∀ x y : Int, 0 ≤ x → 0 ≤ y → Builtin.bitAnd x y = ((x.toNat &&& y.toNat : Nat) : Int) := by
    intro x y hx hy
    unfold Builtin.bitAnd
    simp [hx, hy]
  rw [h _ _ (Int.natCast_nonneg a) (Int.natCast_nonneg b), Int.toNat_natCast, Int.toNat_natCast]
theorem bxor_nat (a b : Nat) : Builtin.bitXor (a : Int) (b : Int) = ((a ^^^ b : Nat) : Int) := by
  rw [Bits.bitXor_pp (Int.natCast_nonneg a) (Int.natCast_nonneg b), Int.toNat_natCast, Int.toNat_natCast]
theorem shr_nat (a i : Nat) : (a : Int) / 2 ^ ((i : Nat) : Int).toNat = ((a >>> i : Nat) : Int) := by
  rw [Int.toNat_natCast, Nat.shiftRight_eq_div_pow, Int.natCast_ediv, Int.natCast_pow]
  rfl
theorem shl_nat (i : Nat) : (1 : Int) * 2 ^ ((i : Nat) : Int).toNat = ((2 ^ i : Nat) : Int) := by
  rw [Int.toNat_natCast, Int.one_mul, Int.natCast_pow]
  rfl
theorem sum_nat {β : Type} (f : β → Nat) : ∀ l : List β, (l.map fun a => ((f a : Nat) : Int)).sum = ((l.map f).sum : Nat)
  | [] => rfl
  | a :: l => by
    rw [List.map_cons, List.sum_cons, List.map_cons, List.sum_cons, sum_nat f l, Int.natCast_add]
theorem bs_sum : ∀ m, m < 256 → ((bs m).map fun a => 2 ^ a).sum = m := by decide +kernel
theorem tb_and1 (m i : Nat) : ((m >>> i) &&& 1 : Nat) = if m.testBit i then 1 else 0 := by
  have h : m.testBit i = ((m >>> i) &&& 1 != 0) := by
    rw [Nat.testBit, Nat.and_comm]
  rw [h]
  have h2 : (m >>> i) &&& 1 = (m >>> i) % 2 := Nat.and_one_is_mod _
  rw [h2]
  have h3 : (m >>> i) % 2 = 0 ∨ (m >>> i) % 2 = 1 := by omega
  rcases h3 with e | e <;> rw [e] <;> rfl
theorem bs_n {m n : Nat} (hn : n ≤ 8) (hm : m < 2 ^ n) : bs m = (List.range n).filter m.testBit := by
  have : ∀ k, n ≤ k → (List.range k).filter m.testBit = (List.range n).filter m.testBit := by
    intro k hk
    induction k with
    | zero =>
      have e : n = 0 := by omega
      rw [e]
    | succ k ih =>
      by_cases e : n = k + 1
      · rw [e]
      · rw [List.range_succ, List.filter_append, ih (by omega)]
        have : m.testBit k = false := by
          cases q : m.testBit k with
          | false => rfl
          | true =>
            have := bit_lt hm q
            omega
        simp [this]
  exact this 8 hn
theorem bs_le {m n : Nat} (hn : n ≤ 8) (hm : m < 2 ^ n) : (bs m).length ≤ n := by
  rw [bs_n hn hm]
  have := List.length_filter_le m.testBit (List.range n)
  rw [List.length_range] at this
  exact this
theorem bs_mem {m n a : Nat} (hm : m < 2 ^ n) (h : a ∈ bs m) : a < n := bit_lt hm (bs_bit h)
theorem bs_up (m : Nat) : (bs m).Pairwise (· < ·) := List.Pairwise.filter _ List.pairwise_lt_range
theorem low_bit : ∀ m, m < 256 → 0 < m → pc (m &&& (m - 1)) + 1 = pc m ∧ m &&& (m - 1) < 256 := by decide +kernel
theorem lt_ok : ∀ m, m < 256 → PyData.strOk (lt m) = true := by decide +kernel
theorem sh_k {k : Knd} (h : k.1 < 256) : SeqAt.shaped (kD k) = true := by simp [SeqAt.shaped, kD, PyData.canLay0, PyData.canLayAll0, PyData.depth, PyData.depthAll, lt_ok _ h]
theorem CPow_ok {i j : Nat} (hi : i ≤ 1000000) (hj : j ≤ 1000000) : CPow (i : Nat) (j : Nat) := ⟨Int.natCast_nonneg j, by omega, by rw [Int.natAbs_natCast]; omega⟩
theorem rv_in2 {K : PySem.W.Frag} {a x y : Int} : RvM (rIn K false) (di a) (.d (.tuple [.int x, .int y])) (db (decide (x = a) || decide (y = a))) := rv_of fun G H v w s h1 h2 Q k => by
  obtain ⟨l, vs, rfl, hl, hx⟩ := Dv.tup_of h2
  have e1 : vs = [x, y].map V.int := hx.ints (ns := [x, y])
  subst e1
  rw [Dv.int_of h1]
  refine ⟨l, _, rfl, .inr (SqT.of (s _ _ hl)), rfl, rfl, k _ ?_⟩
  have e2 : ∀ i j : Int, eqV (.int i) (.int j) = decide (i = j) := fun i j => by
    show (i == j) = decide (i = j)
    by_cases h : i = j <;> simp [h]
  show Dv G (.bl (if false = true then _ else inV (V.int a) [V.int x, V.int y])) _
  rw [if_neg Bool.false_ne_true]
  unfold inV
  simp only [List.any_cons, List.any_nil, Bool.or_false, e2]
  exact .bl _
end DL

set_option Elab.async false
set_option linter.all false
set_option maxRecDepth 100000
set_option maxHeartbeats 4000000
namespace DL
open PySem PySem.Spec PyProof.Rows L2 Md
section
variable {P : Program} {w : World} {K : PySem.W.Frag} {mg : Str → Option Value} {base : Heap}
abbrev s_whole : Stmt := top 11
abbrev nm_whole : List Str := ["value"]
theorem sc_whole : FnScope nm_whole ["value"] (defScope s_whole) := ⟨rfl, rfl, rfl, by decide +kernel, rfl, by decide +kernel, by decide +kernel⟩
theorem ok_whole {f : Addr} {fd : FuncData} (F : Fun K "whole" "whole" s_whole f fd) (B : Bi mg) : FnOk P w K mg base CX0 1 f fd ["value"] (SpP fr_whole) := by
  refine fn_pure F sc_whole (fun xs y ⟨i, h, _⟩ => by rw [h] <;> rfl) (fun cdv A outer s H E hr => ⟨_, (pss_one (ps_ret (pe_and (pe_callB (call_isiK' (K := K) rfl) (by rfl) B.isinstance_ boot_isinstance (pa_cons (pv 0) (pa_cons (pe_bltn (v := .ty "int") (by rfl) B.int_ boot_int rfl) pa_nil))) (pe_one (pe_not (pe_callB (call_isiK' (K := K) rfl) (by rfl) B.isinstance_ boot_isinstance (pa_cons (pv 0) (pa_cons (pe_bltn (v := .ty "bool") (by rfl) B.bool_ boot_bool rfl) pa_nil)))))))), ?_⟩)
  rintro xs y ⟨i, rfl, rfl⟩
  exact ws_ret (em_andV (em_cb (ea_cons (em_var rfl) (ea_cons em_ty ea_nil)) (rc_isi (t := "int") (b := true) rfl (by decide +kernel))) fun _ => em_notV (em_cb (ea_cons (em_var rfl) (ea_cons em_ty ea_nil)) (rc_isi (t := "int") (b := false) rfl (by decide +kernel)))) rfl
abbrev s_within : Stmt := top 12
abbrev nm_within : List Str := ["value", "low", "high"]
theorem sc_within : FnScope nm_within ["value", "low", "high"] (defScope s_within) := ⟨rfl, rfl, rfl, by decide +kernel, rfl, by decide +kernel, by decide +kernel⟩
theorem ok_within {f : Addr} {fd : FuncData} (F : Fun K "within" "within" s_within f fd) (c_whole : Cal P w K mg base "whole" ["value"] 1 (SpP fr_whole)) : FnOk P w K mg base CX0 2 f fd ["value", "low", "high"] (SpP fr_within) := by
  refine fn_pure F sc_within (fun xs y ⟨i, lo, hi, h, _⟩ => by rw [h] <;> rfl) (fun cdv A outer s H E hr => ⟨_, (pss_one (ps_ret (pe_and (pe_cal c_whole (hr.mono (by decide)) (by rfl) (pa_cons (pv 0) pa_nil)) (pe_one (pe_chain op_le op_le (pv 1) (pv 0) (pv 2)))))), ?_⟩)
  rintro xs y ⟨i, lo, hi, rfl, rfl⟩
  exact ws_ret (em_andV (em_call (ea_cons (em_var rfl) ea_nil) ⟨i, rfl, rfl⟩) fun _ => em_chain (em_var rfl) (em_var rfl) rv_le (fun _ => em_var rfl) (fun _ => rv_le)) rfl
abbrev s_need_number : Stmt := top 13
abbrev nm_need_number : List Str := ["value", "low", "high"]
theorem sc_need_number : FnScope nm_need_number ["value", "low", "high"] (defScope s_need_number) := ⟨rfl, rfl, rfl, by decide +kernel, rfl, by decide +kernel, by decide +kernel⟩
theorem ok_need_number {f : Addr} {fd : FuncData} (F : Fun K "need_number" "need_number" s_need_number f fd) (c_within : Cal P w K mg base "within" ["value", "low", "high"] 2 (SpP fr_within)) : FnOk P w K mg base CX0 3 f fd ["value", "low", "high"] (SpP fr_need_number) := by
  refine fn_pure F sc_need_number (fun xs y ⟨i, lo, hi, _, h, _⟩ => by rw [h] <;> rfl) (fun cdv A outer s H E hr => ⟨_, (pss_one (ps_if (pt_not (pt_val (pe_cal c_within (hr.mono (by decide)) (by rfl) (pa_cons (pv 0) (pa_cons (pv 1) (pa_cons (pv 2) pa_nil)))))) pss_never pss_nil)), ?_⟩)
  rintro xs y ⟨i, lo, hi, ⟨h1, h2⟩, rfl, rfl⟩
  refine ws_pass ((et_not (et_B (em_call (ea_cons (em_var rfl) (ea_cons (em_var rfl) (ea_cons (em_var rfl) ea_nil))) ⟨i, lo, hi, rfl, rfl⟩))).is ?_) rfl
  rw [decide_eq_true h1, decide_eq_true h2] <;> rfl
abbrev s_tuple_of : Stmt := top 14
abbrev nm_tuple_of : List Str := ["value", "low", "high"]
theorem sc_tuple_of : FnScope nm_tuple_of ["value", "low", "high"] (defScope s_tuple_of) := ⟨rfl, rfl, rfl, by decide +kernel, rfl, by decide +kernel, by decide +kernel⟩
theorem ok_tuple_of {f : Addr} {fd : FuncData} (F : Fun K "tuple_of" "tuple_of" s_tuple_of f fd) (B : Bi mg) : FnOk P w K mg base CX0 1 f fd ["value", "low", "high"] (SpP fr_tuple_of) := by
  refine fn_pure F sc_tuple_of (fun xs y ⟨t, lo, hi, h, _⟩ => by rw [h] <;> rfl) (fun cdv A outer s H E hr => ⟨_, (pss_one (ps_ret (pe_and (pe_callB (call_isiK' (K := K) rfl) (by rfl) B.isinstance_ boot_isinstance (pa_cons (pv 0) (pa_cons (pe_bltn (v := .ty "tuple") (by rfl) B.tuple_ boot_tuple rfl) pa_nil))) (pe_one (pe_chain op_le op_le (pv 1) (pe_callB (call_lenK (K := K) rfl) (by rfl) B.len_ boot_len (pa_cons (pv 0) pa_nil)) (pv 2)))))), ?_⟩)
  rintro xs y ⟨t, lo, hi, rfl, rfl⟩
  refine ws_ret ((em_andV (em_cb (ea_cons (em_var rfl) (ea_cons em_ty ea_nil)) (rc_isi (t := "tuple") (b := true) rfl (by decide +kernel))) fun _ => em_chain (em_var rfl) (em_cb (ea_cons (em_var rfl) ea_nil) rc_lenT) rv_le (fun _ => em_var rfl) (fun _ => rv_le)).is ?_) rfl
  rfl
abbrev s_is_pair : Stmt := top 15
abbrev nm_is_pair : List Str := ["many", "value", "told"]
theorem sc_is_pair : FnScope nm_is_pair ["many", "value"] (defScope s_is_pair) := ⟨rfl, rfl, rfl, by decide +kernel, rfl, by decide +kernel, by decide +kernel⟩
theorem ok_is_pair {f : Addr} {fd : FuncData} (F : Fun K "is_pair" "is_pair" s_is_pair f fd) (B : Bi mg) (c_whole : Cal P w K mg base "whole" ["value"] 1 (SpP fr_whole)) (c_tuple_of : Cal P w K mg base "tuple_of" ["value", "low", "high"] 1 (SpP fr_tuple_of)) : FnOk P w K mg base CX0 2 f fd ["many", "value"] (SpP fr_is_pair) := by
  refine fn_pure F sc_is_pair (fun xs y ⟨n, a, b, h, _⟩ => by rw [h] <;> rfl) (fun cdv A outer s H E hr => ⟨_, (pss_cons (ps_if (PW.pt (pw_or (pt_not (pt_val (pe_cal c_tuple_of (hr.mono (by decide)) (by rfl) (pa_cons (pv 1) (pa_cons pe_int (pa_cons pe_int pa_nil)))))) (pw_or1 (pt_not (pt_val (pe_callB (cr_allK (K := K) rfl rfl) (by rfl) B.all_ boot_all (pa_cons (pe_lc (own := [("told", 2)]) (g := (gName 2)) rfl sc_is_pair.nd (pi_tupK (K := K) rfl (pv 1)) (blkOk_by (N := nm_is_pair) (sc := defScope s_is_pair) (own := [("told", 2)]) (by decide +kernel)) (fun _ _ _ _ _ => (pg_name (i := 2) sc_is_pair.nd rfl (by first | exact Or.inl rfl | exact Or.inr rfl))) (fun _ _ _ _ _ => pts_nil) (fun _ _ _ _ _ => (pe_cal c_whole (hr.mono (by decide)) (by rfl) (pa_cons (pv 2) pa_nil)))) pa_nil))))))) (pss_one (ps_ret pe_bl)) pss_nil)
    (pss_one (ps_ret (pe_chain3 op_le op_lt op_lt pe_int (pe_ix (ix_seqK (K := K) rfl) (pv 1) pe_int (fun _ _ => rfl)) (pe_ix (ix_seqK (K := K) rfl) (pv 1) pe_int (fun _ _ => rfl)) (pv 0))))), ?_⟩)
  rintro xs y ⟨n, a, b, rfl, rfl⟩
  refine ws_seq (ws_pass ((et_or (a := false) ((et_not (et_B (em_call (ea_cons (em_var rfl) (ea_cons em_int (ea_cons em_int ea_nil))) ⟨_, 2, 2, rfl, rfl⟩))).is rfl)
    (fun _ => (et_not (et_B (em_cb (ea_cons (em_lcN [a, b] PyData.int (fun _ => .bool true) (iv_tup (em_var rfl)) (by show 2 ≤ 50000; decide) fun i _ M' => em_call (ea_cons (em_var rfl) ea_nil) ⟨i, rfl, rfl⟩) ea_nil) rc_allB)))) (fun q => nomatch q)).is rfl) ?_)
  exact ws_ret (em_chain3 em_int (em_op (em_var rfl) em_int (rv_ixT (d := .int a) rfl)) rv_le (fun _ => em_op (em_var rfl) em_int (rv_ixT (d := .int b) rfl)) (fun _ => rv_lt) (fun _ _ => em_var rfl) (fun _ _ => rv_lt)) rfl
end
end DL


set_option Elab.async false
set_option linter.all false
set_option maxRecDepth 100000
set_option maxHeartbeats 4000000
namespace DL
open PySem PySem.Spec PyProof.Rows L2 Md
section
variable {P : Program} {w : World} {K : PySem.W.Frag} {mg : Str → Option Value} {base : Heap}
/-- sign in ALPHABET[:company[0]] -/
theorem in_alph {n a : Nat} (hn : n ≤ 8) (ha : a < n) : decide (a + 97 ∈ (cutS "abcdefgh" none (some (n : Nat))).cps.toList) = true := by
  rw [alph_cut hn, wd_tl]
  refine decide_eq_true (List.mem_map.mpr ⟨a, List.mem_range.mpr ha, rfl⟩)
theorem iv_wd {δ : Dl} {M M1 : Hp} {te : TE} {l : List Nat} (h : EvM te δ M (ds (wd l)) M1) : IvM (iStr te) δ M (l.map fun a => PyData.str ⟨#[a + 97]⟩) M1 := by
  rw [← wd_sg]
  exact iv_str h
abbrev s_is_word : Stmt := top 17
abbrev nm_is_word : List Str := ["company", "value", "most", "sign"]
theorem sc_is_word : FnScope nm_is_word ["company", "value", "most"] (defScope s_is_word) := ⟨rfl, rfl, rfl, by decide +kernel, rfl, by decide +kernel, by decide +kernel⟩
theorem ok_is_word {f : Addr} {fd : FuncData} (F : Fun K "is_word" "is_word" s_is_word f fd) (B : Bi mg) (Ct : Co mg) : FnOk P w K mg base CX0 1 f fd ["company", "value", "most"] (SpP fr_is_word) := by
  refine fn_pure F sc_is_word (fun xs y ⟨C, l, most, _, h, _⟩ => by rw [h] <;> rfl) (fun cdv A outer s H E hr => ⟨_, (pss_cons (ps_if (PW.pt (pw_or (pt_not (pt_val (pe_callB (call_isiK' (K := K) rfl) (by rfl) B.isinstance_ boot_isinstance (pa_cons (pv 1) (pa_cons (pe_bltn (v := .ty "str") (by rfl) B.str_ boot_str rfl) pa_nil))))) (pw_or1 (pt_not (pt_chain op_le op_le pe_int (pe_callB (call_lenK (K := K) rfl) (by rfl) B.len_ boot_len (pa_cons (pv 1) pa_nil)) (pv 2)))))) (pss_one (ps_ret pe_bl)) pss_nil)
    (pss_one (ps_ret (pe_callB (cr_allK (K := K) rfl rfl) (by rfl) B.all_ boot_all (pa_cons (pe_lc (own := [("sign", 3)]) (g := (gName 3)) rfl sc_is_word.nd (pi_str (pv 1)) (blkOk_by (N := nm_is_word) (sc := defScope s_is_word) (own := [("sign", 3)]) (by decide +kernel)) (fun _ _ _ _ _ => (pg_name (i := 3) sc_is_word.nd rfl (by first | exact Or.inl rfl | exact Or.inr rfl))) (fun _ _ _ _ _ => pts_nil) (fun _ _ _ _ _ => (pe_cmpR op_inS (pv 3) (pe_slice sl_str (pe_gl (by rfl) Ct.ALPHABET_) po_none (po_some (pe_ix (ix_seqK (K := K) rfl) (pv 0) pe_int (fun _ _ => rfl)))) rfl))) pa_nil))))), ?_⟩)
  rintro xs y ⟨C, l, most, ⟨hC, hl, h1, h2, h3⟩, rfl, rfl⟩
  refine ws_seq (ws_pass ((et_or (a := false) ((et_not (et_B (em_cb (ea_cons (em_var rfl) (ea_cons em_ty ea_nil)) (rc_isi (t := "str") (b := true) rfl (by decide +kernel))))).is rfl)
    (fun _ => et_not (et_test (em_chain em_int (em_cb (ea_cons (em_var rfl) ea_nil) (rc_lenS (by rw [wd_len]; omega))) rv_le (fun _ => em_var rfl) (fun _ => rv_le)))) (fun q => nomatch q)).is ?_) ?_)
  · rw [wd_len, decide_eq_true (by omega), decide_eq_true (by omega)] <;> rfl
  · refine ws_ret ((em_cb (ea_cons (em_lcN l _ (fun _ => .bool true) (iv_wd (em_var rfl)) (by omega) fun a ha M' =>
      (em_op (em_var rfl) (em_slS em_str eo_none (eo_some (em_op (em_var rfl) em_int (rv_ixT (d := .int (C.n : Nat)) rfl))) (by decide +kernel)) rv_inS).is ?_) ea_nil) rc_allB).is ?_) rfl
    · rw [in_alph hC.hi (hl a ha)]
    · have e : l.all (fun _ => true) = true := List.all_eq_true.mpr fun _ _ => rfl
      rw [e]
abbrev s_need_word : Stmt := top 18
abbrev nm_need_word : List Str := ["company", "word"]
theorem sc_need_word : FnScope nm_need_word ["company", "word"] (defScope s_need_word) := ⟨rfl, rfl, rfl, by decide +kernel, rfl, by decide +kernel, by decide +kernel⟩
theorem ok_need_word {f : Addr} {fd : FuncData} (F : Fun K "need_word" "need_word" s_need_word f fd) (Ct : Co mg) (c_is_word : Cal P w K mg base "is_word" ["company", "value", "most"] 1 (SpP fr_is_word)) : FnOk P w K mg base CX0 2 f fd ["company", "word"] (SpP fr_need_word) := by
  refine fn_pure F sc_need_word (fun xs y ⟨C, l, _, h, _⟩ => by rw [h] <;> rfl) (fun cdv A outer s H E hr => ⟨_, (pss_one (ps_if (pt_not (pt_val (pe_cal c_is_word (hr.mono (by decide)) (by rfl) (pa_cons (pv 0) (pa_cons (pv 1) (pa_cons (pe_gl (by rfl) Ct.MOST_WORD_) pa_nil)))))) pss_never pss_nil)), ?_⟩)
  rintro xs y ⟨C, l, ⟨hC, hl, h1, h2⟩, rfl, rfl⟩
  exact ws_pass ((et_not (et_B (em_call (ea_cons (em_var rfl) (ea_cons (em_var rfl) (ea_cons em_int ea_nil))) ⟨C, l, 60, ⟨hC, hl, h1, by omega, h2⟩, rfl, rfl⟩))).is rfl) rfl
abbrev s_is_set : Stmt := top 19
abbrev nm_is_set : List Str := ["company", "value", "at", "sign"]
theorem sc_is_set : FnScope nm_is_set ["company", "value"] (defScope s_is_set) := ⟨rfl, rfl, rfl, by decide +kernel, rfl, by decide +kernel, by decide +kernel⟩
theorem ok_is_set {f : Addr} {fd : FuncData} (F : Fun K "is_set" "is_set" s_is_set f fd) (B : Bi mg) (Ct : Co mg) : FnOk P w K mg base CX0 1 f fd ["company", "value"] (SpP fr_is_set) := by
  refine fn_pure F sc_is_set (fun xs y ⟨C, m, _, h, _⟩ => by rw [h] <;> rfl) (fun cdv A outer s H E hr => ⟨_, (pss_cons (ps_if (PW.pt (pw_or (pt_not (pt_val (pe_callB (call_isiK' (K := K) rfl) (by rfl) B.isinstance_ boot_isinstance (pa_cons (pv 1) (pa_cons (pe_bltn (v := .ty "str") (by rfl) B.str_ boot_str rfl) pa_nil))))) (pw_or1 (pt_cmpR op_gt (pe_callB (call_lenK (K := K) rfl) (by rfl) B.len_ boot_len (pa_cons (pv 1) pa_nil)) (pe_ix (ix_seqK (K := K) rfl) (pv 0) pe_int (fun _ _ => rfl)) (nomark _))))) (pss_one (ps_ret pe_bl)) pss_nil)
    (pss_cons (ps_if (pt_not (pt_val (pe_callB (cr_allK (K := K) rfl rfl) (by rfl) B.all_ boot_all (pa_cons (pe_lc (own := [("sign", 3)]) (g := (gName 3)) rfl sc_is_set.nd (pi_str (pv 1)) (blkOk_by (N := nm_is_set) (sc := defScope s_is_set) (own := [("sign", 3)]) (by decide +kernel)) (fun _ _ _ _ _ => (pg_name (i := 3) sc_is_set.nd rfl (by first | exact Or.inl rfl | exact Or.inr rfl))) (fun _ _ _ _ _ => pts_nil) (fun _ _ _ _ _ => (pe_cmpR op_inS (pv 3) (pe_slice sl_str (pe_gl (by rfl) Ct.ALPHABET_) po_none (po_some (pe_ix (ix_seqK (K := K) rfl) (pv 0) pe_int (fun _ _ => rfl)))) rfl))) pa_nil)))) (pss_one (ps_ret pe_bl)) pss_nil)
    (pss_one (ps_ret (pe_callB (cr_allK (K := K) rfl rfl) (by rfl) B.all_ boot_all (pa_cons (pe_lc (own := [("at", 2)]) (g := (gName 2)) rfl sc_is_set.nd (pi_range1 (by rfl) B.range_ (pa_cons (pe_op op_sub (pe_callB (call_lenK (K := K) rfl) (by rfl) B.len_ boot_len (pa_cons (pv 1) pa_nil)) pe_int) pa_nil)) (blkOk_by (N := nm_is_set) (sc := defScope s_is_set) (own := [("at", 2)]) (by decide +kernel)) (fun _ _ _ _ _ => (pg_name (i := 2) sc_is_set.nd rfl (by first | exact Or.inl rfl | exact Or.inr rfl))) (fun _ _ _ _ _ => pts_nil) (fun _ _ _ _ _ => (pe_cmpR op_ltS (pe_ix (ix_seqK (K := K) rfl) (pv 1) (pv 2) (fun _ _ => rfl)) (pe_ix (ix_seqK (K := K) rfl) (pv 1) (pe_op op_add (pv 2) pe_int) (fun _ _ => rfl)) (nomark _)))) pa_nil)))))), ?_⟩)
  rintro xs y ⟨C, m, ⟨hC, hm⟩, rfl, rfl⟩
  have hz := bs_len m
  have hle := bs_le hC.hi hm
  refine ws_seq (ws_pass ((et_or (a := false) ((et_not (et_B (em_cb (ea_cons (em_var rfl) (ea_cons em_ty ea_nil)) (rc_isi (t := "str") (b := true) rfl (by decide +kernel))))).is rfl)
    (fun _ => et_test (em_op (em_cb (ea_cons (em_var rfl) ea_nil) (rc_lenS (by rw [lt_len]; unfold pc; omega))) (em_op (em_var rfl) em_int (rv_ixT (d := .int (C.n : Nat)) rfl)) rv_gt)) (fun q => nomatch q)).is ?_) ?_)
  · rw [lt_len, decide_eq_false (by unfold pc; omega)] <;> rfl
  refine ws_seq (ws_pass ((et_not (et_B (em_cb (ea_cons (em_lcN (bs m) _ (fun _ => .bool true) (iv_wd (em_var rfl)) (by omega) fun a ha M' =>
      (em_op (em_var rfl) (em_slS em_str eo_none (eo_some (em_op (em_var rfl) em_int (rv_ixT (d := .int (C.n : Nat)) rfl))) (by decide +kernel)) rv_inS).is ?_) ea_nil) rc_allB))).is ?_) ?_)
  · rw [in_alph hC.hi (bs_mem hm ha)]
  · have e : (bs m).all (fun _ => true) = true := List.all_eq_true.mpr fun _ _ => rfl
    rw [e] <;> rfl
  have hat : ∀ i, i < (bs m).length → atI (lt m).cps.toList (i : Nat) = some ((bs m).getD i 0 + 97) := fun i hi => by
    refine atI_nat ?_
    unfold lt
    rw [wd_tl, List.getElem?_map, List.getElem?_eq_getElem hi, List.getD_eq_getElem?_getD, List.getElem?_eq_getElem hi] <;> rfl
  refine ws_ret ((em_cb (ea_cons (em_lcN (List.range ((bs m).length - 1)) (fun i => .int (i : Nat)) (fun _ => .bool true)
    (iv_rgi (ea_cons (em_op (em_cb (ea_cons (em_var rfl) ea_nil) (rc_lenS (by rw [lt_len]; unfold pc; omega))) em_int rv_sub) ea_nil) (by rw [lt_len]; unfold pc; omega) (by rw [lt_len]; unfold pc; omega)) (by rw [List.length_range]; omega) fun i hi M' => ?_) ea_nil) rc_allB).is ?_) rfl
  · have hi' : i + 1 < (bs m).length := by have := List.mem_range.mp hi; omega
    refine (em_op (em_op (em_var rfl) (em_var rfl) (rv_ixS (by rw [lt_len]; unfold pc; omega) (hat i (by omega)))) (em_op (em_var rfl) (em_op (em_var rfl) em_int rv_add) (rv_ixS (by rw [lt_len]; unfold pc; omega) (hat (i + 1) hi'))) rv_ltS).is ?_
    have hlt : (bs m).getD i 0 < (bs m).getD (i + 1) 0 := by
      rw [List.getD_eq_getElem?_getD, List.getElem?_eq_getElem (by omega), List.getD_eq_getElem?_getD, List.getElem?_eq_getElem hi']
      exact List.pairwise_iff_getElem.mp (bs_up m) i (i + 1) (by omega) hi' (by omega)
    rw [decide_eq_true]
    show [(bs m).getD i 0 + 97] < [(bs m).getD (i + 1) 0 + 97]
    rw [List.cons_lt_cons_iff]
    exact .inl (by omega)
  · have e : (List.range ((bs m).length - 1)).all (fun _ => true) = true := List.all_eq_true.mpr fun _ _ => rfl
    rw [e]
abbrev s_need_set : Stmt := top 20
abbrev nm_need_set : List Str := ["company", "letters"]
theorem sc_need_set : FnScope nm_need_set ["company", "letters"] (defScope s_need_set) := ⟨rfl, rfl, rfl, by decide +kernel, rfl, by decide +kernel, by decide +kernel⟩
theorem ok_need_set {f : Addr} {fd : FuncData} (F : Fun K "need_set" "need_set" s_need_set f fd) (c_is_set : Cal P w K mg base "is_set" ["company", "value"] 1 (SpP fr_is_set)) : FnOk P w K mg base CX0 2 f fd ["company", "letters"] (SpP fr_need_set) := by
  refine fn_pure F sc_need_set (fun xs y ⟨C, m, _, h, _⟩ => by rw [h] <;> rfl) (fun cdv A outer s H E hr => ⟨_, (pss_one (ps_if (pt_not (pt_val (pe_cal c_is_set (hr.mono (by decide)) (by rfl) (pa_cons (pv 0) (pa_cons (pv 1) pa_nil))))) pss_never pss_nil)), ?_⟩)
  rintro xs y ⟨C, m, ⟨hC, hm⟩, rfl, rfl⟩
  exact ws_pass ((et_not (et_B (em_call (ea_cons (em_var rfl) (ea_cons (em_var rfl) ea_nil)) ⟨C, m, ⟨hC, hm⟩, rfl, rfl⟩))).is rfl) rfl
abbrev s_is_kind : Stmt := top 21
abbrev nm_is_kind : List Str := ["company", "value"]
theorem sc_is_kind : FnScope nm_is_kind ["company", "value"] (defScope s_is_kind) := ⟨rfl, rfl, rfl, by decide +kernel, rfl, by decide +kernel, by decide +kernel⟩
theorem ok_is_kind {f : Addr} {fd : FuncData} (F : Fun K "is_kind" "is_kind" s_is_kind f fd) (c_within : Cal P w K mg base "within" ["value", "low", "high"] 2 (SpP fr_within)) (c_is_set : Cal P w K mg base "is_set" ["company", "value"] 1 (SpP fr_is_set)) (c_tuple_of : Cal P w K mg base "tuple_of" ["value", "low", "high"] 1 (SpP fr_tuple_of)) : FnOk P w K mg base CX0 3 f fd ["company", "value"] (SpP fr_is_kind) := by
  refine fn_pure F sc_is_kind (fun xs y ⟨C, k, _, h, _⟩ => by rw [h] <;> rfl) (fun cdv A outer s H E hr => ⟨_, (pss_one (ps_ret (pe_and (pe_cal c_tuple_of (hr.mono (by decide)) (by rfl) (pa_cons (pv 1) (pa_cons pe_int (pa_cons pe_int pa_nil)))) (pe_and (pe_cal c_is_set (hr.mono (by decide)) (by rfl) (pa_cons (pv 0) (pa_cons (pe_ix (ix_seqK (K := K) rfl) (pv 1) pe_int (fun _ _ => rfl)) pa_nil))) (pe_one (pe_cal c_within (hr.mono (by decide)) (by rfl) (pa_cons (pe_ix (ix_seqK (K := K) rfl) (pv 1) pe_int (fun _ _ => rfl)) (pa_cons pe_int (pa_cons pe_int pa_nil))))))))), ?_⟩)
  rintro xs y ⟨C, k, ⟨hC, hk⟩, rfl, rfl⟩
  refine ws_ret ((em_andV ((em_call (ea_cons (em_var rfl) (ea_cons em_int (ea_cons em_int ea_nil))) ⟨_, 2, 2, rfl, rfl⟩).is rfl) fun _ => em_andV (em_call (ea_cons (em_var rfl) (ea_cons (em_op (em_var rfl) em_int (rv_ixT (d := .str (lt k.1)) rfl)) ea_nil)) ⟨C, k.1, ⟨hC, hk.m⟩, rfl, rfl⟩) fun _ =>
    em_call (ea_cons (em_op (em_var rfl) em_int (rv_ixT (d := .int (k.2 : Nat)) rfl)) (ea_cons em_int (ea_cons em_int ea_nil))) ⟨_, 0, 1, rfl, rfl⟩).is ?_) rfl
  have := hk.s
  rw [decide_eq_true (show (0 : Int) ≤ (k.2 : Nat) by omega), decide_eq_true (show ((k.2 : Nat) : Int) ≤ 1 by omega)] <;> rfl
abbrev s_need_kind : Stmt := top 22
abbrev nm_need_kind : List Str := ["company", "kind"]
theorem sc_need_kind : FnScope nm_need_kind ["company", "kind"] (defScope s_need_kind) := ⟨rfl, rfl, rfl, by decide +kernel, rfl, by decide +kernel, by decide +kernel⟩
theorem ok_need_kind {f : Addr} {fd : FuncData} (F : Fun K "need_kind" "need_kind" s_need_kind f fd) (c_is_kind : Cal P w K mg base "is_kind" ["company", "value"] 3 (SpP fr_is_kind)) : FnOk P w K mg base CX0 4 f fd ["company", "kind"] (SpP fr_need_kind) := by
  refine fn_pure F sc_need_kind (fun xs y ⟨C, k, _, h, _⟩ => by rw [h] <;> rfl) (fun cdv A outer s H E hr => ⟨_, (pss_one (ps_if (pt_not (pt_val (pe_cal c_is_kind (hr.mono (by decide)) (by rfl) (pa_cons (pv 0) (pa_cons (pv 1) pa_nil))))) pss_never pss_nil)), ?_⟩)
  rintro xs y ⟨C, k, ⟨hC, hk⟩, rfl, rfl⟩
  exact ws_pass ((et_not (et_B (em_call (ea_cons (em_var rfl) (ea_cons (em_var rfl) ea_nil)) ⟨C, k, ⟨hC, hk⟩, rfl, rfl⟩))).is rfl) rfl
end
end DL


set_option Elab.async false
set_option linter.all false
set_option maxRecDepth 100000
set_option maxHeartbeats 4000000
namespace DL
open PySem PySem.Spec PyProof.Rows L2 Md
section
variable {P : Program} {w : World} {K : PySem.W.Frag} {mg : Str → Option Value} {base : Heap}
theorem iv_wd3 {δ : Dl} {M M1 : Hp} {te : TE} {l : List Nat} (h : EvM te δ M (ds (wd l)) M1) : IvM (iStr te) δ M (l.map fun a => PyData.str ⟨#[a + 97]⟩) M1 := by
  rw [← wd_sg]
  exact iv_str h
abbrev s_mask_of : Stmt := top 23
abbrev nm_mask_of : List Str := ["letters", "sign"]
theorem sc_mask_of : FnScope nm_mask_of ["letters"] (defScope s_mask_of) := ⟨rfl, rfl, rfl, by decide +kernel, rfl, by decide +kernel, by decide +kernel⟩
theorem ok_mask_of {f : Addr} {fd : FuncData} (F : Fun K "mask_of" "mask_of" s_mask_of f fd) (B : Bi mg) (Ct : Co mg) : FnOk P w K mg base CX0 1 f fd ["letters"] (SpP fr_mask_of) := by
  refine fn_pure F sc_mask_of (fun xs y ⟨m, _, h, _⟩ => by rw [h] <;> rfl) (fun cdv A outer s H E hr => ⟨_, (pss_one (ps_ret (pe_callB (cr_sumK (K := K) rfl rfl) (by rfl) B.sum_ boot_sum (pa_cons (pe_lc (own := [("sign", 1)]) (g := (gName 1)) rfl sc_mask_of.nd (pi_str (pv 0)) (blkOk_by (N := nm_mask_of) (sc := defScope s_mask_of) (own := [("sign", 1)]) (by decide +kernel)) (fun _ _ _ _ _ => (pg_name (i := 1) sc_mask_of.nd rfl (by first | exact Or.inl rfl | exact Or.inr rfl))) (fun _ _ _ _ _ => pts_nil) (fun _ _ _ _ _ => (pe_op op_shl pe_int (pe_bmK (K := K) rfl PySem.F.plainAttrs_str PySem.F.slot_str_index PySem.F.type_str_index mt_sIndex (pe_gl (by rfl) Ct.ALPHABET_) (pa_cons (pv 1) pa_nil))))) pa_nil)))), ?_⟩)
  rintro xs y ⟨m, hm, rfl, rfl⟩
  have hz := bs_len m
  refine ws_ret ((em_cb (ea_cons (em_lcN (bs m) _ (fun a => .int (2 ^ a : Nat)) (iv_wd3 (em_var rfl)) (by omega) fun a ha M' => ?_) ea_nil) rc_sumB).is ?_) rfl
  · have h8 := bs_lt ha
    refine (em_op em_int (em_sIndex em_str (ea_cons (em_var rfl) ea_nil) (alph_ix a h8)) (rv_shl (CPow_ok (i := 1) (by decide) (by omega)))).is ?_
    show di ((1 : Int) * 2 ^ ((a : Nat) : Int).toNat) = _
    rw [shl_nat]
  · rw [sum_nat (fun a => 2 ^ a), bs_sum m hm]
theorem bit1 (m i : Nat) : decide (Builtin.bitAnd ((m : Int) / 2 ^ ((i : Nat) : Int).toNat) 1 = 1) = m.testBit i := by
  rw [shr_nat]
  have h := band_nat (m >>> i) 1
  have e : ((1 : Nat) : Int) = 1 := rfl
  rw [e] at h
  rw [h, tb_and1]
  cases m.testBit i <;> decide
theorem lens_ones (l : List Nat) : ((l.map fun i => wd [i]).map (·.length)).sum = l.length := by
  induction l with
  | nil => rfl
  | cons a l ih =>
    rw [List.map_cons, List.map_cons, List.sum_cons, ih, wd_len]
    simp
    omega
theorem flat_ones (l : List Nat) : (l.map fun i => [i]).flatten = l := by
  induction l with
  | nil => rfl
  | cons a l ih =>
    rw [List.map_cons, List.flatten_cons, ih]
    rfl
theorem join_ones (l : List Nat) : Txt.join "" (l.map fun i => wd [i]) = wd l := by
  have h := join_wd (l.map fun i => [i])
  rw [List.map_map, flat_ones] at h
  exact h
abbrev s_letters_of : Stmt := top 24
abbrev nm_letters_of : List Str := ["mask", "at"]
theorem sc_letters_of : FnScope nm_letters_of ["mask"] (defScope s_letters_of) := ⟨rfl, rfl, rfl, by decide +kernel, rfl, by decide +kernel, by decide +kernel⟩
theorem ok_letters_of {f : Addr} {fd : FuncData} (F : Fun K "letters_of" "letters_of" s_letters_of f fd) (B : Bi mg) (Ct : Co mg) : FnOk P w K mg base CX0 1 f fd ["mask"] (SpP fr_letters_of) := by
  refine fn_pure F sc_letters_of (fun xs y ⟨m, _, h, _⟩ => by rw [h] <;> rfl) (fun cdv A outer s H E hr => ⟨_, (pss_one (ps_ret (pe_bmK (K := K) rfl PySem.F.plainAttrs_str PySem.F.slot_str_join PySem.F.type_str_join (mt_sJoinK (K := K) rfl) pe_str (pa_cons (pe_lc (own := [("at", 1)]) (g := (gName 1)) rfl sc_letters_of.nd (pi_range1 (by rfl) B.range_ (pa_cons (pe_gl (by rfl) Ct.MOST_LETTERS_) pa_nil)) (blkOk_by (N := nm_letters_of) (sc := defScope s_letters_of) (own := [("at", 1)]) (by decide +kernel)) (fun _ _ _ _ _ => (pg_name (i := 1) sc_letters_of.nd rfl (by first | exact Or.inl rfl | exact Or.inr rfl))) (fun _ _ _ _ _ => pts_one (pt_cmpR op_eq (pe_op op_and (pe_op op_shr (pv 0) (pv 1)) pe_int) pe_int (nomark _))) (fun _ _ _ _ _ => (pe_ix (ix_seqK (K := K) rfl) (pe_gl (by rfl) Ct.ALPHABET_) (pv 1) (fun _ _ => rfl)))) pa_nil)))), ?_⟩)
  rintro xs y ⟨m, hm, rfl, rfl⟩
  have hz := bs_len m
  refine ws_ret ((em_sJoinB (bs := bs m) (g := fun i => wd [i]) em_str (ea_cons (em_lcNF (List.range 8) (fun i => .int (i : Nat)) m.testBit (fun i => .str (wd [i])) (iv_rg (ea_cons em_int ea_nil) (by decide)) (by decide) (fun i hi M' => ?_) (fun i hi hb M' => ?_)) ea_nil) ?_).is ?_) rfl
  · refine ETM.is (et_test (em_op (em_op (em_op (em_var rfl) (em_var rfl) (rv_shr (Int.natCast_nonneg i))) em_int rv_and) em_int rv_eq)) (bit1 m i)
  · exact (em_op em_str (em_var rfl) (rv_ixS (by decide +kernel) (alph_at (List.mem_range.mp hi)))).is rfl
  · rw [lens_ones]
    show _ + _ * 0 ≤ 16777216
    omega
  · rw [join_ones]
    rfl
abbrev s_bits : Stmt := top 25
abbrev nm_bits : List Str := ["mask", "found"]
theorem sc_bits : FnScope nm_bits ["mask"] (defScope s_bits) := ⟨rfl, rfl, rfl, by decide +kernel, rfl, by decide +kernel, by decide +kernel⟩
theorem ok_bits {f : Addr} {fd : FuncData} (F : Fun K "bits" "bits" s_bits f fd) : FnOk P w K mg base CX0 1 f fd ["mask"] (SpP fr_bits) := by
  refine fn_pure F sc_bits (fun xs y ⟨m, _, h, _⟩ => by rw [h] <;> rfl) (fun cdv A outer s H E hr => ⟨_, (pss_cons (ps_set (i := 1) sc_bits.nd rfl (Or.inl rfl) pe_int)
    (pss_cons (ps_while PassesOwn.never (pt_cmpR op_gt (pv 0) pe_int (nomark _)) (pss_one (ps_par (i := 1) (j := 0) rfl sc_bits.nd rfl rfl (by decide) rfl rfl (pa_cons (pe_op op_add (pv 1) pe_int) (pa_cons (pe_op op_and (pv 0) (pe_op op_sub (pv 0) pe_int)) pa_nil)) (by rfl))))
    (pss_one (ps_ret (pv 1))))), ?_⟩)
  rintro xs y ⟨m, hm, rfl, rfl⟩
  refine ws_seq (ws_set em_int ?_)
  refine ws_seq (ws_while (fun j δ1 M1 => ∃ m' : Nat, j = pc m' ∧ m' < 256 ∧ pc m' ≤ pc m ∧ δ1 = [some (di (m' : Nat)), some (di (pc m - pc m' : Nat))]) (pc m) ⟨m, rfl, hm, Nat.le_refl _, by rw [Nat.sub_self] <;> rfl⟩ ?_)
  rintro j δ1 M1 ⟨m', rfl, hm', hle, rfl⟩
  by_cases h0 : 0 < m'
  · obtain ⟨h1, h2⟩ := low_bit m' hm' h0
    refine ⟨true, (et_test (em_op (em_var rfl) em_int rv_gt)).is (decide_eq_true (by omega)), fun _ => ?_, fun q => nomatch q⟩
    refine ws_par (ea_cons (em_op (em_var rfl) em_int rv_add) (ea_cons (em_op (em_var rfl) (em_op (em_var rfl) em_int rv_sub) rv_and) ea_nil)) ?_
    have e1 : ((m' : Nat) : Int) - 1 = ((m' - 1 : Nat) : Int) := by omega
    have e2 : ((pc m - pc m' : Nat) : Int) + 1 = ((pc m - pc (m' &&& (m' - 1)) : Nat) : Int) := by omega
    refine ⟨pc (m' &&& (m' - 1)), by omega, m' &&& (m' - 1), rfl, h2, by omega, ?_⟩
    rw [e1, band_nat, e2]
    rfl
  · have e0 : m' = 0 := by omega
    subst e0
    refine ⟨false, (et_test (em_op (em_var rfl) em_int rv_gt)).is (decide_eq_false (by omega)), (fun q => nomatch q), fun _ => ?_⟩
    have p0 : pc 0 = 0 := by decide
    rw [p0, Nat.sub_zero]
    exact ws_ret (em_var rfl) rfl
theorem band2 (a b : Bool) : ((if a then 1 else 0 : Nat) = 1 ∧ (if b then 1 else 0 : Nat) = 1) ↔ (a && b) = true := by cases a <;> cases b <;> decide
abbrev s_crossed : Stmt := top 26
abbrev nm_crossed : List Str := ["company", "one", "other", "first", "second"]
theorem sc_crossed : FnScope nm_crossed ["company", "one", "other"] (defScope s_crossed) := ⟨rfl, rfl, rfl, by decide +kernel, rfl, by decide +kernel, by decide +kernel⟩
theorem ok_crossed {f : Addr} {fd : FuncData} (F : Fun K "crossed" "crossed" s_crossed f fd) (B : Bi mg) : FnOk P w K mg base CX0 1 f fd ["company", "one", "other"] (SpP fr_crossed) := by
  refine fn_pure F sc_crossed (fun xs y ⟨C, a, b, _, h, _⟩ => by rw [h] <;> rfl) (fun cdv A outer s H E hr => ⟨_, (pss_one (ps_ret (pe_callB (cr_sumK (K := K) rfl rfl) (by rfl) B.sum_ boot_sum (pa_cons (pe_lc (own := [("first", 3), ("second", 4)]) (g := (gTup K 2 (gCons (gName 3) (gCons (gName 4) gNil)))) rfl sc_crossed.nd (pi_tupK (K := K) rfl (pe_ix (ix_seqK (K := K) rfl) (pv 0) pe_int (fun _ _ => rfl))) (blkOk_by (N := nm_crossed) (sc := defScope s_crossed) (own := [("first", 3), ("second", 4)]) (by decide +kernel)) (fun _ _ _ _ _ => (pg_tup rfl (pgs_cons (pg_name (i := 3) sc_crossed.nd rfl (by first | exact Or.inl rfl | exact Or.inr rfl)) (pgs_cons (pg_name (i := 4) sc_crossed.nd rfl (by first | exact Or.inl rfl | exact Or.inr rfl)) pgs_nil)))) (fun _ _ _ _ _ => pts_nil) (fun _ _ _ _ _ => (pe_op op_and (pe_op op_and (pe_op op_shr (pv 1) (pv 4)) (pe_op op_shr (pv 2) (pv 3))) pe_int))) pa_nil)))), ?_⟩)
  rintro xs y ⟨C, a, b, ⟨hC, ha, hb⟩, rfl, rfl⟩
  refine ws_ret ((em_cb (ea_cons (em_lc2 C.ps (fun p => .int (p.1 : Nat)) (fun p => .int (p.2 : Nat)) (fun p => .int ((if a.testBit p.2 && b.testBit p.1 then 1 else 0 : Nat) : Nat)) (iv_tup (em_op (em_var rfl) em_int (rv_ixT rfl))) (by have := hC.sz; omega) fun p hp M' => ?_) ea_nil) rc_sumB).is ?_) rfl
  · refine (em_op (em_op (em_op (em_var rfl) (em_var rfl) (rv_shr (Int.natCast_nonneg p.2))) (em_op (em_var rfl) (em_var rfl) (rv_shr (Int.natCast_nonneg p.1))) rv_and) em_int rv_and).is ?_
    rw [shr_nat, shr_nat, band_nat]
    have h := band_nat ((a >>> p.2) &&& (b >>> p.1)) 1
    have e : ((1 : Nat) : Int) = 1 := rfl
    rw [e] at h
    rw [h]
    have e2 : ((a >>> p.2) &&& (b >>> p.1)) &&& 1 = ((a >>> p.2) &&& 1) &&& ((b >>> p.1) &&& 1) := by
      refine Nat.eq_of_testBit_eq fun i => ?_
      simp only [Nat.testBit_and]
      cases (a >>> p.2).testBit i <;> cases (b >>> p.1).testBit i <;> cases (Nat.testBit 1 i) <;> rfl
    rw [e2, tb_and1, tb_and1]
    cases a.testBit p.2 <;> cases b.testBit p.1 <;> rfl
  · rw [sum_nat (fun p : Nat × Nat => if a.testBit p.2 && b.testBit p.1 then 1 else 0)]
    have : ∀ l : List (Nat × Nat), (l.map fun p => if (a.testBit p.2 && b.testBit p.1) = true then 1 else 0).sum = (l.filter fun p => a.testBit p.2 && b.testBit p.1).length := by
      intro l
      induction l with
      | nil => rfl
      | cons p l ih =>
        rw [List.map_cons, List.sum_cons, ih, List.filter_cons]
        by_cases h : (a.testBit p.2 && b.testBit p.1) = true
        · rw [if_pos h, if_pos h, List.length_cons]; omega
        · rw [if_neg h, if_neg h]; omega
    rw [this]
    rfl
abbrev s_joined : Stmt := top 27
abbrev nm_joined : List Str := ["company", "one", "other", "sign"]
theorem sc_joined : FnScope nm_joined ["company", "one", "other"] (defScope s_joined) := ⟨rfl, rfl, rfl, by decide +kernel, rfl, by decide +kernel, by decide +kernel⟩
theorem ok_joined {f : Addr} {fd : FuncData} (F : Fun K "joined" "joined" s_joined f fd) (c_crossed : Cal P w K mg base "crossed" ["company", "one", "other"] 1 (SpP fr_crossed)) (c_bits : Cal P w K mg base "bits" ["mask"] 1 (SpP fr_bits)) : FnOk P w K mg base CX0 2 f fd ["company", "one", "other"] (SpP fr_joined) := by
  refine fn_pure F sc_joined (fun xs y ⟨C, a, b, _, h, _⟩ => by rw [h] <;> rfl) (fun cdv A outer s H E hr => ⟨_, (pss_cons (ps_set (i := 3) sc_joined.nd rfl (Or.inl rfl) (pe_op op_add (pe_op op_add (pe_op op_add (pe_ix (ix_seqK (K := K) rfl) (pv 1) pe_int (fun _ _ => rfl)) (pe_ix (ix_seqK (K := K) rfl) (pv 2) pe_int (fun _ _ => rfl))) (pe_cal c_crossed (hr.mono (by decide)) (by rfl) (pa_cons (pv 0) (pa_cons (pe_ix (ix_seqK (K := K) rfl) (pv 1) pe_int (fun _ _ => rfl)) (pa_cons (pe_ix (ix_seqK (K := K) rfl) (pv 2) pe_int (fun _ _ => rfl)) pa_nil))))) (pe_cal c_bits (hr.mono (by decide)) (by rfl) (pa_cons (pe_op op_and (pe_ix (ix_seqK (K := K) rfl) (pv 1) pe_int (fun _ _ => rfl)) (pe_ix (ix_seqK (K := K) rfl) (pv 2) pe_int (fun _ _ => rfl))) pa_nil))))
    (pss_one (ps_ret (pe_tup (pa_cons (pe_op op_xor (pe_ix (ix_seqK (K := K) rfl) (pv 1) pe_int (fun _ _ => rfl)) (pe_ix (ix_seqK (K := K) rfl) (pv 2) pe_int (fun _ _ => rfl))) (pa_cons (pe_op op_mod (pv 3) pe_int) pa_nil)))))), ?_⟩)
  rintro xs y ⟨C, a, b, ⟨hC, ha, hb⟩, rfl, rfl⟩
  refine ws_seq (ws_set (em_op (em_op (em_op (em_op (em_var rfl) em_int (rv_ixT (d := .int (a.2 : Nat)) rfl)) (em_op (em_var rfl) em_int (rv_ixT (d := .int (b.2 : Nat)) rfl)) rv_add)
    (em_call (ea_cons (em_var rfl) (ea_cons (em_op (em_var rfl) em_int (rv_ixT (d := .int (a.1 : Nat)) rfl)) (ea_cons (em_op (em_var rfl) em_int (rv_ixT (d := .int (b.1 : Nat)) rfl)) ea_nil))) ⟨C, a.1, b.1, ⟨hC, ha, hb⟩, rfl, rfl⟩) rv_add)
    (em_call (x := di (pc (a.1 &&& b.1) : Nat)) (ea_cons (em_op (em_op (em_var rfl) em_int (rv_ixT (d := .int (a.1 : Nat)) rfl)) (em_op (em_var rfl) em_int (rv_ixT (d := .int (b.1 : Nat)) rfl)) rv_and) ea_nil) ⟨a.1 &&& b.1, Nat.lt_of_le_of_lt Nat.and_le_left ha, by rw [band_nat], rfl⟩) rv_add) ?_)
  refine ws_ret ((em_tup (xs := [_, _]) (ea_cons (em_op (em_op (em_var rfl) em_int (rv_ixT (d := .int (a.1 : Nat)) rfl)) (em_op (em_var rfl) em_int (rv_ixT (d := .int (b.1 : Nat)) rfl)) rv_xor) (ea_cons (em_op (em_var rfl) em_int (rv_mod (by decide))) ea_nil)) (by show 2 ≤ 1000; decide)).is ?_) rfl
  rw [bxor_nat]
  have e : ((a.2 : Nat) : Int) + (b.2 : Nat) + (cr C a.1 b.1 : Nat) + (pc (a.1 &&& b.1) : Nat) = ((a.2 + b.2 + cr C a.1 b.1 + pc (a.1 &&& b.1) : Nat) : Int) := by omega
  rw [e]
  rfl
abbrev s_inner : Stmt := top 28
abbrev nm_inner : List Str := ["kind"]
theorem sc_inner : FnScope nm_inner ["kind"] (defScope s_inner) := ⟨rfl, rfl, rfl, by decide +kernel, rfl, by decide +kernel, by decide +kernel⟩
theorem ok_inner {f : Addr} {fd : FuncData} (F : Fun K "inner" "inner" s_inner f fd) (c_mask_of : Cal P w K mg base "mask_of" ["letters"] 1 (SpP fr_mask_of)) : FnOk P w K mg base CX0 2 f fd ["kind"] (SpP fr_inner) := by
  refine fn_pure F sc_inner (fun xs y ⟨k, _, h, _⟩ => by rw [h] <;> rfl) (fun cdv A outer s H E hr => ⟨_, (pss_one (ps_ret (pe_tup (pa_cons (pe_cal c_mask_of (hr.mono (by decide)) (by rfl) (pa_cons (pe_ix (ix_seqK (K := K) rfl) (pv 0) pe_int (fun _ _ => rfl)) pa_nil)) (pa_cons (pe_ix (ix_seqK (K := K) rfl) (pv 0) pe_int (fun _ _ => rfl)) pa_nil))))), ?_⟩)
  rintro xs y ⟨k, hk, rfl, rfl⟩
  exact ws_ret (em_tup (xs := [_, _]) (ea_cons (em_call (ea_cons (em_op (em_var rfl) em_int (rv_ixT (d := .str (lt k.1)) rfl)) ea_nil) ⟨k.1, hk, rfl, rfl⟩) (ea_cons (em_op (em_var rfl) em_int (rv_ixT (d := .int (k.2 : Nat)) rfl)) ea_nil)) (by show 2 ≤ 1000; decide)) rfl
abbrev s_outer : Stmt := top 29
abbrev nm_outer : List Str := ["pair"]
theorem sc_outer : FnScope nm_outer ["pair"] (defScope s_outer) := ⟨rfl, rfl, rfl, by decide +kernel, rfl, by decide +kernel, by decide +kernel⟩
theorem ok_outer {f : Addr} {fd : FuncData} (F : Fun K "outer" "outer" s_outer f fd) (c_letters_of : Cal P w K mg base "letters_of" ["mask"] 1 (SpP fr_letters_of)) : FnOk P w K mg base CX0 2 f fd ["pair"] (SpP fr_outer) := by
  refine fn_pure F sc_outer (fun xs y ⟨k, _, h, _⟩ => by rw [h] <;> rfl) (fun cdv A outer s H E hr => ⟨_, (pss_one (ps_ret (pe_tup (pa_cons (pe_cal c_letters_of (hr.mono (by decide)) (by rfl) (pa_cons (pe_ix (ix_seqK (K := K) rfl) (pv 0) pe_int (fun _ _ => rfl)) pa_nil)) (pa_cons (pe_ix (ix_seqK (K := K) rfl) (pv 0) pe_int (fun _ _ => rfl)) pa_nil))))), ?_⟩)
  rintro xs y ⟨k, hk, rfl, rfl⟩
  exact ws_ret (em_tup (xs := [_, _]) (ea_cons (em_call (ea_cons (em_op (em_var rfl) em_int (rv_ixT (d := .int (k.1 : Nat)) rfl)) ea_nil) ⟨k.1, hk, rfl, rfl⟩) (ea_cons (em_op (em_var rfl) em_int (rv_ixT (d := .int (k.2 : Nat)) rfl)) ea_nil)) (by show 2 ≤ 1000; decide)) rfl
end
end DL


set_option Elab.async false
set_option linter.all false
set_option maxRecDepth 100000
set_option maxHeartbeats 4000000
namespace DL
open PySem PySem.Spec PyProof.Rows L2 Md
section
variable {P : Program} {w : World} {K : PySem.W.Frag} {mg : Str → Option Value} {base : Heap}
theorem all_true {β : Type} (l : List β) : l.all (fun _ => true) = true := List.all_eq_true.mpr fun _ _ => rfl
abbrev s_need_company : Stmt := top 16
abbrev nm_need_company : List Str := ["company", "many", "friends", "index", "pair", "letter"]
theorem sc_need_company : FnScope nm_need_company ["company"] (defScope s_need_company) := ⟨rfl, rfl, rfl, by decide +kernel, rfl, by decide +kernel, by decide +kernel⟩
theorem ok_need_company {f : Addr} {fd : FuncData} (F : Fun K "need_company" "need_company" s_need_company f fd) (B : Bi mg) (Ct : Co mg) (c_is_pair : Cal P w K mg base "is_pair" ["many", "value"] 2 (SpP fr_is_pair)) (c_tuple_of : Cal P w K mg base "tuple_of" ["value", "low", "high"] 1 (SpP fr_tuple_of)) (c_within : Cal P w K mg base "within" ["value", "low", "high"] 2 (SpP fr_within)) : FnOk P w K mg base CX0 3 f fd ["company"] (SpP fr_need_company) := by
  refine fn_pure F sc_need_company (fun xs y ⟨C, _, h, _⟩ => by rw [h] <;> rfl) (fun cdv A outer s H E hr => ⟨_, (pss_cons (ps_if (PW.pt (pw_or (pt_not (pt_val (pe_cal c_tuple_of (hr.mono (by decide)) (by rfl) (pa_cons (pv 0) (pa_cons pe_int (pa_cons pe_int pa_nil)))))) (pw_or (pt_not (pt_val (pe_cal c_within (hr.mono (by decide)) (by rfl) (pa_cons (pe_ix (ix_seqK (K := K) rfl) (pv 0) pe_int (fun _ _ => rfl)) (pa_cons pe_int (pa_cons (pe_gl (by rfl) Ct.MOST_LETTERS_) pa_nil)))))) (pw_or1 (pt_not (pt_val (pe_cal c_tuple_of (hr.mono (by decide)) (by rfl) (pa_cons (pe_ix (ix_seqK (K := K) rfl) (pv 0) pe_int (fun _ _ => rfl)) (pa_cons pe_int (pa_cons pe_int pa_nil)))))))))) pss_never pss_nil)
    (pss_cons (ps_asg (pv 0) (pg_tup rfl (pgs_cons (pg_name (i := 1) sc_need_company.nd rfl (by first | exact Or.inl rfl | exact Or.inr rfl)) (pgs_cons (pg_name (i := 2) sc_need_company.nd rfl (by first | exact Or.inl rfl | exact Or.inr rfl)) pgs_nil))))
    (pss_cons (ps_for PassesOwn.never rfl (pi_enumT (by rfl) B.enumerate_ (pa_cons (pv 2) pa_nil)) (pg_tup rfl (pgs_cons (pg_name (i := 3) sc_need_company.nd rfl (by first | exact Or.inl rfl | exact Or.inr rfl)) (pgs_cons (pg_name (i := 4) sc_need_company.nd rfl (by first | exact Or.inl rfl | exact Or.inr rfl)) pgs_nil))) (pss_one (ps_if (PW.pt (pw_or (pt_not (pt_val (pe_cal c_is_pair (hr.mono (by decide)) (by rfl) (pa_cons (pv 1) (pa_cons (pv 4) pa_nil))))) (pw_or1 (PW.pt (pw_and (pt_cmpR op_gt (pv 3) pe_int (nomark _)) (pw_and1 (pt_cmpR (op_leTK (K := K) rfl hr.units0) (pv 4) (pe_ix (ix_seqK (K := K) rfl) (pv 2) (pe_op op_sub (pv 3) pe_int) (fun _ _ => rfl)) (nomark _)))))))) pss_never pss_nil)))
    (pss_one (ps_if (pt_not (pt_val (pe_callB (cr_allK (K := K) rfl rfl) (by rfl) B.all_ boot_all (pa_cons (pe_lc (own := [("letter", 5)]) (g := (gName 5)) rfl sc_need_company.nd (pi_range1 (by rfl) B.range_ (pa_cons (pv 1) pa_nil)) (blkOk_by (N := nm_need_company) (sc := defScope s_need_company) (own := [("letter", 5)]) (by decide +kernel)) (fun _ _ _ _ _ => (pg_name (i := 5) sc_need_company.nd rfl (by first | exact Or.inl rfl | exact Or.inr rfl))) (fun _ _ _ _ _ => pts_nil) (fun _ _ _ _ _ => (pe_callB (cr_anyK (K := K) rfl rfl) (by rfl) B.any_ boot_any (pa_cons (pe_lc (own := [("pair", 4)]) (g := (gName 4)) rfl sc_need_company.nd (pi_tupK (K := K) rfl (pv 2)) (blkOk_by (N := nm_need_company) (sc := relS { kind := .function, names := [(".0", .local), ("letter", .cell), ("any", .globalImplicit), ("friends", .free)], isGenerator := false, isCoroutine := false } (defScope s_need_company)) (own := [("pair", 4)]) (by decide +kernel)) (fun _ _ _ _ _ => (pg_name (i := 4) sc_need_company.nd rfl (by first | exact Or.inl rfl | exact Or.inr rfl))) (fun _ _ _ _ _ => pts_nil) (fun _ _ _ _ _ => (pe_cmpR (op_in_seqK (K := K) rfl) (pv 5) (pv 4) rfl))) pa_nil)))) pa_nil)))) pss_never pss_nil))))), ?_⟩)
  rintro xs y ⟨C, hC, rfl, rfl⟩
  have hlo := hC.lo
  have hhi := hC.hi
  have hsz := hC.sz
  have hpos : 1 ≤ C.ps.length := by
    obtain ⟨p, hp, _⟩ := hC.fr 0 (by omega)
    exact List.length_pos_of_mem hp
  refine ws_seq (ws_pass ((et_or (a := false) ((et_not (et_B (em_call (ea_cons (em_var rfl) (ea_cons em_int (ea_cons em_int ea_nil))) ⟨_, 2, 2, rfl, rfl⟩))).is rfl)
    (fun _ => et_or (a := false) ((et_not (et_B (em_call (ea_cons (em_op (em_var rfl) em_int (rv_ixT (d := .int (C.n : Nat)) rfl)) (ea_cons em_int (ea_cons em_int ea_nil))) ⟨_, 2, 8, rfl, rfl⟩))).is ?_)
      (fun _ => (et_not (et_B (em_call (ea_cons (em_op (em_var rfl) em_int (rv_ixT (d := .tuple (C.ps.map prD)) rfl)) (ea_cons em_int (ea_cons em_int ea_nil))) ⟨_, 1, 28, rfl, rfl⟩))).is (b := false) ?_) (fun q => nomatch q)) (fun q => nomatch q)).is rfl) ?_)
  · rw [decide_eq_true (show (2 : Int) ≤ (C.n : Nat) by omega), decide_eq_true (show ((C.n : Nat) : Int) ≤ 8 by omega)] <;> rfl
  · rw [List.length_map, decide_eq_true (show (1 : Int) ≤ (C.ps.length : Nat) by omega), decide_eq_true (show ((C.ps.length : Nat) : Int) ≤ 28 by omega)] <;> rfl
  refine ws_seq (ws_tup (em_var rfl) ?_)
  refine ws_seq (ws_for (iv_enumT (ea_cons (em_var rfl) ea_nil)) (fun _ δ1 M1 => M1 = nom ∧ ∃ a b : Option Da, δ1 = [some (.d (comD C)), some (di (C.n : Nat)), some (.d (.tuple (C.ps.map prD))), a, b, none]) ⟨rfl, none, none, rfl⟩ ?_ ?_)
  · rintro i x δ1 M1 hx ⟨rfl, a, b, rfl⟩
    unfold enD at hx
    rw [List.getElem?_map, List.length_map] at hx
    cases q : (List.range C.ps.length)[i]? with
    | none =>
      rw [q] at hx
      cases hx
    | some j =>
      rw [q] at hx
      obtain ⟨hi, ej⟩ := List.getElem?_eq_some_iff.mp q
      rw [List.length_range] at hi
      rw [List.getElem_range] at ej
      subst ej
      have ex : x = .tuple [.int (i : Nat), prD C.ps[i]] := by
        have := (Option.some.inj hx).symm
        rw [this]
        show PyData.tuple [PyData.int (i : Nat), (List.map prD C.ps).getD i PyData.none] = _
        rw [List.getD_eq_getElem?_getD, List.getElem?_map, List.getElem?_eq_getElem hi] <;> rfl
      subst ex
      refine ⟨_, [3, 4], tg_two, ?_⟩
      have hp := hC.pr C.ps[i] (List.getElem_mem hi)
      refine ws_pass ((et_or (a := false) ((et_not (et_B (em_call (ea_cons (em_var rfl) (ea_cons (em_var rfl) ea_nil)) ⟨C.n, C.ps[i].1, C.ps[i].2, rfl, rfl⟩))).is ?_)
        (fun _ => (et_and (et_test (em_op (em_var rfl) em_int rv_gt)) (b := false) (fun hi0 => ?_) (fun _ => rfl)).is (Bool.and_false _)) (fun q => nomatch q)).is rfl) ⟨rfl, _, _, rfl⟩
      · rw [decide_eq_true (show (0 : Int) ≤ (C.ps[i].1 : Nat) by omega), decide_eq_true (show ((C.ps[i].1 : Nat) : Int) < (C.ps[i].2 : Nat) by omega), decide_eq_true (show ((C.ps[i].2 : Nat) : Int) < (C.n : Nat) by omega)] <;> rfl
      · have h0 : 0 < i := by have := of_decide_eq_true hi0; omega
        have hat : atI (C.ps.map prD) ((i : Nat) - 1 : Int) = some (prD (C.ps[i - 1]'(by omega))) := by
          have e : ((i : Nat) : Int) - 1 = ((i - 1 : Nat) : Int) := by omega
          rw [e]
          refine atI_nat ?_
          rw [List.getElem?_map, List.getElem?_eq_getElem (by omega)] <;> rfl
        refine (et_test (em_op (em_var rfl) (em_op (em_var rfl) (em_op (em_var rfl) em_int rv_sub) (rv_ixT hat)) rv_le2)).is ?_
        have hs := List.pairwise_iff_getElem.mp hC.srt (i - 1) i (by omega) hi (by omega)
        rcases hs with h | ⟨h1, h2⟩
        · rw [if_neg (by omega)]
          exact decide_eq_false (by omega)
        · rw [if_pos (by omega), if_neg (by omega)]
          exact decide_eq_false (by omega)
  · rintro δ1 M1 ⟨rfl, a, b, rfl⟩
    refine ws_pass ((et_not (et_B (em_cb (ea_cons (em_lcN (List.range C.n) (fun i => .int (i : Nat)) (fun _ => .bool true) (iv_rg (ea_cons (em_var rfl) ea_nil) (by omega)) (by rw [List.length_range]; omega) fun i hi M' =>
      (em_cb (ea_cons (em_lcN C.ps prD (fun p => .bool (decide (((p.1 : Nat) : Int) = (i : Nat)) || decide (((p.2 : Nat) : Int) = (i : Nat)))) (iv_tup (em_var rfl)) (by omega) fun p hp M2 => em_op (em_var rfl) (em_var rfl) rv_in2) ea_nil) rc_anyB).is ?_) ea_nil) rc_allB))).is ?_) rfl
    · obtain ⟨p, hp, h⟩ := hC.fr i (List.mem_range.mp hi)
      have e : (C.ps.any fun p => decide (((p.1 : Nat) : Int) = (i : Nat)) || decide (((p.2 : Nat) : Int) = (i : Nat))) = true := List.any_eq_true.mpr ⟨p, hp, by
        rcases h with h | h
        · rw [decide_eq_true (by omega)] <;> rfl
        · rw [Bool.or_eq_true]
          exact .inr (decide_eq_true (by omega))⟩
      rw [e]
    · rw [all_true] <;> rfl
theorem lt_has {m a : Nat} (ha : a < 8) : decide (a + 97 ∈ (lt m).cps.toList) = m.testBit a := by
  unfold lt
  rw [wd_tl]
  cases h : m.testBit a with
  | true => exact decide_eq_true (List.mem_map.mpr ⟨a, List.mem_filter.mpr ⟨List.mem_range.mpr ha, h⟩, rfl⟩)
  | false =>
    refine decide_eq_false fun z => ?_
    obtain ⟨b, hb, e⟩ := List.mem_map.mp z
    have e2 : b = a := by omega
    rw [e2] at hb
    rw [bs_bit hb] at h
    cases h
abbrev s_friends_within : Stmt := top 32
abbrev nm_friends_within : List Str := ["company", "told", "pair"]
theorem sc_friends_within : FnScope nm_friends_within ["company", "told"] (defScope s_friends_within) := ⟨rfl, rfl, rfl, by decide +kernel, rfl, by decide +kernel, by decide +kernel⟩
theorem ok_friends_within {f : Addr} {fd : FuncData} (F : Fun K "friends_within" "friends_within" s_friends_within f fd) (B : Bi mg) (Ct : Co mg) (c_need_set : Cal P w K mg base "need_set" ["company", "letters"] 2 (SpP fr_need_set)) (c_need_company : Cal P w K mg base "need_company" ["company"] 3 (SpP fr_need_company)) : FnOk P w K mg base CX0 4 f fd ["company", "told"] (SpP fr_friends_within) := by
  refine fn_pure F sc_friends_within (fun xs y ⟨C, m, _, h, _⟩ => by rw [h] <;> rfl) (fun cdv A outer s H E hr => ⟨_, (pss_cons (ps_expr (pe_cal c_need_company (hr.mono (by decide)) (by rfl) (pa_cons (pv 0) pa_nil)))
    (pss_cons (ps_expr (pe_cal c_need_set (hr.mono (by decide)) (by rfl) (pa_cons (pv 0) (pa_cons (pv 1) pa_nil))))
    (pss_one (ps_ret (pe_callB (call_lenK (K := K) rfl) (by rfl) B.len_ boot_len (pa_cons (pe_lc (own := [("pair", 2)]) (g := (gName 2)) rfl sc_friends_within.nd (pi_tupK (K := K) rfl (pe_ix (ix_seqK (K := K) rfl) (pv 0) pe_int (fun _ _ => rfl))) (blkOk_by (N := nm_friends_within) (sc := defScope s_friends_within) (own := [("pair", 2)]) (by decide +kernel)) (fun _ _ _ _ _ => (pg_name (i := 2) sc_friends_within.nd rfl (by first | exact Or.inl rfl | exact Or.inr rfl))) (fun _ _ _ _ _ => pts_one (PW.pt (pw_and (pt_cmpR op_inS (pe_ix (ix_seqK (K := K) rfl) (pe_gl (by rfl) Ct.ALPHABET_) (pe_ix (ix_seqK (K := K) rfl) (pv 2) pe_int (fun _ _ => rfl)) (fun _ _ => rfl)) (pv 1) rfl) (pw_and1 (pt_cmpR op_inS (pe_ix (ix_seqK (K := K) rfl) (pe_gl (by rfl) Ct.ALPHABET_) (pe_ix (ix_seqK (K := K) rfl) (pv 2) pe_int (fun _ _ => rfl)) (fun _ _ => rfl)) (pv 1) rfl))))) (fun _ _ _ _ _ => (pv 2))) pa_nil)))))), ?_⟩)
  rintro xs y ⟨C, m, ⟨hC, hm⟩, rfl, rfl⟩
  refine ws_seq (ws_drop (em_call (ea_cons (em_var rfl) ea_nil) ⟨C, hC, rfl, rfl⟩) ?_)
  refine ws_seq (ws_drop (em_call (ea_cons (em_var rfl) (ea_cons (em_var rfl) ea_nil)) ⟨C, m, ⟨hC, hm⟩, rfl, rfl⟩) ?_)
  have h8 : ∀ p ∈ C.ps, p.1 < 8 ∧ p.2 < 8 := fun p hp => by
    have := hC.pr p hp
    have := hC.hi
    omega
  refine ws_ret ((em_cb (ea_cons (em_lcNF C.ps prD (fun p => m.testBit p.1 && m.testBit p.2) prD (iv_tup (em_op (em_var rfl) em_int (rv_ixT (d := .tuple (C.ps.map prD)) rfl))) (by have := hC.sz; omega) (fun p hp M' => ?_) (fun p hp _ M' => em_var rfl)) ea_nil) rc_lenL).is ?_) rfl
  · refine et_and ((et_test (em_op (em_op em_str (em_op (em_var rfl) em_int (rv_ixT (d := .int (p.1 : Nat)) rfl)) (rv_ixS (by decide +kernel) (alph_at (h8 p hp).1))) (em_var rfl) rv_inS)).is (lt_has (h8 p hp).1))
      (fun _ => (et_test (em_op (em_op em_str (em_op (em_var rfl) em_int (rv_ixT (d := .int (p.2 : Nat)) rfl)) (rv_ixS (by decide +kernel) (alph_at (h8 p hp).2))) (em_var rfl) rv_inS)).is (lt_has (h8 p hp).2)) (fun _ => rfl)
  · rw [List.length_map] <;> rfl
abbrev s_need_both : Stmt := top 34
abbrev nm_need_both : List Str := ["company", "word"]
theorem sc_need_both : FnScope nm_need_both ["company", "word"] (defScope s_need_both) := ⟨rfl, rfl, rfl, by decide +kernel, rfl, by decide +kernel, by decide +kernel⟩
theorem ok_need_both {f : Addr} {fd : FuncData} (F : Fun K "need_both" "need_both" s_need_both f fd) (c_need_word : Cal P w K mg base "need_word" ["company", "word"] 2 (SpP fr_need_word)) (c_need_company : Cal P w K mg base "need_company" ["company"] 3 (SpP fr_need_company)) : FnOk P w K mg base CX0 4 f fd ["company", "word"] (SpP fr_need_both) := by
  refine fn_pure F sc_need_both (fun xs y ⟨C, l, _, h, _⟩ => by rw [h] <;> rfl) (fun cdv A outer s H E hr => ⟨_, (pss_cons (ps_expr (pe_cal c_need_company (hr.mono (by decide)) (by rfl) (pa_cons (pv 0) pa_nil)))
    (pss_one (ps_expr (pe_cal c_need_word (hr.mono (by decide)) (by rfl) (pa_cons (pv 0) (pa_cons (pv 1) pa_nil)))))), ?_⟩)
  rintro xs y ⟨C, l, ⟨hC, hl, h1, h2⟩, rfl, rfl⟩
  refine ws_seq (ws_drop (em_call (ea_cons (em_var rfl) ea_nil) ⟨C, hC, rfl, rfl⟩) ?_)
  exact ws_drop (em_call (ea_cons (em_var rfl) (ea_cons (em_var rfl) ea_nil)) ⟨C, l, ⟨hC, hl, h1, h2⟩, rfl, rfl⟩) rfl
theorem kw_take {C : Com} {l : List Nat} {i a : Nat} (h : l[i]? = some a) : kw C (l.take (i + 1)) = jn C (kw C (l.take i)) (2 ^ a, 0) := by
  rw [List.take_add_one, h]
  exact kw_snoc a _
theorem p256 {a : Nat} (h : a < 8) : 2 ^ a < 256 := Nat.pow_lt_pow_right (by decide) h
theorem iv_wd4 {δ : Dl} {M M1 : Hp} {te : TE} {l : List Nat} (h : EvM te δ M (ds (wd l)) M1) : IvM (iStr te) δ M (l.map fun a => PyData.str ⟨#[a + 97]⟩) M1 := by
  rw [← wd_sg]
  exact iv_str h
abbrev s_kind_of : Stmt := top 35
abbrev nm_kind_of : List Str := ["company", "word", "found", "sign"]
theorem sc_kind_of : FnScope nm_kind_of ["company", "word"] (defScope s_kind_of) := ⟨rfl, rfl, rfl, by decide +kernel, rfl, by decide +kernel, by decide +kernel⟩
theorem ok_kind_of {f : Addr} {fd : FuncData} (F : Fun K "kind_of" "kind_of" s_kind_of f fd) (Ct : Co mg) (c_joined : Cal P w K mg base "joined" ["company", "one", "other"] 2 (SpP fr_joined)) : FnOk P w K mg base CX0 3 f fd ["company", "word"] (SpP fr_kind_of) := by
  refine fn_pure F sc_kind_of (fun xs y ⟨C, l, _, h, _⟩ => by rw [h] <;> rfl) (fun cdv A outer s H E hr => ⟨_, (pss_cons (ps_set (i := 2) sc_kind_of.nd rfl (Or.inl rfl) (pe_tup (pa_cons pe_int (pa_cons pe_int pa_nil))))
    (pss_cons (ps_for PassesOwn.never rfl (pi_str (pv 1)) (pg_name (i := 3) sc_kind_of.nd rfl (by first | exact Or.inl rfl | exact Or.inr rfl)) (pss_one (ps_set (i := 2) sc_kind_of.nd rfl (Or.inl rfl) (pe_cal c_joined (hr.mono (by decide)) (by rfl) (pa_cons (pv 0) (pa_cons (pv 2) (pa_cons (pe_tup (pa_cons (pe_op op_shl pe_int (pe_bmK (K := K) rfl PySem.F.plainAttrs_str PySem.F.slot_str_index PySem.F.type_str_index mt_sIndex (pe_gl (by rfl) Ct.ALPHABET_) (pa_cons (pv 3) pa_nil))) (pa_cons pe_int pa_nil))) pa_nil)))))))
    (pss_one (ps_ret (pv 2))))), ?_⟩)
  rintro xs y ⟨C, l, ⟨hC, hl, h60⟩, rfl, rfl⟩
  refine ws_seq (ws_set (em_tup (xs := [.int 0, .int 0]) (ea_cons em_int (ea_cons em_int ea_nil)) (by show 2 ≤ 1000; decide)) ?_)
  refine ws_seq (ws_for (iv_wd4 (em_var rfl)) (fun i δ1 M1 => M1 = nom ∧ ∃ z : Option Da, δ1 = [some (.d (comD C)), some (ds (wd l)), some (.d (prD (kw C (l.take i)))), z]) ⟨rfl, none, rfl⟩ ?_ ?_)
  · rintro i x δ1 M1 hx ⟨rfl, z, rfl⟩
    rw [List.getElem?_map] at hx
    cases q : l[i]? with
    | none =>
      rw [q] at hx
      cases hx
    | some a =>
      rw [q] at hx
      have ex : x = .str ⟨#[a + 97]⟩ := (Option.some.inj hx).symm
      subst ex
      have ha : a < 8 := by
        have := hl a (List.mem_of_getElem? q)
        have := hC.hi
        omega
      have hk : (kw C (l.take i)).1 < 256 := lt256 hC.hi (kw_ok hC fun b hb => hl b (List.mem_of_mem_take hb)).m
      refine ⟨_, [3], tg_name, ws_set (em_call (ea_cons (em_var rfl) (ea_cons (em_var rfl) (ea_cons (em_tup (xs := [.int (2 ^ a : Nat), .int 0]) (ea_cons ((em_op em_int (em_sIndex em_str (ea_cons (em_var rfl) ea_nil) (alph_ix a ha)) (rv_shl (CPow_ok (i := 1) (by decide) (by omega)))).is ?_) (ea_cons em_int ea_nil)) (by show 2 ≤ 1000; decide)) ea_nil)))
        ⟨C, kw C (l.take i), (2 ^ a, 0), ⟨hC, hk, p256 ha⟩, rfl, rfl⟩) ⟨rfl, some (ds ⟨#[a + 97]⟩), ?_⟩⟩
      · show di ((1 : Int) * 2 ^ ((a : Nat) : Int).toNat) = _
        have e : (1 : Int) * 2 ^ ((a : Nat) : Int).toNat = ((2 ^ a : Nat) : Int) := shl_nat a
        rw [e]
      · rw [kw_take q]
        rfl
  · rintro δ1 M1 ⟨rfl, z, rfl⟩
    rw [List.length_map, List.take_length]
    exact ws_ret (em_var rfl) rfl
abbrev s_length_of : Stmt := top 37
abbrev nm_length_of : List Str := ["company", "told", "letters", "sign"]
theorem sc_length_of : FnScope nm_length_of ["company", "told"] (defScope s_length_of) := ⟨rfl, rfl, rfl, by decide +kernel, rfl, by decide +kernel, by decide +kernel⟩
theorem ok_length_of {f : Addr} {fd : FuncData} (F : Fun K "length_of" "length_of" s_length_of f fd) (B : Bi mg) (c_friends_within : Cal P w K mg base "friends_within" ["company", "told"] 4 (SpP fr_friends_within)) : FnOk P w K mg base CX0 5 f fd ["company", "told"] (SpP fr_length_of) := by
  refine fn_pure F sc_length_of (fun xs y ⟨C, k, _, h, _⟩ => by rw [h] <;> rfl) (fun cdv A outer s H E hr => ⟨_, (pss_cons (ps_asg (pv 1) (pg_tup rfl (pgs_cons (pg_name (i := 2) sc_length_of.nd rfl (by first | exact Or.inl rfl | exact Or.inr rfl)) (pgs_cons (pg_name (i := 3) sc_length_of.nd rfl (by first | exact Or.inl rfl | exact Or.inr rfl)) pgs_nil))))
    (pss_cons (ps_if (pt_cmpR op_eq (pv 2) pe_str (nomark _)) (pss_one (ps_ret (pe_ifExp (pt_cmpR op_eq (pv 3) pe_int (nomark _)) pe_int pe_int))) pss_nil)
    (pss_cons (ps_if (PW.pt (pw_or (pt_cmpR op_eq (pv 3) pe_int (nomark _)) (pw_or1 (pt_cmpR op_gt (pe_cal c_friends_within (hr.mono (by decide)) (by rfl) (pa_cons (pv 0) (pa_cons (pv 2) pa_nil))) pe_int (nomark _))))) (pss_one (ps_ret (pe_callB (call_lenK (K := K) rfl) (by rfl) B.len_ boot_len (pa_cons (pv 2) pa_nil)))) pss_nil)
    (pss_one (ps_ret (pe_op op_add (pe_callB (call_lenK (K := K) rfl) (by rfl) B.len_ boot_len (pa_cons (pv 2) pa_nil)) pe_int)))))), ?_⟩)
  rintro xs y ⟨C, k, ⟨hC, hk⟩, rfl, rfl⟩
  have h256 := lt256 hC.hi hk.m
  have hz : (lt k.1).length ≤ 100000 := by
    have := bs_len k.1
    rw [lt_len]
    unfold pc
    omega
  refine ws_seq (ws_tup (em_var rfl) ?_)
  refine ws_seq (ws_if (et_test (em_op (em_var rfl) em_str rv_eqS)) (fun h0 => ?_) (fun h0 => ?_))
  · have e0 : k.1 = 0 := (lt_nil _ h256).mp (of_decide_eq_true h0)
    refine ws_ret (em_if (b := decide (k.2 = 1)) ((et_test (em_op (em_var rfl) em_int rv_eq)).is ?_) (fun h1 => em_int.is ?_) (fun h1 => em_int.is ?_)) rfl
    · by_cases h : k.2 = 1
      · rw [decide_eq_true h, decide_eq_true (by omega)]
      · rw [decide_eq_false h, decide_eq_false (by omega)]
    · unfold ll
      rw [if_pos e0, if_pos (of_decide_eq_true h1)] <;> rfl
    · unfold ll
      rw [if_pos e0, if_neg (of_decide_eq_false h1)] <;> rfl
  · have n0 : ¬ k.1 = 0 := fun z => of_decide_eq_false h0 ((lt_nil _ h256).mpr z)
    refine ws_next (ws_seq (ws_if (b := decide (k.2 = 0 ∨ 0 < fw C k.1)) ((et_or (et_test (em_op (em_var rfl) em_int rv_eq)) (fun _ => et_test (em_op (em_call (ea_cons (em_var rfl) (ea_cons (em_var rfl) ea_nil)) ⟨C, k.1, ⟨hC, hk.m⟩, rfl, rfl⟩) em_int rv_gt)) (fun _ => rfl)).is ?_) (fun h1 => ?_) (fun h1 => ?_)))
    · by_cases h : k.2 = 0
      · rw [decide_eq_true (show ((k.2 : Nat) : Int) = 0 by omega), decide_eq_true (show k.2 = 0 ∨ 0 < fw C k.1 from .inl h)] <;> rfl
      · rw [decide_eq_false (show ¬ ((k.2 : Nat) : Int) = 0 by omega)]
        by_cases h2 : 0 < fw C k.1
        · rw [decide_eq_true (show (0 : Int) < (fw C k.1 : Nat) by omega), decide_eq_true (show k.2 = 0 ∨ 0 < fw C k.1 from .inr h2)] <;> rfl
        · rw [decide_eq_false (show ¬ (0 : Int) < (fw C k.1 : Nat) by omega), decide_eq_false (show ¬ (k.2 = 0 ∨ 0 < fw C k.1) by omega)] <;> rfl
    · refine ws_ret ((em_cb (ea_cons (em_var rfl) ea_nil) (rc_lenS hz)).is ?_) rfl
      rw [lt_len]
      unfold ll
      rw [if_neg n0, if_pos (of_decide_eq_true h1)]
    · refine ws_next (ws_ret ((em_op (em_cb (ea_cons (em_var rfl) ea_nil) (rc_lenS hz)) em_int rv_add).is ?_) rfl)
      rw [lt_len]
      unfold ll
      rw [if_neg n0, if_neg (of_decide_eq_false h1)] <;> rfl
abbrev s_least_length : Stmt := top 38
abbrev nm_least_length : List Str := ["company", "kind"]
theorem sc_least_length : FnScope nm_least_length ["company", "kind"] (defScope s_least_length) := ⟨rfl, rfl, rfl, by decide +kernel, rfl, by decide +kernel, by decide +kernel⟩
theorem ok_least_length {f : Addr} {fd : FuncData} (F : Fun K "least_length" "least_length" s_least_length f fd) (c_length_of : Cal P w K mg base "length_of" ["company", "told"] 5 (SpP fr_length_of)) (c_need_kind : Cal P w K mg base "need_kind" ["company", "kind"] 4 (SpP fr_need_kind)) (c_need_company : Cal P w K mg base "need_company" ["company"] 3 (SpP fr_need_company)) : FnOk P w K mg base CX0 6 f fd ["company", "kind"] (SpP fr_length_of) := by
  refine fn_pure F sc_least_length (fun xs y ⟨C, k, _, h, _⟩ => by rw [h] <;> rfl) (fun cdv A outer s H E hr => ⟨_, (pss_cons (ps_expr (pe_cal c_need_company (hr.mono (by decide)) (by rfl) (pa_cons (pv 0) pa_nil)))
    (pss_cons (ps_expr (pe_cal c_need_kind (hr.mono (by decide)) (by rfl) (pa_cons (pv 0) (pa_cons (pv 1) pa_nil))))
    (pss_one (ps_ret (pe_cal c_length_of (hr.mono (by decide)) (by rfl) (pa_cons (pv 0) (pa_cons (pv 1) pa_nil))))))), ?_⟩)
  rintro xs y ⟨C, k, ⟨hC, hk⟩, rfl, rfl⟩
  refine ws_seq (ws_drop (em_call (ea_cons (em_var rfl) ea_nil) ⟨C, hC, rfl, rfl⟩) ?_)
  refine ws_seq (ws_drop (em_call (ea_cons (em_var rfl) (ea_cons (em_var rfl) ea_nil)) ⟨C, k, ⟨hC, hk⟩, rfl, rfl⟩) ?_)
  exact ws_ret (em_call (ea_cons (em_var rfl) (ea_cons (em_var rfl) ea_nil)) ⟨C, k, ⟨hC, hk⟩, rfl, rfl⟩) rfl
abbrev s_has_length : Stmt := top 39
abbrev nm_has_length : List Str := ["company", "told", "length"]
theorem sc_has_length : FnScope nm_has_length ["company", "told", "length"] (defScope s_has_length) := ⟨rfl, rfl, rfl, by decide +kernel, rfl, by decide +kernel, by decide +kernel⟩
theorem ok_has_length {f : Addr} {fd : FuncData} (F : Fun K "has_length" "has_length" s_has_length f fd) (B : Bi mg) (c_length_of : Cal P w K mg base "length_of" ["company", "told"] 5 (SpP fr_length_of)) : FnOk P w K mg base CX0 6 f fd ["company", "told", "length"] (SpP fr_has_length) := by
  refine fn_pure F sc_has_length (fun xs y ⟨C, k, L, _, h, _⟩ => by rw [h] <;> rfl) (fun cdv A outer s H E hr => ⟨_, (pss_one (ps_ret (pe_and (pe_cmpR op_ge (pv 2) (pe_cal c_length_of (hr.mono (by decide)) (by rfl) (pa_cons (pv 0) (pa_cons (pv 1) pa_nil))) (nomark _)) (pe_one (pe_cmpR op_eq (pe_op op_mod (pe_op op_sub (pv 2) (pe_callB (call_lenK (K := K) rfl) (by rfl) B.len_ boot_len (pa_cons (pe_ix (ix_seqK (K := K) rfl) (pv 1) pe_int (fun _ _ => rfl)) pa_nil))) pe_int) pe_int (nomark _)))))), ?_⟩)
  rintro xs y ⟨C, k, L, ⟨hC, hk⟩, rfl, rfl⟩
  have hz : (lt k.1).length ≤ 100000 := by
    have := bs_len k.1
    rw [lt_len]
    unfold pc
    omega
  refine ws_ret ((em_andV (em_op (em_var rfl) (em_call (ea_cons (em_var rfl) (ea_cons (em_var rfl) ea_nil)) ⟨C, k, ⟨hC, hk⟩, rfl, rfl⟩) rv_ge) (fun _ =>
    em_op (em_op (em_op (em_var rfl) (em_cb (ea_cons (em_op (em_var rfl) em_int (rv_ixT (d := .str (lt k.1)) rfl)) ea_nil) (rc_lenS hz)) rv_sub) em_int (rv_mod (by decide))) em_int rv_eq)).is ?_) rfl
  rw [lt_len]
  unfold hasL
  have e1 : decide (((ll C k : Nat) : Int) ≤ (L : Nat)) = decide (ll C k ≤ L) := by
    by_cases h : ll C k ≤ L
    · rw [decide_eq_true h, decide_eq_true (by omega)]
    · rw [decide_eq_false h, decide_eq_false (by omega)]
  have e2 : decide ((((L : Nat) : Int) - (pc k.1 : Nat)) % 2 = 0) = decide ((L + pc k.1) % 2 = 0) := by
    by_cases h : (L + pc k.1) % 2 = 0
    · rw [decide_eq_true h, decide_eq_true (by omega)]
    · rw [decide_eq_false h, decide_eq_false (by omega)]
  rw [e1, e2]
abbrev s_is_length : Stmt := top 40
abbrev nm_is_length : List Str := ["company", "kind", "length"]
theorem sc_is_length : FnScope nm_is_length ["company", "kind", "length"] (defScope s_is_length) := ⟨rfl, rfl, rfl, by decide +kernel, rfl, by decide +kernel, by decide +kernel⟩
theorem ok_is_length {f : Addr} {fd : FuncData} (F : Fun K "is_length" "is_length" s_is_length f fd) (Ct : Co mg) (c_has_length : Cal P w K mg base "has_length" ["company", "told", "length"] 6 (SpP fr_has_length)) (c_need_number : Cal P w K mg base "need_number" ["value", "low", "high"] 3 (SpP fr_need_number)) (c_need_kind : Cal P w K mg base "need_kind" ["company", "kind"] 4 (SpP fr_need_kind)) (c_need_company : Cal P w K mg base "need_company" ["company"] 3 (SpP fr_need_company)) : FnOk P w K mg base CX0 7 f fd ["company", "kind", "length"] (SpP fr_is_length) := by
  refine fn_pure F sc_is_length (fun xs y ⟨C, k, L, _, h, _⟩ => by rw [h] <;> rfl) (fun cdv A outer s H E hr => ⟨_, (pss_cons (ps_expr (pe_cal c_need_company (hr.mono (by decide)) (by rfl) (pa_cons (pv 0) pa_nil)))
    (pss_cons (ps_expr (pe_cal c_need_kind (hr.mono (by decide)) (by rfl) (pa_cons (pv 0) (pa_cons (pv 1) pa_nil))))
    (pss_cons (ps_expr (pe_cal c_need_number (hr.mono (by decide)) (by rfl) (pa_cons (pv 2) (pa_cons pe_int (pa_cons (pe_gl (by rfl) Ct.MOST_WORD_) pa_nil)))))
    (pss_one (ps_ret (pe_cal c_has_length (hr.mono (by decide)) (by rfl) (pa_cons (pv 0) (pa_cons (pv 1) (pa_cons (pv 2) pa_nil))))))))), ?_⟩)
  rintro xs y ⟨C, k, L, ⟨hC, hk, h1, h2⟩, rfl, rfl⟩
  refine ws_seq (ws_drop (em_call (ea_cons (em_var rfl) ea_nil) ⟨C, hC, rfl, rfl⟩) ?_)
  refine ws_seq (ws_drop (em_call (ea_cons (em_var rfl) (ea_cons (em_var rfl) ea_nil)) ⟨C, k, ⟨hC, hk⟩, rfl, rfl⟩) ?_)
  refine ws_seq (ws_drop (em_call (ea_cons (em_var rfl) (ea_cons em_int (ea_cons em_int ea_nil))) ⟨L, 1, 60, ⟨by omega, by omega⟩, rfl, rfl⟩) ?_)
  exact ws_ret (em_call (ea_cons (em_var rfl) (ea_cons (em_var rfl) (ea_cons (em_var rfl) ea_nil))) ⟨C, k, L, ⟨hC, hk⟩, rfl, rfl⟩) rfl
abbrev s_behind : Stmt := top 42
abbrev nm_behind : List Str := ["company", "at", "pair", "rest"]
theorem sc_behind : FnScope nm_behind ["company", "at", "pair"] (defScope s_behind) := ⟨rfl, rfl, rfl, by decide +kernel, rfl, by decide +kernel, by decide +kernel⟩
theorem ok_behind {f : Addr} {fd : FuncData} (F : Fun K "behind" "behind" s_behind f fd) (c_joined : Cal P w K mg base "joined" ["company", "one", "other"] 2 (SpP fr_joined)) : FnOk P w K mg base CX0 3 f fd ["company", "at", "pair"] (SpP fr_behind) := by
  refine fn_pure F sc_behind (fun xs y ⟨C, a, k, _, h, _⟩ => by rw [h] <;> rfl) (fun cdv A outer s H E hr => ⟨_, (pss_cons (ps_set (i := 3) sc_behind.nd rfl (Or.inl rfl) (pe_cal c_joined (hr.mono (by decide)) (by rfl) (pa_cons (pv 0) (pa_cons (pe_tup (pa_cons (pe_op op_shl pe_int (pv 1)) (pa_cons pe_int pa_nil))) (pa_cons (pv 2) pa_nil)))))
    (pss_one (ps_ret (pe_tup (pa_cons (pe_ix (ix_seqK (K := K) rfl) (pv 3) pe_int (fun _ _ => rfl)) (pa_cons (pe_op op_sub pe_int (pe_ix (ix_seqK (K := K) rfl) (pv 3) pe_int (fun _ _ => rfl))) pa_nil)))))), ?_⟩)
  rintro xs y ⟨C, a, k, ⟨hC, hk, ha⟩, rfl, rfl⟩
  have h8 : a < 8 := by have := hC.hi; omega
  refine ws_seq (ws_set (em_call (ea_cons (em_var rfl) (ea_cons (em_tup (xs := [.int (2 ^ a : Nat), .int 0]) (ea_cons ((em_op em_int (em_var rfl) (rv_shl (CPow_ok (i := 1) (by decide) (by omega)))).is ?_) (ea_cons em_int ea_nil)) (by show 2 ≤ 1000; decide)) (ea_cons (em_var rfl) ea_nil)))
    ⟨C, (2 ^ a, 0), k, ⟨hC, p256 h8, lt256 hC.hi hk.m⟩, rfl, rfl⟩) ?_)
  · show di ((1 : Int) * 2 ^ ((a : Nat) : Int).toNat) = _
    have e : (1 : Int) * 2 ^ ((a : Nat) : Int).toNat = ((2 ^ a : Nat) : Int) := shl_nat a
    rw [e]
  · refine ws_ret ((em_tup (xs := [_, _]) (ea_cons (em_op (em_var rfl) em_int (rv_ixT (d := .int ((jn C (2 ^ a, 0) k).1 : Nat)) rfl)) (ea_cons (em_op em_int (em_op (em_var rfl) em_int (rv_ixT (d := .int ((jn C (2 ^ a, 0) k).2 : Nat)) rfl)) rv_sub) ea_nil)) (by show 2 ≤ 1000; decide)).is ?_) rfl
    have hlt : (jn C (2 ^ a, 0) k).2 < 2 := Nat.mod_lt _ (by decide)
    have e : (1 : Int) - ((jn C (2 ^ a, 0) k).2 : Nat) = ((1 - (jn C (2 ^ a, 0) k).2 : Nat) : Int) := by omega
    rw [e]
    rfl
abbrev s_is_open : Stmt := top 43
abbrev nm_is_open : List Str := ["company", "pair", "left"]
theorem sc_is_open : FnScope nm_is_open ["company", "pair", "left"] (defScope s_is_open) := ⟨rfl, rfl, rfl, by decide +kernel, rfl, by decide +kernel, by decide +kernel⟩
theorem ok_is_open {f : Addr} {fd : FuncData} (F : Fun K "is_open" "is_open" s_is_open f fd) (c_has_length : Cal P w K mg base "has_length" ["company", "told", "length"] 6 (SpP fr_has_length)) (c_outer : Cal P w K mg base "outer" ["pair"] 2 (SpP fr_outer)) : FnOk P w K mg base CX0 7 f fd ["company", "pair", "left"] (SpP fr_is_open) := by
  refine fn_pure F sc_is_open (fun xs y ⟨C, k, L, _, h, _⟩ => by rw [h] <;> rfl) (fun cdv A outer s H E hr => ⟨_, (pss_cons (ps_if (pt_cmpR op_eq (pv 2) pe_int (nomark _)) (pss_one (ps_ret (pe_cmpR (op_eqDK (K := K) rfl hr.units) (pv 1) (pe_tup (pa_cons pe_int (pa_cons pe_int pa_nil))) (nomark _)))) pss_nil)
    (pss_one (ps_ret (pe_cal c_has_length (hr.mono (by decide)) (by rfl) (pa_cons (pv 0) (pa_cons (pe_cal c_outer (hr.mono (by decide)) (by rfl) (pa_cons (pv 1) pa_nil)) (pa_cons (pv 2) pa_nil))))))), ?_⟩)
  rintro xs y ⟨C, k, L, ⟨hC, hk⟩, rfl, rfl⟩
  refine ws_seq (ws_if (b := decide (L = 0)) ((et_test (em_op (em_var rfl) em_int rv_eq)).is ?_) (fun h0 => ?_) (fun h0 => ?_))
  · by_cases h : L = 0
    · rw [decide_eq_true h, decide_eq_true (by omega)]
    · rw [decide_eq_false h, decide_eq_false (by omega)]
  · refine ws_ret ((em_op (em_var rfl) (em_tup (xs := [.int 0, .int 0]) (ea_cons em_int (ea_cons em_int ea_nil)) (by show 2 ≤ 1000; decide)) (rv_eqD sh_ii sh_ii)).is ?_) rfl
    unfold isOpen
    rw [if_pos (of_decide_eq_true h0)]
    have e := eqv_ii (a := k.1) (b := k.2) (c := 0) (d := 0)
    show db (PyData.eqv (.tuple [.int (k.1 : Nat), .int (k.2 : Nat)]) (.tuple [.int ((0 : Nat) : Int), .int ((0 : Nat) : Int)])) = _
    rw [e]
  · refine ws_next (ws_ret ((em_call (ea_cons (em_var rfl) (ea_cons (em_call (ea_cons (em_var rfl) ea_nil) ⟨k, lt256 hC.hi hk.m, rfl, rfl⟩) (ea_cons (em_var rfl) ea_nil))) ⟨C, k, L, ⟨hC, hk⟩, rfl, rfl⟩).is ?_) rfl)
    unfold isOpen
    rw [if_neg (of_decide_eq_false h0)]
end
end DL


set_option Elab.async false
set_option linter.all false
set_option maxRecDepth 100000
set_option maxHeartbeats 4000000
namespace DL
open PySem PySem.Spec PyProof.Rows L2 Md
def allu (i : Nat) : List Knd := ((List.range i).map fun m => [((m, 0) : Knd), (m, 1)]).flatten
theorem allu_succ (i : Nat) : allu (i + 1) = allu i ++ [(i, 0), (i, 1)] := by
  unfold allu
  rw [List.range_succ, List.map_append, List.flatten_append]
  rfl
theorem allu_len : ∀ i, (allu i).length = 2 * i
  | 0 => rfl
  | i + 1 => by
    rw [allu_succ, List.length_append, allu_len i]
    simp
    omega
theorem allu_mem {i : Nat} {k : Knd} : k ∈ allu i ↔ k.1 < i ∧ k.2 < 2 := by
  unfold allu
  constructor
  · intro h
    obtain ⟨l, hl, hk⟩ := List.mem_flatten.mp h
    obtain ⟨m, hm, rfl⟩ := List.mem_map.mp hl
    have := List.mem_range.mp hm
    rcases List.mem_cons.mp hk with e | e
    · rw [e]
      exact ⟨this, by show 0 < 2; decide⟩
    · rcases List.mem_cons.mp e with e | e
      · rw [e]
        exact ⟨this, by show 1 < 2; decide⟩
      · cases e
  · rintro ⟨h1, h2⟩
    refine List.mem_flatten.mpr ⟨[(k.1, 0), (k.1, 1)], List.mem_map.mpr ⟨k.1, List.mem_range.mpr h1, rfl⟩, ?_⟩
    obtain ⟨a, b⟩ := k
    simp only at h2 ⊢
    match b, h2 with
    | 0, _ => exact List.mem_cons_self
    | 1, _ => exact List.mem_cons_of_mem _ List.mem_cons_self
theorem ks_mem {C : Com} {k : Knd} : k ∈ ks C.n ↔ Kok C k := by
  unfold ks
  rw [List.mem_mergeSort]
  show k ∈ allu (2 ^ C.n) ↔ _
  rw [allu_mem]
  exact ⟨fun h => ⟨h.1, h.2⟩, fun h => ⟨h.m, h.s⟩⟩
theorem ks_len {C : Com} (hC : C.Ok) : (ks C.n).length ≤ 512 := by
  unfold ks
  rw [List.length_mergeSort]
  show (allu (2 ^ C.n)).length ≤ 512
  rw [allu_len]
  have : 2 ^ C.n ≤ 2 ^ 8 := Nat.pow_le_pow_right (by decide) hC.hi
  omega
theorem fold_max : ∀ (l : List Nat) (a : Nat), a ≤ l.foldl max a ∧ (∀ x ∈ l, x ≤ l.foldl max a) ∧ (l.foldl max a = a ∨ l.foldl max a ∈ l)
  | [], a => ⟨Nat.le_refl _, fun x h => (by cases h), .inl rfl⟩
  | b :: l, a => by
    obtain ⟨h1, h2, h3⟩ := fold_max l (max a b)
    refine ⟨Nat.le_trans (Nat.le_max_left _ _) h1, fun x hx => ?_, ?_⟩
    · rcases List.mem_cons.mp hx with e | e
      · rw [e]
        exact Nat.le_trans (Nat.le_max_right _ _) h1
      · exact h2 x e
    · show List.foldl max (max a b) l = a ∨ List.foldl max (max a b) l ∈ b :: l
      rcases h3 with h3 | h3
      · rw [h3]
        by_cases h : a ≤ b
        · right
          rw [Nat.max_eq_right h]
          exact List.mem_cons_self
        · left
          exact Nat.max_eq_left (by omega)
      · exact .inr (List.mem_cons_of_mem _ h3)
theorem mxl_ge {C : Com} {k : Knd} (h : k ∈ ks C.n) : ll C k ≤ mxl C := (fold_max _ 0).2.1 _ (List.mem_map_of_mem h)
theorem mxl_ex {C : Com} (hC : C.Ok) : ∃ k ∈ ks C.n, ll C k = mxl C := by
  have hk : ((0, 1) : Knd) ∈ ks C.n := ks_mem.mpr ⟨Nat.pow_pos (by decide), by decide⟩
  rcases (fold_max ((ks C.n).map (ll C)) 0).2.2 with h | h
  · have := mxl_ge hk
    have e : mxl C = 0 := h
    have e2 : ll C (0, 1) = 2 := by
      unfold ll
      rw [if_pos rfl, if_pos rfl]
    omega
  · obtain ⟨k, hk, e⟩ := List.mem_map.mp h
    exact ⟨k, hk, e⟩
theorem mxl_le {C : Com} (hC : C.Ok) : mxl C ≤ 12 := by
  obtain ⟨k, hk, e⟩ := mxl_ex hC
  have hk' := ks_mem.mp hk
  have := ll_le hC hk'
  have := bs_len k.1
  unfold pc at *
  omega
theorem gw_cons {C : Com} {L j : Nat} {k : Knd} (hj : j < C.n) (ho : isOpen C (bh C j k) L = true) (hn : ∀ a, a < j → isOpen C (bh C a k) L = false) : gw C (L + 1) k = j :: gw C L (bh C j k) := by
  have e : (List.range C.n).find? (fun a => isOpen C (bh C a k) L) = some j := by
    rw [List.find?_range_eq_some]
    exact ⟨ho, List.mem_range.mpr hj, fun a ha => by rw [hn a ha] <;> rfl⟩
  show (match (List.range C.n).find? (fun a => isOpen C (bh C a k) L) with
    | some a => a :: gw C L (bh C a k)
    | none => []) = _
  rw [e]
section
variable {P : Program} {w : World} {K : PySem.W.Frag} {mg : Str → Option Value} {base : Heap}
abbrev s_all_kinds : Stmt := top 30
abbrev nm_all_kinds : List Str := ["company", "found", "mask", "sign"]
theorem sc_all_kinds : FnScope nm_all_kinds ["company"] (defScope s_all_kinds) := ⟨rfl, rfl, rfl, by decide +kernel, rfl, by decide +kernel, by decide +kernel⟩
theorem ok_all_kinds {f : Addr} {fd : FuncData} (F : Fun K "all_kinds" "all_kinds" s_all_kinds f fd) (B : Bi mg) (c_letters_of : Cal P w K mg base "letters_of" ["mask"] 1 (SpP fr_letters_of)) : FnOk P w K mg base CX0 2 f fd ["company"] (SpP fr_all_kinds) := by
  refine fn_pure F sc_all_kinds (fun xs y ⟨C, _, h, _⟩ => by rw [h] <;> rfl) (fun cdv A outer s H E hr => ⟨_, (pss_cons (ps_set (i := 1) sc_all_kinds.nd rfl (Or.inl rfl) (pe_lst pa_nil))
    (pss_cons (ps_for PassesOwn.never rfl (pi_range1 (by rfl) B.range_ (pa_cons (pe_op op_shl pe_int (pe_ix (ix_seqK (K := K) rfl) (pv 0) pe_int (fun _ _ => rfl))) pa_nil)) (pg_name (i := 2) sc_all_kinds.nd rfl (by first | exact Or.inl rfl | exact Or.inr rfl)) (pss_one (ps_set (i := 1) sc_all_kinds.nd rfl (Or.inl rfl) (pe_op op_cat (pv 1) (pe_lc (own := [("sign", 3)]) (g := (gName 3)) rfl sc_all_kinds.nd (pi_tupK (K := K) rfl (pe_tup (pa_cons pe_int (pa_cons pe_int pa_nil)))) (blkOk_by (N := nm_all_kinds) (sc := defScope s_all_kinds) (own := [("sign", 3)]) (by decide +kernel)) (fun _ _ _ _ _ => (pg_name (i := 3) sc_all_kinds.nd rfl (by first | exact Or.inl rfl | exact Or.inr rfl))) (fun _ _ _ _ _ => pts_nil) (fun _ _ _ _ _ => (pe_tup (pa_cons (pe_cal c_letters_of (hr.mono (by decide)) (by rfl) (pa_cons (pv 2) pa_nil)) (pa_cons (pv 3) pa_nil)))))))))
    (pss_one (ps_ret (pe_callB (call_sortD (K := K) rfl hr.units) (by rfl) B.sorted_ boot_sorted (pa_cons (pv 1) pa_nil)))))), ?_⟩)
  rintro xs y ⟨C, hC, rfl, rfl⟩
  have hn := hC.hi
  have h256 : 2 ^ C.n ≤ 2 ^ 8 := Nat.pow_le_pow_right (by decide) hn
  refine ws_seq (ws_set (em_lst (xs := []) ea_nil (by decide)) ?_)
  refine ws_seq (ws_for (iv_rg (n := 2 ^ C.n) (ea_cons ((em_op em_int (em_op (em_var rfl) em_int (rv_ixT (d := .int (C.n : Nat)) rfl)) (rv_shl (CPow_ok (i := 1) (by decide) (by omega)))).is ?_) ea_nil) (by omega)) (fun i δ1 M1 => M1 = nom ∧ ∃ z : Option Da, δ1 = [some (.d (comD C)), some (.d (.list ((allu i).map kD))), z, none]) ⟨rfl, none, rfl⟩ ?_ ?_)
  · show di ((1 : Int) * 2 ^ ((C.n : Nat) : Int).toNat) = _
    have e : (1 : Int) * 2 ^ ((C.n : Nat) : Int).toNat = ((2 ^ C.n : Nat) : Int) := shl_nat C.n
    rw [e]
  · rintro i x δ1 M1 hx ⟨rfl, z, rfl⟩
    rw [List.getElem?_map] at hx
    cases q : (List.range (2 ^ C.n))[i]? with
    | none =>
      rw [q] at hx
      cases hx
    | some m =>
      obtain ⟨hi, em⟩ := List.getElem?_eq_some_iff.mp q
      rw [List.length_range] at hi
      rw [List.getElem_range] at em
      subst em
      rw [q] at hx
      have ex : x = .int (i : Nat) := (Option.some.inj hx).symm
      subst ex
      refine ⟨_, [2], tg_name, ws_set ((em_op (em_var rfl) (em_lcN [(0 : Nat), 1] (fun s => PyData.int (s : Nat)) (fun s => kD (i, s)) (iv_tup (em_tup (xs := [.int 0, .int 1]) (ea_cons em_int (ea_cons em_int ea_nil)) (by show 2 ≤ 1000; decide))) (by show 2 ≤ 50000; decide)
        fun s hs M' => em_tup (xs := [_, _]) (ea_cons (em_call (ea_cons (em_var rfl) ea_nil) ⟨i, by omega, rfl, rfl⟩) (ea_cons (em_var rfl) ea_nil)) (by show 2 ≤ 1000; decide)) (rv_catL ?_)).is (y := .d (.list ((allu (i + 1)).map kD))) ?_) ⟨rfl, some (di (i : Nat)), rfl⟩⟩
      · rw [List.length_map, List.length_map, allu_len]
        show 2 * i + 2 ≤ 50000
        omega
      · rw [allu_succ, List.map_append]
        rfl
  · rintro δ1 M1 ⟨rfl, z, rfl⟩
    rw [List.length_map, List.length_range]
    refine ws_ret (em_cb (ea_cons (em_var rfl) ea_nil) (rc_sortD (bs := allu (2 ^ C.n)) (enc := kD) (PySem.W.AllAlike.of fun b b' => by simp [kD, PySem.W.alike, PySem.W.alikeAll]) (PySem.W.Sortable.tuples fun b => ⟨_, _, rfl⟩) fun b _ => ?_)) rfl
    have : (kD b).depth = 1 := by simp [kD, PyData.depth, PyData.depthAll]
    omega
abbrev s_first_word : Stmt := top 41
abbrev nm_first_word : List Str := ["company", "kind", "length", "word", "rest", "turn", "at", "later", "left"]
theorem sc_first_word : FnScope nm_first_word ["company", "kind", "length"] (defScope s_first_word) := ⟨rfl, rfl, rfl, by decide +kernel, rfl, by decide +kernel, by decide +kernel⟩
theorem ok_first_word {f : Addr} {fd : FuncData} (F : Fun K "first_word" "first_word" s_first_word f fd) (B : Bi mg) (Ct : Co mg) (c_is_open : Cal P w K mg base "is_open" ["company", "pair", "left"] 7 (SpP fr_is_open)) (c_behind : Cal P w K mg base "behind" ["company", "at", "pair"] 3 (SpP fr_behind)) (c_inner : Cal P w K mg base "inner" ["kind"] 2 (SpP fr_inner)) (c_has_length : Cal P w K mg base "has_length" ["company", "told", "length"] 6 (SpP fr_has_length)) (c_need_number : Cal P w K mg base "need_number" ["value", "low", "high"] 3 (SpP fr_need_number)) (c_need_kind : Cal P w K mg base "need_kind" ["company", "kind"] 4 (SpP fr_need_kind)) (c_need_company : Cal P w K mg base "need_company" ["company"] 3 (SpP fr_need_company)) : FnOk P w K mg base CX0 8 f fd ["company", "kind", "length"] (SpP fr_first_word) := by
  refine fn_pure F sc_first_word (fun xs y ⟨C, k, L, _, h, _⟩ => by rw [h] <;> rfl) (fun cdv A outer s H E hr => ⟨_, (pss_cons (ps_expr (pe_cal c_need_company (hr.mono (by decide)) (by rfl) (pa_cons (pv 0) pa_nil)))
    (pss_cons (ps_expr (pe_cal c_need_kind (hr.mono (by decide)) (by rfl) (pa_cons (pv 0) (pa_cons (pv 1) pa_nil))))
    (pss_cons (ps_expr (pe_cal c_need_number (hr.mono (by decide)) (by rfl) (pa_cons (pv 2) (pa_cons pe_int (pa_cons (pe_gl (by rfl) Ct.MOST_WORD_) pa_nil)))))
    (pss_cons (ps_if (pt_not (pt_val (pe_cal c_has_length (hr.mono (by decide)) (by rfl) (pa_cons (pv 0) (pa_cons (pv 1) (pa_cons (pv 2) pa_nil)))))) (pss_one (ps_ret pe_non)) pss_nil)
    (pss_cons (ps_par (i := 3) (j := 4) rfl sc_first_word.nd rfl rfl (by decide) rfl rfl (pa_cons pe_str (pa_cons (pe_cal c_inner (hr.mono (by decide)) (by rfl) (pa_cons (pv 1) pa_nil)) pa_nil)) (by rfl))
    (pss_cons (ps_for PassesOwn.never rfl (pi_range1 (by rfl) B.range_ (pa_cons (pv 2) pa_nil)) (pg_name (i := 5) sc_first_word.nd rfl (by first | exact Or.inl rfl | exact Or.inr rfl)) (pss_one (ps_for PassesOwn.never rfl (pi_range1 (by rfl) B.range_ (pa_cons (pe_ix (ix_seqK (K := K) rfl) (pv 0) pe_int (fun _ _ => rfl)) pa_nil)) (pg_name (i := 6) sc_first_word.nd rfl (by first | exact Or.inl rfl | exact Or.inr rfl)) (pss_cons (ps_set (i := 7) sc_first_word.nd rfl (Or.inl rfl) (pe_cal c_behind (hr.mono (by decide)) (by rfl) (pa_cons (pv 0) (pa_cons (pv 6) (pa_cons (pv 4) pa_nil)))))
    (pss_cons (ps_set (i := 8) sc_first_word.nd rfl (Or.inl rfl) (pe_op op_sub (pe_op op_sub (pv 2) (pe_callB (call_lenK (K := K) rfl) (by rfl) B.len_ boot_len (pa_cons (pv 3) pa_nil))) pe_int))
    (pss_one (ps_if (pt_val (pe_cal c_is_open (hr.mono (by decide)) (by rfl) (pa_cons (pv 0) (pa_cons (pv 7) (pa_cons (pv 8) pa_nil))))) (pss_cons (ps_par (i := 3) (j := 4) rfl sc_first_word.nd rfl rfl (by decide) rfl rfl (pa_cons (pe_op op_addS (pv 3) (pe_ix (ix_seqK (K := K) rfl) (pe_gl (by rfl) Ct.ALPHABET_) (pv 6) (fun _ _ => rfl))) (pa_cons (pv 7) pa_nil)) (by rfl))
    (pss_one ps_break)) pss_nil)))))))
    (pss_one (ps_ret (pv 3))))))))), ?_⟩)
  rintro xs y ⟨C, k, L, ⟨hC, hk, h1, h2⟩, rfl, rfl⟩
  have hhi := hC.hi
  refine ws_seq (ws_drop (em_call (ea_cons (em_var rfl) ea_nil) ⟨C, hC, rfl, rfl⟩) ?_)
  refine ws_seq (ws_drop (em_call (ea_cons (em_var rfl) (ea_cons (em_var rfl) ea_nil)) ⟨C, k, ⟨hC, hk⟩, rfl, rfl⟩) ?_)
  refine ws_seq (ws_drop (em_call (ea_cons (em_var rfl) (ea_cons em_int (ea_cons em_int ea_nil))) ⟨L, 1, 60, ⟨by omega, by omega⟩, rfl, rfl⟩) ?_)
  refine ws_seq (ws_if (et_not (et_B (em_call (ea_cons (em_var rfl) (ea_cons (em_var rfl) (ea_cons (em_var rfl) ea_nil))) ⟨C, k, L, ⟨hC, hk⟩, rfl, rfl⟩))) (fun h0 => ?_) (fun h0 => ?_))
  · refine ws_ret em_non ?_
    have e : ¬ hasL C k L = true := by simpa using h0
    show dn = _
    unfold fwD
    rw [if_neg e]
  have hL : hasL C k L = true := by simpa using h0
  have hy : (.d (fwD C k L) : Da) = ds (wd (gw C L k)) := by
    unfold fwD
    rw [if_pos hL]
  rw [hy]
  refine ws_next (ws_seq (ws_par (ea_cons em_str (ea_cons (em_call (ea_cons (em_var rfl) ea_nil) ⟨k, lt256 hC.hi hk.m, rfl, rfl⟩) ea_nil)) ?_))
  refine ws_seq (ws_for (iv_rg (ea_cons (em_var rfl) ea_nil) (by omega)) (fun t δ1 M1 => M1 = nom ∧ t ≤ L ∧ ∃ (pf : List Nat) (k' : Knd) (a b c d : Option Da), pf.length = t ∧ Kok C k' ∧ isOpen C k' (L - t) = true ∧ pf ++ gw C (L - t) k' = gw C L k ∧
    δ1 = [some (.d (comD C)), some (.d (kD k)), some (di (L : Nat)), some (ds (wd pf)), some (.d (prD k')), a, b, c, d]) ⟨rfl, Nat.zero_le _, [], k, none, none, none, none, rfl, hk, open_of hC (by omega) hL, rfl, rfl⟩ ?_ ?_)
  · rintro t x δ1 M1 hx ⟨rfl, htL, pf, k', a, b, c, d, hpf, hk', hop, hgw, rfl⟩
    rw [List.getElem?_map] at hx
    cases q : (List.range L)[t]? with
    | none =>
      rw [q] at hx
      cases hx
    | some m =>
      obtain ⟨hi, em⟩ := List.getElem?_eq_some_iff.mp q
      rw [List.length_range] at hi
      rw [List.getElem_range] at em
      subst em
      rw [q] at hx
      have ex : x = .int (t : Nat) := (Option.some.inj hx).symm
      subst ex
      have eL : L - t = (L - t - 1) + 1 := by omega
      have hop' : hasL C k' ((L - t - 1) + 1) = true := by
        rw [eL] at hop
        unfold isOpen at hop
        rw [if_neg (by omega)] at hop
        exact hop
      have z : ∃ u : Option Da, u = some (di (t : Nat)) := ⟨_, rfl⟩
      refine ⟨_, [5], tg_name, ?_⟩
      refine ws_for (iv_rg (ea_cons (em_op (em_var rfl) em_int (rv_ixT (d := .int (C.n : Nat)) rfl)) ea_nil) (by omega)) (fun j δ2 M2 => M2 = nom ∧ (∀ a, a < j → isOpen C (bh C a k') (L - t - 1) = false) ∧ ∃ a b c d : Option Da,
        δ2 = [some (.d (comD C)), some (.d (kD k)), some (di (L : Nat)), some (ds (wd pf)), some (.d (prD k')), a, b, c, d]) ⟨rfl, fun a h => absurd h (by omega), _, _, _, _, rfl⟩ ?_ ?_
      · rintro j x2 δ2 M2 hx2 ⟨rfl, hno, a2, b2, c2, d2, rfl⟩
        rw [List.getElem?_map] at hx2
        cases q2 : (List.range C.n)[j]? with
        | none =>
          rw [q2] at hx2
          cases hx2
        | some m2 =>
          obtain ⟨hj, em2⟩ := List.getElem?_eq_some_iff.mp q2
          rw [List.length_range] at hj
          rw [List.getElem_range] at em2
          subst em2
          rw [q2] at hx2
          have ex2 : x2 = .int (j : Nat) := (Option.some.inj hx2).symm
          subst ex2
          have hb := bh_ok hC hk' hj
          refine ⟨_, [6], tg_name, ?_⟩
          refine ws_seq (ws_set (em_call (ea_cons (em_var rfl) (ea_cons (em_var rfl) (ea_cons (em_var rfl) ea_nil))) ⟨C, j, k', ⟨hC, hk', hj⟩, rfl, rfl⟩) ?_)
          refine ws_seq (ws_set ((em_op (em_op (em_var rfl) (em_cb (ea_cons (em_var rfl) ea_nil) (rc_lenS (by rw [wd_len]; omega))) rv_sub) em_int rv_sub).is (y := di (L - t - 1 : Nat)) ?_) ?_)
          · rw [wd_len, hpf]
            have e : ((L : Nat) : Int) - (t : Nat) - 1 = ((L - t - 1 : Nat) : Int) := by omega
            rw [e]
          refine ws_if (et_B (em_call (ea_cons (em_var rfl) (ea_cons (em_var rfl) (ea_cons (em_var rfl) ea_nil))) ⟨C, bh C j k', L - t - 1, ⟨hC, hb⟩, rfl, rfl⟩)) (fun ho => ?_) (fun ho => ?_)
          · refine ws_seq (ws_par (ea_cons (em_op (em_var rfl) (em_op em_str (em_var rfl) (rv_ixS (by decide +kernel) (alph_at (by omega)))) (rv_addS (by rw [wd_len, wd_one, wd_len]; simp; omega))) (ea_cons (em_var rfl) ea_nil)) ?_)
            refine ws_break ⟨rfl, by omega, pf ++ [j], bh C j k', a2, some (di (j : Nat)), some (.d (prD (bh C j k'))), some (di (L - t - 1 : Nat)), by rw [List.length_append, hpf] <;> rfl, hb, ?_, ?_, ?_⟩
            · have e : L - (t + 1) = L - t - 1 := by omega
              rw [e]
              exact ho
            · have e : L - (t + 1) = L - t - 1 := by omega
              rw [e, ← hgw]
              have hg : gw C (L - t) k' = j :: gw C (L - t - 1) (bh C j k') := by
                rw [eL]
                exact gw_cons hj ho hno
              rw [hg, List.append_assoc]
              rfl
            · rw [wd_one, wd_app]
              rfl
          · refine ws_next ⟨rfl, fun a ha => ?_, a2, some (di (j : Nat)), some (.d (prD (bh C j k'))), some (di (L - t - 1 : Nat)), rfl⟩
            rcases Nat.lt_succ_iff_lt_or_eq.mp ha with h | h
            · exact hno a h
            · rw [h]
              exact ho
      · rintro δ2 M2 ⟨rfl, hno, a2, b2, c2, d2, rfl⟩
        rw [List.length_map, List.length_range] at hno
        obtain ⟨a, ha, ho⟩ := step_ex hC hk' hop'
        rw [hno a ha] at ho
        cases ho
  · rintro δ1 M1 ⟨rfl, htL, pf, k', a, b, c, d, hpf, hk', hop, hgw, rfl⟩
    rw [List.length_map, List.length_range, Nat.sub_self] at hgw
    have e : pf = gw C L k := by
      rw [← hgw]
      show pf = pf ++ []
      rw [List.append_nil]
    rw [e]
    exact ws_ret (em_var rfl) rfl
abbrev s_longest_least : Stmt := top 44
abbrev nm_longest_least : List Str := ["company", "lengths", "most", "told", "pair", "length"]
theorem sc_longest_least : FnScope nm_longest_least ["company"] (defScope s_longest_least) := ⟨rfl, rfl, rfl, by decide +kernel, rfl, by decide +kernel, by decide +kernel⟩
theorem ok_longest_least {f : Addr} {fd : FuncData} (F : Fun K "longest_least" "longest_least" s_longest_least f fd) (B : Bi mg) (c_all_kinds : Cal P w K mg base "all_kinds" ["company"] 2 (SpP fr_all_kinds)) (c_length_of : Cal P w K mg base "length_of" ["company", "told"] 5 (SpP fr_length_of)) (c_need_company : Cal P w K mg base "need_company" ["company"] 3 (SpP fr_need_company)) : FnOk P w K mg base CX0 6 f fd ["company"] (SpP fr_longest_least) := by
  refine fn_pure F sc_longest_least (fun xs y ⟨C, _, h, _⟩ => by rw [h] <;> rfl) (fun cdv A outer s H E hr => ⟨_, (pss_cons (ps_expr (pe_cal c_need_company (hr.mono (by decide)) (by rfl) (pa_cons (pv 0) pa_nil)))
    (pss_cons (ps_setLc (i := 1) (own := [("told", 3)]) (g := (gName 3)) rfl sc_longest_least.nd rfl rfl (sw_true rfl rfl rfl (by decide +kernel)) (pi_listK (K := K) rfl (pe_cal c_all_kinds (hr.mono (by decide)) (by rfl) (pa_cons (pv 0) pa_nil))) (blkOk_by (N := nm_longest_least) (sc := defScope s_longest_least) (own := [("told", 3)]) (by decide +kernel)) (fun _ _ _ _ _ => (pg_name (i := 3) sc_longest_least.nd rfl (by first | exact Or.inl rfl | exact Or.inr rfl))) (fun _ _ _ _ _ => pts_nil) (fun _ _ _ _ _ => (pe_tup (pa_cons (pe_cal c_length_of (hr.mono (by decide)) (by rfl) (pa_cons (pv 0) (pa_cons (pv 3) pa_nil))) (pa_cons (pv 3) pa_nil)))))
    (pss_cons (ps_set (i := 2) sc_longest_least.nd rfl (Or.inr rfl) (pe_callB (cr_maxK (K := K) rfl rfl) (by rfl) B.max_ boot_max (pa_cons (pe_lc (own := [("pair", 4)]) (g := (gName 4)) rfl sc_longest_least.nd (pi_listK (K := K) rfl (pv 1)) (blkOk_by (N := nm_longest_least) (sc := defScope s_longest_least) (own := [("pair", 4)]) (by decide +kernel)) (fun _ _ _ _ _ => (pg_name (i := 4) sc_longest_least.nd rfl (by first | exact Or.inl rfl | exact Or.inr rfl))) (fun _ _ _ _ _ => pts_nil) (fun _ _ _ _ _ => (pe_ix (ix_seqK (K := K) rfl) (pv 4) pe_int (fun _ _ => rfl)))) pa_nil)))
    (pss_one (ps_ret (pe_tup (pa_cons (pv 2) (pa_cons (pe_callTy (call_tupK (K := K) rfl) (by rfl) B.tuple_ boot_tuple (pa_cons (pe_lc (own := [("length", 5), ("told", 3)]) (g := (gTup K 2 (gCons (gName 5) (gCons (gName 3) gNil)))) rfl sc_longest_least.nd (pi_listK (K := K) rfl (pv 1)) (blkOk_by (N := nm_longest_least) (sc := defScope s_longest_least) (own := [("length", 5), ("told", 3)]) (by decide +kernel)) (fun _ _ _ _ _ => (pg_tup rfl (pgs_cons (pg_name (i := 5) sc_longest_least.nd rfl (by first | exact Or.inl rfl | exact Or.inr rfl)) (pgs_cons (pg_name (i := 3) sc_longest_least.nd rfl (by first | exact Or.inl rfl | exact Or.inr rfl)) pgs_nil)))) (fun _ _ _ _ _ => pts_one (pt_cmpR op_eq (pv 5) (pv 2) (nomark _))) (fun _ _ _ _ _ => (pv 3))) pa_nil)) pa_nil)))))))), ?_⟩)
  rintro xs y ⟨C, hC, rfl, rfl⟩
  have hz := ks_len hC
  refine ws_seq (ws_drop (em_call (ea_cons (em_var rfl) ea_nil) ⟨C, hC, rfl, rfl⟩) ?_)
  refine ws_seq (ws_set (em_lcN (ks C.n) kD (fun k => .tuple [.int (ll C k : Nat), kD k]) (iv_list (em_call (ea_cons (em_var rfl) ea_nil) ⟨C, hC, rfl, rfl⟩)) (by omega)
    fun k hk M' => em_tup (xs := [_, _]) (ea_cons (em_call (ea_cons (em_var rfl) (ea_cons (em_var rfl) ea_nil)) ⟨C, k, ⟨hC, ks_mem.mp hk⟩, rfl, rfl⟩) (ea_cons (em_var rfl) ea_nil)) (by show 2 ≤ 1000; decide)) ?_)
  obtain ⟨k0, hk0, e0⟩ := mxl_ex hC
  refine ws_seq (ws_set (em_cb (ea_cons (em_lcN (ks C.n) (fun k => .tuple [.int (ll C k : Nat), kD k]) (fun k => .int (ll C k : Nat)) (iv_list (em_var rfl)) (by omega) fun k hk M' => em_op (em_var rfl) em_int (rv_ixT (d := .int (ll C k : Nat)) rfl)) ea_nil)
    (rc_maxB (m := (mxl C : Nat)) ⟨k0, hk0, by rw [e0]⟩ (fun k hk => by have := mxl_ge hk; omega))) ?_)
  refine ws_ret (em_tup (xs := [_, _]) (ea_cons (em_var rfl) (ea_cons (em_cb (ea_cons (em_lc2F (ks C.n) (fun k => .int (ll C k : Nat)) kD (fun k => decide (ll C k = mxl C)) kD (iv_list (em_var rfl)) (by omega)
    (fun k hk M' => (et_test (em_op (em_var rfl) (em_var rfl) rv_eq)).is ?_) (fun k hk _ M' => em_var rfl)) ea_nil) rc_tupL) ea_nil)) (by show 2 ≤ 1000; decide)) rfl
  by_cases h : ll C k = mxl C
  · rw [decide_eq_true h, decide_eq_true (by omega)]
  · rw [decide_eq_false h, decide_eq_false (by omega)]
abbrev s_count_by_least : Stmt := top 45
abbrev nm_count_by_least : List Str := ["company", "lengths", "told", "length"]
theorem sc_count_by_least : FnScope nm_count_by_least ["company"] (defScope s_count_by_least) := ⟨rfl, rfl, rfl, by decide +kernel, rfl, by decide +kernel, by decide +kernel⟩
theorem ok_count_by_least {f : Addr} {fd : FuncData} (F : Fun K "count_by_least" "count_by_least" s_count_by_least f fd) (B : Bi mg) (c_all_kinds : Cal P w K mg base "all_kinds" ["company"] 2 (SpP fr_all_kinds)) (c_length_of : Cal P w K mg base "length_of" ["company", "told"] 5 (SpP fr_length_of)) (c_need_company : Cal P w K mg base "need_company" ["company"] 3 (SpP fr_need_company)) : FnOk P w K mg base CX0 6 f fd ["company"] (SpP fr_count_by_least) := by
  refine fn_pure F sc_count_by_least (fun xs y ⟨C, _, h, _⟩ => by rw [h] <;> rfl) (fun cdv A outer s H E hr => ⟨_, (pss_cons (ps_expr (pe_cal c_need_company (hr.mono (by decide)) (by rfl) (pa_cons (pv 0) pa_nil)))
    (pss_cons (ps_set (i := 1) sc_count_by_least.nd rfl (Or.inr rfl) (pe_lc (own := [("told", 2)]) (g := (gName 2)) rfl sc_count_by_least.nd (pi_listK (K := K) rfl (pe_cal c_all_kinds (hr.mono (by decide)) (by rfl) (pa_cons (pv 0) pa_nil))) (blkOk_by (N := nm_count_by_least) (sc := defScope s_count_by_least) (own := [("told", 2)]) (by decide +kernel)) (fun _ _ _ _ _ => (pg_name (i := 2) sc_count_by_least.nd rfl (by first | exact Or.inl rfl | exact Or.inr rfl))) (fun _ _ _ _ _ => pts_nil) (fun _ _ _ _ _ => (pe_cal c_length_of (hr.mono (by decide)) (by rfl) (pa_cons (pv 0) (pa_cons (pv 2) pa_nil))))))
    (pss_one (ps_ret (pe_callTy (call_tupK (K := K) rfl) (by rfl) B.tuple_ boot_tuple (pa_cons (pe_lc (own := [("length", 3)]) (g := (gName 3)) rfl sc_count_by_least.nd (pi_range1 (by rfl) B.range_ (pa_cons (pe_op op_add (pe_callB (cr_maxK (K := K) rfl rfl) (by rfl) B.max_ boot_max (pa_cons (pv 1) pa_nil)) pe_int) pa_nil)) (blkOk_by (N := nm_count_by_least) (sc := defScope s_count_by_least) (own := [("length", 3)]) (by decide +kernel)) (fun _ _ _ _ _ => (pg_name (i := 3) sc_count_by_least.nd rfl (by first | exact Or.inl rfl | exact Or.inr rfl))) (fun _ _ _ _ _ => pts_nil) (fun _ _ _ _ _ => (pe_bmK (K := K) rfl PySem.F.plainAttrs_list PySem.F.slot_list_count PySem.F.type_list_count (mt_lcountK (K := K) rfl) (pv 1) (pa_cons (pv 3) pa_nil)))) pa_nil)))))), ?_⟩)
  rintro xs y ⟨C, hC, rfl, rfl⟩
  have hz := ks_len hC
  have hmx := mxl_le hC
  obtain ⟨k0, hk0, e0⟩ := mxl_ex hC
  refine ws_seq (ws_drop (em_call (ea_cons (em_var rfl) ea_nil) ⟨C, hC, rfl, rfl⟩) ?_)
  refine ws_seq (ws_set (em_lcN (ks C.n) kD (fun k => .int (ll C k : Nat)) (iv_list (em_call (ea_cons (em_var rfl) ea_nil) ⟨C, hC, rfl, rfl⟩)) (by omega)
    fun k hk M' => em_call (ea_cons (em_var rfl) (ea_cons (em_var rfl) ea_nil)) ⟨C, k, ⟨hC, ks_mem.mp hk⟩, rfl, rfl⟩) ?_)
  refine ws_ret (em_cb (ea_cons (em_lcN (List.range (mxl C + 1)) (fun i => .int (i : Nat)) (fun i => .int (((ks C.n).map (ll C)).count i : Nat)) (iv_rgi (ea_cons (em_op (em_cb (ea_cons (em_var rfl) ea_nil) (rc_maxB (m := (mxl C : Nat)) ⟨k0, hk0, by rw [e0]⟩ (fun k hk => by have := mxl_ge hk; omega))) em_int rv_add) ea_nil) (by omega) (by omega)) (by rw [List.length_range]; omega)
    fun i hi M' => (em_lCountB (em_var rfl) (ea_cons (em_var rfl) ea_nil)).is ?_) ea_nil) rc_tupL) rfl
  have e : ((ks C.n).map fun k => ((ll C k : Nat) : Int)).count ((i : Nat) : Int) = ((ks C.n).map (ll C)).count i := by
    generalize ks C.n = l
    induction l with
    | nil => rfl
    | cons a l ih =>
      rw [List.map_cons, List.map_cons, List.count_cons, List.count_cons, ih]
      by_cases h : ll C a = i
      · simp [h]
      · have h' : ¬ ((ll C a : Nat) : Int) = (i : Nat) := by omega
        simp [h, h']
  rw [e]
abbrev s_cut_down : Stmt := top 46
abbrev nm_cut_down : List Str := ["company", "word", "told"]
theorem sc_cut_down : FnScope nm_cut_down ["company", "word"] (defScope s_cut_down) := ⟨rfl, rfl, rfl, by decide +kernel, rfl, by decide +kernel, by decide +kernel⟩
theorem ok_cut_down {f : Addr} {fd : FuncData} (F : Fun K "cut_down" "cut_down" s_cut_down f fd) (c_first_word : Cal P w K mg base "first_word" ["company", "kind", "length"] 8 (SpP fr_first_word)) (c_length_of : Cal P w K mg base "length_of" ["company", "told"] 5 (SpP fr_length_of)) (c_outer : Cal P w K mg base "outer" ["pair"] 2 (SpP fr_outer)) (c_kind_of : Cal P w K mg base "kind_of" ["company", "word"] 3 (SpP fr_kind_of)) (c_need_both : Cal P w K mg base "need_both" ["company", "word"] 4 (SpP fr_need_both)) : FnOk P w K mg base CX0 9 f fd ["company", "word"] (SpP fr_cut_down) := by
  refine fn_pure F sc_cut_down (fun xs y ⟨C, l, _, h, _⟩ => by rw [h] <;> rfl) (fun cdv A outer s H E hr => ⟨_, (pss_cons (ps_expr (pe_cal c_need_both (hr.mono (by decide)) (by rfl) (pa_cons (pv 0) (pa_cons (pv 1) pa_nil))))
    (pss_cons (ps_set (i := 2) sc_cut_down.nd rfl (Or.inl rfl) (pe_cal c_outer (hr.mono (by decide)) (by rfl) (pa_cons (pe_cal c_kind_of (hr.mono (by decide)) (by rfl) (pa_cons (pv 0) (pa_cons (pv 1) pa_nil))) pa_nil)))
    (pss_one (ps_ret (pe_cal c_first_word (hr.mono (by decide)) (by rfl) (pa_cons (pv 0) (pa_cons (pv 2) (pa_cons (pe_cal c_length_of (hr.mono (by decide)) (by rfl) (pa_cons (pv 0) (pa_cons (pv 2) pa_nil))) pa_nil)))))))), ?_⟩)
  rintro xs y ⟨C, l, ⟨hC, hl, h1, h2⟩, rfl, rfl⟩
  have hk := kw_ok hC hl
  have hlt := ll_le hC hk
  have hpos := ll_pos hC hk
  have hb := bs_len (kw C l).1
  refine ws_seq (ws_drop (em_call (ea_cons (em_var rfl) (ea_cons (em_var rfl) ea_nil)) ⟨C, l, ⟨hC, hl, h1, h2⟩, rfl, rfl⟩) ?_)
  refine ws_seq (ws_set (em_call (ea_cons (em_call (ea_cons (em_var rfl) (ea_cons (em_var rfl) ea_nil)) ⟨C, l, ⟨hC, hl, h2⟩, rfl, rfl⟩) ea_nil) ⟨kw C l, lt256 hC.hi hk.m, rfl, rfl⟩) ?_)
  refine ws_ret ((em_call (ea_cons (em_var rfl) (ea_cons (em_var rfl) (ea_cons (em_call (ea_cons (em_var rfl) (ea_cons (em_var rfl) ea_nil)) ⟨C, kw C l, ⟨hC, hk⟩, rfl, rfl⟩) ea_nil))) ⟨C, kw C l, ll C (kw C l), ⟨hC, hk, hpos, by unfold pc at hlt; omega⟩, rfl, rfl⟩).is ?_) rfl
  unfold fwD
  rw [if_pos (hasL_ll hC hk)]
end
end DL


set_option Elab.async false
set_option linter.all false
set_option maxRecDepth 100000
set_option maxHeartbeats 4000000
/-! DSpec2: what the law's own helpers hand back (those that change nothing). -/
namespace DL
open PySem PySem.Spec PyProof.Rows L2 Md
def setD (m : Nat) : PyData := .tuple ((bs m).map fun a => .int (a : Nat))
def fr_law_sets : Fr := fun xs y => ∃ n : Nat, n ≤ 8 ∧ xs = [di (n : Nat)] ∧ y = .d (.list ((List.range (2 ^ n)).map setD))
def fr_law_kinds : Fr := fr_all_kinds
def fr_law_friend : Fr := fun xs y => ∃ (C : Com) (a b : Nat), (C.Ok ∧ a < 8 ∧ b < 8) ∧ xs = [.d (comD C), ds ⟨#[a + 97]⟩, ds ⟨#[b + 97]⟩] ∧ y = db (decide ((min a b, max a b) ∈ C.ps))
def fr_law_kind : Fr := fun xs y => ∃ (C : Com) (l : List Nat), (C.Ok ∧ Wok C l ∧ l.length ≤ 60) ∧ xs = [.d (comD C), ds (wd l)] ∧ y = .d (kD (lk C l))
/-- data that the law compares, at most so deep -/
def nice : Nat → PyData → Bool
  | 0, .none | 0, .bool _ | 0, .int _ => true
  | 0, .str s => PyData.strOk s
  | 0, .list _ | 0, .tuple _ | 0, .dict _ => false
  | d + 1, .list xs => decide (xs.length ≤ 1000) && xs.all (nice d)
  | d + 1, .tuple xs => decide (xs.length ≤ 1000) && xs.all (nice d)
  | d + 1, x => nice 0 x
def fr_law_alike (d : Nat) : Fr := fun xs y => ∃ x : PyData, nice d x = true ∧ xs = [.d x, .d x] ∧ y = db true
theorem bs_add : ∀ i, i < 8 → ∀ m, m < 2 ^ i → bs (2 ^ i + m) = bs m ++ [i] := by
  have h : ∀ i, i < 8 → ∀ m, m < 256 → (decide (m < 2 ^ i) && !(bs (2 ^ i + m) == bs m ++ [i])) = false := by decide +kernel
  intro i hi m hm
  have h8 : 2 ^ i ≤ 2 ^ 7 := Nat.pow_le_pow_right (by decide) (by omega)
  have q := h i hi m (by omega)
  rw [decide_eq_true hm] at q
  simpa using q
theorem sets_succ {i : Nat} (hi : i < 8) : (List.range (2 ^ i)).map setD ++ (List.range (2 ^ i)).map (fun m => PyData.tuple ((bs m).map (fun a => .int (a : Nat)) ++ [.int (i : Nat)])) = (List.range (2 ^ (i + 1))).map setD := by
  have e : 2 ^ (i + 1) = 2 ^ i + 2 ^ i := by rw [Nat.pow_succ]; omega
  rw [e, List.range_add, List.map_append, List.map_map]
  congr 1
  refine List.map_congr_left fun m hm => ?_
  show _ = setD (2 ^ i + m)
  unfold setD
  rw [bs_add i hi m (List.mem_range.mp hm), List.map_append]
  rfl
theorem cut_drop (l : List Nat) (j : Nat) : cutS (wd l) (some (j : Nat)) none = wd (l.drop j) := by
  unfold cutS
  rw [wd_len, HT.sIx_nat, HT.sIx_none, wd_tl]
  refine TL.ext_tl ?_
  show ((l.map (· + 97)).drop (min j l.length)).take (l.length - min j l.length) = (wd (l.drop j)).cps.toList
  rw [wd_tl, List.map_drop, List.take_of_length_le (by rw [List.length_drop, List.length_map]; omega)]
  by_cases h : j ≤ l.length
  · rw [Nat.min_eq_left h]
  · rw [Nat.min_eq_right (by omega), List.drop_of_length_le (by simp), List.drop_of_length_le (by simp; omega)]
theorem cnt_wd (a : Nat) : ∀ l : List Nat, PyProof.Rows.cnt (a + 97) (l.map (· + 97)) = (l.count a : Nat)
  | [] => rfl
  | b :: l => by
    rw [List.map_cons, PyProof.Rows.cnt_cons, cnt_wd a l, List.count_cons]
    by_cases h : b = a
    · simp [h]
      omega
    · have h' : ¬ b + 97 = a + 97 := by omega
      simp [h, h']
theorem count_wd (l : List Nat) (a : Nat) : Txt.count (wd l) ⟨#[a + 97]⟩ = (l.count a : Nat) := by
  rw [PyProof.Rows.count_cnt, wd_tl, cnt_wd]
theorem lt_one {a b : Nat} : decide ((⟨#[a + 97]⟩ : Str).cps.toList < (⟨#[b + 97]⟩ : Str).cps.toList) = decide (a < b) := by
  show decide ([a + 97] < [b + 97]) = _
  by_cases h : a < b
  · rw [decide_eq_true h]
    refine decide_eq_true ?_
    rw [List.cons_lt_cons_iff]
    exact .inl (by omega)
  · rw [decide_eq_false h]
    refine decide_eq_false fun z => ?_
    rw [List.cons_lt_cons_iff] at z
    rcases z with z | ⟨_, z⟩
    · omega
    · exact absurd z (by simp)
/-- the crossings so far -/
def croTo (C : Com) (l : List Nat) (i : Nat) : Nat := ((List.range i).map fun j => lat C (l.getD j 0) (l.drop (j + 1))).sum
theorem croTo_all (C : Com) : ∀ l : List Nat, croTo C l l.length = cro C l
  | [] => rfl
  | a :: l => by
    show ((List.range (l.length + 1)).map fun j => lat C ((a :: l).getD j 0) ((a :: l).drop (j + 1))).sum = lat C a l + cro C l
    rw [← croTo_all C l, List.range_succ_eq_map, List.map_cons, List.sum_cons, List.map_map]
    rfl
theorem om_bs {C : Com} (hC : C.Ok) {l : List Nat} (hl : Wok C l) : bs (om l) = (List.range C.n).filter fun a => decide (l.count a % 2 = 1) := by
  rw [bs_n hC.hi (om_lt l hl)]
  exact List.filter_congr fun a _ => om_bit a l
end DL

set_option Elab.async false
set_option linter.all false
set_option maxRecDepth 100000
set_option maxHeartbeats 4000000
/-! DImp: rules for objects that change: the row, the dict, the list of counts. -/
namespace DL
open PySem PySem.Spec PyProof.Rows L2 Md
/-! ### the row -/
abbrev Q3 := Nat × Int × Int
def rowL (sc : Addr) (q : Q3) : List V := [.ref sc, .int (q.1 : Nat), .int q.2.1, .int q.2.2]
def rowO (sc : Addr) (q : Q3) : HO := .lst (rowL sc q)
section
variable {δ : Dl} {M M1 M2 M3 : Hp} {te to ti ta tb : TE} {K : PySem.W.Frag} {a sc : Addr} {ns : List Int} {q : Q3} {x y : Da} {P : Out → Prop}
theorem em_row {i : Int} {u : V} (h : EvM te δ M (.rw K a sc ns) M1) (hM : M1 a = some (rowO sc q)) (hx : atI (rowL sc q) i = some u) (hu : ∀ G, SqL K G sc (ns.map V.int) → DaOk G u x) : EvM (tOp (rIx K) te (tC (.int i))) δ M x M1 := fun σ G H s sl Q k =>
  h σ G H s sl _ fun v G1 H1 s1 r1 d1 => .inl ⟨a, _, i, u, d1.1, rfl, SqL.of (s1.m _ _ hM), hx, k _ G1 H1 s1 r1 (hu G1 d1.2)⟩
theorem em_row1 (h : EvM te δ M (.rw K a sc ns) M1) (hM : M1 a = some (rowO sc q)) : EvM (tOp (rIx K) te (tC (.int 1))) δ M (di (q.1 : Nat)) M1 := em_row h hM rfl fun G _ => .int _
theorem em_row2 (h : EvM te δ M (.rw K a sc ns) M1) (hM : M1 a = some (rowO sc q)) : EvM (tOp (rIx K) te (tC (.int 2))) δ M (di q.2.1) M1 := em_row h hM rfl fun G _ => .int _
theorem em_row3 (h : EvM te δ M (.rw K a sc ns) M1) (hM : M1 a = some (rowO sc q)) : EvM (tOp (rIx K) te (tC (.int 3))) δ M (di q.2.2) M1 := em_row h hM rfl fun G _ => .int _
theorem em_row0 (h : EvM te δ M (.rw K a sc ns) M1) (hM : M1 a = some (rowO sc q)) : EvM (tOp (rIx K) te (tC (.int 0))) δ M (.lk K sc ns) M1 := em_row h hM rfl fun G hs => ⟨rfl, hs⟩
theorem ws_rowSet {i : Int} {j : Nat} {u : V} {xs : List V} (h : EvM te δ M x M1) (ho : EvM to δ M1 (.rw K a sc ns) M1) (hi : EvM ti δ M1 (di i) M1) (hM : M1 a = some (.lst xs)) (hj : ixN xs.length i = some j) (hu : ∀ G v, DaOk G v x → v = u)
    (k : P (.nx δ (upd M1 a (.lst (xs.set j u))))) : WS (tAsg te (gSub to ti rSetL)) δ M P := fun σ G H D s sl h1 h2 h3 h4 =>
  h σ G H s sl _ fun v G1 H1 s1 r1 d1 => ho σ G1 H1 s1 (sl.mono r1.g) _ fun v2 G2 H2 s2 r2 d2 => hi σ G2 H2 s2 (sl.mono (r1.g.trans r2.g)) _ fun v3 G3 H3 s3 r3 d3 => by
    have e := hu _ _ d1
    subst e
    refine ⟨a, xs, i, j, d2.1, Dv.int_of d3, s3.m _ _ hM, hj, ?_⟩
    have s4 := s3.write (o := .lst (xs.set j v)) hM
    have r4 := Rl.write (o := .lst (xs.set j v)) s3 hM
    have r := Rl.trans s1 s4 s r1 (Rl.trans s2 s4 s1 r2 (Rl.trans s3 s4 s2 r3 r4))
    exact h1 σ δ _ G3 _ k s4 r (sl.mono (r1.g.trans (r2.g.trans r3.g)))
theorem ws_row1 {n : Nat} (h : EvM te δ M (di (n : Nat)) M1) (ho : EvM to δ M1 (.rw K a sc ns) M1) (hM : M1 a = some (rowO sc q)) (k : P (.nx δ (upd M1 a (rowO sc (n, q.2))))) : WS (tAsg te (gSub to (tC (.int 1)) rSetL)) δ M P :=
  ws_rowSet h ho em_int hM (j := 1) rfl (fun _ _ d => Dv.int_of d) k
theorem ws_row2 {n : Int} (h : EvM te δ M (di n) M1) (ho : EvM to δ M1 (.rw K a sc ns) M1) (hM : M1 a = some (rowO sc q)) (k : P (.nx δ (upd M1 a (rowO sc (q.1, n, q.2.2))))) : WS (tAsg te (gSub to (tC (.int 2)) rSetL)) δ M P :=
  ws_rowSet h ho em_int hM (j := 2) rfl (fun _ _ d => Dv.int_of d) k
theorem ws_row3 {n : Int} (h : EvM te δ M (di n) M1) (ho : EvM to δ M1 (.rw K a sc ns) M1) (hM : M1 a = some (rowO sc q)) (k : P (.nx δ (upd M1 a (rowO sc (q.1, q.2.1, n))))) : WS (tAsg te (gSub to (tC (.int 3)) rSetL)) δ M P :=
  ws_rowSet h ho em_int hM (j := 3) rfl (fun _ _ d => Dv.int_of d) k
/-! ### the script -/
theorem rc_lenK : RcM (rLenX K) [.lk K a ns] (di ns.length) := rc1 fun G M H v s d Q k => by
  obtain ⟨e, h⟩ := d
  subst e
  exact ⟨_, (ns.map V.int).length, rfl, .inl ⟨_, SqL.same s.g h, rfl⟩, k _ G H s (Rl.refl _ _ _) (by rw [List.length_map]; exact .int _)⟩
theorem rv_ixK {n : Nat} {z : Int} (h : ns[n]? = some z) : RvM (rIx K) (.lk K a ns) (di (n : Nat)) (di z) := rv_of fun G H v w e d b Q k =>
  .inl ⟨a, _, (n : Nat), .int z, d.1, Dv.int_of b, SqL.same e d.2, atI_nat (by rw [List.getElem?_map, h] <;> rfl), k _ (.int _)⟩
/-! ### new objects that change -/
theorem set_self {σ : L2.St} {i : Nat} {z : Option V} (e : σ[i]? = some z) : σ.set i z = σ := by
  refine List.ext_getElem? fun k => ?_
  by_cases z : i = k
  · subst z
    have hl : i < σ.length := by
      cases Nat.lt_or_ge i σ.length with
      | inl h => exact h
      | inr h =>
        rw [List.getElem?_eq_none h] at e
        cases e
    rw [List.getElem?_set_self hl, e]
  · rw [List.getElem?_set_ne z]
def EvN (te : TE) (δ : Dl) (M : Hp) (o : HO) (M2 : Hp) : Prop := ∀ (σ : L2.St) (G H : Hp), Stt G M H → Slots G σ δ → ∀ Q : VK, (∀ p G2 H2, M2 p = Option.none → Stt G2 (upd M2 p o) H2 → Rl G M H G2 (upd M2 p o) H2 → Q (.ref p) H2) → te σ H Q
theorem en_dnewT : EvN tDNewT δ M (.dT []) M := fun σ G H s sl Q k p hp => k p G _ (s.m.free hp) (s.newM hp) (Rl.newM s hp)
theorem en_rep {n z : Int} (h : EvM tb δ M (di n) M) (h0 : 0 ≤ n) (h1 : n ≤ 50000) : EvN (tOp rRep (tLst (tCons (tC (.int z)) tNil)) tb) δ M (.lst (List.replicate n.toNat (.int z))) M := fun σ G H s sl Q k => by
  refine ⟨by show 1 ≤ sizeLine; decide, fun p hp => ?_⟩
  have s1 := s.new (o := .lst [.int z]) hp
  have r1 := Rl.new (o := .lst [.int z]) s hp
  refine h σ _ _ s1 (sl.mono r1.g) _ fun v G2 H2 s2 r2 d2 => ?_
  have ha : H2 p = some (.lst [.int z]) := s2.g _ _ (r2.g _ _ upd_same)
  refine ⟨p, n, [.int z], rfl, Dv.int_of d2, ha, by omega, by omega, Nat.le_trans (by simp; omega) (by decide : 50000 ≤ sizeLine), fun c hc => ?_⟩
  have e : (List.replicate n.toNat [V.int z]).flatten = List.replicate n.toNat (.int z) := by
    generalize n.toNat = m
    induction m with
    | zero => rfl
    | succ m ih =>
      rw [List.replicate_succ, List.flatten_cons, ih, List.replicate_succ]
      rfl
  rw [e]
  have s3 := s2.newM (o := .lst (List.replicate n.toNat (.int z))) hc
  have r3 := Rl.newM (o := .lst (List.replicate n.toNat (.int z))) s2 hc
  exact k c G2 _ (s2.m.free hc) s3 (Rl.trans s1 s3 s r1 (Rl.trans s2 s3 s1 r2 r3))
/-- a new list of known values -/
theorem en_lst {ta : TA} {xs : List Da} {vs : List V} (h : EAM ta δ M xs M1) (hv : ∀ G us, DaAll G us xs → us = vs) (hl : vs.length ≤ 1000) : EvN (tLst ta) δ M (.lst vs) M1 := fun σ G H s sl Q k =>
  h σ G H s sl _ fun us G1 H1 s1 r1 d1 => by
    have e := hv _ _ d1
    subst e
    refine ⟨Nat.le_of_lt (small1000 (by omega)), fun p hp => ?_⟩
    have s2 := s1.newM (o := .lst us) hp
    exact k p G1 _ (s1.m.free hp) s2 (Rl.trans s1 s2 s r1 (Rl.newM s1 hp))
theorem ws_setN {i : Nat} {o : HO} (h : EvN te δ M o M1) (k : ∀ p, M1 p = Option.none → P (.nx (δ.set i (some (.ref p))) (upd M1 p o))) : WS (tAsg te (gName i)) δ M P := fun σ G H D s sl h1 h2 h3 h4 =>
  h σ G H s sl _ fun p G1 H1 hp s1 r1 => h1 _ _ _ G1 _ (k p hp) s1 r1 ((sl.mono r1.g).set (x := .ref p) rfl)
theorem ws_parN {i j : Nat} {o : HO} (ha : EvM ta δ M x M1) (hb : EvN tb δ M1 o M2) (k : ∀ p, M2 p = Option.none → P (.nx ((δ.set i (some x)).set j (some (.ref p))) (upd M2 p o))) : WS (tPar i j (tCons ta (tCons tb tNil))) δ M P := fun σ G H D s sl h1 h2 h3 h4 =>
  ha σ G H s sl _ fun v G1 H1 s1 r1 d1 => hb σ G1 H1 s1 (sl.mono r1.g) _ fun p G2 H2 hp s2 r2 =>
    ⟨_, _, rfl, h1 _ _ _ G2 _ (k p hp) s2 (Rl.trans s1 s2 s r1 r2) (((sl.mono (r1.g.trans r2.g)).set (x := x) (d1.mono r2.g)).set (x := .ref p) rfl)⟩
/-- a slot is told anew -/
theorem ws_tell {i : Nat} {t : TS} (hs : δ[i]? = some (some x)) (hx : ∀ G v, DaOk G v x → DaOk G v y) (h : WS t (δ.set i (some y)) M P) : WS t δ M P := fun σ G H D s sl h1 h2 h3 h4 => by
  obtain ⟨v, e, d⟩ := sl.2 i _ hs
  have q := sl.set (i := i) (v := v) (hx G v d)
  rw [set_self e] at q
  exact h σ G H D s q h1 h2 h3 h4
/-- what may change stands still from now on -/
theorem ws_frz {i : Nat} {p : Addr} {o : HO} {t : TS} (hM : M p = Option.none) (hs : δ[i]? = some (some (.ref p))) (hx : ∀ G, G p = some o → DaOk G (.ref p) x) (h : WS t (δ.set i (some x)) M P) : WS t δ (upd M p o) P := fun σ G H D s sl h1 h2 h3 h4 => by
  have s1 := s.freeze hM
  have r1 := Rl.freeze s hM
  refine ws_mid s s1 r1 ?_ h h1 h2 h3 h4
  obtain ⟨v, e, d⟩ := sl.2 i _ hs
  have ev : v = .ref p := d
  subst ev
  have q := (sl.mono r1.g).set (i := i) (v := .ref p) (hx (upd G p o) upd_same)
  rw [set_self e] at q
  exact q
/-! ### dicts with tuple keys -/
def kyD : Key → PyData
  | .inl i => .int i
  | .inr s => .str s
theorem dvs_key {G : Hp} : ∀ {xs : List V} {k : List Key}, Dvs G xs (k.map kyD) → xs = k.map kV
  | _, [], .nil => rfl
  | _, .inl i :: k, .cons h t => by
    have e1 := Dv.int_of h
    have e2 := dvs_key (k := k) t
    rw [e1, e2] <;> rfl
  | _, .inr i :: k, .cons h t => by
    have e1 := Dv.str_of h
    have e2 := dvs_key (k := k) t
    rw [e1, e2] <;> rfl
theorem key_tup {G : Hp} {v : V} {k : List Key} (h : Dv G v (.tuple (k.map kyD))) : ∃ b, v = .ref b ∧ G b = some (.tup (k.map kV)) := by
  obtain ⟨b, xs, e, hb, hx⟩ := Dv.tup_of h
  rw [dvs_key hx] at hb
  exact ⟨b, e, hb⟩
theorem ws_dput {td ty tv : TE} {p : Addr} {k : List Key} {kvs : List (List Key × V)} {u : V} (hv : EvM tv δ M x M1) (hd : EvM td δ M1 (.ref p) M2) (hk : EvM ty δ M2 (.d (.tuple (k.map kyD))) M3) (hM : M3 p = some (.dT kvs)) (hl : kvs.length < 50000)
    (hu : ∀ G v, DaOk G v x → v = u) (kk : P (.nx δ (upd M3 p (.dT (putK kvs k u))))) : WS (sDPut td ty tv) δ M P := fun σ G H D s sl h1 h2 h3 h4 =>
  hv σ G H s sl _ fun v G1 H1 s1 r1 d1 => hd σ G1 H1 s1 (sl.mono r1.g) _ fun v2 G2 H2 s2 r2 d2 => hk σ G2 H2 s2 (sl.mono (r1.g.trans r2.g)) _ fun v3 G3 H3 s3 r3 d3 => by
    have e := hu _ _ d1
    subst e
    obtain ⟨b, e3, hb⟩ := key_tup d3
    subst e3
    refine ⟨p, _, d2, DPut.t (s3.m _ _ hM) (s3.g _ _ hb) (Nat.lt_of_lt_of_le hl (by decide)), ?_⟩
    have s4 := s3.write (o := .dT (putK kvs k v)) hM
    have r4 := Rl.write (o := .dT (putK kvs k v)) s3 hM
    exact h1 σ δ _ G3 _ kk s4 (Rl.trans s1 s4 s r1 (Rl.trans s2 s4 s1 r2 (Rl.trans s3 s4 s2 r3 r4))) (sl.mono (r1.g.trans (r2.g.trans r3.g)))
theorem em_dget {td ty : TE} {k : List Key} {kvs : List (List Key × V)} {u : V} (hd : EvM td δ M (.dic kvs) M1) (hk : EvM ty δ M1 (.d (.tuple (k.map kyD))) M2) (h : valV kvs k = some u) (hu : ∀ G, DaOk G u x) : EvM (tDGet td ty) δ M x M2 := fun σ G H s sl Q kk =>
  hd σ G H s sl _ fun v G1 H1 s1 r1 d1 => hk σ G1 H1 s1 (sl.mono r1.g) _ fun v2 G2 H2 s2 r2 d2 => by
    obtain ⟨p, e, hp⟩ := d1
    subst e
    obtain ⟨b, e2, hb⟩ := key_tup d2
    subst e2
    refine ⟨p, u, rfl, ?_, kk _ G2 H2 s2 (Rl.trans s1 s2 s r1 r2) (hu G2)⟩
    rw [← h]
    exact DGet.t (s2.g _ _ (r2.g _ _ hp)) (s2.g _ _ hb)
/-- list(d) -/
abbrev rListDT : List V → Hp → VK → Prop := fun xs H Q => ∃ d kvs, xs = [V.ref d] ∧ Rd H d (.dT kvs) ∧ ∀ p bs, H p = none → IsKeys H kvs bs → Q (.ref p) (upd H p (.lst (bs.map V.ref)))
theorem keys_dv {G H : Hp} (e : Same G H) : ∀ {kvs : List (List Key × V)} {bs : List Addr}, IsKeys H kvs bs → Dvs (wt G H) (bs.map V.ref) (kvs.map fun p => .tuple (p.1.map kyD))
  | _, _, .nil => .nil
  | _, _, .cons (a := p) h t => by
    refine .cons (.tup (wt_t e h) ?_) (keys_dv e t)
    generalize p.1 = k
    induction k with
    | nil => exact .nil
    | cons c k ih =>
      cases c with
      | inl i => exact .cons (.int i) ih
      | inr i => exact .cons (.str i) ih
theorem rc_listDT {kvs : List (List Key × V)} : RcM rListDT [.dic kvs] (.d (.list (kvs.map fun p => .tuple (p.1.map kyD)))) := rc1 fun G M H v s d Q k => by
  obtain ⟨a, e, ha⟩ := d
  subst e
  refine ⟨a, kvs, rfl, .inl (s.g _ _ ha), fun p bs hp hk => ?_⟩
  have s1 := s.wt
  have r1 := Rl.wt s
  have s2 := s1.new (o := .lst (bs.map V.ref)) hp
  have r2 := Rl.new (o := .lst (bs.map V.ref)) s1 hp
  exact k _ _ _ s2 (Rl.trans s1 s2 s r1 r2) (Dv.lst upd_same ((keys_dv s.g hk).mono r2.g))
/-- sorted(d), keys pairs of ints -/
theorem rc_sortDT {kvs : List (List Key × V)} {ps : List (Nat × Nat)} (hk : kvs.map (·.1) = ps.map keyP) (hl : ps.length ≤ 50000) : RcM rSortDT [.dic kvs] (.d (.list ((ps.mergeSort (PySem.W.dataLe false datP)).map prD))) := rc1 fun G M H v s d Q k => by
  obtain ⟨a, e, ha⟩ := d
  subst e
  refine ⟨a, kvs, ps, rfl, s.g _ _ ha, hk, hl, fun p zs hp e2 hz => ?_⟩
  have s1 := s.wt
  have r1 := Rl.wt s
  have s2 := s1.new (o := .lst ((zs.mergeSort leA).map fun z => .ref z.1)) hp
  have r2 := Rl.new (o := .lst ((zs.mergeSort leA).map fun z => .ref z.1)) s1 hp
  have e3 : ps.mergeSort (PySem.W.dataLe false datP) = (zs.mergeSort leA).map (·.2) := by
    rw [← e2]
    exact (List.map_mergeSort (f := fun z : AP => z.2) (r := leA) (s := PySem.W.dataLe false datP) (l := zs) fun a _ b _ => rfl).symm
  have hz2 : ∀ z ∈ zs.mergeSort leA, H z.1 = some (.tup [.int (z.2.1 : Nat), .int (z.2.2 : Nat)]) := fun z m => hz z (List.mem_mergeSort.mp m)
  have key : ∀ l : List AP, (∀ z ∈ l, H z.1 = some (.tup [.int (z.2.1 : Nat), .int (z.2.2 : Nat)])) → Dvs (wt G H) (l.map fun z => .ref z.1) ((l.map (·.2)).map prD) := by
    intro l
    induction l with
    | nil => exact fun _ => .nil
    | cons z l ih =>
      intro hh
      exact .cons (.tup (wt_t s.g (hh z List.mem_cons_self)) (.cons (.int _) (.cons (.int _) .nil))) (ih fun y hy => hh y (List.mem_cons_of_mem _ hy))
  rw [e3] at k
  exact k _ _ _ s2 (Rl.trans s1 s2 s r1 r2) (Dv.lst upd_same ((key _ hz2).mono r2.g))
end
end DL

set_option Elab.async false
set_option linter.all false
set_option maxRecDepth 100000
set_option maxHeartbeats 4000000
namespace DL
open PySem PySem.Spec PyProof.Rows L2 Md
section
variable {P : Program} {w : World} {K : PySem.W.Frag} {mg : Str → Option Value} {base : Heap}
theorem rg_at {n i : Nat} {x : PyData} (h : ((List.range n).map fun i => PyData.int (i : Nat))[i]? = some x) : i < n ∧ x = .int (i : Nat) := by
  rw [List.getElem?_map] at h
  cases q : (List.range n)[i]? with
  | none =>
    rw [q] at h
    cases h
  | some m =>
    obtain ⟨hi, em⟩ := List.getElem?_eq_some_iff.mp q
    rw [List.length_range] at hi
    rw [List.getElem_range] at em
    subst em
    rw [q] at h
    exact ⟨hi, (Option.some.inj h).symm⟩
abbrev s_law_sets : Stmt := top 51
abbrev nm_law_sets : List Str := ["_law_many", "_law_found", "_law_place", "_law_told"]
theorem sc_law_sets : FnScope nm_law_sets ["_law_many"] (defScope s_law_sets) := ⟨rfl, rfl, rfl, by decide +kernel, rfl, by decide +kernel, by decide +kernel⟩
theorem ok_law_sets {f : Addr} {fd : FuncData} (F : Fun K "_law_sets" "_law_sets" s_law_sets f fd) (B : Bi mg) : FnOk P w K mg base CX0 1 f fd ["_law_many"] (SpP fr_law_sets) := by
  refine fn_pure F sc_law_sets (fun xs y ⟨n, _, h, _⟩ => by rw [h] <;> rfl) (fun cdv A outer s H E hr => ⟨_, (pss_cons (ps_set (i := 1) sc_law_sets.nd rfl (Or.inl rfl) (pe_lst (pa_cons (pe_tup pa_nil) pa_nil)))
    (pss_cons (ps_for PassesOwn.never rfl (pi_range1 (by rfl) B.range_ (pa_cons (pv 0) pa_nil)) (pg_name (i := 2) sc_law_sets.nd rfl (by first | exact Or.inl rfl | exact Or.inr rfl)) (pss_one (ps_set (i := 1) sc_law_sets.nd rfl (Or.inl rfl) (pe_op op_cat (pv 1) (pe_lc (own := [("_law_told", 3)]) (g := (gName 3)) rfl sc_law_sets.nd (pi_listK (K := K) rfl (pv 1)) (blkOk_by (N := nm_law_sets) (sc := defScope s_law_sets) (own := [("_law_told", 3)]) (by decide +kernel)) (fun _ _ _ _ _ => (pg_name (i := 3) sc_law_sets.nd rfl (by first | exact Or.inl rfl | exact Or.inr rfl))) (fun _ _ _ _ _ => pts_nil) (fun _ _ _ _ _ => (pe_op (op_catAK (K := K) rfl) (pv 3) (pe_tup (pa_cons (pv 2) pa_nil)))))))))
    (pss_one (ps_ret (pv 1))))), ?_⟩)
  rintro xs y ⟨n, hn, rfl, rfl⟩
  refine ws_seq (ws_set (em_lst (xs := [.tuple []]) (ea_cons (em_tup (xs := []) ea_nil (by decide)) ea_nil) (by show 1 ≤ 1000; decide)) ?_)
  refine ws_seq (ws_for (iv_rg (ea_cons (em_var rfl) ea_nil) (by omega)) (fun i δ1 M1 => M1 = nom ∧ ∃ z : Option Da, δ1 = [some (di (n : Nat)), some (.d (.list ((List.range (2 ^ i)).map setD))), z, none]) ⟨rfl, none, rfl⟩ ?_ ?_)
  · rintro i x δ1 M1 hx ⟨rfl, z, rfl⟩
    obtain ⟨hi, rfl⟩ := rg_at hx
    have h8 : 2 ^ i ≤ 2 ^ 7 := Nat.pow_le_pow_right (by decide) (by omega)
    refine ⟨_, [2], tg_name, ws_set ((em_op (em_var rfl) (em_lcN (List.range (2 ^ i)) setD (fun m => .tuple ((bs m).map (fun a => .int (a : Nat)) ++ [.int (i : Nat)])) (iv_list (em_var rfl)) (by rw [List.length_range]; omega)
      fun m hm M' => em_op (em_var rfl) (em_tup (xs := [.int (i : Nat)]) (ea_cons (em_var rfl) ea_nil) (by show 1 ≤ 1000; decide)) (rv_catT (by have := bs_len m; rw [List.length_map]; show _ + 1 ≤ 50000; omega))) (rv_catL (by rw [List.length_map, List.length_map, List.length_range]; omega))).is (y := .d (.list ((List.range (2 ^ (i + 1))).map setD))) ?_) ⟨rfl, some (di (i : Nat)), rfl⟩⟩
    rw [sets_succ (by omega)]
  · rintro δ1 M1 ⟨rfl, z, rfl⟩
    rw [List.length_map, List.length_range]
    exact ws_ret (em_var rfl) rfl
abbrev s_law_kinds : Stmt := top 52
abbrev nm_law_kinds : List Str := ["_law_company_here", "_law_found", "_law_places", "_law_letters", "_law_at"]
theorem sc_law_kinds : FnScope nm_law_kinds ["_law_company_here"] (defScope s_law_kinds) := ⟨rfl, rfl, rfl, by decide +kernel, rfl, by decide +kernel, by decide +kernel⟩
theorem ok_law_kinds {f : Addr} {fd : FuncData} (F : Fun K "_law_kinds" "_law_kinds" s_law_kinds f fd) (B : Bi mg) (c_law_sets : Cal P w K mg base "_law_sets" ["_law_many"] 1 (SpP fr_law_sets)) : FnOk P w K mg base CX0 2 f fd ["_law_company_here"] (SpP fr_law_kinds) := by
  refine fn_pure F sc_law_kinds (fun xs y ⟨C, _, h, _⟩ => by rw [h] <;> rfl) (fun cdv A outer s H E hr => ⟨_, (pss_cons (ps_set (i := 1) sc_law_kinds.nd rfl (Or.inl rfl) (pe_lst pa_nil))
    (pss_cons (ps_for PassesOwn.never rfl (pi_listK (K := K) rfl (pe_cal c_law_sets (hr.mono (by decide)) (by rfl) (pa_cons (pe_ix (ix_seqK (K := K) rfl) (pv 0) pe_int (fun _ _ => rfl)) pa_nil))) (pg_name (i := 2) sc_law_kinds.nd rfl (by first | exact Or.inl rfl | exact Or.inr rfl)) (pss_cons (ps_set (i := 3) sc_law_kinds.nd rfl (Or.inl rfl) (pe_bmK (K := K) rfl PySem.F.plainAttrs_str PySem.F.slot_str_join PySem.F.type_str_join (mt_sJoinK (K := K) rfl) pe_str (pa_cons (pe_lc (own := [("_law_at", 4)]) (g := (gName 4)) rfl sc_law_kinds.nd (pi_tupK (K := K) rfl (pv 2)) (blkOk_by (N := nm_law_kinds) (sc := defScope s_law_kinds) (own := [("_law_at", 4)]) (by decide +kernel)) (fun _ _ _ _ _ => (pg_name (i := 4) sc_law_kinds.nd rfl (by first | exact Or.inl rfl | exact Or.inr rfl))) (fun _ _ _ _ _ => pts_nil) (fun _ _ _ _ _ => (pe_ix (ix_seqK (K := K) rfl) pe_str (pv 4) (fun _ _ => rfl)))) pa_nil)))
    (pss_one (ps_set (i := 1) sc_law_kinds.nd rfl (Or.inl rfl) (pe_op op_cat (pv 1) (pe_lst (pa_cons (pe_tup (pa_cons (pv 3) (pa_cons pe_int pa_nil))) (pa_cons (pe_tup (pa_cons (pv 3) (pa_cons pe_int pa_nil))) pa_nil))))))))
    (pss_one (ps_ret (pe_callB (call_sortD (K := K) rfl hr.units) (by rfl) B.sorted_ boot_sorted (pa_cons (pv 1) pa_nil)))))), ?_⟩)
  rintro xs y ⟨C, hC, rfl, rfl⟩
  have hn := hC.hi
  have h256 : 2 ^ C.n ≤ 2 ^ 8 := Nat.pow_le_pow_right (by decide) hn
  refine ws_seq (ws_set (em_lst (xs := []) ea_nil (by decide)) ?_)
  refine ws_seq (ws_for (iv_list (em_call (ea_cons (em_op (em_var rfl) em_int (rv_ixT (d := .int (C.n : Nat)) rfl)) ea_nil) ⟨C.n, hn, rfl, rfl⟩)) (fun i δ1 M1 => M1 = nom ∧ ∃ a b : Option Da, δ1 = [some (.d (comD C)), some (.d (.list ((allu i).map kD))), a, b, none]) ⟨rfl, none, none, rfl⟩ ?_ ?_)
  · rintro i x δ1 M1 hx ⟨rfl, a, b, rfl⟩
    rw [List.getElem?_map] at hx
    cases q : (List.range (2 ^ C.n))[i]? with
    | none =>
      rw [q] at hx
      cases hx
    | some m =>
      obtain ⟨hi, em⟩ := List.getElem?_eq_some_iff.mp q
      rw [List.length_range] at hi
      rw [List.getElem_range] at em
      subst em
      rw [q] at hx
      have ex : x = setD i := (Option.some.inj hx).symm
      subst ex
      have hz := bs_len i
      refine ⟨_, [2], tg_name, ?_⟩
      refine ws_seq (ws_set ((em_sJoinB (bs := bs i) (g := fun a => wd [a]) em_str (ea_cons (em_lcN (bs i) (fun a => .int (a : Nat)) (fun a => .str (wd [a])) (iv_tup (em_var rfl)) (by omega) fun a ha M' => (em_op em_str (em_var rfl) (rv_ixS (by decide +kernel) (alph_at (bs_lt ha)))).is rfl) ea_nil) ?_).is (y := ds (lt i)) ?_) ?_)
      · rw [lens_ones]
        show _ + _ * 0 ≤ 16777216
        omega
      · rw [join_ones]
        rfl
      · refine ws_set ((em_op (em_var rfl) (em_lst (xs := [kD (i, 0), kD (i, 1)]) (ea_cons (em_tup (xs := [.str (lt i), .int 0]) (ea_cons (em_var rfl) (ea_cons em_int ea_nil)) (by show 2 ≤ 1000; decide)) (ea_cons (em_tup (xs := [.str (lt i), .int 1]) (ea_cons (em_var rfl) (ea_cons em_int ea_nil)) (by show 2 ≤ 1000; decide)) ea_nil)) (by show 2 ≤ 1000; decide))
          (rv_catL (by rw [List.length_map, allu_len]; show 2 * i + 2 ≤ 50000; omega))).is (y := .d (.list ((allu (i + 1)).map kD))) ?_) ⟨rfl, some (.d (setD i)), some (ds (lt i)), rfl⟩
        rw [allu_succ, List.map_append]
        rfl
  · rintro δ1 M1 ⟨rfl, a, b, rfl⟩
    rw [List.length_map, List.length_range]
    refine ws_ret (em_cb (ea_cons (em_var rfl) ea_nil) (rc_sortD (bs := allu (2 ^ C.n)) (enc := kD) (PySem.W.AllAlike.of fun b b' => by simp [kD, PySem.W.alike, PySem.W.alikeAll]) (PySem.W.Sortable.tuples fun b => ⟨_, _, rfl⟩) fun b _ => ?_)) rfl
    have : (kD b).depth = 1 := by simp [kD, PyData.depth, PyData.depthAll]
    omega
theorem sh_ps (ps : List (Nat × Nat)) : SeqAt.shaped (.tuple (ps.map prD)) = true := by
  have h1 : PyData.canLayAll0 (ps.map prD) = true := by
    induction ps with
    | nil => rfl
    | cons p ps ih =>
      rw [List.map_cons]
      show (PyData.canLay0 (prD p) && _) = true
      rw [ih]
      rfl
  have h2 : PyData.depthAll (ps.map prD) ≤ 1 := by
    clear h1
    induction ps with
    | nil => simp [PyData.depthAll]
    | cons p ps ih =>
      rw [List.map_cons]
      simp only [PyData.depthAll]
      have : (prD p).depth = 1 := by simp [prD, PyData.depth, PyData.depthAll]
      omega
  have h3 : (PyData.tuple (ps.map prD)).depth = PyData.depthAll (ps.map prD) + 1 := by simp [PyData.depth]
  unfold SeqAt.shaped
  rw [h3]
  show (PyData.canLayAll0 (ps.map prD) && decide (PyData.depthAll (ps.map prD) + 1 ≤ 64)) = true
  rw [h1, decide_eq_true (by omega)]
  rfl
abbrev s_law_friend : Stmt := top 54
abbrev nm_law_friend : List Str := ["_law_company_here", "_law_one", "_law_other", "_law_signs"]
theorem sc_law_friend : FnScope nm_law_friend ["_law_company_here", "_law_one", "_law_other"] (defScope s_law_friend) := ⟨rfl, rfl, rfl, by decide +kernel, rfl, by decide +kernel, by decide +kernel⟩
theorem ok_law_friend {f : Addr} {fd : FuncData} (F : Fun K "_law_friend" "_law_friend" s_law_friend f fd) (B : Bi mg) : FnOk P w K mg base CX0 1 f fd ["_law_company_here", "_law_one", "_law_other"] (SpP fr_law_friend) := by
  refine fn_pure F sc_law_friend (fun xs y ⟨C, a, b, _, h, _⟩ => by rw [h] <;> rfl) (fun cdv A outer s H E hr => ⟨_, (pss_cons (ps_set (i := 3) sc_law_friend.nd rfl (Or.inl rfl) pe_str)
    (pss_one (ps_ret (pe_cmpR (op_inTK (K := K) rfl (un65 hr)) (pe_tup (pa_cons (pe_bmK (K := K) rfl PySem.F.plainAttrs_str PySem.F.slot_str_index PySem.F.type_str_index mt_sIndex (pv 3) (pa_cons (pe_callB (call_min2S rfl) (by rfl) B.min_ boot_min (pa_cons (pv 1) (pa_cons (pv 2) pa_nil))) pa_nil)) (pa_cons (pe_bmK (K := K) rfl PySem.F.plainAttrs_str PySem.F.slot_str_index PySem.F.type_str_index mt_sIndex (pv 3) (pa_cons (pe_callB (call_max2S rfl) (by rfl) B.max_ boot_max (pa_cons (pv 1) (pa_cons (pv 2) pa_nil))) pa_nil)) pa_nil))) (pe_ix (ix_seqK (K := K) rfl) (pv 0) pe_int (fun _ _ => rfl)) rfl)))), ?_⟩)
  rintro xs y ⟨C, a, b, ⟨hC, ha, hb⟩, rfl, rfl⟩
  refine ws_seq (ws_set em_str ?_)
  refine ws_ret ((em_op (em_tup (xs := [.int (min a b : Nat), .int (max a b : Nat)]) (ea_cons (em_sIndex (rest := []) (em_var rfl) (ea_cons ((em_cb (ea_cons (em_var rfl) (ea_cons (em_var rfl) ea_nil)) rc_min2S).is (y := ds ⟨#[min a b + 97]⟩) ?_) ea_nil) (alph_ix _ (by omega))) (ea_cons (em_sIndex (rest := []) (em_var rfl) (ea_cons ((em_cb (ea_cons (em_var rfl) (ea_cons (em_var rfl) ea_nil)) rc_max2S).is (y := ds ⟨#[max a b + 97]⟩) ?_) ea_nil) (alph_ix _ (by omega))) ea_nil)) (by show 2 ≤ 1000; decide))
    (em_op (em_var rfl) em_int (rv_ixT (d := .tuple (C.ps.map prD)) rfl)) (rv_inT (sh_ps _) sh_ii)).is ?_) rfl
  · have h := lt_one (a := b) (b := a)
    by_cases hab : b < a
    · rw [if_pos (of_decide_eq_true (h.trans (decide_eq_true hab))), Nat.min_eq_right (by omega)]
    · rw [if_neg (of_decide_eq_false (h.trans (decide_eq_false hab))), Nat.min_eq_left (by omega)]
  · have h := lt_one (a := a) (b := b)
    by_cases hab : a < b
    · rw [if_pos (of_decide_eq_true (h.trans (decide_eq_true hab))), Nat.max_eq_right (by omega)]
    · rw [if_neg (of_decide_eq_false (h.trans (decide_eq_false hab))), Nat.max_eq_left (by omega)]
  · congr 2
    rw [List.any_map]
    have e : ∀ p : Nat × Nat, PyData.eqv (prD p) (.tuple [.int (min a b : Nat), .int (max a b : Nat)]) = decide (p = (min a b, max a b)) := fun p => eqv_ii
    by_cases hm : (min a b, max a b) ∈ C.ps
    · rw [decide_eq_true hm]
      refine List.any_eq_true.mpr ⟨_, hm, ?_⟩
      show PyData.eqv (prD (min a b, max a b)) (.tuple [.int (min a b : Nat), .int (max a b : Nat)]) = true
      rw [e]
      exact decide_eq_true rfl
    · rw [decide_eq_false hm]
      refine List.any_eq_false.mpr fun p hp z => ?_
      have z' : PyData.eqv (prD p) (.tuple [.int (min a b : Nat), .int (max a b : Nat)]) = true := z
      rw [e] at z'
      rw [of_decide_eq_true z'] at hp
      exact hm hp
abbrev s_law_kind : Stmt := top 55
abbrev nm_law_kind : List Str := ["_law_company_here", "_law_word_here", "_law_count", "_law_odd", "_law_sign", "_law_at", "_law_one"]
theorem sc_law_kind : FnScope nm_law_kind ["_law_company_here", "_law_word_here"] (defScope s_law_kind) := ⟨rfl, rfl, rfl, by decide +kernel, rfl, by decide +kernel, by decide +kernel⟩
theorem ok_law_kind {f : Addr} {fd : FuncData} (F : Fun K "_law_kind" "_law_kind" s_law_kind f fd) (B : Bi mg) (c_law_friend : Cal P w K mg base "_law_friend" ["_law_company_here", "_law_one", "_law_other"] 1 (SpP fr_law_friend)) : FnOk P w K mg base CX0 2 f fd ["_law_company_here", "_law_word_here"] (SpP fr_law_kind) := by
  refine fn_pure F sc_law_kind (fun xs y ⟨C, l, _, h, _⟩ => by rw [h] <;> rfl) (fun cdv A outer s H E hr => ⟨_, (pss_cons (ps_asg (pe_tup (pa_cons pe_int (pa_cons pe_str pa_nil))) (pg_tup rfl (pgs_cons (pg_name (i := 2) sc_law_kind.nd rfl (by first | exact Or.inl rfl | exact Or.inr rfl)) (pgs_cons (pg_name (i := 3) sc_law_kind.nd rfl (by first | exact Or.inl rfl | exact Or.inr rfl)) pgs_nil))))
    (pss_cons (ps_for PassesOwn.never rfl (pi_str (pe_slice sl_str pe_str po_none (po_some (pe_ix (ix_seqK (K := K) rfl) (pv 0) pe_int (fun _ _ => rfl))))) (pg_name (i := 4) sc_law_kind.nd rfl (by first | exact Or.inl rfl | exact Or.inr rfl)) (pss_cons (ps_set (i := 2) sc_law_kind.nd rfl (Or.inl rfl) (pe_op op_add (pv 2) (pe_op op_fdiv (pe_bmK (K := K) rfl PySem.F.plainAttrs_str PySem.F.slot_str_count PySem.F.type_str_count mt_sCount (pv 1) (pa_cons (pv 4) pa_nil)) pe_int)))
    (pss_one (ps_set (i := 3) sc_law_kind.nd rfl (Or.inl rfl) (pe_op op_addS (pv 3) (pe_ifExp (pt_cmpR op_eq (pe_op op_sub (pe_bmK (K := K) rfl PySem.F.plainAttrs_str PySem.F.slot_str_count PySem.F.type_str_count mt_sCount (pv 1) (pa_cons (pv 4) pa_nil)) (pe_op op_mul (pe_op op_fdiv (pe_bmK (K := K) rfl PySem.F.plainAttrs_str PySem.F.slot_str_count PySem.F.type_str_count mt_sCount (pv 1) (pa_cons (pv 4) pa_nil)) pe_int) pe_int)) pe_int (nomark _)) (pv 4) pe_str))))))
    (pss_cons (ps_for PassesOwn.never rfl (pi_range1 (by rfl) B.range_ (pa_cons (pe_callB (call_lenK (K := K) rfl) (by rfl) B.len_ boot_len (pa_cons (pv 1) pa_nil)) pa_nil)) (pg_name (i := 5) sc_law_kind.nd rfl (by first | exact Or.inl rfl | exact Or.inr rfl)) (pss_one (ps_set (i := 2) sc_law_kind.nd rfl (Or.inl rfl) (pe_op op_add (pv 2) (pe_callB (call_lenK (K := K) rfl) (by rfl) B.len_ boot_len (pa_cons (pe_lc (own := [("_law_one", 6)]) (g := (gName 6)) rfl sc_law_kind.nd (pi_str (pe_slice sl_str (pv 1) (po_some (pe_op op_add (pv 5) pe_int)) po_none)) (blkOk_by (N := nm_law_kind) (sc := defScope s_law_kind) (own := [("_law_one", 6)]) (by decide +kernel)) (fun _ _ _ _ _ => (pg_name (i := 6) sc_law_kind.nd rfl (by first | exact Or.inl rfl | exact Or.inr rfl))) (fun _ _ _ _ _ => pts_one (PW.pt (pw_and (pt_cmpR op_ltS (pv 6) (pe_ix (ix_seqK (K := K) rfl) (pv 1) (pv 5) (fun _ _ => rfl)) (nomark _)) (pw_and1 (pt_val (pe_cal c_law_friend (hr.mono (by decide)) (by rfl) (pa_cons (pv 0) (pa_cons (pv 6) (pa_cons (pe_ix (ix_seqK (K := K) rfl) (pv 1) (pv 5) (fun _ _ => rfl)) pa_nil))))))))) (fun _ _ _ _ _ => (pv 6))) pa_nil))))))
    (pss_one (ps_ret (pe_tup (pa_cons (pv 3) (pa_cons (pe_op op_sub (pv 2) (pe_op op_mul (pe_op op_fdiv (pv 2) pe_int) pe_int)) pa_nil)))))))), ?_⟩)
  rintro xs y ⟨C, l, ⟨hC, hl, h60⟩, rfl, rfl⟩
  have hn := hC.hi
  have h8 : ∀ a ∈ l, a < 8 := fun a ha => by
    have := hl a ha
    omega
  refine ws_seq (ws_tup (em_tup (xs := [.int 0, .str ""]) (ea_cons em_int (ea_cons em_str ea_nil)) (by show 2 ≤ 1000; decide)) ?_)
  have hsg : IvM (iStr (tSl rSlS (tC (.str "abcdefgh")) tNoPart (tPart (tOp (rIx K) (tVar 0) (tC (.int 0)))))) [some (.d (comD C)), some (ds (wd l)), some (di 0), some (ds ""), none, none, none] nom ((List.range C.n).map fun a => PyData.str ⟨#[a + 97]⟩) nom := by
    refine iv_wd4 ((em_slS em_str eo_none (eo_some (em_op (em_var rfl) em_int (rv_ixT (d := .int (C.n : Nat)) rfl))) (by decide +kernel)).is ?_)
    rw [alph_cut hn]
  refine ws_seq (ws_for hsg (fun i δ1 M1 => M1 = nom ∧ ∃ a : Option Da, δ1 = [some (.d (comD C)), some (ds (wd l)), some (di (((List.range i).map fun a => l.count a / 2).sum : Nat)), some (ds (wd ((List.range i).filter fun a => decide (l.count a % 2 = 1)))), a, none, none]) ⟨rfl, none, rfl⟩ ?_ ?_)
  · rintro i x δ1 M1 hx ⟨rfl, a, rfl⟩
    rw [List.getElem?_map] at hx
    cases q : (List.range C.n)[i]? with
    | none =>
      rw [q] at hx
      cases hx
    | some m =>
      obtain ⟨hi, em⟩ := List.getElem?_eq_some_iff.mp q
      rw [List.length_range] at hi
      rw [List.getElem_range] at em
      subst em
      rw [q] at hx
      have ex : x = .str ⟨#[i + 97]⟩ := (Option.some.inj hx).symm
      subst ex
      have hflt : ((List.range i).filter fun a => decide (l.count a % 2 = 1)).length ≤ i := by
        have := List.length_filter_le (fun a => decide (l.count a % 2 = 1)) (List.range i)
        rw [List.length_range] at this
        exact this
      refine ⟨_, [4], tg_name, ?_⟩
      refine ws_seq (ws_set ((em_op (em_var rfl) (em_op (em_sCount (em_var rfl) (ea_cons (em_var rfl) ea_nil)) em_int (rv_div ⟨by decide, by decide⟩)) rv_add).is (y := di (((List.range (i + 1)).map fun a => l.count a / 2).sum : Nat)) ?_) ?_)
      · rw [count_wd, List.range_succ, List.map_append, List.sum_append]
        have e : ((l.count i : Nat) : Int) / 2 = ((l.count i / 2 : Nat) : Int) := by omega
        rw [e]
        simp
      · refine ws_set ((em_op (em_var rfl) (em_if (x := ds (wd (if l.count i % 2 = 1 then [i] else []))) (b := decide (l.count i % 2 = 1)) ((et_test (em_op (em_op (em_sCount (em_var rfl) (ea_cons (em_var rfl) ea_nil)) (em_op (em_op (em_sCount (em_var rfl) (ea_cons (em_var rfl) ea_nil)) em_int (rv_div ⟨by decide, by decide⟩)) em_int (rv_mul (.inr ⟨by decide, by decide⟩))) rv_sub) em_int rv_eq)).is ?_)
          (fun h => (em_var rfl).is ?_) (fun h => em_str.is ?_)) (rv_addS ?_)).is (y := ds (wd ((List.range (i + 1)).filter fun a => decide (l.count a % 2 = 1)))) ?_) ⟨rfl, some (ds ⟨#[i + 97]⟩), rfl⟩
        · rw [count_wd]
          by_cases h : l.count i % 2 = 1
          · rw [decide_eq_true h, decide_eq_true (by omega)]
          · rw [decide_eq_false h, decide_eq_false (by omega)]
        · rw [if_pos (of_decide_eq_true h)]
          rfl
        · rw [if_neg (of_decide_eq_false h)]
          rfl
        · rw [wd_len, wd_len]
          have : (if l.count i % 2 = 1 then [i] else []).length ≤ 1 := by split <;> simp
          omega
        · rw [wd_app, List.range_succ, List.filter_append]
          congr 4
          by_cases h : l.count i % 2 = 1
          · simp [h]
          · simp [h]
  · rintro δ1 M1 ⟨rfl, a, rfl⟩
    rw [List.length_map, List.length_range]
    refine ws_seq (ws_for (iv_rg (n := l.length) (ea_cons ((em_cb (ea_cons (em_var rfl) ea_nil) (rc_lenS (by rw [wd_len]; omega))).is (y := di (l.length : Nat)) (by rw [wd_len])) ea_nil) (by omega)) (fun i δ1 M1 => M1 = nom ∧ ∃ a b : Option Da, δ1 = [some (.d (comD C)), some (ds (wd l)), some (di (hv C.n l + croTo C l i : Nat)), some (ds (wd ((List.range C.n).filter fun a => decide (l.count a % 2 = 1)))), a, b, none]) ⟨rfl, a, none, rfl⟩ ?_ ?_)
    · rintro i x δ1 M1 hx ⟨rfl, a, b, rfl⟩
      obtain ⟨hi, rfl⟩ := rg_at hx
      have hg : l.getD i 0 < 8 := by
        rw [List.getD_eq_getElem?_getD, List.getElem?_eq_getElem hi]
        exact h8 _ (List.getElem_mem hi)
      have hat : atI (wd l).cps.toList (i : Nat) = some (l.getD i 0 + 97) := by
        refine atI_nat ?_
        rw [wd_tl, List.getElem?_map, List.getD_eq_getElem?_getD, List.getElem?_eq_getElem hi] <;> rfl
      refine ⟨_, [5], tg_name, ?_⟩
      have hcomp : IvM (iStr (tSl rSlS (tVar 1) (tPart (tOp (rI0 fun i j => .int (i + j)) (tVar 5) (tC (.int 1)))) tNoPart)) [some (.d (comD C)), some (ds (wd l)), some (di (hv C.n l + croTo C l i : Nat)), some (ds (wd ((List.range C.n).filter fun a => decide (l.count a % 2 = 1)))), a, some (di (i : Nat)), none] nom ((l.drop (i + 1)).map fun a => PyData.str ⟨#[a + 97]⟩) nom := by
        refine iv_wd4 ((em_slS (em_var rfl) (eo_some (em_op (em_var rfl) em_int rv_add)) eo_none (by rw [wd_len]; omega)).is ?_)
        have e : ((i : Nat) : Int) + 1 = ((i + 1 : Nat) : Int) := by omega
        rw [e, cut_drop]
      refine ws_set ((em_op (em_var rfl) (em_cb (ea_cons (em_lcNF (l.drop (i + 1)) (fun a => .str ⟨#[a + 97]⟩) (fun b => decide (b < l.getD i 0) && decide ((b, l.getD i 0) ∈ C.ps)) (fun a => .str ⟨#[a + 97]⟩) hcomp (by rw [List.length_drop]; omega)
        (fun b hb M' => ?_) (fun b hb _ M' => em_var rfl)) ea_nil) rc_lenL) rv_add).is (y := di (hv C.n l + croTo C l (i + 1) : Nat)) ?_) ⟨rfl, a, some (di (i : Nat)), rfl⟩
      · have hb8 : b < 8 := h8 b (List.mem_of_mem_drop hb)
        refine et_and ((et_test (em_op (em_var rfl) (em_op (em_var rfl) (em_var rfl) (rv_ixS (by rw [wd_len]; omega) hat)) rv_ltS)).is lt_one)
          (fun hlt => (et_B (em_call (ea_cons (em_var rfl) (ea_cons (em_var rfl) (ea_cons (em_op (em_var rfl) (em_var rfl) (rv_ixS (by rw [wd_len]; omega) hat)) ea_nil))) ⟨C, b, l.getD i 0, ⟨hC, hb8, hg⟩, rfl, rfl⟩)).is ?_) (fun _ => rfl)
        have h := of_decide_eq_true hlt
        rw [Nat.min_eq_left (by omega), Nat.max_eq_right (by omega)]
      · rw [List.length_map]
        have e : croTo C l (i + 1) = croTo C l i + ((l.drop (i + 1)).filter fun b => decide (b < l.getD i 0) && decide ((b, l.getD i 0) ∈ C.ps)).length := by
          unfold croTo
          rw [List.range_succ, List.map_append, List.sum_append]
          simp [lat]
        rw [e]
        show di _ = di _
        congr 2
        omega
    · rintro δ1 M1 ⟨rfl, a, b, rfl⟩
      rw [List.length_map, List.length_range, croTo_all]
      refine ws_ret ((em_tup (xs := [_, _]) (ea_cons (em_var rfl) (ea_cons (em_op (em_var rfl) (em_op (em_op (em_var rfl) em_int (rv_div ⟨by decide, by decide⟩)) em_int (rv_mul (.inr ⟨by decide, by decide⟩))) rv_sub) ea_nil)) (by show 2 ≤ 1000; decide)).is ?_) rfl
      unfold kD lk lt
      rw [om_bs hC hl]
      have e : ((hv C.n l + cro C l : Nat) : Int) - ((hv C.n l + cro C l : Nat) : Int) / 2 * 2 = (((hv C.n l + cro C l) % 2 : Nat) : Int) := by omega
      rw [e]
end
end DL


set_option Elab.async false
set_option linter.all false
set_option maxRecDepth 100000
set_option maxHeartbeats 4000000
/-! D7: what the law draws from its row. -/
namespace DL
open PySem PySem.Spec PyProof.Rows L2 Md
/-- one draw below m -/
def tk (ns : List Int) (q : Q3) (m : Int) : Int × Q3 :=
  if 0 < q.2.2 then (q.2.2 % m, (q.1, q.2.1, q.2.2 / m))
  else if ns.length < q.1 + 1 then ((q.2.1 * 48271 + 11) % 2147483647 / 7 % m, (q.1 + 1, (q.2.1 * 48271 + 11) % 2147483647, q.2.2))
  else (ns.getD q.1 0 % m, (q.1 + 1, (q.2.1 * 48271 + ns.getD q.1 0 + 11) % 2147483647, if 10 ^ 18 ≤ ns.getD q.1 0 then ns.getD q.1 0 / m else q.2.2))
def QOk (q : Q3) : Prop := 0 ≤ q.2.1 ∧ q.2.1 < 2147483647
theorem tk_ok {ns : List Int} {q : Q3} {m : Int} (h : QOk q) : QOk (tk ns q m).2 := by
  unfold tk QOk at *
  split
  · exact h
  · split
    · exact ⟨Int.emod_nonneg _ (by decide), Int.emod_lt_of_pos _ (by decide)⟩
    · exact ⟨Int.emod_nonneg _ (by decide), Int.emod_lt_of_pos _ (by decide)⟩
theorem tk_lo {ns : List Int} {q : Q3} {m : Int} (h : 0 < m) : 0 ≤ (tk ns q m).1 := by
  unfold tk
  split
  · exact Int.emod_nonneg _ (by omega)
  · split
    · exact Int.emod_nonneg _ (by omega)
    · exact Int.emod_nonneg _ (by omega)
theorem tk_hi {ns : List Int} {q : Q3} {m : Int} (h : 0 < m) : (tk ns q m).1 < m := by
  unfold tk
  split
  · exact Int.emod_lt_of_pos _ h
  · split
    · exact Int.emod_lt_of_pos _ h
    · exact Int.emod_lt_of_pos _ h
abbrev FrR := List Da → Addr → HO → Da → HO → Prop
def fr_law_taken (K : PySem.W.Frag) : FrR := fun xs a o y o2 => ∃ (sc : Addr) (ns : List Int) (q : Q3) (m : Int), (0 < m ∧ m ≤ 1000 ∧ QOk q) ∧ xs = [.rw K a sc ns, di m] ∧ o = rowO sc q ∧ y = di (tk ns q m).1 ∧ o2 = rowO sc (tk ns q m).2
section
variable {P : Program} {w : World} {K : PySem.W.Frag} {mg : Str → Option Value} {base : Heap}
abbrev s_law_taken : Stmt := top 48
abbrev nm_law_taken : List Str := ["_law_row", "_law_many", "_law_found", "_law_cell"]
theorem sc_law_taken : FnScope nm_law_taken ["_law_row", "_law_many"] (defScope s_law_taken) := ⟨rfl, rfl, rfl, by decide +kernel, rfl, by decide +kernel, by decide +kernel⟩
theorem ok_law_taken {f : Addr} {fd : FuncData} (F : Fun K "_law_taken" "_law_taken" s_law_taken f fd) (B : Bi mg) : FnOk P w K mg base CX0 1 f fd ["_law_row", "_law_many"] (SpR (fr_law_taken K)) := by
  refine fn_row F sc_law_taken (fun xs a o y o2 ⟨sc, ns, q, m, _, h, _⟩ => by rw [h] <;> rfl) (fun cdv A outer s H E hr => ⟨_, (pss_cons (ps_if (pt_cmpR op_gt (pe_ix (ix_seqK (K := K) rfl) (pv 0) pe_int (fun _ _ => rfl)) pe_int (nomark _)) (pss_cons (ps_set (i := 2) sc_law_taken.nd rfl (Or.inl rfl) (pe_op op_mod (pe_callTy call_intX (by rfl) B.int_ boot_int (pa_cons (pe_ix (ix_seqK (K := K) rfl) (pv 0) pe_int (fun _ _ => rfl)) pa_nil)) (pv 1)))
    (pss_cons (ps_asg (pe_op op_fdiv (pe_ix (ix_seqK (K := K) rfl) (pv 0) pe_int (fun _ _ => rfl)) (pv 1)) (pg_sub (pv 0) pe_int set_list))
    (pss_one (ps_ret (pv 2))))) pss_nil)
    (pss_cons (ps_asg (pe_op op_add (pe_ix (ix_seqK (K := K) rfl) (pv 0) pe_int (fun _ _ => rfl)) pe_int) (pg_sub (pv 0) pe_int set_list))
    (pss_cons (ps_if (pt_cmpR op_gt (pe_ix (ix_seqK (K := K) rfl) (pv 0) pe_int (fun _ _ => rfl)) (pe_callB (call_lenK (K := K) rfl) (by rfl) B.len_ boot_len (pa_cons (pe_ix (ix_seqK (K := K) rfl) (pv 0) pe_int (fun _ _ => rfl)) pa_nil)) (nomark _)) (pss_cons (ps_asg (pe_op op_mod (pe_callTy call_intX (by rfl) B.int_ boot_int (pa_cons (pe_op op_add (pe_op op_mul (pe_ix (ix_seqK (K := K) rfl) (pv 0) pe_int (fun _ _ => rfl)) pe_int) pe_int) pa_nil)) pe_int) (pg_sub (pv 0) pe_int set_list))
    (pss_one (ps_ret (pe_op op_mod (pe_callTy call_intX (by rfl) B.int_ boot_int (pa_cons (pe_op op_fdiv (pe_ix (ix_seqK (K := K) rfl) (pv 0) pe_int (fun _ _ => rfl)) pe_int) pa_nil)) (pv 1))))) pss_nil)
    (pss_cons (ps_set (i := 3) sc_law_taken.nd rfl (Or.inl rfl) (pe_ix (ix_seqK (K := K) rfl) (pe_ix (ix_seqK (K := K) rfl) (pv 0) pe_int (fun _ _ => rfl)) (pe_op op_sub (pe_ix (ix_seqK (K := K) rfl) (pv 0) pe_int (fun _ _ => rfl)) pe_int) (fun _ _ => rfl)))
    (pss_cons (ps_asg (pe_op op_mod (pe_callTy call_intX (by rfl) B.int_ boot_int (pa_cons (pe_op op_add (pe_op op_add (pe_op op_mul (pe_ix (ix_seqK (K := K) rfl) (pv 0) pe_int (fun _ _ => rfl)) pe_int) (pv 3)) pe_int) pa_nil)) pe_int) (pg_sub (pv 0) pe_int set_list))
    (pss_cons (ps_if (pt_cmpR op_ge (pv 3) (pe_op op_pow pe_int pe_int) (nomark _)) (pss_one (ps_asg (pe_op op_fdiv (pv 3) (pv 1)) (pg_sub (pv 0) pe_int set_list))) pss_nil)
    (pss_one (ps_ret (pe_op op_mod (pe_callTy call_intX (by rfl) B.int_ boot_int (pa_cons (pv 3) pa_nil)) (pv 1)))))))))), ?_⟩)
  rintro xs a o y o2 ⟨sc, ns, q, m, ⟨h0, h1, hq⟩, rfl, rfl, rfl, rfl⟩
  have hD : CDiv q.2.2 m := ⟨h0, by omega⟩
  have hs1 : CMul q.2.1 48271 := .inl ⟨by have := hq.1; omega, by have := hq.2; omega⟩
  have hr0 : one a (rowO sc q) a = some (rowO sc q) := upd_same
  refine ws_seq (ws_if (et_test (em_op (em_row3 (em_var rfl) hr0) em_int rv_gt)) (fun hb => ?_) (fun hb => ws_next ?_))
  · have hp : 0 < q.2.2 := of_decide_eq_true hb
    have e : tk ns q m = (q.2.2 % m, (q.1, q.2.1, q.2.2 / m)) := by
      unfold tk
      rw [if_pos hp]
    refine ws_seq (ws_set (em_op (em_cb (ea_cons (em_row3 (em_var rfl) hr0) ea_nil) rc_int) (em_var rfl) (rv_mod h0)) ?_)
    refine ws_seq (ws_row3 (em_op (em_row3 (em_var rfl) hr0) (em_var rfl) (rv_div hD)) (em_var rfl) hr0 ?_)
    refine ws_ret (em_var rfl) ⟨?_, ?_⟩
    · rw [e]
    · rw [e]
      exact upd_same
  have hp : ¬ 0 < q.2.2 := of_decide_eq_false hb
  refine ws_seq (ws_row1 (n := q.1 + 1) (em_op (em_row1 (em_var rfl) hr0) em_int rv_add) (em_var rfl) hr0 ?_)
  have hr1 : upd (one a (rowO sc q)) a (rowO sc (q.1 + 1, q.2)) a = some (rowO sc (q.1 + 1, q.2)) := upd_same
  refine ws_seq (ws_if (et_test (em_op (em_row1 (em_var rfl) hr1) (em_cb (ea_cons (em_row0 (em_var rfl) hr1) ea_nil) rc_lenK) rv_gt)) (fun hb2 => ?_) (fun hb2 => ws_next ?_))
  · have hl : ns.length < q.1 + 1 := by
      have := of_decide_eq_true hb2
      omega
    have e : tk ns q m = ((q.2.1 * 48271 + 11) % 2147483647 / 7 % m, (q.1 + 1, (q.2.1 * 48271 + 11) % 2147483647, q.2.2)) := by
      unfold tk
      rw [if_neg hp, if_pos hl]
    refine ws_seq (ws_row2 (em_op (em_cb (ea_cons (em_op (em_op (em_row2 (em_var rfl) hr1) em_int (rv_mul hs1)) em_int rv_add) ea_nil) rc_int) em_int (rv_mod (by decide))) (em_var rfl) hr1 ?_)
    refine ws_ret (em_op (em_cb (ea_cons (em_op (em_row2 (em_var rfl) upd_same) em_int (rv_div ⟨by decide, by decide⟩)) ea_nil) rc_int) (em_var rfl) (rv_mod h0)) ⟨?_, ?_⟩
    · rw [e]
    · rw [e]
      exact upd_same
  have hl : ¬ ns.length < q.1 + 1 := by
    have := of_decide_eq_false hb2
    omega
  have hg : ns[q.1]? = some (ns.getD q.1 0) := by
    rw [List.getD_eq_getElem?_getD, List.getElem?_eq_getElem (by omega)] <;> rfl
  have e : tk ns q m = (ns.getD q.1 0 % m, (q.1 + 1, (q.2.1 * 48271 + ns.getD q.1 0 + 11) % 2147483647, if 10 ^ 18 ≤ ns.getD q.1 0 then ns.getD q.1 0 / m else q.2.2)) := by
    unfold tk
    rw [if_neg hp, if_neg hl]
  rw [e]
  generalize ns.getD q.1 0 = c at hg e
  refine ws_seq (ws_set (em_op (em_row0 (em_var rfl) hr1) ((em_op (em_row1 (em_var rfl) hr1) em_int rv_sub).is (y := di (q.1 : Nat)) ?_) (rv_ixK hg)) ?_)
  · show di _ = di _
    congr 2
    show ((q.1 + 1 : Nat) : Int) - 1 = _
    omega
  refine ws_seq (ws_row2 (em_op (em_cb (ea_cons (em_op (em_op (em_op (em_row2 (em_var rfl) hr1) em_int (rv_mul hs1)) (em_var rfl) rv_add) em_int rv_add) ea_nil) rc_int) em_int (rv_mod (by decide))) (em_var rfl) hr1 ?_)
  refine ws_seq (ws_if (et_test (em_op (em_var rfl) (em_op em_int em_int (rv_pow ⟨by decide, by decide, by decide⟩)) rv_ge)) (fun hb3 => ?_) (fun hb3 => ws_next ?_))
  · refine ws_row3 (em_op (em_var rfl) (em_var rfl) (rv_div ⟨h0, by omega⟩)) (em_var rfl) upd_same ?_
    refine ws_ret (em_op (em_cb (ea_cons (em_var rfl) ea_nil) rc_int) (em_var rfl) (rv_mod h0)) ⟨rfl, ?_⟩
    have hc : (10 : Int) ^ 18 ≤ c := of_decide_eq_true hb3
    rw [if_pos hc]
    exact upd_same
  · refine ws_ret (em_op (em_cb (ea_cons (em_var rfl) ea_nil) rc_int) (em_var rfl) (rv_mod h0)) ⟨rfl, ?_⟩
    have hc : ¬ (10 : Int) ^ 18 ≤ c := of_decide_eq_false hb3
    rw [if_neg hc]
    exact upd_same
end
end DL


set_option Elab.async false
set_option linter.all false
set_option maxRecDepth 100000
set_option maxHeartbeats 4000000
/-! DDisp: a dict display of one pair whose key is a tuple. -/
namespace DL
open PySem PySem.Spec PyProof.Rows L2 Md
section
variable {prog : Program} {w : World} {A : Around} {E : Value → Shared → Prop} {s : Shared}
theorem one_disp {pairs : List (Sem Value × Sem Value)} {Q : Addr → Shared → Prop} (few : pairs.length ≤ 15)
    (h : wpAny (model prog w) A (evalPairs pairs) (fun vs s1 => ∃ key v, vs = [(key, v)] ∧ wpAny (model prog w) A (dictSet s.heap.objs.size key v) (fun _ s2 => Q s.heap.objs.size s2) E s1) E { s with heap := s.heap.push { cls := .type "dict", data := .dict #[] } }) :
    wpAny (model prog w) A (subDict pairs) Q E s := by
  unfold subDict
  refine wpAny_bind (wpAny_alloc (wpAny_bind (wpAny_holding ?_)))
  rw [if_pos few]
  refine wpAny_bind (wpAny_mono h (fun vs s1 ⟨key, v, e, h2⟩ => ?_) fun _ _ z => z)
  subst e
  refine wpAny_holding (wpAny_bind ?_)
  rw [List.forIn_cons]
  refine wpAny_bind (wpAny_bind (wpAny_mono h2 (fun _ s2 h3 => wpAny_pure ?_) fun _ _ z => z))
  show wpAny (model prog w) A (forIn [] PUnit.unit _) _ E s2
  rw [List.forIn_nil]
  exact wpAny_pure (wpAny_pure (wpAny_pure h3))
end
def tDispT (ty tv : TE) : TE := fun σ H Q => ∀ p, H p = none → ty σ (upd H p (.dT [])) fun y H1 => tv σ H1 fun z H2 => ∃ (k : List Key) (b : Addr), y = .ref b ∧ H2 b = some (.tup (k.map kV)) ∧ H2 p = some (.dT []) ∧ Q (.ref p) (upd H2 p (.dT [(k, z)]))
theorem pe_dispT {X : Cx} {k v : Expr} {pos : Pos} {ty tv : TE} (hu : X.A.units + 1 < cLine) (hk : PE X k ty) (hv : PE X v tv) : PE X (.Dict [some k] [v] pos) (tDispT ty tv) := by
  refine ⟨fun pins s σ H Q I q => ?_⟩
  have hn := I.hok.fresh (Nat.le_refl s.heap.objs.size)
  have I1 := I.laid (a := s.heap.objs.size) (o := .dT []) (h' := s.heap.push { cls := .type "dict", data := .dict #[] }) (t' := s.toks) (fun _ _ z => Heap.get?_push_of_some _ z) (Nat.le_refl _)
    (dt_empty s.heap I.big)
  rw [arm_eval_Dict, zip_pairTrees [some k] [v] X.env pos rfl rfl, dictDisplay_pairs _ (by simp [pairTrees]) (by simp [pairTrees])]
  refine wpAny_bind (wpAny_standAt (wpAny_bind (one_disp (by simp [pairTrees]) ?_)))
  refine pairTrees_cons_walk (thn (hk.run pins _ σ _ _ I1 (q _ hn)) fun u s1 ⟨y, H1, I2, ry, q1⟩ => thn (hv.run pins s1 σ H1 _ I2 q1) fun r s2 ⟨z, H2, I3, rz, kk, b, ey, eb, ep, q2⟩ => pairTrees_nil_walk ⟨u, r, rfl, ?_⟩)
  subst ey
  cases (show u = Value.ref b from ry)
  obtain ⟨zz, hd, xs, rel, dd⟩ := dt_of I3.hok ep
  have hz : xs.length ≤ sizeLine := by rw [← Paired.length rel]; exact zz
  refine wpAny_dictSet_heap (hsz := hz) (show (tupleKind (mixKind X.prog X.w)).room X.A from (by show X.A.units < cLine; omega)) (key_of I3.hok eb) dd fun h' dd' hs => wpAny_pure ⟨.ref s.heap.objs.size, _, ?_, rfl, q2⟩
  obtain ⟨o, es, en, hq, c2, c3, c4, _, c5⟩ := dd'
  have rp := rel.put kk eb rz
  have e1 : putK ([] : List (List Key × V)) kk z = [(kk, z)] := rfl
  rw [e1] at rp
  refine d_write I3 (by rw [ep]; exact True.intro) hs ⟨o, hq⟩ ⟨by show 1 ≤ sizeLine; decide, hd, _, rp.keeps fun c ys ec => ?_, o, es, en, hq, c2, c3, c4, c5⟩
  rw [upd_ne (ne_of ec ep (fun z => nomatch z))]
  exact ec
section
variable {δ : Dl} {M : Hp} {K : PySem.W.Frag}
theorem en_disp {ty tv : TE} {k : List Key} {u : V} {x : Da} (hk : ∀ M', EvM ty δ M' (.d (.tuple (k.map kyD))) M') (hv : ∀ M', EvM tv δ M' x M') (hu : ∀ G v, DaOk G v x → v = u) : EvN (tDispT ty tv) δ M (.dT [(k, u)]) M := fun σ G H s sl Q kk p hp => by
  have s1 := s.newM (o := .dT []) hp
  have r1 := Rl.newM (o := .dT []) s hp
  refine hk _ σ G _ s1 sl _ fun v1 G2 H2 s2 r2 d2 => hv _ σ G2 H2 s2 (sl.mono r2.g) _ fun v2 G3 H3 s3 r3 d3 => ?_
  have e := hu _ _ d3
  subst e
  obtain ⟨b, eb, hb⟩ := key_tup d2
  refine ⟨k, b, eb, s3.g _ _ (r3.g _ _ hb), s3.m _ _ upd_same, ?_⟩
  have s4 := s3.write (o := .dT [(k, v2)]) upd_same
  have r4 := Rl.write (o := .dT [(k, v2)]) s3 upd_same
  have r := Rl.trans s1 s4 s r1 (Rl.trans s2 s4 s1 r2 (Rl.trans s3 s4 s2 r3 r4))
  rw [upd_upd] at s4 r
  exact kk p G3 _ (s.m.free hp) s4 r
end
end DL

set_option Elab.async false
set_option linter.all false
set_option maxRecDepth 100000
set_option maxHeartbeats 4000000
/-! DCom: the company that the law draws, in plain Lean. -/
namespace DL
open PySem PySem.Spec PyProof.Rows L2 Md
def tn (ns : List Int) (q : Q3) (m : Nat) : Nat := (tk ns q (m : Nat)).1.toNat
def tq (ns : List Int) (q : Q3) (m : Nat) : Q3 := (tk ns q (m : Nat)).2
theorem tn_int {ns : List Int} {q : Q3} {m : Nat} (h : 0 < m) : (tk ns q (m : Nat)).1 = (tn ns q m : Nat) := by
  unfold tn
  have := tk_lo (ns := ns) (q := q) (m := (m : Nat)) (by omega)
  omega
theorem tn_lt {ns : List Int} {q : Q3} {m : Nat} (h : 0 < m) : tn ns q m < m := by
  have := tk_hi (ns := ns) (q := q) (m := (m : Nat)) (by omega)
  have := tn_int (ns := ns) (q := q) h
  omega
theorem tq_ok {ns : List Int} {q : Q3} {m : Nat} (h : QOk q) : QOk (tq ns q m) := tk_ok h
abbrev PL := List (Nat × Nat)
def put (ps : PL) (p : Nat × Nat) : PL := if p ∈ ps then ps else ps ++ [p]
def encP (ps : PL) : List (List Key × V) := ps.map fun p => (keyP p, .bl true)
theorem keyP_inj {p p' : Nat × Nat} (h : keyP p = keyP p') : p = p' := by
  unfold keyP at h
  simp only [List.cons.injEq, Sum.inl.injEq, and_true] at h
  exact Prod.ext (by omega) (by omega)
theorem enc_any (ps : PL) (p : Nat × Nat) : ((encP ps).any fun kv => decide (kv.1 = keyP p)) = decide (p ∈ ps) := by
  unfold encP
  rw [List.any_map]
  by_cases h : p ∈ ps
  · rw [decide_eq_true h]
    exact List.any_eq_true.mpr ⟨p, h, decide_eq_true rfl⟩
  · rw [decide_eq_false h]
    refine List.any_eq_false.mpr fun x hx z => h ?_
    have e : keyP x = keyP p := of_decide_eq_true z
    rw [← keyP_inj e]
    exact hx
theorem enc_put (ps : PL) (p : Nat × Nat) : putK (encP ps) (keyP p) (.bl true) = encP (put ps p) := by
  unfold putK put
  rw [enc_any]
  by_cases h : p ∈ ps
  · rw [if_pos (decide_eq_true h), if_pos h]
    unfold encP
    rw [List.map_map]
    refine List.map_congr_left fun x _ => ?_
    show (if keyP x = keyP p then (keyP x, V.bl true) else (keyP x, V.bl true)) = _
    split <;> rfl
  · rw [if_neg (fun z => h (of_decide_eq_true z)), if_neg h]
    unfold encP
    rw [List.map_append]
    rfl
theorem put_len (ps : PL) (p : Nat × Nat) : (put ps p).length ≤ ps.length + 1 := by
  unfold put
  split
  · omega
  · simp
theorem put_mem {ps : PL} {p x : Nat × Nat} : x ∈ put ps p ↔ x ∈ ps ∨ x = p := by
  unfold put
  split
  · rename_i h
    exact ⟨fun z => .inl z, fun z => z.elim id fun e => e ▸ h⟩
  · simp
/-- what each table of pairs keeps -/
structure POk (n : Nat) (ps : PL) : Prop where
  pr : ∀ p ∈ ps, p.1 < p.2 ∧ p.2 < n
  nd : ps.Nodup
theorem POk.put {n : Nat} {ps : PL} {p : Nat × Nat} (h : POk n ps) (hp : p.1 < p.2 ∧ p.2 < n) : POk n (put ps p) := by
  refine ⟨fun x hx => ?_, ?_⟩
  · rcases put_mem.mp hx with z | z
    · exact h.pr x z
    · rw [z]
      exact hp
  · unfold DL.put
    split
    · exact h.nd
    · rename_i hm
      rw [List.nodup_append]
      refine ⟨h.nd, by simp, fun a ha b hb => ?_⟩
      simp only [List.mem_singleton] at hb
      intro e
      rw [e, hb] at ha
      exact hm ha
def allP : PL := ((List.range 8).map fun b => (List.range b).map fun a => (a, b)).flatten
theorem POk.len {n : Nat} {ps : PL} (h : POk n ps) (hn : n ≤ 8) : ps.length ≤ 28 := by
  have e : allP.length = 28 := by decide
  rw [← e]
  refine List.Nodup.length_le_of_subset h.nd fun x hx => ?_
  have q := h.pr x hx
  refine List.mem_flatten.mpr ⟨(List.range x.2).map fun a => (a, x.2), List.mem_map.mpr ⟨x.2, List.mem_range.mpr (by omega), rfl⟩, List.mem_map.mpr ⟨x.1, List.mem_range.mpr q.1, rfl⟩⟩
def srtP (ps : PL) : PL := ps.mergeSort (PySem.W.dataLe false datP)
theorem le_pairs : PySem.W.dataLe false datP = fun p p' : Nat × Nat => decide (((p.1 : Nat) : Int) < (p'.1 : Nat) ∨ (((p.1 : Nat) : Int) = (p'.1 : Nat) ∧ ((p.2 : Nat) : Int) ≤ (p'.2 : Nat))) := PySem.W.dataLe_ii (fun p : Nat × Nat => ((p.1 : Nat) : Int)) fun p => ((p.2 : Nat) : Int)
theorem srt_lt {n : Nat} {ps : PL} (h : POk n ps) : (srtP ps).Pairwise ltP := by
  have tt : PySem.W.TotalLe (PySem.W.dataLe false datP) := PySem.W.sortLe_total _ false _
  have h1 : (srtP ps).Pairwise fun a b => PySem.W.dataLe false datP a b = true := List.pairwise_mergeSort (le := PySem.W.dataLe false datP) (fun a b c => tt.trans a b c) (fun a b => by
    rcases tt.total a b with z | z
    · exact Bool.or_eq_true_iff.mpr (.inl z)
    · exact Bool.or_eq_true_iff.mpr (.inr z)) ps
  have h2 : (srtP ps).Nodup := (List.mergeSort_perm ps _).nodup_iff.mpr h.nd
  refine List.Pairwise.imp₂ (fun a b z y => ?_) h1 h2
  rw [le_pairs] at z
  have z' := of_decide_eq_true z
  unfold ltP
  have ne : ¬ (a.1 = b.1 ∧ a.2 = b.2) := fun e => y (Prod.ext e.1 e.2)
  omega
theorem com_ok {n : Nat} {ps : PL} (h0 : 2 ≤ n) (hn : n ≤ 8) (h : POk n ps) (hc : ∀ a, a < n → ∃ p ∈ ps, p.1 = a ∨ p.2 = a) : Com.Ok ⟨n, srtP ps⟩ := by
  have hm : ∀ x, x ∈ srtP ps ↔ x ∈ ps := fun x => List.mem_mergeSort
  refine ⟨h0, hn, fun p hp => h.pr p ((hm p).mp hp), srt_lt h, fun a ha => ?_, ?_⟩
  · obtain ⟨p, hp, e⟩ := hc a ha
    exact ⟨p, (hm p).mpr hp, e⟩
  · show (srtP ps).length ≤ 28
    unfold srtP
    rw [List.length_mergeSort]
    exact h.len hn
/-! ### the draws -/
def lp1 (ns : List Int) (q : Q3) : Nat → Q3 × PL
  | 0 => (q, [])
  | i + 1 => (tq ns (lp1 ns q i).1 (i + 1), put (lp1 ns q i).2 (tn ns (lp1 ns q i).1 (i + 1), i + 1))
def lp2 (ns : List Int) (n : Nat) (s : Q3 × PL) : Nat → Q3 × PL
  | 0 => s
  | j + 1 => (tq ns (tq ns (lp2 ns n s j).1 n) n, if tn ns (lp2 ns n s j).1 n = tn ns (tq ns (lp2 ns n s j).1 n) n then (lp2 ns n s j).2
      else put (lp2 ns n s j).2 (min (tn ns (lp2 ns n s j).1 n) (tn ns (tq ns (lp2 ns n s j).1 n) n), max (tn ns (lp2 ns n s j).1 n) (tn ns (tq ns (lp2 ns n s j).1 n) n)))
def lp3 : Nat → PL
  | 0 => [(0, 1)]
  | i + 1 => put (lp3 i) (2 + 2 * i, 3 + 2 * i)
theorem lp1_ok {ns : List Int} {q : Q3} (hq : QOk q) : ∀ i, QOk (lp1 ns q i).1 ∧ POk (i + 1) (lp1 ns q i).2 ∧ (∀ a, a < i → ∃ p ∈ (lp1 ns q i).2, p.2 = a + 1)
  | 0 => ⟨hq, ⟨fun p h => (by cases h), List.nodup_nil⟩, fun a h => absurd h (Nat.not_lt_zero a)⟩
  | i + 1 => by
    obtain ⟨h1, h2, h3⟩ := lp1_ok (ns := ns) hq i
    have hlt : tn ns (lp1 ns q i).1 (i + 1) < i + 1 := tn_lt (by omega)
    refine ⟨tq_ok h1, POk.put ⟨fun p hp => ?_, h2.nd⟩ ⟨hlt, by show i + 1 < i + 1 + 1; omega⟩, fun a ha => ?_⟩
    · have := h2.pr p hp
      exact ⟨this.1, by omega⟩
    · by_cases e : a = i
      · subst e
        exact ⟨_, put_mem.mpr (.inr rfl), rfl⟩
      · obtain ⟨p, hp, e2⟩ := h3 a (by omega)
        exact ⟨p, put_mem.mpr (.inl hp), e2⟩
theorem lp1_all {ns : List Int} {q : Q3} (hq : QOk q) {n : Nat} (hn : 2 ≤ n) : ∀ a, a < n → ∃ p ∈ (lp1 ns q (n - 1)).2, p.1 = a ∨ p.2 = a := by
  intro a ha
  obtain ⟨h1, h2, h3⟩ := lp1_ok (ns := ns) hq (n - 1)
  cases a with
  | zero =>
    obtain ⟨p, hp, e⟩ := h3 0 (by omega)
    have := (h2.pr p hp).1
    exact ⟨p, hp, .inl (by omega)⟩
  | succ a =>
    obtain ⟨p, hp, e⟩ := h3 a (by omega)
    exact ⟨p, hp, .inr e⟩
theorem lp2_ok {ns : List Int} {n : Nat} {s : Q3 × PL} (hn : 0 < n) (hq : QOk s.1) (hp : POk n s.2) : ∀ j, QOk (lp2 ns n s j).1 ∧ POk n (lp2 ns n s j).2 ∧ ∀ p ∈ s.2, p ∈ (lp2 ns n s j).2
  | 0 => ⟨hq, hp, fun _ h => h⟩
  | j + 1 => by
    obtain ⟨h1, h2, h3⟩ := lp2_ok (ns := ns) hn hq hp j
    have a1 : tn ns (lp2 ns n s j).1 n < n := tn_lt hn
    have a2 : tn ns (tq ns (lp2 ns n s j).1 n) n < n := tn_lt hn
    refine ⟨tq_ok (tq_ok h1), ?_, fun p hp => ?_⟩
    · show POk n (if _ then _ else _)
      split
      · exact h2
      · exact h2.put ⟨by show min _ _ < max _ _; omega, by show max _ _ < n; omega⟩
    · show p ∈ (if _ then _ else _)
      split
      · exact h3 p hp
      · exact put_mem.mpr (.inl (h3 p hp))
theorem lp3_ok {n : Nat} (hn : 4 ≤ n) : ∀ i, 2 * i ≤ n - 2 → POk n (lp3 i) ∧ ∀ a, a < 2 + 2 * i → ∃ p ∈ lp3 i, p.1 = a ∨ p.2 = a
  | 0, _ => by
    refine ⟨⟨fun p h => ?_, by simp [lp3]⟩, fun a ha => ⟨(0, 1), List.mem_cons_self, ?_⟩⟩
    · cases List.mem_singleton.mp h
      exact ⟨Nat.zero_lt_one, by show 1 < n; omega⟩
    · show 0 = a ∨ 1 = a
      omega
  | i + 1, hi => by
    obtain ⟨h1, h2⟩ := lp3_ok hn i (by omega)
    refine ⟨h1.put ⟨by show 2 + 2 * i < 3 + 2 * i; omega, by show 3 + 2 * i < n; omega⟩, fun a ha => ?_⟩
    by_cases e : a < 2 + 2 * i
    · obtain ⟨p, hp, z⟩ := h2 a e
      exact ⟨p, put_mem.mpr (.inl hp), z⟩
    · exact ⟨_, put_mem.mpr (.inr rfl), by show 2 + 2 * i = a ∨ 3 + 2 * i = a; omega⟩
/-! ### the company -/
def cN (ns : List Int) (q : Q3) : Nat := 2 + tn ns q 7
def cA (ns : List Int) (q : Q3) : Q3 × PL := lp1 ns (tq ns q 7) (cN ns q - 1)
def cT (ns : List Int) (q : Q3) : Nat := if 2 < cN ns q then tn ns (cA ns q).1 (2 * cN ns q) else 0
def cQ (ns : List Int) (q : Q3) : Q3 := if 2 < cN ns q then tq ns (cA ns q).1 (2 * cN ns q) else (cA ns q).1
def cB (ns : List Int) (q : Q3) : Q3 × PL := lp2 ns (cN ns q) (cQ ns q, (cA ns q).2) (cT ns q)
def cC (ns : List Int) (q : Q3) : Q3 := tq ns (cB ns q).1 3
def cE (ns : List Int) (q : Q3) : Bool := decide (3 < cN ns q) && decide (tn ns (cB ns q).1 3 = 0)
def cL (ns : List Int) (q : Q3) : PL := put (lp3 ((cN ns q - 2) / 2)) (tn ns (cC ns q) (cN ns q - 1), cN ns q - 1)
def comP (ns : List Int) (q : Q3) : PL := if cE ns q = true then cL ns q else (cB ns q).2
def com (ns : List Int) (q : Q3) : Com := ⟨cN ns q, srtP (comP ns q)⟩
def comQ (ns : List Int) (q : Q3) : Q3 := if cE ns q = true then tq ns (cC ns q) (cN ns q - 1) else if 3 < cN ns q then cC ns q else (cB ns q).1
section
variable {ns : List Int} {q : Q3}
theorem cN_lo : 2 ≤ cN ns q := by unfold cN; omega
theorem cN_hi : cN ns q ≤ 8 := by
  have := tn_lt (ns := ns) (q := q) (m := 7) (by decide)
  unfold cN
  omega
theorem cA_ok (hq : QOk q) : QOk (cA ns q).1 ∧ POk (cN ns q) (cA ns q).2 := by
  obtain ⟨h1, h2, _⟩ := lp1_ok (ns := ns) (tq_ok (m := 7) hq) (cN ns q - 1)
  have e : cN ns q - 1 + 1 = cN ns q := by have := cN_lo (ns := ns) (q := q); omega
  rw [e] at h2
  exact ⟨h1, h2⟩
theorem cQ_ok (hq : QOk q) : QOk (cQ ns q) := by
  unfold cQ
  split
  · exact tq_ok (cA_ok hq).1
  · exact (cA_ok hq).1
theorem cB_ok (hq : QOk q) : QOk (cB ns q).1 ∧ POk (cN ns q) (cB ns q).2 ∧ ∀ p ∈ (cA ns q).2, p ∈ (cB ns q).2 :=
  lp2_ok (ns := ns) (s := (cQ ns q, (cA ns q).2)) (by have := cN_lo (ns := ns) (q := q); omega) (cQ_ok hq) (cA_ok hq).2 (cT ns q)
theorem cL_ok (h : 3 < cN ns q) : POk (cN ns q) (lp3 ((cN ns q - 2) / 2)) ∧ POk (cN ns q) (cL ns q) := by
  obtain ⟨h1, h2⟩ := lp3_ok (n := cN ns q) h ((cN ns q - 2) / 2) (by omega)
  have := tn_lt (ns := ns) (q := cC ns q) (m := cN ns q - 1) (by omega)
  exact ⟨h1, h1.put ⟨this, by show cN ns q - 1 < cN ns q; omega⟩⟩
theorem com_good (hq : QOk q) : (com ns q).Ok := by
  unfold com comP
  by_cases he : cE ns q = true
  · rw [if_pos he]
    have h3 : 3 < cN ns q := of_decide_eq_true (Bool.and_eq_true_iff.mp he).1
    refine com_ok cN_lo cN_hi (cL_ok h3).2 fun a ha => ?_
    obtain ⟨h1, h2⟩ := lp3_ok (n := cN ns q) h3 ((cN ns q - 2) / 2) (by omega)
    by_cases e : a < 2 + 2 * ((cN ns q - 2) / 2)
    · obtain ⟨p, hp, z⟩ := h2 a e
      exact ⟨p, put_mem.mpr (.inl hp), z⟩
    · exact ⟨_, put_mem.mpr (.inr rfl), .inr (by show cN ns q - 1 = a; omega)⟩
  · rw [if_neg he]
    obtain ⟨h1, h2, h3⟩ := cB_ok (ns := ns) hq
    refine com_ok cN_lo cN_hi h2 fun a ha => ?_
    obtain ⟨p, hp, z⟩ := lp1_all (ns := ns) (tq_ok (m := 7) hq) (cN_lo (ns := ns) (q := q)) a ha
    exact ⟨p, h3 p hp, z⟩
theorem comQ_ok (hq : QOk q) : QOk (comQ ns q) := by
  have h := (cB_ok (ns := ns) hq).1
  unfold comQ
  split
  · exact tq_ok (tq_ok h)
  · split
    · exact tq_ok h
    · exact h
end
end DL

set_option Elab.async false
set_option linter.all false
set_option maxRecDepth 100000
set_option maxHeartbeats 4000000
/-! D8: the company, the kind, the word that the law draws. -/
namespace DL
open PySem PySem.Spec PyProof.Rows L2 Md
def fr_law_company (K : PySem.W.Frag) : FrR := fun xs a o y o2 => ∃ (sc : Addr) (ns : List Int) (q : Q3), QOk q ∧ xs = [.rw K a sc ns, di 8] ∧ o = rowO sc q ∧ y = .d (comD (com ns q)) ∧ o2 = rowO sc (comQ ns q)
abbrev mB (B : Hp) (a p sc : Addr) (q : Q3) (kvs : List (List Key × V)) : Hp := upd (upd B a (rowO sc q)) p (.dT kvs)
theorem upd_swap {B : Hp} {a p : Addr} {o u : HO} (h : p ≠ a) : upd (upd B a o) p u = upd (upd B p u) a o := by
  funext c
  by_cases e : c = a
  · subst e
    rw [upd_same, upd_ne h.symm, upd_same]
  · rw [upd_ne e]
    by_cases e2 : c = p
    · subst e2
      rw [upd_same, upd_same]
    · rw [upd_ne e2, upd_ne e2, upd_ne e]
theorem upd_id {B : Hp} {a : Addr} {o : HO} (h : B a = some o) : upd B a o = B := by
  funext c
  by_cases e : c = a
  · subst e
    rw [upd_same, h]
  · rw [upd_ne e]
section
variable {B : Hp} {a p sc : Addr} {q q2 : Q3} {kvs kvs2 : List (List Key × V)}
theorem mB_row (h : p ≠ a) : mB B a p sc q kvs a = some (rowO sc q) := (upd_ne h.symm).trans upd_same
theorem mB_dic : mB B a p sc q kvs p = some (.dT kvs) := upd_same
theorem mB_srow (h : p ≠ a) : upd (mB B a p sc q kvs) a (rowO sc q2) = mB B a p sc q2 kvs := by
  show upd (upd (upd B a _) p _) a _ = _
  rw [← upd_swap h, upd_upd]
theorem mB_sdic : upd (mB B a p sc q kvs) p (.dT kvs2) = mB B a p sc q kvs2 := upd_upd
theorem mB_new {c : Addr} (h : p ≠ a) : upd (mB B a p sc q kvs) c (.dT kvs2) = mB (mB B a p sc q kvs) a c sc q kvs2 := by
  show _ = upd (upd (mB B a p sc q kvs) a (rowO sc q)) c _
  rw [upd_id (mB_row h)]
end
def midP (R : Dl → Hp → Prop) : Out → Prop
  | .nx δ M => R δ M
  | _ => False
section
variable {δ : Dl} {M M1 M2 : Hp} {t u : TS} {P : Out → Prop} {te tm : TE} {K : PySem.W.Frag} {x : Da}
theorem ws_cut (R : Dl → Hp → Prop) (h : WS t δ M (midP R)) (k : ∀ δ2 M2, R δ2 M2 → WS u δ2 M2 P) : WS (tSeq t u) δ M P := ws_seq (ws_imp h fun o q => by
  cases o with
  | nx δ2 M2 => exact k δ2 M2 q
  | rt x M => exact q.elim
  | bk δ M => exact q.elim
  | ct δ M => exact q.elim)
theorem EvM.isM (h : EvM te δ M x M1) (e : M1 = M2) : EvM te δ M x M2 := e ▸ h
theorem em_tk {E : XK} {a sc : Addr} {ns : List Int} {q : Q3} {m : Nat} (h0 : 0 < m) (h1 : m ≤ 1000) (hq : QOk q) (hr : EvM te δ M (.rw K a sc ns) M) (hm : EvM tm δ M (di (m : Nat)) M) (hM : M a = some (rowO sc q)) (e : upd M a (rowO sc (tq ns q m)) = M2) :
    EvM (tCall (SpR (fr_law_taken K)) [] E (tCons te (tCons tm tNil))) δ M (di (tn ns q m : Nat)) M2 := by
  have h := em_callR (E := E) (f := fr_law_taken K) (x := di (tk ns q (m : Nat)).1) (o2 := rowO sc (tk ns q (m : Nat)).2) (ea_cons hr (ea_cons hm ea_nil)) hM ⟨sc, ns, q, (m : Nat), ⟨by omega, by omega, hq⟩, rfl, rfl, rfl, rfl⟩
  rw [tn_int h0] at h
  exact h.isM e
end
theorem rg_8 : ∀ n : Nat, n < 9 → 3 < n → RgC 2 ((n : Nat) - 1 : Int) 2 ((n - 2) / 2) := by
  have h : ∀ n : Nat, n < 9 → 3 < n → (Builtin.Range.small 2 ((n : Nat) - 1 : Int) 2 = true ∧ Builtin.Range.rangeSize 2 ((n : Nat) - 1 : Int) 2 = ((n - 2) / 2 : Nat)) := by decide +kernel
  intro n h1 h2
  exact ⟨by decide, by decide, (h n h1 h2).1, (h n h1 h2).2⟩
section
variable {P : Program} {w : World} {K : PySem.W.Frag} {mg : Str → Option Value} {base : Heap}
abbrev s_law_company : Stmt := top 49
abbrev nm_law_company : List Str := ["_law_row", "_law_most", "_law_many", "_law_pairs", "_law_at", "_law_turn", "_law_one", "_law_other"]
theorem sc_law_company : FnScope nm_law_company ["_law_row", "_law_most"] (defScope s_law_company) := ⟨rfl, rfl, rfl, by decide +kernel, rfl, by decide +kernel, by decide +kernel⟩
theorem ok_law_company {f : Addr} {fd : FuncData} (F : Fun K "_law_company" "_law_company" s_law_company f fd) (B : Bi mg) (c_law_taken : Cal P w K mg base "_law_taken" ["_law_row", "_law_many"] 1 (SpR (fr_law_taken K))) : FnOk P w K mg base CX0 2 f fd ["_law_row", "_law_most"] (SpR (fr_law_company K)) := by
  refine fn_row F sc_law_company (fun xs a o y o2 ⟨sc, ns, q, _, h, _⟩ => by rw [h] <;> rfl) (fun cdv A outer s H E hr => ⟨_, (pss_cons (ps_par (i := 2) (j := 3) rfl sc_law_company.nd rfl rfl (by decide) rfl rfl (pa_cons (pe_op op_add pe_int (pe_cal c_law_taken (hr.mono (by decide)) (by rfl) (pa_cons (pv 0) (pa_cons (pe_op op_sub (pv 1) pe_int) pa_nil)))) (pa_cons pe_dnewT pa_nil)) (by rfl))
    (pss_cons (ps_for PassesOwn.never rfl (pi_range2 (by rfl) B.range_ (pa_cons pe_int (pa_cons (pv 2) pa_nil))) (pg_name (i := 4) sc_law_company.nd rfl (by first | exact Or.inl rfl | exact Or.inr rfl)) (pss_one (ps_dput (hu_of hr) (pv 3) (pe_tup (pa_cons (pe_cal c_law_taken (hr.mono (by decide)) (by rfl) (pa_cons (pv 0) (pa_cons (pv 4) pa_nil))) (pa_cons (pv 4) pa_nil))) pe_bl rfl)))
    (pss_cons (ps_for PassesOwn.never rfl (pi_range1 (by rfl) B.range_ (pa_cons (pe_ifExp (pt_cmpR op_gt (pv 2) pe_int (nomark _)) (pe_cal c_law_taken (hr.mono (by decide)) (by rfl) (pa_cons (pv 0) (pa_cons (pe_op op_mul pe_int (pv 2)) pa_nil))) pe_int) pa_nil)) (pg_name (i := 5) sc_law_company.nd rfl (by first | exact Or.inl rfl | exact Or.inr rfl)) (pss_cons (ps_par (i := 6) (j := 7) rfl sc_law_company.nd rfl rfl (by decide) rfl rfl (pa_cons (pe_cal c_law_taken (hr.mono (by decide)) (by rfl) (pa_cons (pv 0) (pa_cons (pv 2) pa_nil))) (pa_cons (pe_cal c_law_taken (hr.mono (by decide)) (by rfl) (pa_cons (pv 0) (pa_cons (pv 2) pa_nil))) pa_nil)) (by rfl))
    (pss_one (ps_if (pt_cmpR op_ne (pv 6) (pv 7) (nomark _)) (pss_one (ps_dput (hu_of hr) (pv 3) (pe_tup (pa_cons (pe_callB (call_min2X rfl) (by rfl) B.min_ boot_min (pa_cons (pv 6) (pa_cons (pv 7) pa_nil))) (pa_cons (pe_callB (call_max2X rfl) (by rfl) B.max_ boot_max (pa_cons (pv 6) (pa_cons (pv 7) pa_nil))) pa_nil))) pe_bl rfl)) pss_nil))))
    (pss_cons (ps_if (PW.pt (pw_and (pt_cmpR op_gt (pv 2) pe_int (nomark _)) (pw_and1 (pt_cmpR op_eq (pe_cal c_law_taken (hr.mono (by decide)) (by rfl) (pa_cons (pv 0) (pa_cons pe_int pa_nil))) pe_int (nomark _))))) (pss_cons (ps_set (i := 3) sc_law_company.nd rfl (Or.inl rfl) (pe_dispT (hu_of hr) (pe_tup (pa_cons pe_int (pa_cons pe_int pa_nil))) pe_bl))
    (pss_cons (ps_for PassesOwn.never rfl (pi_range3 (by rfl) B.range_ (pa_cons pe_int (pa_cons (pe_op op_sub (pv 2) pe_int) (pa_cons pe_int pa_nil)))) (pg_name (i := 4) sc_law_company.nd rfl (by first | exact Or.inl rfl | exact Or.inr rfl)) (pss_one (ps_dput (hu_of hr) (pv 3) (pe_tup (pa_cons (pv 4) (pa_cons (pe_op op_add (pv 4) pe_int) pa_nil))) pe_bl rfl)))
    (pss_one (ps_dput (hu_of hr) (pv 3) (pe_tup (pa_cons (pe_cal c_law_taken (hr.mono (by decide)) (by rfl) (pa_cons (pv 0) (pa_cons (pe_op op_sub (pv 2) pe_int) pa_nil))) (pa_cons (pe_op op_sub (pv 2) pe_int) pa_nil))) pe_bl rfl)))) pss_nil)
    (pss_one (ps_ret (pe_tup (pa_cons (pv 2) (pa_cons (pe_callTy (call_tupK (K := K) rfl) (by rfl) B.tuple_ boot_tuple (pa_cons (pe_callB (call_sortDT rfl hr.units) (by rfl) B.sorted_ boot_sorted (pa_cons (pv 3) pa_nil)) pa_nil)) pa_nil))))))))), ?_⟩)
  rintro xs a o y o2 ⟨sc, ns, q, hq, rfl, rfl, rfl, rfl⟩
  have hlo := cN_lo (ns := ns) (q := q)
  have hhi := cN_hi (ns := ns) (q := q)
  have hq1 : QOk (tq ns q 7) := tq_ok hq
  refine ws_seq (ws_parN (x := di (cN ns q : Nat)) ((em_op em_int (em_tk (m := 7) (by decide) (by decide) hq (em_var rfl) ((em_op (em_var rfl) em_int rv_sub).is rfl) upd_same rfl) rv_add).is ?_) en_dnewT fun p hp => ?_)
  · show di _ = di _
    congr 2
  have hpa : p ≠ a := fun z => by
    rw [z, upd_same] at hp
    cases hp
  have eM : upd (upd (upd nom a (rowO sc q)) a (rowO sc (tq ns q 7))) p (.dT []) = mB nom a p sc (lp1 ns (tq ns q 7) 0).1 (encP (lp1 ns (tq ns q 7) 0).2) := by
    rw [upd_upd]
    rfl
  rw [eM]
  refine ws_seq (ws_for (iv_r2 (lo := 1) (n := (cN ns q : Nat)) (ea_cons em_int (ea_cons (em_var rfl) ea_nil)) (by omega) (by decide)) (fun i δ1 M1 => M1 = mB nom a p sc (lp1 ns (tq ns q 7) i).1 (encP (lp1 ns (tq ns q 7) i).2) ∧ ∃ z : Option Da, δ1 = [some (.rw K a sc ns), some (di 8), some (di (cN ns q : Nat)), some (.ref p), z, none, none, none])
    ⟨rfl, none, rfl⟩ ?_ ?_)
  · rintro i x δ1 M1 hx ⟨rfl, z, rfl⟩
    have hi : i < ((cN ns q : Nat) - 1 : Int).toNat := by
      have := (List.getElem?_eq_some_iff.mp hx).1
      rw [rgD_len] at this
      exact this
    rw [rgD_get hi] at hx
    have ex : x = .int ((i + 1 : Nat) : Nat) := by
      rw [← Option.some.inj hx]
      congr 1
      omega
    subst ex
    obtain ⟨l1, l2, _⟩ := lp1_ok (ns := ns) hq1 i
    have hlen := l2.len (by omega)
    refine ⟨_, [4], tg_name, ?_⟩
    refine ws_dput (k := keyP (tn ns (lp1 ns (tq ns q 7) i).1 (i + 1), i + 1)) (u := .bl true) em_bl (em_var rfl) (em_tup (xs := [.int (tn ns (lp1 ns (tq ns q 7) i).1 (i + 1) : Nat), .int ((i + 1 : Nat) : Nat)]) (ea_cons (em_tk (by omega) (by omega) l1 (em_var rfl) (em_var rfl) (mB_row hpa) (mB_srow hpa)) (ea_cons (em_var rfl) ea_nil)) (by show 2 ≤ 1000; decide))
      mB_dic (by unfold encP; rw [List.length_map]; omega) (fun _ _ d => Dv.bl_of d) ⟨?_, _, rfl⟩
    rw [mB_sdic, enc_put]
    rfl
  rintro δ1 M1 ⟨rfl, z4, rfl⟩
  rw [rgD_len]
  have en : ((cN ns q : Nat) - 1 : Int).toNat = cN ns q - 1 := by omega
  rw [en]
  show WS _ _ (mB nom a p sc (cA ns q).1 (encP (cA ns q).2)) _
  obtain ⟨a1, a2⟩ := cA_ok (ns := ns) hq
  have hT : cT ns q ≤ 100 := by
    unfold cT
    split
    · have := tn_lt (ns := ns) (q := (cA ns q).1) (m := 2 * cN ns q) (by omega)
      omega
    · omega
  refine ws_seq (ws_for (M1 := mB nom a p sc (cQ ns q) (encP (cA ns q).2)) (iv_rg (n := cT ns q) (ea_cons (em_if (b := decide (2 < cN ns q)) ((et_test (em_op (em_var rfl) em_int rv_gt)).is ?_) (fun hb => ?_) (fun hb => ?_)) ea_nil) (by omega))
    (fun j δ1 M1 => M1 = mB nom a p sc (lp2 ns (cN ns q) (cQ ns q, (cA ns q).2) j).1 (encP (lp2 ns (cN ns q) (cQ ns q, (cA ns q).2) j).2) ∧ ∃ z5 z6 z7 : Option Da, δ1 = [some (.rw K a sc ns), some (di 8), some (di (cN ns q : Nat)), some (.ref p), z4, z5, z6, z7])
    ⟨rfl, none, none, none, rfl⟩ ?_ ?_)
  · exact decide_eq_decide.mpr (by omega)
  · have h2 := of_decide_eq_true hb
    have e1 : cT ns q = tn ns (cA ns q).1 (2 * cN ns q) := by
      unfold cT
      rw [if_pos h2]
    have e2 : cQ ns q = tq ns (cA ns q).1 (2 * cN ns q) := by
      unfold cQ
      rw [if_pos h2]
    rw [e1, e2]
    exact em_tk (by omega) (by omega) a1 (em_var rfl) ((em_op em_int (em_var rfl) (rv_mul (.inl ⟨by decide, by decide⟩))).is (by show di _ = di _; congr 2 <;> omega)) (mB_row hpa) (mB_srow hpa)
  · have h2 := of_decide_eq_false hb
    have e1 : cT ns q = 0 := by
      unfold cT
      rw [if_neg h2]
    have e2 : cQ ns q = (cA ns q).1 := by
      unfold cQ
      rw [if_neg h2]
    rw [e1, e2]
    exact em_int
  · rintro j x δ1 M1 hx ⟨rfl, z5, z6, z7, rfl⟩
    obtain ⟨hj, rfl⟩ := rg_at hx
    obtain ⟨b1, b2, _⟩ := lp2_ok (ns := ns) (n := cN ns q) (s := (cQ ns q, (cA ns q).2)) (by omega) (cQ_ok hq) a2 j
    have hlen := b2.len hhi
    refine ⟨_, [5], tg_name, ?_⟩
    refine ws_seq (ws_par (ea_cons (em_tk (by omega) (by omega) b1 (em_var rfl) (em_var rfl) (mB_row hpa) (mB_srow hpa)) (ea_cons (em_tk (by omega) (by omega) (tq_ok b1) (em_var rfl) (em_var rfl) (mB_row hpa) (mB_srow hpa)) ea_nil)) ?_)
    have eq : ∀ s : Q3 × PL, lp2 ns (cN ns q) (cQ ns q, (cA ns q).2) j = s → lp2 ns (cN ns q) (cQ ns q, (cA ns q).2) (j + 1) = (tq ns (tq ns s.1 (cN ns q)) (cN ns q), if tn ns s.1 (cN ns q) = tn ns (tq ns s.1 (cN ns q)) (cN ns q) then s.2
      else put s.2 (min (tn ns s.1 (cN ns q)) (tn ns (tq ns s.1 (cN ns q)) (cN ns q)), max (tn ns s.1 (cN ns q)) (tn ns (tq ns s.1 (cN ns q)) (cN ns q)))) := fun s e => by
      rw [← e]
      rfl
    rw [eq _ rfl]
    generalize lp2 ns (cN ns q) (cQ ns q, (cA ns q).2) j = s at *
    generalize tn ns s.1 (cN ns q) = i1
    generalize tn ns (tq ns s.1 (cN ns q)) (cN ns q) = i2
    refine ws_if (et_test (em_op (em_var rfl) (em_var rfl) rv_ne)) (fun hb => ?_) (fun hb => ws_next ?_)
    · have ne : ¬ i1 = i2 := fun z => by
        rw [z] at hb
        simp at hb
      rw [if_neg ne]
      refine ws_dput (k := keyP (min i1 i2, max i1 i2)) (u := .bl true) em_bl (em_var rfl) (em_tup (xs := [.int (min i1 i2 : Nat), .int (max i1 i2 : Nat)]) (ea_cons ((em_cb (ea_cons (em_var rfl) (ea_cons (em_var rfl) ea_nil)) rc_min2).is ?_) (ea_cons ((em_cb (ea_cons (em_var rfl) (ea_cons (em_var rfl) ea_nil)) rc_max2).is ?_) ea_nil)) (by show 2 ≤ 1000; decide))
        mB_dic (by unfold encP; rw [List.length_map]; omega) (fun _ _ d => Dv.bl_of d) ⟨?_, _, _, _, rfl⟩
      · congr 2
        split <;> omega
      · congr 2
        split <;> omega
      · rw [mB_sdic, enc_put]
    · have e : i1 = i2 := by
        simp at hb
        omega
      rw [if_pos e]
      exact ⟨rfl, _, _, _, rfl⟩
  rintro δ1 M1 ⟨rfl, z5, z6, z7, rfl⟩
  rw [List.length_map, List.length_range]
  show WS _ _ (mB nom a p sc (cB ns q).1 (encP (cB ns q).2)) _
  obtain ⟨b1, b2, _⟩ := cB_ok (ns := ns) hq
  refine ws_cut (fun δ2 M2 => ∃ (C : Hp) (c : Addr) (y4 y5 y6 y7 : Option Da), c ≠ a ∧ C c = none ∧ δ2 = [some (.rw K a sc ns), some (di 8), some (di (cN ns q : Nat)), some (.ref c), y4, y5, y6, y7] ∧ M2 = mB C a c sc (comQ ns q) (encP (comP ns q))) ?_ ?_
  · skip
    refine ws_if (b := cE ns q) (et_and (M1 := mB nom a p sc (cB ns q).1 (encP (cB ns q).2)) (M2 := mB nom a p sc (if 3 < cN ns q then cC ns q else (cB ns q).1) (encP (cB ns q).2)) ((et_test (em_op (em_var rfl) em_int rv_gt)).is (decide_eq_decide.mpr (by omega))) (fun ha => ?_) (fun ha => ?_)) (fun hb => ?_) (fun hb => ws_next ?_)
    · rw [if_pos (of_decide_eq_true ha)]
      exact (et_test (em_op (em_tk (m := 3) (by decide) (by decide) b1 (em_var rfl) em_int (mB_row hpa) (mB_srow hpa)) em_int rv_eq)).is (decide_eq_decide.mpr (by omega))
    · rw [if_neg (of_decide_eq_false ha)]
    · have h3 : 3 < cN ns q := of_decide_eq_true (Bool.and_eq_true_iff.mp hb).1
      have c1 : QOk (cC ns q) := tq_ok b1
      rw [if_pos h3]
      refine ws_seq (ws_setN (en_disp (k := keyP (0, 1)) (u := .bl true) (fun M' => em_tup (xs := [.int 0, .int 1]) (ea_cons em_int (ea_cons em_int ea_nil)) (by show 2 ≤ 1000; decide)) (fun M' => em_bl) (fun _ _ d => Dv.bl_of d)) fun c hc => ?_)
      have hca : c ≠ a := fun z => by
        rw [z, mB_row hpa] at hc
        cases hc
      rw [mB_new hpa]
      refine ws_seq (ws_for (iv_r3 (lo := 2) (n := (cN ns q : Nat) - 1) (c := 2) (m := (cN ns q - 2) / 2) (ea_cons em_int (ea_cons (em_op (em_var rfl) em_int rv_sub) (ea_cons em_int ea_nil))) (rg_8 _ (by omega) h3))
        (fun i δ1 M1 => M1 = mB (mB nom a p sc (cC ns q) (encP (cB ns q).2)) a c sc (cC ns q) (encP (lp3 i)) ∧ ∃ z4 : Option Da, δ1 = [some (.rw K a sc ns), some (di 8), some (di (cN ns q : Nat)), some (.ref c), z4, z5, z6, z7]) ⟨rfl, _, rfl⟩ ?_ ?_)
      · rintro i x δ1 M1 hx ⟨rfl, z4, rfl⟩
        have hi : i < (cN ns q - 2) / 2 := by
          have := (List.getElem?_eq_some_iff.mp hx).1
          rw [rgD_len] at this
          exact this
        rw [rgD_get hi] at hx
        have ex : x = .int ((2 + 2 * i : Nat) : Nat) := by
          rw [← Option.some.inj hx]
          congr 1
          omega
        subst ex
        have hlen := (lp3_ok (n := cN ns q) h3 i (by omega)).1.len hhi
        refine ⟨_, [4], tg_name, ?_⟩
        refine ws_dput (k := keyP (2 + 2 * i, 3 + 2 * i)) (u := .bl true) em_bl (em_var rfl) (em_tup (xs := [.int (2 + 2 * i : Nat), .int (3 + 2 * i : Nat)]) (ea_cons (em_var rfl) (ea_cons ((em_op (em_var rfl) em_int rv_add).is ?_) ea_nil)) (by show 2 ≤ 1000; decide)) mB_dic (by unfold encP; rw [List.length_map]; omega) (fun _ _ d => Dv.bl_of d) ⟨?_, _, rfl⟩
        · show di _ = di _
          congr 2
          omega
        · rw [mB_sdic, enc_put]
          rfl
      rintro δ1 M1 ⟨rfl, y4, rfl⟩
      rw [rgD_len]
      have hlen := (cL_ok h3).1.len hhi
      have em1 : EvM (tOp (rI0 fun i j => .int (i - j)) (tVar 2) (tC (.int 1))) [some (.rw K a sc ns), some (di 8), some (di (cN ns q : Nat)), some (.ref c), y4, z5, z6, z7] (mB (mB nom a p sc (cC ns q) (encP (cB ns q).2)) a c sc (cC ns q) (encP (lp3 ((cN ns q - 2) / 2)))) (di (cN ns q - 1 : Nat)) (mB (mB nom a p sc (cC ns q) (encP (cB ns q).2)) a c sc (cC ns q) (encP (lp3 ((cN ns q - 2) / 2)))) :=
        (em_op (em_var rfl) em_int rv_sub).is (by show di _ = di _; congr 2 <;> omega)
      refine ws_dput (k := keyP (tn ns (cC ns q) (cN ns q - 1), cN ns q - 1)) (u := .bl true) em_bl (em_var rfl) (em_tup (xs := [.int (tn ns (cC ns q) (cN ns q - 1) : Nat), .int (cN ns q - 1 : Nat)]) (ea_cons (em_tk (by omega) (by omega) c1 (em_var rfl) em1 (mB_row hca) (mB_srow hca)) (ea_cons ((em_op (em_var rfl) em_int rv_sub).is (by show di _ = di _; congr 2 <;> omega)) ea_nil)) (by show 2 ≤ 1000; decide))
        mB_dic (by unfold encP; rw [List.length_map]; omega) (fun _ _ d => Dv.bl_of d) ⟨_, c, y4, z5, z6, z7, hca, hc, rfl, ?_⟩
      rw [mB_sdic, enc_put]
      have e1 : comQ ns q = tq ns (cC ns q) (cN ns q - 1) := by
        unfold comQ
        rw [if_pos hb]
      have e2 : comP ns q = cL ns q := by
        unfold comP
        rw [if_pos hb]
      rw [e1, e2]
      rfl
    · refine ⟨nom, p, z4, z5, z6, z7, hpa, rfl, rfl, ?_⟩
      have e1 : comQ ns q = if 3 < cN ns q then cC ns q else (cB ns q).1 := by
        unfold comQ
        rw [if_neg (by rw [hb]; decide)]
      have e2 : comP ns q = (cB ns q).2 := by
        unfold comP
        rw [if_neg (by rw [hb]; decide)]
      rw [e1, e2]
  · rintro δ2 M2 ⟨C, c, y4, y5, y6, y7, hca, hc, rfl, rfl⟩
    have hlen : (comP ns q).length ≤ 28 := by
      have := (com_good (ns := ns) hq).sz
      unfold com srtP at this
      rw [List.length_mergeSort] at this
      exact this
    refine ws_frz (i := 3) (x := .dic (encP (comP ns q))) (by rw [upd_ne hca]; exact hc) rfl (fun G h => ⟨c, rfl, h⟩) ?_
    refine ws_ret (em_tup (xs := [.int (cN ns q : Nat), .tuple ((srtP (comP ns q)).map prD)]) (ea_cons (em_var rfl) (ea_cons (em_cb (ea_cons (em_cb (ea_cons (em_var rfl) ea_nil) (rc_sortDT (ps := comP ns q) ?_ (by omega))) ea_nil) rc_tupL) ea_nil)) (by show 2 ≤ 1000; decide)) ⟨rfl, upd_same⟩
    unfold encP
    rw [List.map_map]
    rfl
end
end DL


set_option Elab.async false
set_option linter.all false
set_option maxRecDepth 100000
set_option maxHeartbeats 4000000
/-! D9: the kind and the word that the law draws. -/
namespace DL
open PySem PySem.Spec PyProof.Rows L2 Md
def dq (ns : List Int) (m : Nat) (q : Q3) : Nat → Q3
  | 0 => q
  | i + 1 => tq ns (dq ns m q i) m
theorem dq_ok {ns : List Int} {m : Nat} {q : Q3} (h : QOk q) : ∀ i, QOk (dq ns m q i)
  | 0 => h
  | i + 1 => tq_ok (dq_ok h i)
def dkL (ns : List Int) (n : Nat) (q : Q3) : List Nat := (List.range n).filter fun i => decide (tn ns (dq ns 2 q i) 2 = 0)
def dk (ns : List Int) (n : Nat) (q : Q3) : Knd := (om (dkL ns n q), tn ns (dq ns 2 q n) 2)
theorem dk_bs {C : Com} (hC : C.Ok) {ns : List Int} {q : Q3} : bs (dk ns C.n q).1 = dkL ns C.n q := by
  have hW : Wok C (dkL ns C.n q) := fun a ha => List.mem_range.mp (List.mem_filter.mp ha).1
  show bs (om (dkL ns C.n q)) = _
  rw [om_bs hC hW]
  show _ = (List.range C.n).filter _
  refine List.filter_congr fun a ha => ?_
  have hnd : (dkL ns C.n q).Nodup := List.Pairwise.filter _ List.nodup_range
  by_cases h : tn ns (dq ns 2 q a) 2 = 0
  · have hm : a ∈ dkL ns C.n q := List.mem_filter.mpr ⟨ha, decide_eq_true h⟩
    have h1 := List.count_pos_iff.mpr hm
    have h2 := List.nodup_iff_count.mp hnd a
    rw [decide_eq_true h]
    exact decide_eq_true (by omega)
  · have hm : ¬ a ∈ dkL ns C.n q := fun z => h (of_decide_eq_true (List.mem_filter.mp z).2)
    have h1 := List.count_eq_zero.mpr hm
    rw [decide_eq_false h]
    exact decide_eq_false (by omega)
theorem dk_ok {C : Com} (hC : C.Ok) {ns : List Int} {q : Q3} : Kok C (dk ns C.n q) := by
  have hW : Wok C (dkL ns C.n q) := fun a ha => List.mem_range.mp (List.mem_filter.mp ha).1
  have h2 : tn ns (dq ns 2 q C.n) 2 < 2 := tn_lt (by decide)
  exact ⟨om_lt _ hW, h2⟩
def fr_law_drawn_kind (K : PySem.W.Frag) : FrR := fun xs a o y o2 => ∃ (sc : Addr) (ns : List Int) (q : Q3) (C : Com), (QOk q ∧ C.Ok) ∧ xs = [.rw K a sc ns, .d (comD C)] ∧ o = rowO sc q ∧ y = .d (kD (dk ns C.n q)) ∧ o2 = rowO sc (dq ns 2 q (C.n + 1))
def wl (ns : List Int) (n : Nat) (q : Q3) : List Nat := (List.range (1 + tn ns q 60)).map fun i => tn ns (dq ns n (tq ns q 60) i) n
def fr_law_word (K : PySem.W.Frag) : FrR := fun xs a o y o2 => ∃ (sc : Addr) (ns : List Int) (q : Q3) (C : Com), (QOk q ∧ C.Ok) ∧ xs = [.rw K a sc ns, .d (comD C), di 60] ∧ o = rowO sc q ∧ y = ds (wd (wl ns C.n q)) ∧ o2 = rowO sc (dq ns C.n (tq ns q 60) (1 + tn ns q 60))
theorem one_set {a D : Addr} {r r2 o : HO} (h : D ≠ a) : upd (upd (one a r) D o) a r2 = upd (one a r2) D o := by
  unfold one
  rw [← upd_swap h, upd_upd]
theorem one_get {a D : Addr} {r o : HO} (h : D ≠ a) : upd (one a r) D o a = some r := (upd_ne h.symm).trans upd_same
theorem one_no {a D : Addr} {r : HO} (h : D ≠ a) : one a r D = none := by
  unfold one
  rw [upd_ne h]
  rfl
theorem one_is {a D : Addr} {r : HO} (h : one a r D = none) : D ≠ a := fun z => by
  rw [z] at h
  unfold one at h
  rw [upd_same] at h
  cases h
section
variable {P : Program} {w : World} {K : PySem.W.Frag} {mg : Str → Option Value} {base : Heap}
abbrev s_law_drawn_kind : Stmt := top 50
abbrev nm_law_drawn_kind : List Str := ["_law_row", "_law_company_here", "_law_letters", "_law_sign"]
theorem sc_law_drawn_kind : FnScope nm_law_drawn_kind ["_law_row", "_law_company_here"] (defScope s_law_drawn_kind) := ⟨rfl, rfl, rfl, by decide +kernel, rfl, by decide +kernel, by decide +kernel⟩
theorem ok_law_drawn_kind {f : Addr} {fd : FuncData} (F : Fun K "_law_drawn_kind" "_law_drawn_kind" s_law_drawn_kind f fd) (c_law_taken : Cal P w K mg base "_law_taken" ["_law_row", "_law_many"] 1 (SpR (fr_law_taken K))) : FnOk P w K mg base CX0 2 f fd ["_law_row", "_law_company_here"] (SpR (fr_law_drawn_kind K)) := by
  refine fn_row F sc_law_drawn_kind (fun xs a o y o2 ⟨sc, ns, q, C, _, h, _⟩ => by rw [h] <;> rfl) (fun cdv A outer s H E hr => ⟨_, (pss_cons (ps_set (i := 2) sc_law_drawn_kind.nd rfl (Or.inl rfl) (pe_bmK (K := K) rfl PySem.F.plainAttrs_str PySem.F.slot_str_join PySem.F.type_str_join (mt_sJoinK (K := K) rfl) pe_str (pa_cons (pe_lc (own := [("_law_sign", 3)]) (g := (gName 3)) rfl sc_law_drawn_kind.nd (pi_str (pe_slice sl_str pe_str po_none (po_some (pe_ix (ix_seqK (K := K) rfl) (pv 1) pe_int (fun _ _ => rfl))))) (blkOk_by (N := nm_law_drawn_kind) (sc := defScope s_law_drawn_kind) (own := [("_law_sign", 3)]) (by decide +kernel)) (fun _ _ _ _ _ => (pg_name (i := 3) sc_law_drawn_kind.nd rfl (by first | exact Or.inl rfl | exact Or.inr rfl))) (fun _ _ _ _ _ => pts_one (pt_cmpR op_eq (pe_cal c_law_taken (hr.mono (by decide)) (by rfl) (pa_cons (pv 0) (pa_cons pe_int pa_nil))) pe_int (nomark _))) (fun _ _ _ _ _ => (pv 3))) pa_nil)))
    (pss_one (ps_ret (pe_tup (pa_cons (pv 2) (pa_cons (pe_cal c_law_taken (hr.mono (by decide)) (by rfl) (pa_cons (pv 0) (pa_cons pe_int pa_nil))) pa_nil)))))), ?_⟩)
  rintro xs a o y o2 ⟨sc, ns, q, C, ⟨hq, hC⟩, rfl, rfl, rfl, rfl⟩
  have hn := hC.hi
  have hsg : IvM (iStr (tSl rSlS (tC (.str "abcdefgh")) tNoPart (tPart (tOp (rIx K) (tVar 1) (tC (.int 0)))))) [some (.rw K a sc ns), some (.d (comD C)), none, none] (one a (rowO sc q)) ((List.range C.n).map fun a => PyData.str ⟨#[a + 97]⟩) (one a (rowO sc (dq ns 2 q 0))) := by
    refine iv_wd4 ((em_slS em_str eo_none (eo_some (em_op (em_var rfl) em_int (rv_ixT (d := .int (C.n : Nat)) rfl))) (by decide +kernel)).is ?_)
    rw [alph_cut hn]
  have hlc := em_lcM (te := tVar 3) (g := gName 3) (tt := tTest (tOp rEq (tCall (SpR (fr_law_taken K)) [] E0 (tCons (tVar 0) (tCons (tC (.int 2)) tNil))) (tC (.int 0)))) (vs := [3]) (fun i => one a (rowO sc (dq ns 2 q i))) (fun i => decide (tn ns (dq ns 2 q i) 2 = 0)) (fun i => .str (wd [i])) hsg (by rw [List.length_map, List.length_range]; omega) fun i x hx => by
    rw [List.getElem?_map] at hx
    cases z : (List.range C.n)[i]? with
    | none =>
      rw [z] at hx
      cases hx
    | some m =>
      obtain ⟨hi, em⟩ := List.getElem?_eq_some_iff.mp z
      rw [List.length_range] at hi
      rw [List.getElem_range] at em
      subst em
      rw [z] at hx
      have ex : x = .str ⟨#[i + 97]⟩ := (Option.some.inj hx).symm
      subst ex
      refine ⟨_, [3], tg_name, fun _ h => h, fun D o hD => ⟨one a (rowO sc (dq ns 2 q (i + 1))), one_no (one_is hD), ?_, fun _ => ⟨one_no (one_is hD), em_var rfl⟩, fun _ => rfl⟩⟩
      exact (et_test (em_op (em_tk (m := 2) (by decide) (by decide) (dq_ok hq i) (em_var rfl) em_int (one_get (one_is hD)) (one_set (one_is hD))) em_int rv_eq)).is (decide_eq_decide.mpr (by omega))
  rw [List.length_map, List.length_range] at hlc
  refine ws_seq (ws_set (x := ds (lt (dk ns C.n q).1)) ((em_sJoinB (bs := dkL ns C.n q) (g := fun a => wd [a]) em_str (ea_cons hlc ea_nil) ?_).is ?_) ?_)
  · rw [lens_ones]
    have : (dkL ns C.n q).length ≤ C.n := by
      have := List.length_filter_le (fun i => decide (tn ns (dq ns 2 q i) 2 = 0)) (List.range C.n)
      rw [List.length_range] at this
      exact this
    show _ + _ * 0 ≤ 16777216
    omega
  · rw [join_ones]
    unfold lt
    rw [dk_bs hC]
  · refine ws_ret (em_tup (xs := [.str (lt (dk ns C.n q).1), .int ((dk ns C.n q).2 : Nat)]) (ea_cons (em_var rfl) (ea_cons (em_tk (m := 2) (by decide) (by decide) (dq_ok hq _) (em_var rfl) em_int upd_same rfl) ea_nil)) (by show 2 ≤ 1000; decide)) ⟨rfl, upd_same⟩
abbrev s_law_word : Stmt := top 56
abbrev nm_law_word : List Str := ["_law_row", "_law_company_here", "_law_most", "_law_at"]
theorem sc_law_word : FnScope nm_law_word ["_law_row", "_law_company_here", "_law_most"] (defScope s_law_word) := ⟨rfl, rfl, rfl, by decide +kernel, rfl, by decide +kernel, by decide +kernel⟩
theorem ok_law_word {f : Addr} {fd : FuncData} (F : Fun K "_law_word" "_law_word" s_law_word f fd) (B : Bi mg) (c_law_taken : Cal P w K mg base "_law_taken" ["_law_row", "_law_many"] 1 (SpR (fr_law_taken K))) : FnOk P w K mg base CX0 2 f fd ["_law_row", "_law_company_here", "_law_most"] (SpR (fr_law_word K)) := by
  refine fn_row F sc_law_word (fun xs a o y o2 ⟨sc, ns, q, C, _, h, _⟩ => by rw [h] <;> rfl) (fun cdv A outer s H E hr => ⟨_, (pss_one (ps_ret (pe_bmK (K := K) rfl PySem.F.plainAttrs_str PySem.F.slot_str_join PySem.F.type_str_join (mt_sJoinK (K := K) rfl) pe_str (pa_cons (pe_lc (own := [("_law_at", 3)]) (g := (gName 3)) rfl sc_law_word.nd (pi_range1 (by rfl) B.range_ (pa_cons (pe_op op_add pe_int (pe_cal c_law_taken (hr.mono (by decide)) (by rfl) (pa_cons (pv 0) (pa_cons (pv 2) pa_nil)))) pa_nil)) (blkOk_by (N := nm_law_word) (sc := defScope s_law_word) (own := [("_law_at", 3)]) (by decide +kernel)) (fun _ _ _ _ _ => (pg_name (i := 3) sc_law_word.nd rfl (by first | exact Or.inl rfl | exact Or.inr rfl))) (fun _ _ _ _ _ => pts_nil) (fun _ _ _ _ _ => (pe_ix (ix_seqK (K := K) rfl) pe_str (pe_cal c_law_taken (hr.mono (by decide)) (by rfl) (pa_cons (pv 0) (pa_cons (pe_ix (ix_seqK (K := K) rfl) (pv 1) pe_int (fun _ _ => rfl)) pa_nil))) (fun _ _ => rfl)))) pa_nil)))), ?_⟩)
  rintro xs a o y o2 ⟨sc, ns, q, C, ⟨hq, hC⟩, rfl, rfl, rfl, rfl⟩
  have hn := hC.hi
  have hlo := hC.lo
  have h60 := tn_lt (ns := ns) (q := q) (m := 60) (by decide)
  have hq1 : QOk (tq ns q 60) := tq_ok hq
  have hiv : IvM (iRng1 (tCons (tOp (rI0 fun i j => .int (i + j)) (tC (.int 1)) (tCall (SpR (fr_law_taken K)) [] E0 (tCons (tVar 0) (tCons (tVar 2) tNil)))) tNil)) [some (.rw K a sc ns), some (.d (comD C)), some (di 60), none] (one a (rowO sc q)) ((List.range (1 + tn ns q 60)).map fun i => .int (i : Nat)) (one a (rowO sc (dq ns C.n (tq ns q 60) 0))) :=
    iv_rg (ea_cons ((em_op em_int (em_tk (m := 60) (by decide) (by decide) hq (em_var rfl) (em_var rfl) upd_same (by unfold one; rw [upd_upd]; rfl)) rv_add).is (by show di _ = di _; congr 2 <;> omega)) ea_nil) (by omega)
  have hlc := em_lcM (te := tOp (rIx K) (tC (.str "abcdefgh")) (tCall (SpR (fr_law_taken K)) [] E0 (tCons (tVar 0) (tCons (tOp (rIx K) (tVar 1) (tC (.int 0))) tNil)))) (g := gName 3) (tt := tYes) (vs := [3]) (fun i => one a (rowO sc (dq ns C.n (tq ns q 60) i))) (fun i => true) (fun i => .str (wd [tn ns (dq ns C.n (tq ns q 60) i) C.n])) hiv (by rw [List.length_map, List.length_range]; omega) fun i x hx => by
    obtain ⟨hi, rfl⟩ := rg_at hx
    refine ⟨_, [3], tg_name, fun _ h => h, fun D o hD => ⟨one a (rowO sc (dq ns C.n (tq ns q 60) i)), hD, et_yes, fun _ => ⟨one_no (one_is hD), ?_⟩, fun z => (by cases z)⟩⟩
    have hlt := tn_lt (ns := ns) (q := dq ns C.n (tq ns q 60) i) (m := C.n) (by omega)
    exact (em_op em_str (em_tk (m := C.n) (by omega) (by omega) (dq_ok hq1 i) (em_var rfl) (em_op (em_var rfl) em_int (rv_ixT (d := .int (C.n : Nat)) rfl)) (one_get (one_is hD)) (one_set (one_is hD))) (rv_ixS (by decide +kernel) (alph_at (by omega)))).is rfl
  rw [List.length_map, List.length_range] at hlc
  have e : (List.range (1 + tn ns q 60)).filter (fun i => true) = List.range (1 + tn ns q 60) := List.filter_eq_self.mpr fun _ _ => rfl
  rw [e] at hlc
  have hj := em_sJoinB (K := K) (bs := List.range (1 + tn ns q 60)) (g := fun i => wd [tn ns (dq ns C.n (tq ns q 60) i) C.n]) (a := "") em_str (ea_cons hlc ea_nil) ?_
  · refine ws_ret (hj.is ?_) ⟨rfl, upd_same⟩
    have e2 : ((List.range (1 + tn ns q 60)).map fun i => wd [tn ns (dq ns C.n (tq ns q 60) i) C.n]) = ((wl ns C.n q).map fun a => wd [a]) := by
      unfold wl
      rw [List.map_map]
      rfl
    rw [e2, join_ones]
  · have e2 : ((List.range (1 + tn ns q 60)).map fun i => wd [tn ns (dq ns C.n (tq ns q 60) i) C.n]) = ((wl ns C.n q).map fun a => wd [a]) := by
      unfold wl
      rw [List.map_map]
      rfl
    rw [e2, lens_ones]
    have : (wl ns C.n q).length = 1 + tn ns q 60 := by simp [wl]
    show _ + _ * 0 ≤ 16777216
    omega
end
end DL


set_option Elab.async false
set_option linter.all false
set_option maxRecDepth 100000
set_option maxHeartbeats 4000000
/-! D10: the law's comparison, level by level. -/
namespace DL
open PySem PySem.Spec PyProof.Rows L2 Md
def frA : Nat → Fr
  | 0 => fun _ _ => False
  | d + 1 => fr_law_alike d
section
variable {δ : Dl} {M : Hp} {K : PySem.W.Frag} {ta tb : TE} {x : PyData}
theorem em_eqSame (sh : SeqAt.shaped x = true) (h1 : EvM ta δ M (.d x) M) (h2 : EvM tb δ M (.d x) M) : EvM (tOp (rEqD K) ta tb) δ M (db true) M := (em_op h1 h2 (rv_eqD sh sh)).is (by rw [SeqAt.eqv_refl _ (SeqAt.canLay_of_shaped sh)])
theorem em_neSame (sh : SeqAt.shaped x = true) (h1 : EvM ta δ M (.d x) M) (h2 : EvM tb δ M (.d x) M) : EvM (tOp (rNeD K) ta tb) δ M (db false) M := (em_op h1 h2 (rv_neD sh sh)).is (by rw [SeqAt.eqv_refl _ (SeqAt.canLay_of_shaped sh)] <;> rfl)
theorem em_isi {i : Nat} {n : String} {b : Bool} (h : δ[i]? = some (some (.d x))) (hk : kitB (tyn x) n = some b) : EvM (tCB (rIsi K) (tCons (tVar i) (tCons (tC (.ty n)) tNil))) δ M (db b) M := em_cb (ea_cons (em_var h) (ea_cons em_ty ea_nil)) (rc_isi rfl hk)
theorem sh_str {s : Str} (h : PyData.strOk s = true) : SeqAt.shaped (.str s) = true := by simp [SeqAt.shaped, PyData.canLay0, PyData.depth, h]
end
theorem frA_item {d : Nat} {z : PyData} (h : (match d with | 0 => false | d + 1 => nice d z) = true) : frA d [.d z, .d z] (db true) := by
  cases d with
  | zero => cases h
  | succ d => exact ⟨z, h, rfl, rfl⟩
section
variable {P : Program} {w : World} {K : PySem.W.Frag} {mg : Str → Option Value} {base : Heap}
abbrev s_law_alike : Stmt := top 53
abbrev nm_law_alike : List Str := ["_law_found", "_law_due", "_law_k"]
theorem sc_law_alike : FnScope nm_law_alike ["_law_found", "_law_due"] (defScope s_law_alike) := ⟨rfl, rfl, rfl, by decide +kernel, rfl, by decide +kernel, by decide +kernel⟩
theorem ok_law_alike {f : Addr} {fd : FuncData} {k d : Nat} (F : Fun K "_law_alike" "_law_alike" s_law_alike f fd) (B : Bi mg) (c_law_alike : Cal P w K mg base "_law_alike" ["_law_found", "_law_due"] k (SpP (frA d))) : FnOk P w K mg base CX0 (k + 1) f fd ["_law_found", "_law_due"] (SpP (frA (d + 1))) := by
  refine fn_pure F sc_law_alike (fun xs y ⟨x, _, h, _⟩ => by rw [h] <;> rfl) (fun cdv A outer s H E hr => ⟨_, (pss_cons (ps_if (pt_val (pe_callB (call_isiTK (K := K) rfl) (by rfl) B.isinstance_ boot_isinstance (pa_cons (pv 1) (pa_cons (pe_tup (pa_cons (pe_bltn (v := .ty "tuple") (by rfl) B.tuple_ boot_tuple rfl) (pa_cons (pe_bltn (v := .ty "list") (by rfl) B.list_ boot_list rfl) pa_nil))) pa_nil)))) (pss_cons (ps_if (PW.pt (pw_or (pt_not (pt_val (pe_callB (call_isiTK (K := K) rfl) (by rfl) B.isinstance_ boot_isinstance (pa_cons (pv 0) (pa_cons (pe_tup (pa_cons (pe_bltn (v := .ty "tuple") (by rfl) B.tuple_ boot_tuple rfl) (pa_cons (pe_bltn (v := .ty "list") (by rfl) B.list_ boot_list rfl) pa_nil))) pa_nil))))) (pw_or1 (pt_cmpR (op_neDK (K := K) rfl hr.units) (pe_callB (call_isiK' (K := K) rfl) (by rfl) B.isinstance_ boot_isinstance (pa_cons (pv 0) (pa_cons (pe_bltn (v := .ty "list") (by rfl) B.list_ boot_list rfl) pa_nil))) (pe_callB (call_isiK' (K := K) rfl) (by rfl) B.isinstance_ boot_isinstance (pa_cons (pv 1) (pa_cons (pe_bltn (v := .ty "list") (by rfl) B.list_ boot_list rfl) pa_nil))) (nomark _))))) (pss_one (ps_ret pe_bl)) pss_nil)
    (pss_cons (ps_if (pt_cmpR (op_neDK (K := K) rfl hr.units) (pe_callB (call_lenK (K := K) rfl) (by rfl) B.len_ boot_len (pa_cons (pv 0) pa_nil)) (pe_callB (call_lenK (K := K) rfl) (by rfl) B.len_ boot_len (pa_cons (pv 1) pa_nil)) (nomark _)) (pss_one (ps_ret pe_bl)) pss_nil)
    (pss_one (ps_ret (pe_cmpR (op_eqDK (K := K) rfl hr.units) (pe_lc (own := [("_law_k", 2)]) (g := (gName 2)) rfl sc_law_alike.nd (pi_range1 (by rfl) B.range_ (pa_cons (pe_callB (call_lenK (K := K) rfl) (by rfl) B.len_ boot_len (pa_cons (pv 1) pa_nil)) pa_nil)) (blkOk_by (N := nm_law_alike) (sc := defScope s_law_alike) (own := [("_law_k", 2)]) (by decide +kernel)) (fun _ _ _ _ _ => (pg_name (i := 2) sc_law_alike.nd rfl (by first | exact Or.inl rfl | exact Or.inr rfl))) (fun _ _ _ _ _ => pts_one (pt_not (pt_val (pe_cal c_law_alike hr (by rfl) (pa_cons (pe_ix (ix_seqK (K := K) rfl) (pv 0) (pv 2) (fun _ _ => rfl)) (pa_cons (pe_ix (ix_seqK (K := K) rfl) (pv 1) (pv 2) (fun _ _ => rfl)) pa_nil)))))) (fun _ _ _ _ _ => (pv 2))) (pe_lst pa_nil) (nomark _)))))) pss_nil)
    (pss_cons (ps_if (PW.pt (pw_or (pt_cmpR op_isNn (pv 1) pe_non (nomark _)) (pw_or1 (pt_val (pe_callB (call_isiK' (K := K) rfl) (by rfl) B.isinstance_ boot_isinstance (pa_cons (pv 1) (pa_cons (pe_bltn (v := .ty "str") (by rfl) B.str_ boot_str rfl) pa_nil))))))) (pss_one (ps_ret (pe_and (pe_cmpR (op_eqDK (K := K) rfl hr.units) (pv 0) (pv 1) (nomark _)) (pe_one (pe_cmpR (op_eqDK (K := K) rfl hr.units) (pe_callB (call_isiK' (K := K) rfl) (by rfl) B.isinstance_ boot_isinstance (pa_cons (pv 0) (pa_cons (pe_bltn (v := .ty "str") (by rfl) B.str_ boot_str rfl) pa_nil))) (pe_callB (call_isiK' (K := K) rfl) (by rfl) B.isinstance_ boot_isinstance (pa_cons (pv 1) (pa_cons (pe_bltn (v := .ty "str") (by rfl) B.str_ boot_str rfl) pa_nil))) (nomark _)))))) pss_nil)
    (pss_one (ps_ret (pe_and (pe_callB (call_isiK' (K := K) rfl) (by rfl) B.isinstance_ boot_isinstance (pa_cons (pv 0) (pa_cons (pe_bltn (v := .ty "int") (by rfl) B.int_ boot_int rfl) pa_nil))) (pe_and (pe_cmpR (op_eqDK (K := K) rfl hr.units) (pe_callB (call_isiK' (K := K) rfl) (by rfl) B.isinstance_ boot_isinstance (pa_cons (pv 0) (pa_cons (pe_bltn (v := .ty "bool") (by rfl) B.bool_ boot_bool rfl) pa_nil))) (pe_callB (call_isiK' (K := K) rfl) (by rfl) B.isinstance_ boot_isinstance (pa_cons (pv 1) (pa_cons (pe_bltn (v := .ty "bool") (by rfl) B.bool_ boot_bool rfl) pa_nil))) (nomark _)) (pe_one (pe_cmpR (op_eqDK (K := K) rfl hr.units) (pv 0) (pv 1) (nomark _))))))))), ?_⟩)
  rintro xs y ⟨x, hx, rfl, rfl⟩
  cases x with
  | none =>
    refine ws_seq (ws_pass ((et_B (em_isi2 (em_var rfl) rfl (a := false) (b := false) (by show kitB "NoneType" _ = _; decide +kernel) (by show kitB "NoneType" _ = _; decide +kernel))).is rfl) ?_)
    refine ws_seq (ws_if (et_or (et_test (em_op (em_var rfl) em_non rv_isN)) (b := false) (fun q => nomatch q) (fun _ => rfl)) (fun _ => ?_) (fun q => nomatch q))
    exact ws_ret ((em_andV (em_eqSame rfl (em_var rfl) (em_var rfl)) fun _ => em_eqSame (x := .bool false) rfl (em_isi rfl (by show kitB "NoneType" _ = _; decide +kernel)) (em_isi rfl (by show kitB "NoneType" _ = _; decide +kernel))).is rfl) rfl
  | bool v =>
    refine ws_seq (ws_pass ((et_B (em_isi2 (em_var rfl) rfl (a := false) (b := false) (by show kitB "bool" _ = _; decide +kernel) (by show kitB "bool" _ = _; decide +kernel))).is rfl) ?_)
    refine ws_seq (ws_pass ((et_or (et_test (em_op (em_var rfl) em_non rv_isN)) (fun _ => et_B (em_isi (b := false) rfl (by show kitB "bool" _ = _; decide +kernel))) (fun _ => rfl)).is rfl) ?_)
    exact ws_ret ((em_andV (em_isi (b := true) rfl (by show kitB "bool" _ = _; decide +kernel)) fun _ => em_andV (em_eqSame (x := .bool true) rfl (em_isi rfl (by show kitB "bool" _ = _; decide +kernel)) (em_isi rfl (by show kitB "bool" _ = _; decide +kernel))) fun _ => em_eqSame rfl (em_var rfl) (em_var rfl)).is rfl) rfl
  | int v =>
    refine ws_seq (ws_pass ((et_B (em_isi2 (em_var rfl) rfl (a := false) (b := false) (by show kitB "int" _ = _; decide +kernel) (by show kitB "int" _ = _; decide +kernel))).is rfl) ?_)
    refine ws_seq (ws_pass ((et_or (et_test (em_op (em_var rfl) em_non rv_isN)) (fun _ => et_B (em_isi (b := false) rfl (by show kitB "int" _ = _; decide +kernel))) (fun _ => rfl)).is rfl) ?_)
    exact ws_ret ((em_andV (em_isi (b := true) rfl (by show kitB "int" _ = _; decide +kernel)) fun _ => em_andV (em_eqSame (x := .bool false) rfl (em_isi rfl (by show kitB "int" _ = _; decide +kernel)) (em_isi rfl (by show kitB "int" _ = _; decide +kernel))) fun _ => em_eqSame rfl (em_var rfl) (em_var rfl)).is rfl) rfl
  | str v =>
    have hv : PyData.strOk v = true := by
      cases d with
      | zero => simpa [nice] using hx
      | succ d => simpa [nice] using hx
    refine ws_seq (ws_pass ((et_B (em_isi2 (em_var rfl) rfl (a := false) (b := false) (by show kitB "str" _ = _; decide +kernel) (by show kitB "str" _ = _; decide +kernel))).is rfl) ?_)
    refine ws_seq (ws_if (et_or (et_test (em_op (em_var rfl) em_non rv_isN)) (fun _ => et_B (em_isi (b := true) rfl (by show kitB "str" _ = _; decide +kernel))) (fun _ => rfl)) (fun _ => ?_) (fun q => nomatch q))
    exact ws_ret ((em_andV (em_eqSame (sh_str hv) (em_var rfl) (em_var rfl)) fun _ => em_eqSame (x := .bool true) rfl (em_isi rfl (by show kitB "str" _ = _; decide +kernel)) (em_isi rfl (by show kitB "str" _ = _; decide +kernel))).is rfl) rfl
  | list zs =>
    have hz : zs.length ≤ 1000 ∧ ∀ z ∈ zs, frA d [.d z, .d z] (db true) := by
      cases d with
      | zero => simp [nice] at hx
      | succ d =>
        simp only [nice] at hx
        have h := Bool.and_eq_true_iff.mp hx
        exact ⟨of_decide_eq_true h.1, fun z m => frA_item (List.all_eq_true.mp h.2 z m)⟩
    refine ws_seq (ws_if ((et_B (em_isi2 (em_var rfl) rfl (a := false) (b := true) (by show kitB "list" _ = _; decide +kernel) (by show kitB "list" _ = _; decide +kernel))).is rfl) (fun _ => ?_) (fun q => nomatch q))
    refine ws_seq (ws_pass ((et_or (et_not (et_B (em_isi2 (em_var rfl) rfl (a := false) (b := true) (by show kitB "list" _ = _; decide +kernel) (by show kitB "list" _ = _; decide +kernel)))) (fun _ => et_test (em_neSame (x := .bool true) rfl (em_isi rfl (by show kitB "list" _ = _; decide +kernel)) (em_isi rfl (by show kitB "list" _ = _; decide +kernel)))) (fun _ => rfl)).is rfl) ?_)
    refine ws_seq (ws_pass (et_test (em_neSame (x := .int zs.length) rfl (em_cb (ea_cons (em_var rfl) ea_nil) rc_lenL) (em_cb (ea_cons (em_var rfl) ea_nil) rc_lenL))) ?_)
    refine ws_ret (em_eqSame (x := .list []) rfl ((em_lcNF (List.range zs.length) (fun i => .int (i : Nat)) (fun _ => false) (fun i => .int (i : Nat)) (iv_rg (ea_cons (em_cb (ea_cons (em_var rfl) ea_nil) rc_lenL) ea_nil) (by omega)) (by rw [List.length_range]; omega) (fun i hi M' => ?_) (fun i _ q => nomatch q)).is ?_) (em_lst (xs := []) ea_nil (by decide))) rfl
    · have hi' := List.mem_range.mp hi
      have e : atI zs (i : Nat) = some (zs[i]'hi') := atI_nat (List.getElem?_eq_getElem hi')
      exact (et_not (et_B (em_call (ea_cons (em_op (em_var rfl) (em_var rfl) (rv_ixL e)) (ea_cons (em_op (em_var rfl) (em_var rfl) (rv_ixL e)) ea_nil)) (hz.2 _ (List.getElem_mem hi'))))).is rfl
    · have e : (List.range zs.length).filter (fun _ => false) = [] := List.filter_eq_nil_iff.mpr fun _ _ => Bool.false_ne_true
      rw [e]
      rfl
  | tuple zs =>
    have hz : zs.length ≤ 1000 ∧ ∀ z ∈ zs, frA d [.d z, .d z] (db true) := by
      cases d with
      | zero => simp [nice] at hx
      | succ d =>
        simp only [nice] at hx
        have h := Bool.and_eq_true_iff.mp hx
        exact ⟨of_decide_eq_true h.1, fun z m => frA_item (List.all_eq_true.mp h.2 z m)⟩
    refine ws_seq (ws_if ((et_B (em_isi2 (em_var rfl) rfl (a := true) (b := false) (by show kitB "tuple" _ = _; decide +kernel) (by show kitB "tuple" _ = _; decide +kernel))).is rfl) (fun _ => ?_) (fun q => nomatch q))
    refine ws_seq (ws_pass ((et_or (et_not (et_B (em_isi2 (em_var rfl) rfl (a := true) (b := false) (by show kitB "tuple" _ = _; decide +kernel) (by show kitB "tuple" _ = _; decide +kernel)))) (fun _ => et_test (em_neSame (x := .bool false) rfl (em_isi rfl (by show kitB "tuple" _ = _; decide +kernel)) (em_isi rfl (by show kitB "tuple" _ = _; decide +kernel)))) (fun _ => rfl)).is rfl) ?_)
    refine ws_seq (ws_pass (et_test (em_neSame (x := .int zs.length) rfl (em_cb (ea_cons (em_var rfl) ea_nil) rc_lenT) (em_cb (ea_cons (em_var rfl) ea_nil) rc_lenT))) ?_)
    refine ws_ret (em_eqSame (x := .list []) rfl ((em_lcNF (List.range zs.length) (fun i => .int (i : Nat)) (fun _ => false) (fun i => .int (i : Nat)) (iv_rg (ea_cons (em_cb (ea_cons (em_var rfl) ea_nil) rc_lenT) ea_nil) (by omega)) (by rw [List.length_range]; omega) (fun i hi M' => ?_) (fun i _ q => nomatch q)).is ?_) (em_lst (xs := []) ea_nil (by decide))) rfl
    · have hi' := List.mem_range.mp hi
      have e : atI zs (i : Nat) = some (zs[i]'hi') := atI_nat (List.getElem?_eq_getElem hi')
      exact (et_not (et_B (em_call (ea_cons (em_op (em_var rfl) (em_var rfl) (rv_ixT e)) (ea_cons (em_op (em_var rfl) (em_var rfl) (rv_ixT e)) ea_nil)) (hz.2 _ (List.getElem_mem hi'))))).is rfl
    · have e : (List.range zs.length).filter (fun _ => false) = [] := List.filter_eq_nil_iff.mpr fun _ _ => Bool.false_ne_true
      rw [e]
      rfl
  | dict kv =>
    cases d with
    | zero => simp [nice] at hx
    | succ d => simp [nice] at hx
theorem base_law_alike {f : Addr} {fd : FuncData} (F : Fun K "_law_alike" "_law_alike" s_law_alike f fd) : FnOk P w K mg base CX0 1 f fd ["_law_found", "_law_due"] (SpP (frA 0)) := by
  refine F.ok sc_law_alike (fun vs H Q E h => ?_) (fun cdv A outer s H vs Q E hr h => ?_)
  · obtain ⟨G, xs, x, _, _, h, _⟩ := h
    exact h.elim
  · obtain ⟨G, xs, x, _, _, h, _⟩ := h
    exact h.elim
end
end DL


set_option Elab.async false
set_option linter.all false
set_option maxRecDepth 100000
set_option maxHeartbeats 4000000
/-! DLaw: the law's dict of lengths, its list of counts. -/
namespace DL
open PySem PySem.Spec PyProof.Rows L2 Md
theorem allu_nodup : ∀ i, (allu i).Nodup
  | 0 => List.nodup_nil
  | i + 1 => by
    rw [allu_succ, List.nodup_append]
    refine ⟨allu_nodup i, by simp, fun a ha b hb e => ?_⟩
    rw [e] at ha
    have h := (allu_mem.mp ha).1
    rcases List.mem_cons.mp hb with z | z
    · rw [z] at h
      exact Nat.lt_irrefl _ h
    · rw [List.mem_singleton.mp z] at h
      exact Nat.lt_irrefl _ h
theorem ks_nodup (n : Nat) : (ks n).Nodup := by
  unfold ks
  exact (List.mergeSort_perm (allk n) _).nodup_iff.mpr (allu_nodup (2 ^ n))
theorem ks_sort (n : Nat) : (ks n).mergeSort (PySem.W.dataLe false kD) = ks n := by
  have tt : PySem.W.TotalLe (PySem.W.dataLe false kD) := PySem.W.sortLe_total _ false _
  refine (PySem.W.sort_unique tt ?_ fun c => rfl).symm
  unfold ks
  exact PySem.W.sort_pairwise tt _
def keyK (k : Knd) : List Key := [.inr (lt k.1), .inl (k.2 : Nat)]
theorem wd_inj {a b : List Nat} (h : wd a = wd b) : a = b := by
  have e : (wd a).cps.toList = (wd b).cps.toList := by rw [h]
  rw [wd_tl, wd_tl] at e
  exact List.map_inj_right (fun x y z => by omega) |>.mp e
theorem keyK_inj {k k' : Knd} (h : k.1 < 256) (h' : k'.1 < 256) (e : keyK k = keyK k') : k = k' := by
  unfold keyK at e
  simp only [List.cons.injEq, Sum.inl.injEq, Sum.inr.injEq, and_true] at e
  obtain ⟨e1, e2⟩ := e
  have e3 : bs k.1 = bs k'.1 := wd_inj e1
  have s1 := bs_sum _ h
  have s2 := bs_sum _ h'
  rw [e3, s2] at s1
  exact Prod.ext s1.symm (by omega)
def encK (C : Com) (l : List Knd) : List (List Key × V) := l.map fun k => (keyK k, .int (ll C k : Nat))
theorem encK_put {C : Com} {l : List Knd} {k : Knd} (hk : k.1 < 256) (hl : ∀ x ∈ l, x.1 < 256) (hn : k ∉ l) : putK (encK C l) (keyK k) (.int (ll C k : Nat)) = encK C (l ++ [k]) := by
  have h : ((encK C l).any fun kv => decide (kv.1 = keyK k)) = false := by
    unfold encK
    rw [List.any_map]
    refine List.any_eq_false.mpr fun x hx z => hn ?_
    have e : keyK x = keyK k := of_decide_eq_true z
    rw [← keyK_inj (hl x hx) hk e]
    exact hx
  unfold putK
  rw [h, if_neg Bool.false_ne_true]
  unfold encK
  rw [List.map_append]
  rfl
theorem encK_val {C : Com} {k : Knd} (hk : k.1 < 256) : ∀ {l : List Knd}, (∀ x ∈ l, x.1 < 256) → k ∈ l → valV (encK C l) (keyK k) = some (.int (ll C k : Nat))
  | [], _, h => by cases h
  | x :: l, hl, h => by
    by_cases e : keyK x = keyK k
    · have ex := keyK_inj (hl x List.mem_cons_self) hk e
      rw [ex]
      exact valV_pos (p := (keyK k, V.int (ll C k : Nat))) rfl
    · have hne : k ≠ x := fun z => e (by rw [z])
      have hm : k ∈ l := (List.mem_cons.mp h).resolve_left hne
      exact (valV_neg (p := (keyK x, V.int (ll C x : Nat))) e).trans (encK_val hk (fun y hy => hl y (List.mem_cons_of_mem _ hy)) hm)
theorem encK_keys (C : Com) (l : List Knd) : ((encK C l).map fun p => PyData.tuple (p.1.map kyD)) = l.map kD := by
  unfold encK
  rw [List.map_map]
  rfl
/-! ### the counts -/
def cnts (C : Com) (l : List Knd) : List Int := (List.range (mxl C + 1)).map fun j => ((l.map (ll C)).count j : Nat)
theorem cnts_nil (C : Com) : (cnts C []).map V.int = List.replicate (mxl C + 1) (.int 0) := by
  unfold cnts
  rw [List.map_map]
  refine List.ext_getElem (by simp) fun i h1 h2 => ?_
  simp
theorem cnts_len (C : Com) (l : List Knd) : (cnts C l).length = mxl C + 1 := by simp [cnts]
theorem cnts_at (C : Com) (l : List Knd) {j : Nat} (h : j ≤ mxl C) : (cnts C l)[j]? = some ((l.map (ll C)).count j : Nat) := by
  unfold cnts
  rw [List.getElem?_map, List.getElem?_range (by omega)] <;> rfl
theorem cnts_set (C : Com) (l : List Knd) (k : Knd) (h : ll C k ≤ mxl C) : ((cnts C l).map V.int).set (ll C k) (.int (((l.map (ll C)).count (ll C k) : Nat) + 1)) = (cnts C (l ++ [k])).map V.int := by
  refine List.ext_getElem? fun j => ?_
  by_cases hj : j ≤ mxl C
  · have e1 : ((cnts C (l ++ [k])).map V.int)[j]? = some (.int (((l ++ [k]).map (ll C)).count j : Nat)) := by rw [List.getElem?_map, cnts_at C _ hj] <;> rfl
    rw [e1, List.map_append, List.count_append]
    by_cases e : ll C k = j
    · subst e
      rw [List.getElem?_set_self (by rw [List.length_map, cnts_len]; omega)]
      simp
    · rw [List.getElem?_set_ne e, List.getElem?_map, cnts_at C _ hj]
      simp [List.count_singleton, e]
  · rw [List.getElem?_eq_none (by rw [List.length_set, List.length_map, cnts_len]; omega), List.getElem?_eq_none (by rw [List.length_map, cnts_len]; omega)]
section
variable {δ : Dl} {M M1 M2 M3 : Hp} {te to ti ta tb : TE} {K : PySem.W.Frag} {c : Addr} {x : Da} {P : Out → Prop} {t : TS}
theorem em_ixM {i : Int} {vs : List V} {u : V} (h : EvM te δ M (.ref c) M1) (hi : EvM ti δ M1 (di i) M2) (hM : M2 c = some (.lst vs)) (hx : atI vs i = some u) (hu : ∀ G, DaOk G u x) : EvM (tOp (rIx K) te ti) δ M x M2 := fun σ G H s sl Q k =>
  h σ G H s sl _ fun v G1 H1 s1 r1 d1 => hi σ G1 H1 s1 (sl.mono r1.g) _ fun v2 G2 H2 s2 r2 d2 => .inl ⟨c, _, i, u, d1, Dv.int_of d2, SqL.of (s2.m _ _ hM), hx, k _ G2 H2 s2 (Rl.trans s1 s2 s r1 r2) (hu G2)⟩
theorem ws_lstSet {i : Int} {j : Nat} {u : V} {vs : List V} (h : EvM te δ M x M1) (ho : EvM to δ M1 (.ref c) M2) (hi : EvM ti δ M2 (di i) M3) (hM : M3 c = some (.lst vs)) (hj : ixN vs.length i = some j) (hu : ∀ G v, DaOk G v x → v = u)
    (k : P (.nx δ (upd M3 c (.lst (vs.set j u))))) : WS (tAsg te (gSub to ti rSetL)) δ M P := fun σ G H D s sl h1 h2 h3 h4 =>
  h σ G H s sl _ fun v G1 H1 s1 r1 d1 => ho σ G1 H1 s1 (sl.mono r1.g) _ fun v2 G2 H2 s2 r2 d2 => hi σ G2 H2 s2 (sl.mono (r1.g.trans r2.g)) _ fun v3 G3 H3 s3 r3 d3 => by
    have e := hu _ _ d1
    subst e
    refine ⟨c, vs, i, j, d2, Dv.int_of d3, s3.m _ _ hM, hj, ?_⟩
    have s4 := s3.write (o := .lst (vs.set j v)) hM
    have r4 := Rl.write (o := .lst (vs.set j v)) s3 hM
    exact h1 σ δ _ G3 _ k s4 (Rl.trans s1 s4 s r1 (Rl.trans s2 s4 s1 r2 (Rl.trans s3 s4 s2 r3 r4))) (sl.mono (r1.g.trans (r2.g.trans r3.g)))
/-- the row is known with its script -/
theorem ws_row0 {r sc : Addr} {ns : List Int} (h0 : δ[0]? = some (some (.lk K sc ns))) (h1 : δ[1]? = some (some (.ref r))) (h : WS t (δ.set 1 (some (.rw K r sc ns))) M P) : WS t δ M P := fun σ G H D s sl k1 k2 k3 k4 => by
  obtain ⟨v, e, d⟩ := sl.2 1 _ h1
  obtain ⟨v0, e0, d0⟩ := sl.2 0 _ h0
  have q := sl.set (i := 1) (v := v) (x := .rw K r sc ns) ⟨d, d0.2⟩
  rw [set_self e] at q
  exact h σ G H D s q k1 k2 k3 k4
end
theorem ixN_nat {n j : Nat} (h : j < n) : ixN n (j : Nat) = some j := by
  unfold ixN
  simp [h]
theorem sh_seq (ps : List (Nat × Nat)) : SeqAt.shaped (.list (ps.map prD)) = true := sh_ps ps
theorem ne_nil {ps : List (Nat × Nat)} : (!PyData.eqv (.list (ps.map prD)) (.list [])) = decide (0 < ps.length) := by
  cases ps with
  | nil => rfl
  | cons p ps =>
    show (!PyData.eqv (.list (prD p :: ps.map prD)) (.list [])) = _
    simp [PyData.eqv, PyData.eqvAll]
theorem ll_eq (C : Com) (k : Knd) : ll C k = if k.1 = 0 then (if k.2 = 1 then 2 else 4) else if k.2 = 0 ∨ 0 < fw C k.1 then pc k.1 else pc k.1 + 2 := rfl
theorem nice_k {k : Knd} (h : k.1 < 256) : nice 1 (kD k) = true := by
  simp [nice, kD, lt_ok _ h]
theorem nice_two {C : Com} (hC : C.Ok) : nice 4 (.list [.tuple [.int (mxl C : Nat), topD C], cntD C]) = true := by
  have hm := mxl_le hC
  have hl := ks_len hC
  have h1 : nice 2 (topD C) = true := by
    unfold topD
    simp only [nice, List.length_map, Bool.and_eq_true, decide_eq_true_eq, List.all_eq_true]
    refine ⟨?_, fun z hz => ?_⟩
    · have := List.length_filter_le (fun k => decide (ll C k = mxl C)) (ks C.n)
      omega
    · obtain ⟨k, hk, e⟩ := List.mem_map.mp hz
      rw [← e]
      exact nice_k (lt256 hC.hi (ks_mem.mp (List.mem_filter.mp hk).1).m)
  have h2 : nice 3 (cntD C) = true := by
    unfold cntD
    simp only [nice, List.length_map, List.length_range, Bool.and_eq_true, decide_eq_true_eq, List.all_eq_true]
    refine ⟨by omega, fun z hz => ?_⟩
    obtain ⟨k, hk, e⟩ := List.mem_map.mp hz
    rw [← e]
    simp [nice]
  have h3 : nice 3 (.tuple [.int (mxl C : Nat), topD C]) = true := by
    simp [nice, h1]
  simp only [nice, List.length_cons, List.length_nil, List.all_cons, List.all_nil] at h2 h3 ⊢
  rw [h3, h2]
  rfl
theorem wl_ok {C : Com} (hC : C.Ok) (ns : List Int) (q : Q3) : Wok C (wl ns C.n q) ∧ 1 ≤ (wl ns C.n q).length ∧ (wl ns C.n q).length ≤ 60 := by
  have h60 := tn_lt (ns := ns) (q := q) (m := 60) (by decide)
  have e : (wl ns C.n q).length = 1 + tn ns q 60 := by simp [wl]
  refine ⟨fun a ha => ?_, by omega, by omega⟩
  obtain ⟨i, _, rfl⟩ := List.mem_map.mp ha
  exact tn_lt (by have := hC.lo; omega)
end DL

set_option Elab.async false
set_option linter.all false
set_option maxRecDepth 100000
set_option maxHeartbeats 8000000
/-! D11: the law. -/
namespace DL
open PySem PySem.Spec PyProof.Rows L2 Md
def fr_least_length : Fr := fr_length_of
def fr_law (K : PySem.W.Frag) : Fr := fun xs y => ∃ (sc : Addr) (ns : List Int), xs = [.lk K sc ns] ∧ y = db true
theorem one_upd {r : Addr} {o u : HO} : upd (one r o) r u = one r u := upd_upd
section
variable {P : Program} {w : World} {K : PySem.W.Frag} {mg : Str → Option Value} {base : Heap}
abbrev s_law : Stmt := top 57
abbrev nm_law : List Str := ["_law_script", "_law_row", "_law_company_here", "_law_told", "_law_lengths", "_law_letters", "_law_sign", "_law_pairs", "_law_due", "_law_most", "_law_top", "_law_counts", "_law_some", "_law_length", "_law_good", "_law_word_here", "_law_short", "_law_pair"]
theorem sc_law : FnScope nm_law ["_law_script"] (defScope s_law) := ⟨rfl, rfl, rfl, by decide +kernel, rfl, by decide +kernel, by decide +kernel⟩
theorem ok_law {f : Addr} {fd : FuncData} (F : Fun K "law" "law" s_law f fd) (B : Bi mg) (c_law_kind : Cal P w K mg base "_law_kind" ["_law_company_here", "_law_word_here"] 2 (SpP fr_law_kind)) (c_cut_down : Cal P w K mg base "cut_down" ["company", "word"] 9 (SpP fr_cut_down)) (c_law_word : Cal P w K mg base "_law_word" ["_law_row", "_law_company_here", "_law_most"] 2 (SpR (fr_law_word K))) (c_law_alike : Cal P w K mg base "_law_alike" ["_law_found", "_law_due"] 6 (SpP (fr_law_alike 4))) (c_is_length : Cal P w K mg base "is_length" ["company", "kind", "length"] 7 (SpP fr_is_length)) (c_first_word : Cal P w K mg base "first_word" ["company", "kind", "length"] 8 (SpP fr_first_word)) (c_law_taken : Cal P w K mg base "_law_taken" ["_law_row", "_law_many"] 1 (SpR (fr_law_taken K))) (c_count_by_least : Cal P w K mg base "count_by_least" ["company"] 6 (SpP fr_count_by_least)) (c_longest_least : Cal P w K mg base "longest_least" ["company"] 6 (SpP fr_longest_least)) (c_least_length : Cal P w K mg base "least_length" ["company", "kind"] 6 (SpP fr_least_length)) (c_law_kinds : Cal P w K mg base "_law_kinds" ["_law_company_here"] 2 (SpP fr_law_kinds)) (c_law_drawn_kind : Cal P w K mg base "_law_drawn_kind" ["_law_row", "_law_company_here"] 2 (SpR (fr_law_drawn_kind K))) (c_law_company : Cal P w K mg base "_law_company" ["_law_row", "_law_most"] 2 (SpR (fr_law_company K))) : FnOk P w K mg base CX0 10 f fd ["_law_script"] (SpP (fr_law K)) := by
  refine fn_pure F sc_law (fun xs y ⟨sc, ns, h, _⟩ => by rw [h] <;> rfl) (fun cdv A outer s H E hr => ⟨_, (pss_cons (ps_set (i := 1) sc_law.nd rfl (Or.inl rfl) (pe_lst (pa_cons (pv 0) (pa_cons pe_int (pa_cons pe_int (pa_cons pe_int pa_nil))))))
    (pss_cons (ps_set (i := 2) sc_law.nd rfl (Or.inl rfl) (pe_cal c_law_company (hr.mono (by decide)) (by rfl) (pa_cons (pv 1) (pa_cons pe_int pa_nil))))
    (pss_cons (ps_set (i := 3) sc_law.nd rfl (Or.inl rfl) (pe_cal c_law_drawn_kind (hr.mono (by decide)) (by rfl) (pa_cons (pv 1) (pa_cons (pv 2) pa_nil))))
    (pss_cons (ps_set (i := 4) sc_law.nd rfl (Or.inr rfl) pe_dnewT)
    (pss_cons (ps_for PassesOwn.never rfl (pi_listK (K := K) rfl (pe_cal c_law_kinds (hr.mono (by decide)) (by rfl) (pa_cons (pv 2) pa_nil))) (pg_tup rfl (pgs_cons (pg_name (i := 5) sc_law.nd rfl (by first | exact Or.inl rfl | exact Or.inr rfl)) (pgs_cons (pg_name (i := 6) sc_law.nd rfl (by first | exact Or.inl rfl | exact Or.inr rfl)) pgs_nil))) (pss_cons (ps_setLc (i := 7) (own := [("_law_pair", 17)]) (g := (gName 17)) rfl sc_law.nd rfl rfl (sw_true rfl rfl rfl (by decide +kernel)) (pi_tupK (K := K) rfl (pe_ix (ix_seqK (K := K) rfl) (pv 2) pe_int (fun _ _ => rfl))) (blkOk_by (N := nm_law) (sc := defScope s_law) (own := [("_law_pair", 17)]) (by decide +kernel)) (fun _ _ _ _ _ => (pg_name (i := 17) sc_law.nd rfl (by first | exact Or.inl rfl | exact Or.inr rfl))) (fun _ _ _ _ _ => pts_one (PW.pt (pw_and (pt_cmpR op_inS (pe_ix (ix_seqK (K := K) rfl) pe_str (pe_ix (ix_seqK (K := K) rfl) (pv 17) pe_int (fun _ _ => rfl)) (fun _ _ => rfl)) (pv 5) rfl) (pw_and1 (pt_cmpR op_inS (pe_ix (ix_seqK (K := K) rfl) pe_str (pe_ix (ix_seqK (K := K) rfl) (pv 17) pe_int (fun _ _ => rfl)) (fun _ _ => rfl)) (pv 5) rfl))))) (fun _ _ _ _ _ => (pv 17)))
    (pss_cons (ps_set (i := 8) sc_law.nd rfl (Or.inl rfl) (pe_ifExp (PW.pt (pw_or (pt_cmpR op_eq (pv 6) pe_int (nomark _)) (pw_or1 (pt_cmpR (op_neDK (K := K) rfl hr.units) (pv 7) (pe_lst pa_nil) (nomark _))))) (pe_callB (call_lenK (K := K) rfl) (by rfl) B.len_ boot_len (pa_cons (pv 5) pa_nil)) (pe_op op_add (pe_callB (call_lenK (K := K) rfl) (by rfl) B.len_ boot_len (pa_cons (pv 5) pa_nil)) pe_int)))
    (pss_one (ps_dput (hu_of hr) (pv 4) (pe_tup (pa_cons (pv 5) (pa_cons (pv 6) pa_nil))) (pe_ifExp (pt_cmpR op_eq (pv 5) pe_str (nomark _)) (pe_ifExp (pt_cmpR op_eq (pv 6) pe_int (nomark _)) pe_int pe_int) (pv 8)) rfl)))))
    (pss_cons (ps_if (pt_not (pt_val (pe_cal c_law_alike (hr.mono (by decide)) (by rfl) (pa_cons (pe_cal c_least_length (hr.mono (by decide)) (by rfl) (pa_cons (pv 2) (pa_cons (pv 3) pa_nil))) (pa_cons (pe_dget (hu_of hr) (pv 4) (pv 3) (fun _ _ => rfl)) pa_nil))))) (pss_one (ps_ret pe_bl)) pss_nil)
    (pss_cons (ps_set (i := 9) sc_law.nd rfl (Or.inr rfl) (pe_callB (cr_maxK (K := K) rfl rfl) (by rfl) B.max_ boot_max (pa_cons (pe_lc (own := [("_law_some", 12)]) (g := (gName 12)) rfl sc_law.nd (pi_listK (K := K) rfl (pe_callTy (call_list_dT rfl) (by rfl) B.list_ boot_list (pa_cons (pv 4) pa_nil))) (blkOk_by (N := nm_law) (sc := defScope s_law) (own := [("_law_some", 12)]) (by decide +kernel)) (fun _ _ _ _ _ => (pg_name (i := 12) sc_law.nd rfl (by first | exact Or.inl rfl | exact Or.inr rfl))) (fun _ _ _ _ _ => pts_nil) (fun _ _ _ _ _ => (pe_dget (hu_of hr) (pv 4) (pv 12) (fun _ _ => rfl)))) pa_nil)))
    (pss_cons (ps_set (i := 10) sc_law.nd rfl (Or.inl rfl) (pe_callTy (call_tupK (K := K) rfl) (by rfl) B.tuple_ boot_tuple (pa_cons (pe_lc (own := [("_law_some", 12)]) (g := (gName 12)) rfl sc_law.nd (pi_listK (K := K) rfl (pe_callB (call_sortD (K := K) rfl hr.units) (by rfl) B.sorted_ boot_sorted (pa_cons (pe_callTy (call_list_dT rfl) (by rfl) B.list_ boot_list (pa_cons (pv 4) pa_nil)) pa_nil))) (blkOk_by (N := nm_law) (sc := defScope s_law) (own := [("_law_some", 12)]) (by decide +kernel)) (fun _ _ _ _ _ => (pg_name (i := 12) sc_law.nd rfl (by first | exact Or.inl rfl | exact Or.inr rfl))) (fun _ _ _ _ _ => pts_one (pt_cmpR op_eq (pe_dget (hu_of hr) (pv 4) (pv 12) (fun _ _ => rfl)) (pv 9) (nomark _))) (fun _ _ _ _ _ => (pv 12))) pa_nil)))
    (pss_cons (ps_set (i := 11) sc_law.nd rfl (Or.inl rfl) (pe_op op_rep (pe_lst (pa_cons pe_int pa_nil)) (pe_op op_add (pv 9) pe_int)))
    (pss_cons (ps_for PassesOwn.never rfl (pi_listK (K := K) rfl (pe_callTy (call_list_dT rfl) (by rfl) B.list_ boot_list (pa_cons (pv 4) pa_nil))) (pg_name (i := 12) sc_law.nd rfl (by first | exact Or.inl rfl | exact Or.inr rfl)) (pss_one (ps_asg (pe_op op_add (pe_ix (ix_seqK (K := K) rfl) (pv 11) (pe_dget (hu_of hr) (pv 4) (pv 12) (fun _ _ => rfl)) (fun _ _ => rfl)) pe_int) (pg_sub (pv 11) (pe_dget (hu_of hr) (pv 4) (pv 12) (fun _ _ => rfl)) set_list))))
    (pss_cons (ps_if (pt_not (pt_val (pe_cal c_law_alike (hr.mono (by decide)) (by rfl) (pa_cons (pe_lst (pa_cons (pe_cal c_longest_least (hr.mono (by decide)) (by rfl) (pa_cons (pv 2) pa_nil)) (pa_cons (pe_cal c_count_by_least (hr.mono (by decide)) (by rfl) (pa_cons (pv 2) pa_nil)) pa_nil))) (pa_cons (pe_lst (pa_cons (pe_tup (pa_cons (pv 9) (pa_cons (pv 10) pa_nil))) (pa_cons (pe_callTy (call_tupK (K := K) rfl) (by rfl) B.tuple_ boot_tuple (pa_cons (pv 11) pa_nil)) pa_nil))) pa_nil))))) (pss_one (ps_ret pe_bl)) pss_nil)
    (pss_cons (ps_set (i := 13) sc_law.nd rfl (Or.inl rfl) (pe_op op_add pe_int (pe_cal c_law_taken (hr.mono (by decide)) (by rfl) (pa_cons (pv 1) (pa_cons pe_int pa_nil)))))
    (pss_cons (ps_set (i := 14) sc_law.nd rfl (Or.inl rfl) (pe_and (pe_cmpR op_ge (pv 13) (pe_dget (hu_of hr) (pv 4) (pv 3) (fun _ _ => rfl)) (nomark _)) (pe_one (pe_cmpR op_eq (pe_op op_mul (pe_op op_fdiv (pe_op op_sub (pv 13) (pe_callB (call_lenK (K := K) rfl) (by rfl) B.len_ boot_len (pa_cons (pe_ix (ix_seqK (K := K) rfl) (pv 3) pe_int (fun _ _ => rfl)) pa_nil))) pe_int) pe_int) (pe_op op_sub (pv 13) (pe_callB (call_lenK (K := K) rfl) (by rfl) B.len_ boot_len (pa_cons (pe_ix (ix_seqK (K := K) rfl) (pv 3) pe_int (fun _ _ => rfl)) pa_nil))) (nomark _)))))
    (pss_cons (ps_set (i := 15) sc_law.nd rfl (Or.inl rfl) (pe_cal c_first_word (hr.mono (by decide)) (by rfl) (pa_cons (pv 2) (pa_cons (pv 3) (pa_cons (pv 13) pa_nil)))))
    (pss_cons (ps_if (PW.pt (pw_or (pt_not (pt_val (pe_cal c_law_alike (hr.mono (by decide)) (by rfl) (pa_cons (pe_cal c_is_length (hr.mono (by decide)) (by rfl) (pa_cons (pv 2) (pa_cons (pv 3) (pa_cons (pv 13) pa_nil)))) (pa_cons (pv 14) pa_nil))))) (pw_or1 (pt_cmpR op_ne (pe_cmpR op_notNn (pv 15) pe_non (nomark _)) (pv 14) (nomark _))))) (pss_one (ps_ret pe_bl)) pss_nil)
    (pss_cons (ps_if (PW.pt (pw_and (pt_cmpR op_notNn (pv 15) pe_non (nomark _)) (pw_and1 (PW.pt (pw_or (pt_cmpR op_ne (pe_callB (call_lenK (K := K) rfl) (by rfl) B.len_ boot_len (pa_cons (pv 15) pa_nil)) (pv 13) (nomark _)) (pw_or1 (pt_cmpR (op_neDK (K := K) rfl hr.units) (pe_cal c_law_kind (hr.mono (by decide)) (by rfl) (pa_cons (pv 2) (pa_cons (pv 15) pa_nil))) (pv 3) (nomark _)))))))) (pss_one (ps_ret pe_bl)) pss_nil)
    (pss_cons (ps_set (i := 12) sc_law.nd rfl (Or.inl rfl) (pe_cal c_law_word (hr.mono (by decide)) (by rfl) (pa_cons (pv 1) (pa_cons (pv 2) (pa_cons pe_int pa_nil)))))
    (pss_cons (ps_set (i := 16) sc_law.nd rfl (Or.inl rfl) (pe_cal c_cut_down (hr.mono (by decide)) (by rfl) (pa_cons (pv 2) (pa_cons (pv 12) pa_nil))))
    (pss_one (ps_ret (pe_and (pe_cmpR op_eq (pe_callB (call_lenK (K := K) rfl) (by rfl) B.len_ boot_len (pa_cons (pv 16) pa_nil)) (pe_dget (hu_of hr) (pv 4) (pe_cal c_law_kind (hr.mono (by decide)) (by rfl) (pa_cons (pv 2) (pa_cons (pv 12) pa_nil))) (fun _ _ => rfl)) (nomark _)) (pe_one (pe_cmpR (op_eqDK (K := K) rfl hr.units) (pe_cal c_law_kind (hr.mono (by decide)) (by rfl) (pa_cons (pv 2) (pa_cons (pv 16) pa_nil))) (pe_cal c_law_kind (hr.mono (by decide)) (by rfl) (pa_cons (pv 2) (pa_cons (pv 12) pa_nil))) (nomark _)))))))))))))))))))))))), ?_⟩)
  rintro xs y ⟨sc, ns, rfl, rfl⟩
  have hq0 : QOk (0, 7611, 0) := ⟨by show (0 : Int) ≤ 7611; decide, by show (7611 : Int) < 2147483647; decide⟩
  refine ws_seq (ws_setN (en_lst (xs := [.lk K sc ns, di 0, di 7611, di 0]) (vs := [.ref sc, .int 0, .int 7611, .int 0]) (ea_cons (em_var rfl) (ea_cons em_int (ea_cons em_int (ea_cons em_int ea_nil)))) (fun G us h => ?_) (by show 4 ≤ 1000; decide)) fun r hr0 => ?_)
  · cases h with
    | cons a t =>
      cases t with
      | cons b t =>
        cases t with
        | cons c t =>
          cases t with
          | cons d t =>
            cases t
            rw [a.1, Dv.int_of b, Dv.int_of c, Dv.int_of d]
  refine ws_row0 (K := K) (r := r) (sc := sc) (ns := ns) rfl rfl ?_
  show WS _ _ (one r (rowO sc (0, 7611, 0))) _
  refine ws_seq (ws_set ((em_callR (ea_cons (em_var rfl) (ea_cons em_int ea_nil)) (show one r (rowO sc (0, 7611, 0)) r = some _ from upd_same) (x := .d (comD (com ns (0, 7611, 0)))) (o2 := rowO sc (comQ ns (0, 7611, 0))) ⟨sc, ns, (0, 7611, 0), hq0, rfl, rfl, rfl, rfl⟩).isM one_upd) ?_)
  have hC := com_good (ns := ns) hq0
  have hq1 := comQ_ok (ns := ns) hq0
  generalize com ns (0, 7611, 0) = C at hC ⊢
  generalize comQ ns (0, 7611, 0) = q1 at hq1 ⊢
  refine ws_seq (ws_set ((em_callR (ea_cons (em_var rfl) (ea_cons (em_var rfl) ea_nil)) (show one r (rowO sc q1) r = some _ from upd_same) (x := .d (kD (dk ns C.n q1))) (o2 := rowO sc (dq ns 2 q1 (C.n + 1))) ⟨sc, ns, q1, C, ⟨hq1, hC⟩, rfl, rfl, rfl, rfl⟩).isM one_upd) ?_)
  have hk := dk_ok hC (ns := ns) (q := q1)
  have hq2 := dq_ok (ns := ns) (m := 2) hq1 (C.n + 1)
  generalize dk ns C.n q1 = k0 at hk ⊢
  generalize dq ns 2 q1 (C.n + 1) = q2 at hq2 ⊢
  have hn := hC.hi
  have h256 := lt256 hn hk.m
  have kk : ∀ x ∈ ks C.n, x.1 < 256 := fun x hx => lt256 hn (ks_mem.mp hx).m
  have hkl := ks_len hC
  have hmx := mxl_le hC
  have hps : ∀ p ∈ C.ps, p.1 < 8 ∧ p.2 < 8 := fun p hp => by
    have := hC.pr p hp
    omega
  refine ws_seq (ws_setN en_dnewT fun p hp => ?_)
  have hpr : p ≠ r := one_is hp
  have eM : upd (one r (rowO sc q2)) p (.dT []) = mB nom r p sc q2 (encK C []) := rfl
  rw [eM]
  refine ws_seq (ws_for (iv_list (em_call (ea_cons (em_var rfl) ea_nil) ⟨C, hC, rfl, rfl⟩)) (fun i δ1 M1 => M1 = mB nom r p sc q2 (encK C ((ks C.n).take i)) ∧ ∃ z5 z6 z7 z8 : Option Da, δ1 = [some (.lk K sc ns), some (.rw K r sc ns), some (.d (comD C)), some (.d (kD k0)), some (.ref p), z5, z6, z7, z8, none, none, none, none, none, none, none, none, none])
    ⟨rfl, none, none, none, none, rfl⟩ ?_ ?_)
  · rintro i x δ1 M1 hx ⟨rfl, z5, z6, z7, z8, rfl⟩
    rw [List.getElem?_map] at hx
    cases e : (ks C.n)[i]? with
    | none =>
      rw [e] at hx
      cases hx
    | some k =>
      rw [e] at hx
      have ex : x = kD k := (Option.some.inj hx).symm
      subst ex
      have hm : k ∈ ks C.n := List.mem_of_getElem? e
      have hkk := ks_mem.mp hm
      have hk6 := kk k hm
      have hz : (lt k.1).length ≤ 100000 := by
        have := bs_len k.1
        rw [lt_len]
        unfold pc
        omega
      obtain ⟨hi, eg⟩ := List.getElem?_eq_some_iff.mp e
      refine ⟨_, [5, 6], tg_two, ?_⟩
      refine ws_seq (ws_set (em_lcNF C.ps prD (fun p => k.1.testBit p.1 && k.1.testBit p.2) prD (iv_tup (em_op (em_var rfl) em_int (rv_ixT (d := .tuple (C.ps.map prD)) rfl))) (by have := hC.sz; omega) (fun p hp M' => ?_) (fun p hp _ M' => em_var rfl)) ?_)
      · refine et_and ((et_test (em_op (em_op em_str (em_op (em_var rfl) em_int (rv_ixT (d := .int (p.1 : Nat)) rfl)) (rv_ixS (by decide +kernel) (alph_at (hps p hp).1))) (em_var rfl) rv_inS)).is (lt_has (hps p hp).1))
          (fun _ => (et_test (em_op (em_op em_str (em_op (em_var rfl) em_int (rv_ixT (d := .int (p.2 : Nat)) rfl)) (rv_ixS (by decide +kernel) (alph_at (hps p hp).2))) (em_var rfl) rv_inS)).is (lt_has (hps p hp).2)) (fun _ => rfl)
      refine ws_seq (ws_set (x := di (if k.2 = 0 ∨ 0 < fw C k.1 then pc k.1 else pc k.1 + 2 : Nat)) (em_if (b := decide (k.2 = 0 ∨ 0 < fw C k.1)) ((et_or (et_test (em_op (em_var rfl) em_int rv_eq)) (fun _ => et_test (em_op (em_var rfl) (em_lst (xs := []) ea_nil (by decide)) (rv_neD (sh_seq _) rfl))) (fun _ => rfl)).is ?_)
        (fun h1 => (em_cb (ea_cons (em_var rfl) ea_nil) (rc_lenS hz)).is ?_) (fun h1 => (em_op (em_cb (ea_cons (em_var rfl) ea_nil) (rc_lenS hz)) em_int rv_add).is ?_)) ?_)
      · rw [ne_nil]
        show _ = decide (k.2 = 0 ∨ 0 < (C.ps.filter fun p => k.1.testBit p.1 && k.1.testBit p.2).length)
        generalize (C.ps.filter fun p => k.1.testBit p.1 && k.1.testBit p.2).length = m
        by_cases h : k.2 = 0
        · rw [decide_eq_true (show ((k.2 : Nat) : Int) = 0 by omega), decide_eq_true (show k.2 = 0 ∨ 0 < m from .inl h)] <;> rfl
        · rw [decide_eq_false (show ¬ ((k.2 : Nat) : Int) = 0 by omega)]
          by_cases h2 : 0 < m
          · rw [decide_eq_true h2, decide_eq_true (show k.2 = 0 ∨ 0 < m from .inr h2)] <;> rfl
          · rw [decide_eq_false h2, decide_eq_false (show ¬ (k.2 = 0 ∨ 0 < m) by omega)] <;> rfl
      · rw [lt_len, if_pos (of_decide_eq_true h1)]
      · rw [lt_len, if_neg (of_decide_eq_false h1)] <;> rfl
      refine ws_dput (k := keyK k) (u := .int (ll C k : Nat)) (x := di (ll C k : Nat)) (em_if (b := decide (k.1 = 0)) ((et_test (em_op (em_var rfl) em_str rv_eqS)).is (decide_eq_decide.mpr (lt_nil _ hk6))) (fun h1 => em_if (b := decide (k.2 = 1)) ((et_test (em_op (em_var rfl) em_int rv_eq)).is (decide_eq_decide.mpr (by omega))) (fun h2 => em_int.is ?_) (fun h2 => em_int.is ?_)) (fun h1 => (em_var rfl).is ?_))
        (em_var rfl) (em_tup (xs := [.str (lt k.1), .int (k.2 : Nat)]) (ea_cons (em_var rfl) (ea_cons (em_var rfl) ea_nil)) (by show 2 ≤ 1000; decide)) mB_dic (by unfold encK; rw [List.length_map, List.length_take]; omega) (fun _ _ d => Dv.int_of d) ⟨?_, _, _, _, _, rfl⟩
      · rw [ll_eq, if_pos (of_decide_eq_true h1), if_pos (of_decide_eq_true h2)] <;> rfl
      · rw [ll_eq, if_pos (of_decide_eq_true h1), if_neg (of_decide_eq_false h2)] <;> rfl
      · rw [ll_eq, if_neg (of_decide_eq_false h1)]
      · rw [mB_sdic, encK_put hk6 (fun x hx => kk x (List.mem_of_mem_take hx)) (fun hx => ?_)]
        · rw [List.take_add_one, e] <;> rfl
        · obtain ⟨j, hj, ej⟩ := List.mem_take_iff_getElem.mp hx
          have := (List.getElem_inj (ks_nodup C.n)).mp (ej.trans eg.symm)
          omega
  rintro δ1 M1 ⟨rfl, z5, z6, z7, z8, rfl⟩
  rw [List.length_map, List.take_of_length_le (Nat.le_refl _)]
  have hD : ∀ k, Kok C k → valV (encK C (ks C.n)) (keyK k) = some (.int (ll C k : Nat)) := fun k hk => encK_val (lt256 hn hk.m) kk (ks_mem.mpr hk)
  refine ws_frz (i := 4) (x := .dic (encK C (ks C.n))) (show (upd nom r (rowO sc q2)) p = none from hp) rfl (fun G h => ⟨p, rfl, h⟩) ?_
  show WS _ _ (one r (rowO sc q2)) _
  have dget : ∀ {δ : Dl} {M : Hp} {ty : TE} {k : Knd}, δ[4]? = some (some (.dic (encK C (ks C.n)))) → Kok C k → EvM ty δ M (.d (kD k)) M → EvM (tDGet (tVar 4) ty) δ M (di (ll C k : Nat)) M := fun h4 hk h => em_dget (k := keyK _) (em_var h4) h (hD _ hk) fun G => .int _
  have lst : ∀ {δ : Dl} {M : Hp}, δ[4]? = some (some (.dic (encK C (ks C.n)))) → EvM (tCB rListDT (tCons (tVar 4) tNil)) δ M (.d (.list ((ks C.n).map kD))) M := fun h4 => (em_cb (ea_cons (em_var h4) ea_nil) rc_listDT).is (by rw [encK_keys])
  refine ws_seq (ws_pass ((et_not (et_B (em_call (ea_cons (em_call (ea_cons (em_var rfl) (ea_cons (em_var rfl) ea_nil)) ⟨C, k0, ⟨hC, hk⟩, rfl, rfl⟩) (ea_cons (dget rfl hk (em_var rfl)) ea_nil)) ⟨.int (ll C k0 : Nat), by simp [nice], rfl, rfl⟩))).is rfl) ?_)
  obtain ⟨m0, hm0, em0⟩ := mxl_ex hC
  refine ws_seq (ws_set (em_cb (ea_cons (em_lcN (ks C.n) kD (fun k => .int (ll C k : Nat)) (iv_list (lst rfl)) (by omega) fun k hk M' => dget rfl (ks_mem.mp hk) (em_var rfl)) ea_nil) (rc_maxB (m := (mxl C : Nat)) ⟨m0, hm0, by rw [em0]⟩ (fun k hk => by have := mxl_ge hk; omega))) ?_)
  refine ws_seq (ws_set (em_cb (ea_cons (em_lcNF (ks C.n) kD (fun k => decide (ll C k = mxl C)) kD (iv_list ((em_cb (ea_cons (lst rfl) ea_nil) (rc_sortD (bs := ks C.n) (enc := kD) (PySem.W.AllAlike.of fun b b' => by simp [kD, PySem.W.alike, PySem.W.alikeAll]) (PySem.W.Sortable.tuples fun b => ⟨_, _, rfl⟩) fun b _ => by
      have : (kD b).depth = 1 := by simp [kD, PyData.depth, PyData.depthAll]
      omega)).is (by rw [ks_sort]))) (by omega)
    (fun k hk M' => (et_test (em_op (dget rfl (ks_mem.mp hk) (em_var rfl)) (em_var rfl) rv_eq)).is (decide_eq_decide.mpr (by omega))) (fun k hk _ M' => em_var rfl)) ea_nil) rc_tupL) ?_)
  refine ws_seq (ws_setN (en_rep (em_op (em_var rfl) em_int rv_add) (by omega) (by omega)) fun c hc => ?_)
  have hcr : c ≠ r := one_is hc
  have eL : (V.int 0 :: []) = [V.int 0] := rfl
  have eT : (((mxl C : Nat) : Int) + 1).toNat = mxl C + 1 := by omega
  rw [eT, ← cnts_nil]
  refine ws_seq (ws_for (iv_list (lst rfl)) (fun i δ1 M1 => M1 = upd (one r (rowO sc q2)) c (.lst ((cnts C ((ks C.n).take i)).map V.int)) ∧ ∃ z12 : Option Da, δ1 = [some (.lk K sc ns), some (.rw K r sc ns), some (.d (comD C)), some (.d (kD k0)), some (.dic (encK C (ks C.n))), z5, z6, z7, z8, some (di (mxl C : Nat)), some (.d (topD C)), some (.ref c), z12, none, none, none, none, none])
    ⟨rfl, none, rfl⟩ ?_ ?_)
  · rintro i x δ1 M1 hx ⟨rfl, z12, rfl⟩
    rw [List.getElem?_map] at hx
    cases e : (ks C.n)[i]? with
    | none =>
      rw [e] at hx
      cases hx
    | some k =>
      rw [e] at hx
      have ex : x = kD k := (Option.some.inj hx).symm
      subst ex
      have hm : k ∈ ks C.n := List.mem_of_getElem? e
      have hge := mxl_ge hm
      refine ⟨_, [12], tg_name, ?_⟩
      refine ws_lstSet (i := (ll C k : Nat)) (j := ll C k) (u := .int ((((((ks C.n).take i).map (ll C)).count (ll C k) : Nat) : Int) + 1)) (em_op (em_ixM (u := .int (((((ks C.n).take i).map (ll C)).count (ll C k) : Nat) : Int)) (x := di (((((ks C.n).take i).map (ll C)).count (ll C k) : Nat) : Int)) (em_var rfl) (dget rfl (ks_mem.mp hm) (em_var rfl)) upd_same (atI_nat ?_) (fun G => .int _)) em_int rv_add) (em_var rfl) (dget rfl (ks_mem.mp hm) (em_var rfl)) upd_same (ixN_nat (by rw [List.length_map, cnts_len]; omega)) (fun _ _ d => Dv.int_of d) ⟨?_, _, rfl⟩
      · rw [List.getElem?_map, cnts_at C _ hge] <;> rfl
      · rw [upd_upd, cnts_set C _ k hge, List.take_add_one, e] <;> rfl
  rintro δ1 M1 ⟨rfl, z12, rfl⟩
  rw [List.length_map, List.take_of_length_le (Nat.le_refl _)]
  refine ws_frz (i := 11) (x := .d (.list ((cnts C (ks C.n)).map .int))) (one_no hcr) rfl (fun G h => Dv.lst h (Dvs.of_ints _)) ?_
  have eC : PyData.tuple ((cnts C (ks C.n)).map .int) = cntD C := by
    unfold cnts cntD
    rw [List.map_map]
    rfl
  refine ws_seq (ws_pass ((et_not (et_B (em_call (ea_cons (em_lst (xs := [.tuple [.int (mxl C : Nat), topD C], cntD C]) (ea_cons (em_call (ea_cons (em_var rfl) ea_nil) ⟨C, hC, rfl, rfl⟩) (ea_cons (em_call (ea_cons (em_var rfl) ea_nil) ⟨C, hC, rfl, rfl⟩) ea_nil)) (by show 2 ≤ 1000; decide))
    (ea_cons (em_lst (xs := [.tuple [.int (mxl C : Nat), topD C], cntD C]) (ea_cons (em_tup (xs := [.int (mxl C : Nat), topD C]) (ea_cons (em_var rfl) (ea_cons (em_var rfl) ea_nil)) (by show 2 ≤ 1000; decide)) (ea_cons ((em_cb (ea_cons (em_var rfl) ea_nil) rc_tupL).is (by rw [eC])) ea_nil)) (by show 2 ≤ 1000; decide)) ea_nil)) ⟨_, nice_two hC, rfl, rfl⟩))).is rfl) ?_)
  have hL := tn_lt (ns := ns) (q := q2) (m := 60) (by decide)
  refine ws_seq (ws_set ((em_op em_int (em_tk (m := 60) (by decide) (by decide) hq2 (em_var rfl) em_int upd_same one_upd) rv_add).is (y := di (1 + tn ns q2 60 : Nat)) (by show di _ = di _; congr 2 <;> omega)) ?_)
  have hq3 : QOk (tq ns q2 60) := tq_ok hq2
  generalize tq ns q2 60 = q3 at hq3 ⊢
  have hL1 : 1 ≤ 1 + tn ns q2 60 := by omega
  have hL2 : 1 + tn ns q2 60 ≤ 60 := by omega
  generalize 1 + tn ns q2 60 = L at hL1 hL2 ⊢
  have hz0 : (lt k0.1).length ≤ 100000 := by
    have := bs_len k0.1
    rw [lt_len]
    unfold pc
    omega
  refine ws_seq (ws_set (x := db (hasL C k0 L)) ((em_andV (em_op (em_var rfl) (dget rfl hk (em_var rfl)) rv_ge) fun _ => em_op (em_op (em_op (em_op (em_var rfl) (em_cb (ea_cons (em_op (em_var rfl) em_int (rv_ixT (d := .str (lt k0.1)) rfl)) ea_nil) (rc_lenS hz0)) rv_sub) em_int (rv_div ⟨by decide, by decide⟩)) em_int (rv_mul (.inr ⟨by decide, by decide⟩))) (em_op (em_var rfl) (em_cb (ea_cons (em_op (em_var rfl) em_int (rv_ixT (d := .str (lt k0.1)) rfl)) ea_nil) (rc_lenS hz0)) rv_sub) rv_eq).is ?_) ?_)
  · rw [lt_len]
    unfold hasL
    have a1 : decide (((ll C k0 : Nat) : Int) ≤ ((L : Nat) : Int)) = decide (ll C k0 ≤ L) := decide_eq_decide.mpr (by omega)
    have a2 : decide ((((L : Nat) : Int) - (pc k0.1 : Nat)) / 2 * 2 = ((L : Nat) : Int) - (pc k0.1 : Nat)) = decide ((L + pc k0.1) % 2 = 0) := decide_eq_decide.mpr (by omega)
    rw [a1, a2]
  refine ws_seq (ws_set (em_call (ea_cons (em_var rfl) (ea_cons (em_var rfl) (ea_cons (em_var rfl) ea_nil))) ⟨C, k0, L, ⟨hC, hk, hL1, hL2⟩, rfl, rfl⟩) ?_)
  have eN : (!isN (fwD C k0 L)) = hasL C k0 L := by
    unfold fwD
    cases h : hasL C k0 L with
    | true => rfl
    | false => rfl
  refine ws_seq (ws_pass ((et_or (a := false) ((et_not (et_B (em_call (ea_cons (em_call (ea_cons (em_var rfl) (ea_cons (em_var rfl) (ea_cons (em_var rfl) ea_nil))) ⟨C, k0, L, ⟨hC, hk, hL1, hL2⟩, rfl, rfl⟩) (ea_cons (em_var rfl) ea_nil)) ⟨.bool (hasL C k0 L), by simp [nice], rfl, rfl⟩))).is rfl) (fun _ => et_test (em_op (em_op (em_var rfl) em_non rv_notN) (em_var rfl) rv_neB)) (fun q => nomatch q)).is (by rw [eN]; simp)) ?_)
  refine ws_seq (ws_pass (M1 := one r (rowO sc q3)) ?_ ?_)
  · cases hb : hasL C k0 L with
    | false => exact et_and (a := false) (b := false) ((et_test (em_op (em_var rfl) em_non rv_notN)).is (by rw [eN, hb])) (fun q => nomatch q) (fun _ => rfl)
    | true =>
      have ef : fwD C k0 L = .str (wd (gw C L k0)) := by
        unfold fwD
        rw [if_pos hb]
      obtain ⟨g1, g2, g3⟩ := gw_good hC L k0 hk (by
        unfold isOpen
        rw [if_neg (by omega)]
        exact hb)
      rw [ef]
      exact et_and (a := true) (b := false) ((et_test (em_op (em_var rfl) em_non rv_notN)).is rfl) (fun _ => et_or (a := false) (b := false) ((et_test (em_op (em_cb (ea_cons (em_var rfl) ea_nil) (rc_lenS (by rw [wd_len, g1]; omega))) (em_var rfl) rv_ne)).is (by rw [wd_len, g1]; simp))
        (fun _ => et_test (em_neSame (sh_k h256) ((em_call (ea_cons (em_var rfl) (ea_cons (em_var rfl) ea_nil)) ⟨C, gw C L k0, ⟨hC, g2, by omega⟩, rfl, rfl⟩).is (by rw [g3])) (em_var rfl))) (fun _ => rfl)) (fun q => nomatch q)
  obtain ⟨w1, w2, w3⟩ := wl_ok hC ns q3
  refine ws_seq (ws_set ((em_callR (ea_cons (em_var rfl) (ea_cons (em_var rfl) (ea_cons em_int ea_nil))) (show one r (rowO sc q3) r = some _ from upd_same) (x := ds (wd (wl ns C.n q3))) (o2 := rowO sc (dq ns C.n (tq ns q3 60) (1 + tn ns q3 60))) ⟨sc, ns, q3, C, ⟨hq3, hC⟩, rfl, rfl, rfl, rfl⟩).isM one_upd) ?_)
  generalize wl ns C.n q3 = l at w1 w2 w3 ⊢
  have hkl := lk_ok hC (l := l) w1
  have ek := kw_lk hC l w1
  obtain ⟨g1, g2, g3⟩ := gw_good hC (ll C (lk C l)) (lk C l) hkl (by unfold isOpen; rw [if_neg (by have := ll_pos hC hkl; omega)]; exact hasL_ll hC hkl)
  have hll := ll_le hC hkl
  have hb8 := bs_len (lk C l).1
  have hpc : pc (lk C l).1 ≤ 8 := hb8
  refine ws_seq (ws_set ((em_call (ea_cons (em_var rfl) (ea_cons (em_var rfl) ea_nil)) ⟨C, l, ⟨hC, w1, w2, w3⟩, rfl, rfl⟩).is (y := ds (wd (gw C (ll C (lk C l)) (lk C l)))) (by rw [ek])) ?_)
  refine ws_ret ((em_andV (a := true) (b := true) ((em_op (em_cb (ea_cons (em_var rfl) ea_nil) (rc_lenS (by rw [wd_len, g1]; omega))) (dget rfl hkl (em_call (ea_cons (em_var rfl) (ea_cons (em_var rfl) ea_nil)) ⟨C, l, ⟨hC, w1, w3⟩, rfl, rfl⟩)) rv_eq).is (by rw [wd_len, g1]; simp))
    fun _ => em_eqSame (sh_k (lt256 hn hkl.m)) ((em_call (ea_cons (em_var rfl) (ea_cons (em_var rfl) ea_nil)) ⟨C, gw C (ll C (lk C l)) (lk C l), ⟨hC, g2, by rw [g1]; omega⟩, rfl, rfl⟩).is (by rw [g3])) (em_call (ea_cons (em_var rfl) (ea_cons (em_var rfl) ea_nil)) ⟨C, l, ⟨hC, w1, w3⟩, rfl, rfl⟩)).is rfl) rfl
end
end DL


set_option Elab.async false
set_option linter.all false
set_option maxRecDepth 100000
set_option maxHeartbeats 4000000
/-! DEnd: what the top has written; the head. -/
namespace DL
open PySem PySem.Spec PyProof.Rows L2 Md
theorem all_mk {l : PySem.W.OpenLaw} {w : World} {K : PySem.W.Frag} {h : Heap} {mg : Str → Option Value} {fa : Addr} (X : K.In h) (G : h.Ns mainGlobals mg) (hfa : mg "law" = some (.ref fa))
    {e0 : Addr} {od0 an0 : Option Addr} {sl0 : Array (Option Value)} {oc0 kV0 dc0 pm0 cd0 ct0 : Value}
    (a0 : PySem.W.nsIn K mainGlobals "_law_friend" = some (some (.ref e0))) (l0 : K.lookup e0 = some ⟨oc0, od0, .func (PySem.W.fnOf "_law_friend" "_law_friend" (defArgs s_law_friend) (defBody s_law_friend) (defScope s_law_friend) .none kV0 dc0 pm0 an0 cd0 ct0), sl0⟩) (c0 : PySem.W.codeIn K cd0 "_law_friend" = true) (k0 : PySem.W.keepIn K (.ref e0) = true)
    {e1 : Addr} {od1 an1 : Option Addr} {sl1 : Array (Option Value)} {oc1 kV1 dc1 pm1 cd1 ct1 : Value}
    (a1 : PySem.W.nsIn K mainGlobals "_law_kind" = some (some (.ref e1))) (l1 : K.lookup e1 = some ⟨oc1, od1, .func (PySem.W.fnOf "_law_kind" "_law_kind" (defArgs s_law_kind) (defBody s_law_kind) (defScope s_law_kind) .none kV1 dc1 pm1 an1 cd1 ct1), sl1⟩) (c1 : PySem.W.codeIn K cd1 "_law_kind" = true) (k1 : PySem.W.keepIn K (.ref e1) = true)
    {e2 : Addr} {od2 an2 : Option Addr} {sl2 : Array (Option Value)} {oc2 kV2 dc2 pm2 cd2 ct2 : Value}
    (a2 : PySem.W.nsIn K mainGlobals "is_set" = some (some (.ref e2))) (l2 : K.lookup e2 = some ⟨oc2, od2, .func (PySem.W.fnOf "is_set" "is_set" (defArgs s_is_set) (defBody s_is_set) (defScope s_is_set) .none kV2 dc2 pm2 an2 cd2 ct2), sl2⟩) (c2 : PySem.W.codeIn K cd2 "is_set" = true) (k2 : PySem.W.keepIn K (.ref e2) = true)
    {e3 : Addr} {od3 an3 : Option Addr} {sl3 : Array (Option Value)} {oc3 kV3 dc3 pm3 cd3 ct3 : Value}
    (a3 : PySem.W.nsIn K mainGlobals "need_set" = some (some (.ref e3))) (l3 : K.lookup e3 = some ⟨oc3, od3, .func (PySem.W.fnOf "need_set" "need_set" (defArgs s_need_set) (defBody s_need_set) (defScope s_need_set) .none kV3 dc3 pm3 an3 cd3 ct3), sl3⟩) (c3 : PySem.W.codeIn K cd3 "need_set" = true) (k3 : PySem.W.keepIn K (.ref e3) = true)
    {e4 : Addr} {od4 an4 : Option Addr} {sl4 : Array (Option Value)} {oc4 kV4 dc4 pm4 cd4 ct4 : Value}
    (a4 : PySem.W.nsIn K mainGlobals "whole" = some (some (.ref e4))) (l4 : K.lookup e4 = some ⟨oc4, od4, .func (PySem.W.fnOf "whole" "whole" (defArgs s_whole) (defBody s_whole) (defScope s_whole) .none kV4 dc4 pm4 an4 cd4 ct4), sl4⟩) (c4 : PySem.W.codeIn K cd4 "whole" = true) (k4 : PySem.W.keepIn K (.ref e4) = true)
    {e5 : Addr} {od5 an5 : Option Addr} {sl5 : Array (Option Value)} {oc5 kV5 dc5 pm5 cd5 ct5 : Value}
    (a5 : PySem.W.nsIn K mainGlobals "tuple_of" = some (some (.ref e5))) (l5 : K.lookup e5 = some ⟨oc5, od5, .func (PySem.W.fnOf "tuple_of" "tuple_of" (defArgs s_tuple_of) (defBody s_tuple_of) (defScope s_tuple_of) .none kV5 dc5 pm5 an5 cd5 ct5), sl5⟩) (c5 : PySem.W.codeIn K cd5 "tuple_of" = true) (k5 : PySem.W.keepIn K (.ref e5) = true)
    {e6 : Addr} {od6 an6 : Option Addr} {sl6 : Array (Option Value)} {oc6 kV6 dc6 pm6 cd6 ct6 : Value}
    (a6 : PySem.W.nsIn K mainGlobals "is_pair" = some (some (.ref e6))) (l6 : K.lookup e6 = some ⟨oc6, od6, .func (PySem.W.fnOf "is_pair" "is_pair" (defArgs s_is_pair) (defBody s_is_pair) (defScope s_is_pair) .none kV6 dc6 pm6 an6 cd6 ct6), sl6⟩) (c6 : PySem.W.codeIn K cd6 "is_pair" = true) (k6 : PySem.W.keepIn K (.ref e6) = true)
    {e7 : Addr} {od7 an7 : Option Addr} {sl7 : Array (Option Value)} {oc7 kV7 dc7 pm7 cd7 ct7 : Value}
    (a7 : PySem.W.nsIn K mainGlobals "within" = some (some (.ref e7))) (l7 : K.lookup e7 = some ⟨oc7, od7, .func (PySem.W.fnOf "within" "within" (defArgs s_within) (defBody s_within) (defScope s_within) .none kV7 dc7 pm7 an7 cd7 ct7), sl7⟩) (c7 : PySem.W.codeIn K cd7 "within" = true) (k7 : PySem.W.keepIn K (.ref e7) = true)
    {e8 : Addr} {od8 an8 : Option Addr} {sl8 : Array (Option Value)} {oc8 kV8 dc8 pm8 cd8 ct8 : Value}
    (a8 : PySem.W.nsIn K mainGlobals "need_company" = some (some (.ref e8))) (l8 : K.lookup e8 = some ⟨oc8, od8, .func (PySem.W.fnOf "need_company" "need_company" (defArgs s_need_company) (defBody s_need_company) (defScope s_need_company) .none kV8 dc8 pm8 an8 cd8 ct8), sl8⟩) (c8 : PySem.W.codeIn K cd8 "need_company" = true) (k8 : PySem.W.keepIn K (.ref e8) = true)
    {e9 : Addr} {od9 an9 : Option Addr} {sl9 : Array (Option Value)} {oc9 kV9 dc9 pm9 cd9 ct9 : Value}
    (a9 : PySem.W.nsIn K mainGlobals "friends_within" = some (some (.ref e9))) (l9 : K.lookup e9 = some ⟨oc9, od9, .func (PySem.W.fnOf "friends_within" "friends_within" (defArgs s_friends_within) (defBody s_friends_within) (defScope s_friends_within) .none kV9 dc9 pm9 an9 cd9 ct9), sl9⟩) (c9 : PySem.W.codeIn K cd9 "friends_within" = true) (k9 : PySem.W.keepIn K (.ref e9) = true)
    {e10 : Addr} {od10 an10 : Option Addr} {sl10 : Array (Option Value)} {oc10 kV10 dc10 pm10 cd10 ct10 : Value}
    (a10 : PySem.W.nsIn K mainGlobals "length_of" = some (some (.ref e10))) (l10 : K.lookup e10 = some ⟨oc10, od10, .func (PySem.W.fnOf "length_of" "length_of" (defArgs s_length_of) (defBody s_length_of) (defScope s_length_of) .none kV10 dc10 pm10 an10 cd10 ct10), sl10⟩) (c10 : PySem.W.codeIn K cd10 "length_of" = true) (k10 : PySem.W.keepIn K (.ref e10) = true)
    {e11 : Addr} {od11 an11 : Option Addr} {sl11 : Array (Option Value)} {oc11 kV11 dc11 pm11 cd11 ct11 : Value}
    (a11 : PySem.W.nsIn K mainGlobals "has_length" = some (some (.ref e11))) (l11 : K.lookup e11 = some ⟨oc11, od11, .func (PySem.W.fnOf "has_length" "has_length" (defArgs s_has_length) (defBody s_has_length) (defScope s_has_length) .none kV11 dc11 pm11 an11 cd11 ct11), sl11⟩) (c11 : PySem.W.codeIn K cd11 "has_length" = true) (k11 : PySem.W.keepIn K (.ref e11) = true)
    {e12 : Addr} {od12 an12 : Option Addr} {sl12 : Array (Option Value)} {oc12 kV12 dc12 pm12 cd12 ct12 : Value}
    (a12 : PySem.W.nsIn K mainGlobals "letters_of" = some (some (.ref e12))) (l12 : K.lookup e12 = some ⟨oc12, od12, .func (PySem.W.fnOf "letters_of" "letters_of" (defArgs s_letters_of) (defBody s_letters_of) (defScope s_letters_of) .none kV12 dc12 pm12 an12 cd12 ct12), sl12⟩) (c12 : PySem.W.codeIn K cd12 "letters_of" = true) (k12 : PySem.W.keepIn K (.ref e12) = true)
    {e13 : Addr} {od13 an13 : Option Addr} {sl13 : Array (Option Value)} {oc13 kV13 dc13 pm13 cd13 ct13 : Value}
    (a13 : PySem.W.nsIn K mainGlobals "outer" = some (some (.ref e13))) (l13 : K.lookup e13 = some ⟨oc13, od13, .func (PySem.W.fnOf "outer" "outer" (defArgs s_outer) (defBody s_outer) (defScope s_outer) .none kV13 dc13 pm13 an13 cd13 ct13), sl13⟩) (c13 : PySem.W.codeIn K cd13 "outer" = true) (k13 : PySem.W.keepIn K (.ref e13) = true)
    {e14 : Addr} {od14 an14 : Option Addr} {sl14 : Array (Option Value)} {oc14 kV14 dc14 pm14 cd14 ct14 : Value}
    (a14 : PySem.W.nsIn K mainGlobals "is_open" = some (some (.ref e14))) (l14 : K.lookup e14 = some ⟨oc14, od14, .func (PySem.W.fnOf "is_open" "is_open" (defArgs s_is_open) (defBody s_is_open) (defScope s_is_open) .none kV14 dc14 pm14 an14 cd14 ct14), sl14⟩) (c14 : PySem.W.codeIn K cd14 "is_open" = true) (k14 : PySem.W.keepIn K (.ref e14) = true)
    {e15 : Addr} {od15 an15 : Option Addr} {sl15 : Array (Option Value)} {oc15 kV15 dc15 pm15 cd15 ct15 : Value}
    (a15 : PySem.W.nsIn K mainGlobals "crossed" = some (some (.ref e15))) (l15 : K.lookup e15 = some ⟨oc15, od15, .func (PySem.W.fnOf "crossed" "crossed" (defArgs s_crossed) (defBody s_crossed) (defScope s_crossed) .none kV15 dc15 pm15 an15 cd15 ct15), sl15⟩) (c15 : PySem.W.codeIn K cd15 "crossed" = true) (k15 : PySem.W.keepIn K (.ref e15) = true)
    {e16 : Addr} {od16 an16 : Option Addr} {sl16 : Array (Option Value)} {oc16 kV16 dc16 pm16 cd16 ct16 : Value}
    (a16 : PySem.W.nsIn K mainGlobals "bits" = some (some (.ref e16))) (l16 : K.lookup e16 = some ⟨oc16, od16, .func (PySem.W.fnOf "bits" "bits" (defArgs s_bits) (defBody s_bits) (defScope s_bits) .none kV16 dc16 pm16 an16 cd16 ct16), sl16⟩) (c16 : PySem.W.codeIn K cd16 "bits" = true) (k16 : PySem.W.keepIn K (.ref e16) = true)
    {e17 : Addr} {od17 an17 : Option Addr} {sl17 : Array (Option Value)} {oc17 kV17 dc17 pm17 cd17 ct17 : Value}
    (a17 : PySem.W.nsIn K mainGlobals "joined" = some (some (.ref e17))) (l17 : K.lookup e17 = some ⟨oc17, od17, .func (PySem.W.fnOf "joined" "joined" (defArgs s_joined) (defBody s_joined) (defScope s_joined) .none kV17 dc17 pm17 an17 cd17 ct17), sl17⟩) (c17 : PySem.W.codeIn K cd17 "joined" = true) (k17 : PySem.W.keepIn K (.ref e17) = true)
    {e18 : Addr} {od18 an18 : Option Addr} {sl18 : Array (Option Value)} {oc18 kV18 dc18 pm18 cd18 ct18 : Value}
    (a18 : PySem.W.nsIn K mainGlobals "behind" = some (some (.ref e18))) (l18 : K.lookup e18 = some ⟨oc18, od18, .func (PySem.W.fnOf "behind" "behind" (defArgs s_behind) (defBody s_behind) (defScope s_behind) .none kV18 dc18 pm18 an18 cd18 ct18), sl18⟩) (c18 : PySem.W.codeIn K cd18 "behind" = true) (k18 : PySem.W.keepIn K (.ref e18) = true)
    {e19 : Addr} {od19 an19 : Option Addr} {sl19 : Array (Option Value)} {oc19 kV19 dc19 pm19 cd19 ct19 : Value}
    (a19 : PySem.W.nsIn K mainGlobals "mask_of" = some (some (.ref e19))) (l19 : K.lookup e19 = some ⟨oc19, od19, .func (PySem.W.fnOf "mask_of" "mask_of" (defArgs s_mask_of) (defBody s_mask_of) (defScope s_mask_of) .none kV19 dc19 pm19 an19 cd19 ct19), sl19⟩) (c19 : PySem.W.codeIn K cd19 "mask_of" = true) (k19 : PySem.W.keepIn K (.ref e19) = true)
    {e20 : Addr} {od20 an20 : Option Addr} {sl20 : Array (Option Value)} {oc20 kV20 dc20 pm20 cd20 ct20 : Value}
    (a20 : PySem.W.nsIn K mainGlobals "inner" = some (some (.ref e20))) (l20 : K.lookup e20 = some ⟨oc20, od20, .func (PySem.W.fnOf "inner" "inner" (defArgs s_inner) (defBody s_inner) (defScope s_inner) .none kV20 dc20 pm20 an20 cd20 ct20), sl20⟩) (c20 : PySem.W.codeIn K cd20 "inner" = true) (k20 : PySem.W.keepIn K (.ref e20) = true)
    {e21 : Addr} {od21 an21 : Option Addr} {sl21 : Array (Option Value)} {oc21 kV21 dc21 pm21 cd21 ct21 : Value}
    (a21 : PySem.W.nsIn K mainGlobals "need_number" = some (some (.ref e21))) (l21 : K.lookup e21 = some ⟨oc21, od21, .func (PySem.W.fnOf "need_number" "need_number" (defArgs s_need_number) (defBody s_need_number) (defScope s_need_number) .none kV21 dc21 pm21 an21 cd21 ct21), sl21⟩) (c21 : PySem.W.codeIn K cd21 "need_number" = true) (k21 : PySem.W.keepIn K (.ref e21) = true)
    {e22 : Addr} {od22 an22 : Option Addr} {sl22 : Array (Option Value)} {oc22 kV22 dc22 pm22 cd22 ct22 : Value}
    (a22 : PySem.W.nsIn K mainGlobals "is_kind" = some (some (.ref e22))) (l22 : K.lookup e22 = some ⟨oc22, od22, .func (PySem.W.fnOf "is_kind" "is_kind" (defArgs s_is_kind) (defBody s_is_kind) (defScope s_is_kind) .none kV22 dc22 pm22 an22 cd22 ct22), sl22⟩) (c22 : PySem.W.codeIn K cd22 "is_kind" = true) (k22 : PySem.W.keepIn K (.ref e22) = true)
    {e23 : Addr} {od23 an23 : Option Addr} {sl23 : Array (Option Value)} {oc23 kV23 dc23 pm23 cd23 ct23 : Value}
    (a23 : PySem.W.nsIn K mainGlobals "need_kind" = some (some (.ref e23))) (l23 : K.lookup e23 = some ⟨oc23, od23, .func (PySem.W.fnOf "need_kind" "need_kind" (defArgs s_need_kind) (defBody s_need_kind) (defScope s_need_kind) .none kV23 dc23 pm23 an23 cd23 ct23), sl23⟩) (c23 : PySem.W.codeIn K cd23 "need_kind" = true) (k23 : PySem.W.keepIn K (.ref e23) = true)
    {e24 : Addr} {od24 an24 : Option Addr} {sl24 : Array (Option Value)} {oc24 kV24 dc24 pm24 cd24 ct24 : Value}
    (a24 : PySem.W.nsIn K mainGlobals "first_word" = some (some (.ref e24))) (l24 : K.lookup e24 = some ⟨oc24, od24, .func (PySem.W.fnOf "first_word" "first_word" (defArgs s_first_word) (defBody s_first_word) (defScope s_first_word) .none kV24 dc24 pm24 an24 cd24 ct24), sl24⟩) (c24 : PySem.W.codeIn K cd24 "first_word" = true) (k24 : PySem.W.keepIn K (.ref e24) = true)
    {e25 : Addr} {od25 an25 : Option Addr} {sl25 : Array (Option Value)} {oc25 kV25 dc25 pm25 cd25 ct25 : Value}
    (a25 : PySem.W.nsIn K mainGlobals "kind_of" = some (some (.ref e25))) (l25 : K.lookup e25 = some ⟨oc25, od25, .func (PySem.W.fnOf "kind_of" "kind_of" (defArgs s_kind_of) (defBody s_kind_of) (defScope s_kind_of) .none kV25 dc25 pm25 an25 cd25 ct25), sl25⟩) (c25 : PySem.W.codeIn K cd25 "kind_of" = true) (k25 : PySem.W.keepIn K (.ref e25) = true)
    {e26 : Addr} {od26 an26 : Option Addr} {sl26 : Array (Option Value)} {oc26 kV26 dc26 pm26 cd26 ct26 : Value}
    (a26 : PySem.W.nsIn K mainGlobals "is_word" = some (some (.ref e26))) (l26 : K.lookup e26 = some ⟨oc26, od26, .func (PySem.W.fnOf "is_word" "is_word" (defArgs s_is_word) (defBody s_is_word) (defScope s_is_word) .none kV26 dc26 pm26 an26 cd26 ct26), sl26⟩) (c26 : PySem.W.codeIn K cd26 "is_word" = true) (k26 : PySem.W.keepIn K (.ref e26) = true)
    {e27 : Addr} {od27 an27 : Option Addr} {sl27 : Array (Option Value)} {oc27 kV27 dc27 pm27 cd27 ct27 : Value}
    (a27 : PySem.W.nsIn K mainGlobals "need_word" = some (some (.ref e27))) (l27 : K.lookup e27 = some ⟨oc27, od27, .func (PySem.W.fnOf "need_word" "need_word" (defArgs s_need_word) (defBody s_need_word) (defScope s_need_word) .none kV27 dc27 pm27 an27 cd27 ct27), sl27⟩) (c27 : PySem.W.codeIn K cd27 "need_word" = true) (k27 : PySem.W.keepIn K (.ref e27) = true)
    {e28 : Addr} {od28 an28 : Option Addr} {sl28 : Array (Option Value)} {oc28 kV28 dc28 pm28 cd28 ct28 : Value}
    (a28 : PySem.W.nsIn K mainGlobals "need_both" = some (some (.ref e28))) (l28 : K.lookup e28 = some ⟨oc28, od28, .func (PySem.W.fnOf "need_both" "need_both" (defArgs s_need_both) (defBody s_need_both) (defScope s_need_both) .none kV28 dc28 pm28 an28 cd28 ct28), sl28⟩) (c28 : PySem.W.codeIn K cd28 "need_both" = true) (k28 : PySem.W.keepIn K (.ref e28) = true)
    {e29 : Addr} {od29 an29 : Option Addr} {sl29 : Array (Option Value)} {oc29 kV29 dc29 pm29 cd29 ct29 : Value}
    (a29 : PySem.W.nsIn K mainGlobals "cut_down" = some (some (.ref e29))) (l29 : K.lookup e29 = some ⟨oc29, od29, .func (PySem.W.fnOf "cut_down" "cut_down" (defArgs s_cut_down) (defBody s_cut_down) (defScope s_cut_down) .none kV29 dc29 pm29 an29 cd29 ct29), sl29⟩) (c29 : PySem.W.codeIn K cd29 "cut_down" = true) (k29 : PySem.W.keepIn K (.ref e29) = true)
    {e30 : Addr} {od30 an30 : Option Addr} {sl30 : Array (Option Value)} {oc30 kV30 dc30 pm30 cd30 ct30 : Value}
    (a30 : PySem.W.nsIn K mainGlobals "_law_taken" = some (some (.ref e30))) (l30 : K.lookup e30 = some ⟨oc30, od30, .func (PySem.W.fnOf "_law_taken" "_law_taken" (defArgs s_law_taken) (defBody s_law_taken) (defScope s_law_taken) .none kV30 dc30 pm30 an30 cd30 ct30), sl30⟩) (c30 : PySem.W.codeIn K cd30 "_law_taken" = true) (k30 : PySem.W.keepIn K (.ref e30) = true)
    {e31 : Addr} {od31 an31 : Option Addr} {sl31 : Array (Option Value)} {oc31 kV31 dc31 pm31 cd31 ct31 : Value}
    (a31 : PySem.W.nsIn K mainGlobals "_law_word" = some (some (.ref e31))) (l31 : K.lookup e31 = some ⟨oc31, od31, .func (PySem.W.fnOf "_law_word" "_law_word" (defArgs s_law_word) (defBody s_law_word) (defScope s_law_word) .none kV31 dc31 pm31 an31 cd31 ct31), sl31⟩) (c31 : PySem.W.codeIn K cd31 "_law_word" = true) (k31 : PySem.W.keepIn K (.ref e31) = true)
    {e32 : Addr} {od32 an32 : Option Addr} {sl32 : Array (Option Value)} {oc32 kV32 dc32 pm32 cd32 ct32 : Value}
    (a32 : PySem.W.nsIn K mainGlobals "_law_alike" = some (some (.ref e32))) (l32 : K.lookup e32 = some ⟨oc32, od32, .func (PySem.W.fnOf "_law_alike" "_law_alike" (defArgs s_law_alike) (defBody s_law_alike) (defScope s_law_alike) .none kV32 dc32 pm32 an32 cd32 ct32), sl32⟩) (c32 : PySem.W.codeIn K cd32 "_law_alike" = true) (k32 : PySem.W.keepIn K (.ref e32) = true)
    {e33 : Addr} {od33 an33 : Option Addr} {sl33 : Array (Option Value)} {oc33 kV33 dc33 pm33 cd33 ct33 : Value}
    (a33 : PySem.W.nsIn K mainGlobals "is_length" = some (some (.ref e33))) (l33 : K.lookup e33 = some ⟨oc33, od33, .func (PySem.W.fnOf "is_length" "is_length" (defArgs s_is_length) (defBody s_is_length) (defScope s_is_length) .none kV33 dc33 pm33 an33 cd33 ct33), sl33⟩) (c33 : PySem.W.codeIn K cd33 "is_length" = true) (k33 : PySem.W.keepIn K (.ref e33) = true)
    {e34 : Addr} {od34 an34 : Option Addr} {sl34 : Array (Option Value)} {oc34 kV34 dc34 pm34 cd34 ct34 : Value}
    (a34 : PySem.W.nsIn K mainGlobals "all_kinds" = some (some (.ref e34))) (l34 : K.lookup e34 = some ⟨oc34, od34, .func (PySem.W.fnOf "all_kinds" "all_kinds" (defArgs s_all_kinds) (defBody s_all_kinds) (defScope s_all_kinds) .none kV34 dc34 pm34 an34 cd34 ct34), sl34⟩) (c34 : PySem.W.codeIn K cd34 "all_kinds" = true) (k34 : PySem.W.keepIn K (.ref e34) = true)
    {e35 : Addr} {od35 an35 : Option Addr} {sl35 : Array (Option Value)} {oc35 kV35 dc35 pm35 cd35 ct35 : Value}
    (a35 : PySem.W.nsIn K mainGlobals "count_by_least" = some (some (.ref e35))) (l35 : K.lookup e35 = some ⟨oc35, od35, .func (PySem.W.fnOf "count_by_least" "count_by_least" (defArgs s_count_by_least) (defBody s_count_by_least) (defScope s_count_by_least) .none kV35 dc35 pm35 an35 cd35 ct35), sl35⟩) (c35 : PySem.W.codeIn K cd35 "count_by_least" = true) (k35 : PySem.W.keepIn K (.ref e35) = true)
    {e36 : Addr} {od36 an36 : Option Addr} {sl36 : Array (Option Value)} {oc36 kV36 dc36 pm36 cd36 ct36 : Value}
    (a36 : PySem.W.nsIn K mainGlobals "longest_least" = some (some (.ref e36))) (l36 : K.lookup e36 = some ⟨oc36, od36, .func (PySem.W.fnOf "longest_least" "longest_least" (defArgs s_longest_least) (defBody s_longest_least) (defScope s_longest_least) .none kV36 dc36 pm36 an36 cd36 ct36), sl36⟩) (c36 : PySem.W.codeIn K cd36 "longest_least" = true) (k36 : PySem.W.keepIn K (.ref e36) = true)
    {e37 : Addr} {od37 an37 : Option Addr} {sl37 : Array (Option Value)} {oc37 kV37 dc37 pm37 cd37 ct37 : Value}
    (a37 : PySem.W.nsIn K mainGlobals "least_length" = some (some (.ref e37))) (l37 : K.lookup e37 = some ⟨oc37, od37, .func (PySem.W.fnOf "least_length" "least_length" (defArgs s_least_length) (defBody s_least_length) (defScope s_least_length) .none kV37 dc37 pm37 an37 cd37 ct37), sl37⟩) (c37 : PySem.W.codeIn K cd37 "least_length" = true) (k37 : PySem.W.keepIn K (.ref e37) = true)
    {e38 : Addr} {od38 an38 : Option Addr} {sl38 : Array (Option Value)} {oc38 kV38 dc38 pm38 cd38 ct38 : Value}
    (a38 : PySem.W.nsIn K mainGlobals "_law_sets" = some (some (.ref e38))) (l38 : K.lookup e38 = some ⟨oc38, od38, .func (PySem.W.fnOf "_law_sets" "_law_sets" (defArgs s_law_sets) (defBody s_law_sets) (defScope s_law_sets) .none kV38 dc38 pm38 an38 cd38 ct38), sl38⟩) (c38 : PySem.W.codeIn K cd38 "_law_sets" = true) (k38 : PySem.W.keepIn K (.ref e38) = true)
    {e39 : Addr} {od39 an39 : Option Addr} {sl39 : Array (Option Value)} {oc39 kV39 dc39 pm39 cd39 ct39 : Value}
    (a39 : PySem.W.nsIn K mainGlobals "_law_kinds" = some (some (.ref e39))) (l39 : K.lookup e39 = some ⟨oc39, od39, .func (PySem.W.fnOf "_law_kinds" "_law_kinds" (defArgs s_law_kinds) (defBody s_law_kinds) (defScope s_law_kinds) .none kV39 dc39 pm39 an39 cd39 ct39), sl39⟩) (c39 : PySem.W.codeIn K cd39 "_law_kinds" = true) (k39 : PySem.W.keepIn K (.ref e39) = true)
    {e40 : Addr} {od40 an40 : Option Addr} {sl40 : Array (Option Value)} {oc40 kV40 dc40 pm40 cd40 ct40 : Value}
    (a40 : PySem.W.nsIn K mainGlobals "_law_drawn_kind" = some (some (.ref e40))) (l40 : K.lookup e40 = some ⟨oc40, od40, .func (PySem.W.fnOf "_law_drawn_kind" "_law_drawn_kind" (defArgs s_law_drawn_kind) (defBody s_law_drawn_kind) (defScope s_law_drawn_kind) .none kV40 dc40 pm40 an40 cd40 ct40), sl40⟩) (c40 : PySem.W.codeIn K cd40 "_law_drawn_kind" = true) (k40 : PySem.W.keepIn K (.ref e40) = true)
    {e41 : Addr} {od41 an41 : Option Addr} {sl41 : Array (Option Value)} {oc41 kV41 dc41 pm41 cd41 ct41 : Value}
    (a41 : PySem.W.nsIn K mainGlobals "_law_company" = some (some (.ref e41))) (l41 : K.lookup e41 = some ⟨oc41, od41, .func (PySem.W.fnOf "_law_company" "_law_company" (defArgs s_law_company) (defBody s_law_company) (defScope s_law_company) .none kV41 dc41 pm41 an41 cd41 ct41), sl41⟩) (c41 : PySem.W.codeIn K cd41 "_law_company" = true) (k41 : PySem.W.keepIn K (.ref e41) = true)
    {e42 : Addr} {od42 an42 : Option Addr} {sl42 : Array (Option Value)} {oc42 kV42 dc42 pm42 cd42 ct42 : Value}
    (a42 : PySem.W.nsIn K mainGlobals "law" = some (some (.ref e42))) (l42 : K.lookup e42 = some ⟨oc42, od42, .func (PySem.W.fnOf "law" "law" (defArgs s_law) (defBody s_law) (defScope s_law) .none kV42 dc42 pm42 an42 cd42 ct42), sl42⟩) (c42 : PySem.W.codeIn K cd42 "law" = true) (k42 : PySem.W.keepIn K (.ref e42) = true)
    {tA tL tW : Tok} (aA : PySem.W.nsIn K mainGlobals "ALPHABET" = some (some (.str "abcdefgh" tA))) (aL : PySem.W.nsIn K mainGlobals "MOST_LETTERS" = some (some (.int 8 tL))) (aW : PySem.W.nsIn K mainGlobals "MOST_WORD" = some (some (.int 60 tW)))
    (z0 : PySem.W.nsIn K mainGlobals "isinstance" = some none)
    (z1 : PySem.W.nsIn K mainGlobals "bool" = some none)
    (z2 : PySem.W.nsIn K mainGlobals "int" = some none)
    (z3 : PySem.W.nsIn K mainGlobals "str" = some none)
    (z4 : PySem.W.nsIn K mainGlobals "tuple" = some none)
    (z5 : PySem.W.nsIn K mainGlobals "list" = some none)
    (z6 : PySem.W.nsIn K mainGlobals "len" = some none)
    (z7 : PySem.W.nsIn K mainGlobals "all" = some none)
    (z8 : PySem.W.nsIn K mainGlobals "any" = some none)
    (z9 : PySem.W.nsIn K mainGlobals "range" = some none)
    (z10 : PySem.W.nsIn K mainGlobals "enumerate" = some none)
    (z11 : PySem.W.nsIn K mainGlobals "sum" = some none)
    (z12 : PySem.W.nsIn K mainGlobals "sorted" = some none)
    (z13 : PySem.W.nsIn K mainGlobals "max" = some none)
    (z14 : PySem.W.nsIn K mainGlobals "min" = some none)
    : ∃ fd : FuncData, (∀ (s : Shared) (v : Value), BindsTo s fd ⟨[v], []⟩ [("_law_script", v)]) ∧ ∀ base : Heap, K.In base → base.Ns mainGlobals mg → FnOk l.prog w K mg base CX0 10 fa fd ["_law_script"] (SpP (fr_law K)) := by
  have e := hfa.symm.trans (PySem.W.mg_of X G a42)
  cases e
  have B : Bi mg := ⟨PySem.W.mg_none_of X G z0, PySem.W.mg_none_of X G z1, PySem.W.mg_none_of X G z2, PySem.W.mg_none_of X G z3, PySem.W.mg_none_of X G z4, PySem.W.mg_none_of X G z5, PySem.W.mg_none_of X G z6, PySem.W.mg_none_of X G z7, PySem.W.mg_none_of X G z8, PySem.W.mg_none_of X G z9, PySem.W.mg_none_of X G z10, PySem.W.mg_none_of X G z11, PySem.W.mg_none_of X G z12, PySem.W.mg_none_of X G z13, PySem.W.mg_none_of X G z14⟩
  have Ct : Co mg := ⟨⟨_, PySem.W.mg_of X G aA, ⟨_, rfl⟩⟩, ⟨_, PySem.W.mg_of X G aL, ⟨_, rfl⟩⟩, ⟨_, PySem.W.mg_of X G aW, ⟨_, rfl⟩⟩⟩
  refine ⟨(PySem.W.fnOf "law" "law" (defArgs s_law) (defBody s_law) (defScope s_law) .none kV42 dc42 pm42 an42 cd42 ct42), fun s v => .of_eq rfl, fun base _ _ => ?_⟩
  have F0 := fun_mk (st := s_law_friend) l0 c0 k0
  have b0 := F0.binds (ps := ["_law_company_here", "_law_one", "_law_other"]) fun _ _ _ _ _ _ us hl => match us, hl with | [_, _, _], _ => rfl
  have c_law_friend : Cal l.prog w K mg base "_law_friend" ["_law_company_here", "_law_one", "_law_other"] 1 (SpP fr_law_friend) := ⟨_, _, PySem.W.mg_of X G a0, k0, b0, ok_law_friend F0 B⟩
  have F1 := fun_mk (st := s_law_kind) l1 c1 k1
  have b1 := F1.binds (ps := ["_law_company_here", "_law_word_here"]) fun _ _ _ _ _ _ us hl => match us, hl with | [_, _], _ => rfl
  have c_law_kind : Cal l.prog w K mg base "_law_kind" ["_law_company_here", "_law_word_here"] 2 (SpP fr_law_kind) := ⟨_, _, PySem.W.mg_of X G a1, k1, b1, ok_law_kind F1 B c_law_friend⟩
  have F2 := fun_mk (st := s_is_set) l2 c2 k2
  have b2 := F2.binds (ps := ["company", "value"]) fun _ _ _ _ _ _ us hl => match us, hl with | [_, _], _ => rfl
  have c_is_set : Cal l.prog w K mg base "is_set" ["company", "value"] 1 (SpP fr_is_set) := ⟨_, _, PySem.W.mg_of X G a2, k2, b2, ok_is_set F2 B Ct⟩
  have F3 := fun_mk (st := s_need_set) l3 c3 k3
  have b3 := F3.binds (ps := ["company", "letters"]) fun _ _ _ _ _ _ us hl => match us, hl with | [_, _], _ => rfl
  have c_need_set : Cal l.prog w K mg base "need_set" ["company", "letters"] 2 (SpP fr_need_set) := ⟨_, _, PySem.W.mg_of X G a3, k3, b3, ok_need_set F3 c_is_set⟩
  have F4 := fun_mk (st := s_whole) l4 c4 k4
  have b4 := F4.binds (ps := ["value"]) fun _ _ _ _ _ _ us hl => match us, hl with | [_], _ => rfl
  have c_whole : Cal l.prog w K mg base "whole" ["value"] 1 (SpP fr_whole) := ⟨_, _, PySem.W.mg_of X G a4, k4, b4, ok_whole F4 B⟩
  have F5 := fun_mk (st := s_tuple_of) l5 c5 k5
  have b5 := F5.binds (ps := ["value", "low", "high"]) fun _ _ _ _ _ _ us hl => match us, hl with | [_, _, _], _ => rfl
  have c_tuple_of : Cal l.prog w K mg base "tuple_of" ["value", "low", "high"] 1 (SpP fr_tuple_of) := ⟨_, _, PySem.W.mg_of X G a5, k5, b5, ok_tuple_of F5 B⟩
  have F6 := fun_mk (st := s_is_pair) l6 c6 k6
  have b6 := F6.binds (ps := ["many", "value"]) fun _ _ _ _ _ _ us hl => match us, hl with | [_, _], _ => rfl
  have c_is_pair : Cal l.prog w K mg base "is_pair" ["many", "value"] 2 (SpP fr_is_pair) := ⟨_, _, PySem.W.mg_of X G a6, k6, b6, ok_is_pair F6 B c_whole c_tuple_of⟩
  have F7 := fun_mk (st := s_within) l7 c7 k7
  have b7 := F7.binds (ps := ["value", "low", "high"]) fun _ _ _ _ _ _ us hl => match us, hl with | [_, _, _], _ => rfl
  have c_within : Cal l.prog w K mg base "within" ["value", "low", "high"] 2 (SpP fr_within) := ⟨_, _, PySem.W.mg_of X G a7, k7, b7, ok_within F7 c_whole⟩
  have F8 := fun_mk (st := s_need_company) l8 c8 k8
  have b8 := F8.binds (ps := ["company"]) fun _ _ _ _ _ _ us hl => match us, hl with | [_], _ => rfl
  have c_need_company : Cal l.prog w K mg base "need_company" ["company"] 3 (SpP fr_need_company) := ⟨_, _, PySem.W.mg_of X G a8, k8, b8, ok_need_company F8 B Ct c_is_pair c_tuple_of c_within⟩
  have F9 := fun_mk (st := s_friends_within) l9 c9 k9
  have b9 := F9.binds (ps := ["company", "told"]) fun _ _ _ _ _ _ us hl => match us, hl with | [_, _], _ => rfl
  have c_friends_within : Cal l.prog w K mg base "friends_within" ["company", "told"] 4 (SpP fr_friends_within) := ⟨_, _, PySem.W.mg_of X G a9, k9, b9, ok_friends_within F9 B Ct c_need_set c_need_company⟩
  have F10 := fun_mk (st := s_length_of) l10 c10 k10
  have b10 := F10.binds (ps := ["company", "told"]) fun _ _ _ _ _ _ us hl => match us, hl with | [_, _], _ => rfl
  have c_length_of : Cal l.prog w K mg base "length_of" ["company", "told"] 5 (SpP fr_length_of) := ⟨_, _, PySem.W.mg_of X G a10, k10, b10, ok_length_of F10 B c_friends_within⟩
  have F11 := fun_mk (st := s_has_length) l11 c11 k11
  have b11 := F11.binds (ps := ["company", "told", "length"]) fun _ _ _ _ _ _ us hl => match us, hl with | [_, _, _], _ => rfl
  have c_has_length : Cal l.prog w K mg base "has_length" ["company", "told", "length"] 6 (SpP fr_has_length) := ⟨_, _, PySem.W.mg_of X G a11, k11, b11, ok_has_length F11 B c_length_of⟩
  have F12 := fun_mk (st := s_letters_of) l12 c12 k12
  have b12 := F12.binds (ps := ["mask"]) fun _ _ _ _ _ _ us hl => match us, hl with | [_], _ => rfl
  have c_letters_of : Cal l.prog w K mg base "letters_of" ["mask"] 1 (SpP fr_letters_of) := ⟨_, _, PySem.W.mg_of X G a12, k12, b12, ok_letters_of F12 B Ct⟩
  have F13 := fun_mk (st := s_outer) l13 c13 k13
  have b13 := F13.binds (ps := ["pair"]) fun _ _ _ _ _ _ us hl => match us, hl with | [_], _ => rfl
  have c_outer : Cal l.prog w K mg base "outer" ["pair"] 2 (SpP fr_outer) := ⟨_, _, PySem.W.mg_of X G a13, k13, b13, ok_outer F13 c_letters_of⟩
  have F14 := fun_mk (st := s_is_open) l14 c14 k14
  have b14 := F14.binds (ps := ["company", "pair", "left"]) fun _ _ _ _ _ _ us hl => match us, hl with | [_, _, _], _ => rfl
  have c_is_open : Cal l.prog w K mg base "is_open" ["company", "pair", "left"] 7 (SpP fr_is_open) := ⟨_, _, PySem.W.mg_of X G a14, k14, b14, ok_is_open F14 c_has_length c_outer⟩
  have F15 := fun_mk (st := s_crossed) l15 c15 k15
  have b15 := F15.binds (ps := ["company", "one", "other"]) fun _ _ _ _ _ _ us hl => match us, hl with | [_, _, _], _ => rfl
  have c_crossed : Cal l.prog w K mg base "crossed" ["company", "one", "other"] 1 (SpP fr_crossed) := ⟨_, _, PySem.W.mg_of X G a15, k15, b15, ok_crossed F15 B⟩
  have F16 := fun_mk (st := s_bits) l16 c16 k16
  have b16 := F16.binds (ps := ["mask"]) fun _ _ _ _ _ _ us hl => match us, hl with | [_], _ => rfl
  have c_bits : Cal l.prog w K mg base "bits" ["mask"] 1 (SpP fr_bits) := ⟨_, _, PySem.W.mg_of X G a16, k16, b16, ok_bits F16⟩
  have F17 := fun_mk (st := s_joined) l17 c17 k17
  have b17 := F17.binds (ps := ["company", "one", "other"]) fun _ _ _ _ _ _ us hl => match us, hl with | [_, _, _], _ => rfl
  have c_joined : Cal l.prog w K mg base "joined" ["company", "one", "other"] 2 (SpP fr_joined) := ⟨_, _, PySem.W.mg_of X G a17, k17, b17, ok_joined F17 c_crossed c_bits⟩
  have F18 := fun_mk (st := s_behind) l18 c18 k18
  have b18 := F18.binds (ps := ["company", "at", "pair"]) fun _ _ _ _ _ _ us hl => match us, hl with | [_, _, _], _ => rfl
  have c_behind : Cal l.prog w K mg base "behind" ["company", "at", "pair"] 3 (SpP fr_behind) := ⟨_, _, PySem.W.mg_of X G a18, k18, b18, ok_behind F18 c_joined⟩
  have F19 := fun_mk (st := s_mask_of) l19 c19 k19
  have b19 := F19.binds (ps := ["letters"]) fun _ _ _ _ _ _ us hl => match us, hl with | [_], _ => rfl
  have c_mask_of : Cal l.prog w K mg base "mask_of" ["letters"] 1 (SpP fr_mask_of) := ⟨_, _, PySem.W.mg_of X G a19, k19, b19, ok_mask_of F19 B Ct⟩
  have F20 := fun_mk (st := s_inner) l20 c20 k20
  have b20 := F20.binds (ps := ["kind"]) fun _ _ _ _ _ _ us hl => match us, hl with | [_], _ => rfl
  have c_inner : Cal l.prog w K mg base "inner" ["kind"] 2 (SpP fr_inner) := ⟨_, _, PySem.W.mg_of X G a20, k20, b20, ok_inner F20 c_mask_of⟩
  have F21 := fun_mk (st := s_need_number) l21 c21 k21
  have b21 := F21.binds (ps := ["value", "low", "high"]) fun _ _ _ _ _ _ us hl => match us, hl with | [_, _, _], _ => rfl
  have c_need_number : Cal l.prog w K mg base "need_number" ["value", "low", "high"] 3 (SpP fr_need_number) := ⟨_, _, PySem.W.mg_of X G a21, k21, b21, ok_need_number F21 c_within⟩
  have F22 := fun_mk (st := s_is_kind) l22 c22 k22
  have b22 := F22.binds (ps := ["company", "value"]) fun _ _ _ _ _ _ us hl => match us, hl with | [_, _], _ => rfl
  have c_is_kind : Cal l.prog w K mg base "is_kind" ["company", "value"] 3 (SpP fr_is_kind) := ⟨_, _, PySem.W.mg_of X G a22, k22, b22, ok_is_kind F22 c_within c_is_set c_tuple_of⟩
  have F23 := fun_mk (st := s_need_kind) l23 c23 k23
  have b23 := F23.binds (ps := ["company", "kind"]) fun _ _ _ _ _ _ us hl => match us, hl with | [_, _], _ => rfl
  have c_need_kind : Cal l.prog w K mg base "need_kind" ["company", "kind"] 4 (SpP fr_need_kind) := ⟨_, _, PySem.W.mg_of X G a23, k23, b23, ok_need_kind F23 c_is_kind⟩
  have F24 := fun_mk (st := s_first_word) l24 c24 k24
  have b24 := F24.binds (ps := ["company", "kind", "length"]) fun _ _ _ _ _ _ us hl => match us, hl with | [_, _, _], _ => rfl
  have c_first_word : Cal l.prog w K mg base "first_word" ["company", "kind", "length"] 8 (SpP fr_first_word) := ⟨_, _, PySem.W.mg_of X G a24, k24, b24, ok_first_word F24 B Ct c_is_open c_behind c_inner c_has_length c_need_number c_need_kind c_need_company⟩
  have F25 := fun_mk (st := s_kind_of) l25 c25 k25
  have b25 := F25.binds (ps := ["company", "word"]) fun _ _ _ _ _ _ us hl => match us, hl with | [_, _], _ => rfl
  have c_kind_of : Cal l.prog w K mg base "kind_of" ["company", "word"] 3 (SpP fr_kind_of) := ⟨_, _, PySem.W.mg_of X G a25, k25, b25, ok_kind_of F25 Ct c_joined⟩
  have F26 := fun_mk (st := s_is_word) l26 c26 k26
  have b26 := F26.binds (ps := ["company", "value", "most"]) fun _ _ _ _ _ _ us hl => match us, hl with | [_, _, _], _ => rfl
  have c_is_word : Cal l.prog w K mg base "is_word" ["company", "value", "most"] 1 (SpP fr_is_word) := ⟨_, _, PySem.W.mg_of X G a26, k26, b26, ok_is_word F26 B Ct⟩
  have F27 := fun_mk (st := s_need_word) l27 c27 k27
  have b27 := F27.binds (ps := ["company", "word"]) fun _ _ _ _ _ _ us hl => match us, hl with | [_, _], _ => rfl
  have c_need_word : Cal l.prog w K mg base "need_word" ["company", "word"] 2 (SpP fr_need_word) := ⟨_, _, PySem.W.mg_of X G a27, k27, b27, ok_need_word F27 Ct c_is_word⟩
  have F28 := fun_mk (st := s_need_both) l28 c28 k28
  have b28 := F28.binds (ps := ["company", "word"]) fun _ _ _ _ _ _ us hl => match us, hl with | [_, _], _ => rfl
  have c_need_both : Cal l.prog w K mg base "need_both" ["company", "word"] 4 (SpP fr_need_both) := ⟨_, _, PySem.W.mg_of X G a28, k28, b28, ok_need_both F28 c_need_word c_need_company⟩
  have F29 := fun_mk (st := s_cut_down) l29 c29 k29
  have b29 := F29.binds (ps := ["company", "word"]) fun _ _ _ _ _ _ us hl => match us, hl with | [_, _], _ => rfl
  have c_cut_down : Cal l.prog w K mg base "cut_down" ["company", "word"] 9 (SpP fr_cut_down) := ⟨_, _, PySem.W.mg_of X G a29, k29, b29, ok_cut_down F29 c_first_word c_length_of c_outer c_kind_of c_need_both⟩
  have F30 := fun_mk (st := s_law_taken) l30 c30 k30
  have b30 := F30.binds (ps := ["_law_row", "_law_many"]) fun _ _ _ _ _ _ us hl => match us, hl with | [_, _], _ => rfl
  have c_law_taken : Cal l.prog w K mg base "_law_taken" ["_law_row", "_law_many"] 1 (SpR (fr_law_taken K)) := ⟨_, _, PySem.W.mg_of X G a30, k30, b30, ok_law_taken F30 B⟩
  have F31 := fun_mk (st := s_law_word) l31 c31 k31
  have b31 := F31.binds (ps := ["_law_row", "_law_company_here", "_law_most"]) fun _ _ _ _ _ _ us hl => match us, hl with | [_, _, _], _ => rfl
  have c_law_word : Cal l.prog w K mg base "_law_word" ["_law_row", "_law_company_here", "_law_most"] 2 (SpR (fr_law_word K)) := ⟨_, _, PySem.W.mg_of X G a31, k31, b31, ok_law_word F31 B c_law_taken⟩
  have F32 := fun_mk (st := s_law_alike) l32 c32 k32
  have b32 := F32.binds (ps := ["_law_found", "_law_due"]) fun _ _ _ _ _ _ us hl => match us, hl with | [_, _], _ => rfl
  have t0 : Cal l.prog w K mg base "_law_alike" ["_law_found", "_law_due"] 1 (SpP (frA 0)) := ⟨_, _, PySem.W.mg_of X G a32, k32, b32, base_law_alike F32⟩
  have t1 : Cal l.prog w K mg base "_law_alike" ["_law_found", "_law_due"] 2 (SpP (frA 1)) := ⟨_, _, PySem.W.mg_of X G a32, k32, b32, ok_law_alike F32 B t0⟩
  have t2 : Cal l.prog w K mg base "_law_alike" ["_law_found", "_law_due"] 3 (SpP (frA 2)) := ⟨_, _, PySem.W.mg_of X G a32, k32, b32, ok_law_alike F32 B t1⟩
  have t3 : Cal l.prog w K mg base "_law_alike" ["_law_found", "_law_due"] 4 (SpP (frA 3)) := ⟨_, _, PySem.W.mg_of X G a32, k32, b32, ok_law_alike F32 B t2⟩
  have t4 : Cal l.prog w K mg base "_law_alike" ["_law_found", "_law_due"] 5 (SpP (frA 4)) := ⟨_, _, PySem.W.mg_of X G a32, k32, b32, ok_law_alike F32 B t3⟩
  have t5 : Cal l.prog w K mg base "_law_alike" ["_law_found", "_law_due"] 6 (SpP (frA 5)) := ⟨_, _, PySem.W.mg_of X G a32, k32, b32, ok_law_alike F32 B t4⟩
  have c_law_alike : Cal l.prog w K mg base "_law_alike" ["_law_found", "_law_due"] 6 (SpP (fr_law_alike 4)) := t5
  have F33 := fun_mk (st := s_is_length) l33 c33 k33
  have b33 := F33.binds (ps := ["company", "kind", "length"]) fun _ _ _ _ _ _ us hl => match us, hl with | [_, _, _], _ => rfl
  have c_is_length : Cal l.prog w K mg base "is_length" ["company", "kind", "length"] 7 (SpP fr_is_length) := ⟨_, _, PySem.W.mg_of X G a33, k33, b33, ok_is_length F33 Ct c_has_length c_need_number c_need_kind c_need_company⟩
  have F34 := fun_mk (st := s_all_kinds) l34 c34 k34
  have b34 := F34.binds (ps := ["company"]) fun _ _ _ _ _ _ us hl => match us, hl with | [_], _ => rfl
  have c_all_kinds : Cal l.prog w K mg base "all_kinds" ["company"] 2 (SpP fr_all_kinds) := ⟨_, _, PySem.W.mg_of X G a34, k34, b34, ok_all_kinds F34 B c_letters_of⟩
  have F35 := fun_mk (st := s_count_by_least) l35 c35 k35
  have b35 := F35.binds (ps := ["company"]) fun _ _ _ _ _ _ us hl => match us, hl with | [_], _ => rfl
  have c_count_by_least : Cal l.prog w K mg base "count_by_least" ["company"] 6 (SpP fr_count_by_least) := ⟨_, _, PySem.W.mg_of X G a35, k35, b35, ok_count_by_least F35 B c_all_kinds c_length_of c_need_company⟩
  have F36 := fun_mk (st := s_longest_least) l36 c36 k36
  have b36 := F36.binds (ps := ["company"]) fun _ _ _ _ _ _ us hl => match us, hl with | [_], _ => rfl
  have c_longest_least : Cal l.prog w K mg base "longest_least" ["company"] 6 (SpP fr_longest_least) := ⟨_, _, PySem.W.mg_of X G a36, k36, b36, ok_longest_least F36 B c_all_kinds c_length_of c_need_company⟩
  have F37 := fun_mk (st := s_least_length) l37 c37 k37
  have b37 := F37.binds (ps := ["company", "kind"]) fun _ _ _ _ _ _ us hl => match us, hl with | [_, _], _ => rfl
  have c_least_length : Cal l.prog w K mg base "least_length" ["company", "kind"] 6 (SpP fr_least_length) := ⟨_, _, PySem.W.mg_of X G a37, k37, b37, ok_least_length F37 c_length_of c_need_kind c_need_company⟩
  have F38 := fun_mk (st := s_law_sets) l38 c38 k38
  have b38 := F38.binds (ps := ["_law_many"]) fun _ _ _ _ _ _ us hl => match us, hl with | [_], _ => rfl
  have c_law_sets : Cal l.prog w K mg base "_law_sets" ["_law_many"] 1 (SpP fr_law_sets) := ⟨_, _, PySem.W.mg_of X G a38, k38, b38, ok_law_sets F38 B⟩
  have F39 := fun_mk (st := s_law_kinds) l39 c39 k39
  have b39 := F39.binds (ps := ["_law_company_here"]) fun _ _ _ _ _ _ us hl => match us, hl with | [_], _ => rfl
  have c_law_kinds : Cal l.prog w K mg base "_law_kinds" ["_law_company_here"] 2 (SpP fr_law_kinds) := ⟨_, _, PySem.W.mg_of X G a39, k39, b39, ok_law_kinds F39 B c_law_sets⟩
  have F40 := fun_mk (st := s_law_drawn_kind) l40 c40 k40
  have b40 := F40.binds (ps := ["_law_row", "_law_company_here"]) fun _ _ _ _ _ _ us hl => match us, hl with | [_, _], _ => rfl
  have c_law_drawn_kind : Cal l.prog w K mg base "_law_drawn_kind" ["_law_row", "_law_company_here"] 2 (SpR (fr_law_drawn_kind K)) := ⟨_, _, PySem.W.mg_of X G a40, k40, b40, ok_law_drawn_kind F40 c_law_taken⟩
  have F41 := fun_mk (st := s_law_company) l41 c41 k41
  have b41 := F41.binds (ps := ["_law_row", "_law_most"]) fun _ _ _ _ _ _ us hl => match us, hl with | [_, _], _ => rfl
  have c_law_company : Cal l.prog w K mg base "_law_company" ["_law_row", "_law_most"] 2 (SpR (fr_law_company K)) := ⟨_, _, PySem.W.mg_of X G a41, k41, b41, ok_law_company F41 B c_law_taken⟩
  have F42 := fun_mk (st := s_law) l42 c42 k42
  exact ok_law F42 B c_law_kind c_cut_down c_law_word c_law_alike c_is_length c_first_word c_law_taken c_count_by_least c_longest_least c_least_length c_law_kinds c_law_drawn_kind c_law_company
theorem walk {l : PySem.W.OpenLaw} {q : Program} {loose : List Str} {XP : (Str → Option Value) → Heap → Prop} {YP : World → Heap → Prop} {d : DefRec} {K : Params → PySem.W.Frag} (hn : l.most = some 63) (hdf : d.params.defaults = [])
    (hY : ∀ (w : World) (h : Heap), YP w h → (K w.params).In h)
    (F : ∀ (w : World) (mg : Str → Option Value) (fa : Addr) (h : Heap), (K w.params).In h → h.Ns mainGlobals mg → mg d.name = some (.ref fa) →
      ∃ fd : FuncData, (∀ (s : Shared) (u : Value), BindsTo s fd ⟨[u], []⟩ [("_law_script", u)]) ∧ ∀ base : Heap, (K w.params).In base → base.Ns mainGlobals mg → FnOk l.prog w (K w.params) mg base CX0 10 fa fd ["_law_script"] (SpP (fr_law (K w.params)))) :
    PySem.W.WalkO q loose XP YP l.row.toRowW d [] (fun f vs => PySem.call f vs) :=
  L2.walk_of (n := 63) (k := 10) (x := "_law_script") (CX := fun _ => CX0) (sp := fun w => SpP (fr_law (K w.params))) hn (by decide) hdf ⟨rfl, by decide, by decide⟩ hY F (fun w H a ns _ _ hS =>
    ⟨H, [.lk (K w.params) a ns], db true, ⟨Same.refl H, (fun _ _ z => nomatch z), (fun _ z => absurd rfl z), (fun _ _ z => nomatch z)⟩, .cons ⟨rfl, hS⟩ .nil, ⟨a, ns, rfl, rfl⟩, fun _ _ _ _ _ z => Dv.bl_of z⟩) fun _ _ _ _ _ z => z
end DL

set_option Elab.async false
set_option linter.all false

open PySem PySem.W PyProof.Rows in
set_option maxRecDepth 100000 in
set_option maxHeartbeats 0 in
theorem PySem.Challenge.cw_chumwords_k11_whole_great_least_words_holds : PySem.Challenge.rw_chumwords_k11_whole_great_least_words.Holds := by
  w_on; o_law; k_head; (case hw => w_witness2)
  k_fill
  refine DL.walk (l := PySem.Challenge.rw_chumwords_k11_whole_great_least_words) rfl rfl (fun w h Y => PySem.W.kIn_of Y) ?F
  case F =>
    intro w mg fa h KX G hmg
    refine' DL.all_mk KX G hmg ?a0 ?l0 ?c0 ?k0 ?a1 ?l1 ?c1 ?k1 ?a2 ?l2 ?c2 ?k2 ?a3 ?l3 ?c3 ?k3 ?a4 ?l4 ?c4 ?k4 ?a5 ?l5 ?c5 ?k5 ?a6 ?l6 ?c6 ?k6 ?a7 ?l7 ?c7 ?k7 ?a8 ?l8 ?c8 ?k8 ?a9 ?l9 ?c9 ?k9 ?a10 ?l10 ?c10 ?k10 ?a11 ?l11 ?c11 ?k11 ?a12 ?l12 ?c12 ?k12 ?a13 ?l13 ?c13 ?k13 ?a14 ?l14 ?c14 ?k14 ?a15 ?l15 ?c15 ?k15 ?a16 ?l16 ?c16 ?k16 ?a17 ?l17 ?c17 ?k17 ?a18 ?l18 ?c18 ?k18 ?a19 ?l19 ?c19 ?k19 ?a20 ?l20 ?c20 ?k20 ?a21 ?l21 ?c21 ?k21 ?a22 ?l22 ?c22 ?k22 ?a23 ?l23 ?c23 ?k23 ?a24 ?l24 ?c24 ?k24 ?a25 ?l25 ?c25 ?k25 ?a26 ?l26 ?c26 ?k26 ?a27 ?l27 ?c27 ?k27 ?a28 ?l28 ?c28 ?k28 ?a29 ?l29 ?c29 ?k29 ?a30 ?l30 ?c30 ?k30 ?a31 ?l31 ?c31 ?k31 ?a32 ?l32 ?c32 ?k32 ?a33 ?l33 ?c33 ?k33 ?a34 ?l34 ?c34 ?k34 ?a35 ?l35 ?c35 ?k35 ?a36 ?l36 ?c36 ?k36 ?a37 ?l37 ?c37 ?k37 ?a38 ?l38 ?c38 ?k38 ?a39 ?l39 ?c39 ?k39 ?a40 ?l40 ?c40 ?k40 ?a41 ?l41 ?c41 ?k41 ?a42 ?l42 ?c42 ?k42 ?aA ?aL ?aW ?z0 ?z1 ?z2 ?z3 ?z4 ?z5 ?z6 ?z7 ?z8 ?z9 ?z10 ?z11 ?z12 ?z13 ?z14
    (case a0 => k_is)
    (case l0 => k_is)
    (case c0 => k_is)
    (case k0 => k_is)
    (case a1 => k_is)
    (case l1 => k_is)
    (case c1 => k_is)
    (case k1 => k_is)
    (case a2 => k_is)
    (case l2 => k_is)
    (case c2 => k_is)
    (case k2 => k_is)
    (case a3 => k_is)
    (case l3 => k_is)
    (case c3 => k_is)
    (case k3 => k_is)
    (case a4 => k_is)
    (case l4 => k_is)
    (case c4 => k_is)
    (case k4 => k_is)
    (case a5 => k_is)
    (case l5 => k_is)
    (case c5 => k_is)
    (case k5 => k_is)
    (case a6 => k_is)
    (case l6 => k_is)
    (case c6 => k_is)
    (case k6 => k_is)
    (case a7 => k_is)
    (case l7 => k_is)
    (case c7 => k_is)
    (case k7 => k_is)
    (case a8 => k_is)
    (case l8 => k_is)
    (case c8 => k_is)
    (case k8 => k_is)
    (case a9 => k_is)
    (case l9 => k_is)
    (case c9 => k_is)
    (case k9 => k_is)
    (case a10 => k_is)
    (case l10 => k_is)
    (case c10 => k_is)
    (case k10 => k_is)
    (case a11 => k_is)
    (case l11 => k_is)
    (case c11 => k_is)
    (case k11 => k_is)
    (case a12 => k_is)
    (case l12 => k_is)
    (case c12 => k_is)
    (case k12 => k_is)
    (case a13 => k_is)
    (case l13 => k_is)
    (case c13 => k_is)
    (case k13 => k_is)
    (case a14 => k_is)
    (case l14 => k_is)
    (case c14 => k_is)
    (case k14 => k_is)
    (case a15 => k_is)
    (case l15 => k_is)
    (case c15 => k_is)
    (case k15 => k_is)
    (case a16 => k_is)
    (case l16 => k_is)
    (case c16 => k_is)
    (case k16 => k_is)
    (case a17 => k_is)
    (case l17 => k_is)
    (case c17 => k_is)
    (case k17 => k_is)
    (case a18 => k_is)
    (case l18 => k_is)
    (case c18 => k_is)
    (case k18 => k_is)
    (case a19 => k_is)
    (case l19 => k_is)
    (case c19 => k_is)
    (case k19 => k_is)
    (case a20 => k_is)
    (case l20 => k_is)
    (case c20 => k_is)
    (case k20 => k_is)
    (case a21 => k_is)
    (case l21 => k_is)
    (case c21 => k_is)
    (case k21 => k_is)
    (case a22 => k_is)
    (case l22 => k_is)
    (case c22 => k_is)
    (case k22 => k_is)
    (case a23 => k_is)
    (case l23 => k_is)
    (case c23 => k_is)
    (case k23 => k_is)
    (case a24 => k_is)
    (case l24 => k_is)
    (case c24 => k_is)
    (case k24 => k_is)
    (case a25 => k_is)
    (case l25 => k_is)
    (case c25 => k_is)
    (case k25 => k_is)
    (case a26 => k_is)
    (case l26 => k_is)
    (case c26 => k_is)
    (case k26 => k_is)
    (case a27 => k_is)
    (case l27 => k_is)
    (case c27 => k_is)
    (case k27 => k_is)
    (case a28 => k_is)
    (case l28 => k_is)
    (case c28 => k_is)
    (case k28 => k_is)
    (case a29 => k_is)
    (case l29 => k_is)
    (case c29 => k_is)
    (case k29 => k_is)
    (case a30 => k_is)
    (case l30 => k_is)
    (case c30 => k_is)
    (case k30 => k_is)
    (case a31 => k_is)
    (case l31 => k_is)
    (case c31 => k_is)
    (case k31 => k_is)
    (case a32 => k_is)
    (case l32 => k_is)
    (case c32 => k_is)
    (case k32 => k_is)
    (case a33 => k_is)
    (case l33 => k_is)
    (case c33 => k_is)
    (case k33 => k_is)
    (case a34 => k_is)
    (case l34 => k_is)
    (case c34 => k_is)
    (case k34 => k_is)
    (case a35 => k_is)
    (case l35 => k_is)
    (case c35 => k_is)
    (case k35 => k_is)
    (case a36 => k_is)
    (case l36 => k_is)
    (case c36 => k_is)
    (case k36 => k_is)
    (case a37 => k_is)
    (case l37 => k_is)
    (case c37 => k_is)
    (case k37 => k_is)
    (case a38 => k_is)
    (case l38 => k_is)
    (case c38 => k_is)
    (case k38 => k_is)
    (case a39 => k_is)
    (case l39 => k_is)
    (case c39 => k_is)
    (case k39 => k_is)
    (case a40 => k_is)
    (case l40 => k_is)
    (case c40 => k_is)
    (case k40 => k_is)
    (case a41 => k_is)
    (case l41 => k_is)
    (case c41 => k_is)
    (case k41 => k_is)
    (case a42 => k_is)
    (case l42 => k_is)
    (case c42 => k_is)
    (case k42 => k_is)
    (case aA => k_is)
    (case aL => k_is)
    (case aW => k_is)
    (case z0 => k_is)
    (case z1 => k_is)
    (case z2 => k_is)
    (case z3 => k_is)
    (case z4 => k_is)
    (case z5 => k_is)
    (case z6 => k_is)
    (case z7 => k_is)
    (case z8 => k_is)
    (case z9 => k_is)
    (case z10 => k_is)
    (case z11 => k_is)
    (case z12 => k_is)
    (case z13 => k_is)
    (case z14 => k_is)
